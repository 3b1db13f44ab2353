import PyProof.Rows.All
import Wide.All
import OpenK.AllK
import Wide.FinOn
import HandS.ForMost
import HandS.IsInst
import HandS.Rev
import HandS.Style
import HandS.Conv
import HandS.TupAny
import HandS.Evl
import HandS.Walk
import HandS.Deep
import HandS.Zip
import PyProof.ListStr
import KE.SortData
import KE.SortKeyHeap
import PyProof.ReprRoads
import KE.GoesEnum
import HandS.RaiseMore
import PyProof.ReprLen
import PyProof.Rows.RegStrFacts
import HandS.TryOnly
import PyProof.Rows.CallKwBuiltin
import HandS.TupMul
import HandS.DictTup
import HandS.TupLen
import HandS.Strs
import HandS.Replace
import HandS.SetFor
import PyProof.EnumMake
import HandS.Small
import HandS.Exc
import HandS.ExcIs
import HandS.ExcOwn
import HandS.Sort
import HandS.WordsExc
import PyProof.StrLawsRepr
import HandS.HotCalls
import HandS.SetKeys
import PyProof.SetRoads
import KE.KExcIs
import HandS.ExcField
import HandS.ExcInit
import HandS.ExcValue
import PyProof.WalkInts
import KE.KDictWalk
import KE.KDictDisplayH
import HandS.ExcInitHot
import HandS.ExcCtx
import PySem.Challenge.RW_curvekept_k02_refusals
set_option Elab.async false
set_option linter.all false
set_option maxRecDepth 100000
set_option maxHeartbeats 2000000
/-! Rules of the layer with the written part as a letter of its own, so that they serve within comprehensions. -/
namespace CB
open PySem PySem.Spec PyProof.Rows L2
section
variable {X : Cx} {K : PySem.W.Frag} {tg e e2 : Expr} {es : List Expr} {ta : TA} {te tl : TE}
abbrev rLenQ (K : PySem.W.Frag) : List V → Hp → VK → Prop := fun xs H Q => ∃ p ys, xs = [.ref p] ∧ (SqL K H p ys ∨ SqT K H p ys) ∧ Q (.int ys.length) H
abbrev rListQ (K : PySem.W.Frag) : List V → Hp → VK → Prop := fun xs H Q => ∃ p ys, xs = [.ref p] ∧ (SqL K H p ys ∨ SqT K H p ys) ∧ ∀ l, H l = none → Q (.ref l) (upd H l (.lst ys))
abbrev rTupleQ (K : PySem.W.Frag) : List V → Hp → VK → Prop := fun xs H Q => ∃ p ys, xs = [.ref p] ∧ ((SqL K H p ys ∧ ∀ l, H l = none → Q (.ref l) (upd H l (.tup ys))) ∨ (SqT K H p ys ∧ Q (.ref p) H))
theorem call_lenK (hK : X.K = K := by rfl) : CallR X (.builtin "len") (rLenQ K) := hK ▸ call_len_seq
theorem call_listK (hK : X.K = K := by rfl) : CallR X (.type "list") (rListQ K) := hK ▸ call_list_of
theorem call_tupleK (hK : X.K = K := by rfl) : CallR X (.type "tuple") (rTupleQ K) := hK ▸ call_tuple_of
theorem cr_sumK (hc : X.calm = true) (hK : X.K = K := by rfl) : CallR X (.builtin "sum") (rSum K) := hK ▸ cr_sum hc
theorem cr_allK (hc : X.calm = true) (hK : X.K = K := by rfl) : CallR X (.builtin "all") (rAll K) := hK ▸ cr_all hc
theorem cr_anyK (hc : X.calm = true) (hK : X.K = K := by rfl) : CallR X (.builtin "any") (rAny K) := hK ▸ cr_any hc
theorem call_isiK' (hK : X.K = K := by rfl) : CallR X (.builtin "isinstance") (rIsi K) := hK ▸ call_isi
theorem ix_listK (hK : X.K = K := by rfl) : IxR X (rIxL K) := hK ▸ ix_list
theorem ix_tupK (hK : X.K = K := by rfl) : IxR X (rIxT K) := hK ▸ ix_tup
theorem sl_listK (hK : X.K = K := by rfl) : SlR X (rSlL K) := hK ▸ sl_list
theorem sl_tupK (hK : X.K = K := by rfl) : SlR X (rSlA K) := hK ▸ sl_tupA
theorem op_inK (hK : X.K = K := by rfl) : OpR X (compareOp .In) (rIn K false) := hK ▸ op_in_seq
theorem op_notInK (hK : X.K = K := by rfl) : OpR X (compareOp .NotIn) (rIn K true) := hK ▸ op_notIn_seq
theorem op_eqDK (hu : X.A.units + 64 < cLine) (hK : X.K = K := by rfl) : OpR X (compareOp .Eq) (rEqD K) := hK ▸ op_eqD hu
theorem op_neDK (hu : X.A.units + 64 < cLine) (hK : X.K = K := by rfl) : OpR X (compareOp .NotEq) (rNeD K) := hK ▸ op_neD hu
theorem op_catK (hK : X.K = K := by rfl) : OpR X (binaryOp .Add) (rCatA K) := hK ▸ op_catA
theorem pi_listK (hl : PE X e tl) (hK : X.K = K := by rfl) : PI X tg e (iList K tl) := hK ▸ pi_list hl
theorem pi_tupK (hl : PE X e tl) (hK : X.K = K := by rfl) : PI X tg e (iTup K tl) := hK ▸ pi_tup hl
theorem pi_enumK {p pos tpos : Pos} {elts : List Expr} {kk : Nat} (hg : Gl X "enumerate") (hm : X.mg "enumerate" = none) (ha : PA X [e] ta) (hs : starEach [e] X.env = [(false, eval e X.env)] := by rfl) (hK : X.K = K := by rfl) :
    PI X (.Tuple elts kk tpos) (.Call (.Name "enumerate" p) [e] [] pos) (iEnum K ta) := hK ▸ pi_enum hg hm ha hs
theorem pi_zipK {p pos tpos : Pos} {elts : List Expr} {kk : Nat} (hg : Gl X "zip") (hm : X.mg "zip" = none) (ha : PA X [e, e2] ta)
    (hs : starEach [e, e2] X.env = (false, eval e X.env) :: starEach [e2] X.env := by rfl) (hpl : (backTo pos (starEach [e2] X.env)).any (·.1) = false := by rfl) (hK : X.K = K := by rfl) :
    PI X (.Tuple elts kk tpos) (.Call (.Name "zip" p) [e, e2] [] pos) (iZip K ta) := hK ▸ pi_zip hg hm ha hs hpl
theorem pg_tupK {es : List Expr} {k n : Nat} {t : TGs} {pos : Pos} (hc : X.calm = true) (h : PGs X es t)
    (hn : (assignEach es X.env).length = n := by rfl) (hst : (assignEach es X.env).findIdx? (·.1) = none := by rfl) (hK : X.K = K := by rfl) : PG X (.Tuple es k pos) (gTup K n t) := hK ▸ pg_tup hc h hn hst
theorem pe_revK {k : Nat} {p1 p2 p3 pos : Pos} (he : PE X e te) (hK : X.K = K := by rfl) : PE X (.Subscript e (.Slice none none (some (.UnaryOp .USub (.Constant (.int 1) k p1) p2)) p3) pos) (tRevL K te) := hK ▸ pe_revL he
theorem pe_bmK {o : Expr} {to : TE} {T id : String} {name : Str} {r : V → List V → Hp → VK → Prop} {apos cpos : Pos} (pa : PlainAttrs T) (slot : Slot T name id) (hty : typeOf (.builtin id) = pure (.type "method_descriptor")) (hm : MtR X id r) (ho : PE X o to) (ha : PA X (e :: es) ta)
    (hbase : attributeBase o name X.env (eval o X.env) = eval o X.env := by rfl)
    (hfew : ((backTo cpos (starEach (e :: es) X.env)).all (fun x => !x.1) && (backToKw cpos (keywordEach [] X.env)).all (fun x => x.1.isSome)
      && decide ((e :: es).length + ([] : List Keyword).length + (if ([] : List Keyword).isEmpty then 0 else 1) < 30)) = true := by rfl)
    (hline : (apos.endLine == cpos.line) = true := by rfl) (hs : starEach (e :: es) X.env = (false, eval e X.env) :: starEach es X.env := by rfl) (hplain : (backTo cpos (starEach es X.env)).any (·.1) = false := by rfl) (hK : X.K = K := by rfl) :
    PE X (.Call (.Attribute o name apos) (e :: es) [] cpos) (tBM K T r to ta) := hK ▸ pe_bm pa slot hty hm ho ha hbase hfew hline hs hplain
end
end CB

set_option Elab.async false
set_option linter.all false
set_option maxRecDepth 100000
set_option maxHeartbeats 2000000
namespace CB
open PySem PySem.Spec PyProof.Rows L2

/-! ### the built-ins -/
theorem bt_abs : bootBuiltins "abs" = some (.builtin "abs") := by decide +kernel
theorem bt_all : bootBuiltins "all" = some (.builtin "all") := by decide +kernel
theorem bt_any : bootBuiltins "any" = some (.builtin "any") := by decide +kernel
theorem bt_isinstance : bootBuiltins "isinstance" = some (.builtin "isinstance") := by decide +kernel
theorem bt_len : bootBuiltins "len" = some (.builtin "len") := by decide +kernel
theorem bt_max : bootBuiltins "max" = some (.builtin "max") := by decide +kernel
theorem bt_min : bootBuiltins "min" = some (.builtin "min") := by decide +kernel
theorem bt_repr : bootBuiltins "repr" = some (.builtin "repr") := by decide +kernel
theorem bt_sorted : bootBuiltins "sorted" = some (.builtin "sorted") := by decide +kernel
theorem bt_sum : bootBuiltins "sum" = some (.builtin "sum") := by decide +kernel
theorem bt_ord : bootBuiltins "ord" = some (.builtin "ord") := by decide +kernel
theorem bt_chr : bootBuiltins "chr" = some (.builtin "chr") := by decide +kernel
theorem bt_bool : bootBuiltins "bool" = some (.type "bool") := by decide +kernel
theorem bt_dict : bootBuiltins "dict" = some (.type "dict") := by decide +kernel
theorem bt_int : bootBuiltins "int" = some (.type "int") := by decide +kernel
theorem bt_list : bootBuiltins "list" = some (.type "list") := by decide +kernel
theorem bt_set : bootBuiltins "set" = some (.type "set") := by decide +kernel
theorem bt_str : bootBuiltins "str" = some (.type "str") := by decide +kernel
theorem bt_tuple : bootBuiltins "tuple" = some (.type "tuple") := by decide +kernel
/-! ### list(reversed(l)) -/
section
variable {prog : Program} {w : World} {A : Around} {E : Value → Shared → Prop} {s : Shared}
theorem extend_rev {it l S : Addr} {items : Array Value} {c0 : Nat} {R : Result → Shared → Prop} (hh : A.handled = none) (hit : s.heap.IsRevIter it l ((items.size : Int) - 1)) (hl : s.heap.IsList l items) (hne : l ≠ it) (hn : items.size ≤ sizeLine)
    (hS : s.heap.get? S = some { cls := .type "list", data := .seq #[] c0 }) (hSi : S ≠ it) (hSl : S ≠ l)
    (hR : ∀ s' acc c', (∀ b o, b ≠ S → b ≠ it → s.heap.get? b = some o → s'.heap.get? b = some o) → (∃ h' tk, s' = { s with heap := h', toks := tk }) →
      s'.heap.get? S = some { cls := .type "list", dict := none, data := .seq acc c', slots := #[] } → ItemsOf (fun i v => items[items.size - 1 - i]? = some v) acc items.size → R (.ok (.ret .none)) s') :
    wpAny (model prog w) A.in1 (Builtin.List.listExtendWith (.ref S) (.ref it) .none)
      (fun fin s' => match fin with | .done f => R (.ok f) s' | .again c' => c'.quiet = true ∧ codeAny (model prog w) A c' R s') (fun e s' => R (.error e) s') s := by
  have W := (Walks.listRev (prog := prog) (w := w) (A := A.in1) hh it l hne items).toS
  have hSf : S ∉ [it, l] := by simp only [List.mem_cons, List.not_mem_nil, or_false, not_or]; exact ⟨hSi, hSl⟩
  have hT := hit.typeIs
  have h1 : Builtin.List.listSameRef (.ref S) (.ref it) = false := by simp [Builtin.List.listSameRef, hSi]
  unfold Builtin.List.listExtendWith
  refine wpAny_bind (wpAny_typeOf hT ?_)
  rw [if_neg (by rw [h1]; decide)]
  refine wpAny_bind (wpAny_pyIter_revIter hit ?_)
  refine wpAny_bind (wpAny_holding ?_)
  unfold Builtin.List.listLengthHint
  refine wpAny_bind (wpAny_specialOf hT RT.nolen_lri ?_)
  show wpAny _ A.in1 (specialOf (Value.ref it) (Str.ofString "__length_hint__") >>= _) _ _ _
  refine wpAny_bind (wpAny_specialOf hT RT.hint_lri ?_)
  generalize hid : ("list_reverseiterator.__length_hint__" : String) = id0
  wp_delta
  rw [show splitId id0 = some ("list_reverseiterator", "__length_hint__") from by subst hid; decide +kernel]
  subst hid
  refine wpAny_bind (wpAny_isInstance (b := true) hT (by rw [isSubtype_type]; kernel_rfl) ?_)
  refine wpAny_pure ?_
  rw [if_neg (by decide)]
  have e0 : ((items.size : Nat) : Int) - 1 - ((0 : Nat) : Int) = (items.size : Int) - 1 := by omega
  refine wpAny_pure ⟨plainId_quiet F.plain_extend_loop _, codeAny_extend_loopS W hn _ hSf _ items.size 0 _ _ _ rfl (Nat.zero_le _) ⟨Nat.zero_le _, by rw [e0]; exact hit, hl⟩ hS (ItemsOf.nil _) fun s' acc' c' hm hS' hacc => ?_⟩
  refine hR s' acc' c' (fun b o hb hb2 e => hm.heap b o (fun hmem => ?_) e) ⟨_, _, Moved.eq_with hm⟩ hS' hacc
  rcases List.mem_cons.mp hmem with e' | hmem
  · exact hb e'
  · exact hb2 (List.mem_singleton.mp hmem)
theorem call_list_rev {it l : Addr} {items : Array Value} {Q : Value → Shared → Prop} (hh : A.handled = none) (hit : s.heap.IsRevIter it l ((items.size : Int) - 1)) (hl : s.heap.IsList l items) (hne : l ≠ it) (hn : items.size ≤ sizeLine)
    (hQ : ∀ h' tk acc c', (∀ b o, b ≠ it → s.heap.get? b = some o → h'.get? b = some o) → h'.get? s.heap.objs.size = some { cls := .type "list", dict := none, data := .seq acc c', slots := #[] } →
      ItemsOf (fun i v => items[items.size - 1 - i]? = some v) acc items.size → Q (.ref s.heap.objs.size) { s with heap := h', toks := tk }) :
    wpAny (model prog w) A (call (.type "list") [.ref it]) Q E s := by
  obtain ⟨oi, hoi, _⟩ := id hit
  obtain ⟨ol, hol, _⟩ := id hl
  have hSi : s.heap.objs.size ≠ it := Nat.ne_of_gt (Heap.lt_size hoi)
  have hSl : s.heap.objs.size ≠ l := Nat.ne_of_gt (Heap.lt_size hol)
  refine callType_codes (Q₁ := fun obj s₁ => obj = .ref s.heap.objs.size ∧ s₁ = { s with heap := s.heap.push { cls := .type "list", data := .seq #[] } }) F.called_list (F.typeCall_list_1 _) F.entry_list_init
    (code_list_new _ ⟨rfl, rfl⟩) fun obj s₁ h₁ => ?_
  obtain ⟨rfl, rfl⟩ := h₁
  have hS : (s.heap.push { cls := .type "list", data := .seq #[] }).get? s.heap.objs.size = some { cls := .type "list", data := .seq #[] } := Heap.get?_push_size _ rfl
  refine ⟨⟨_, hS, rfl⟩, F.args_list_init_2 _ _, ?_⟩
  show wpAny _ A.in1.in1 (do let old ← Builtin.List.listItems (.ref s.heap.objs.size); Builtin.List.listUpdate (.ref s.heap.objs.size) (fun _ => #[]); letGo old.toList.reverse; Builtin.List.listExtendWith (.ref s.heap.objs.size) (.ref it) .none) _ _ _
  refine wpAny_bind ?_
  unfold Builtin.List.listItems
  refine wpAny_bind (wpAny_seqItems hS rfl (wpAny_pure ?_))
  show wpAny _ _ (updateSeq s.heap.objs.size (fun _ => #[]) >>= fun _ => letGo (#[] : Array Value).toList.reverse >>= fun _ => Builtin.List.listExtendWith (.ref s.heap.objs.size) (.ref it) .none) _ _ _
  refine wpAny_bind (wpAny_updateSeq hS rfl ?_)
  have hS2 := Heap.get?_update_self (Obj.mapSeq (fun _ => (#[] : Array Value))) hS rfl
  have oth : ∀ b o, s.heap.get? b = some o → ((s.heap.push { cls := .type "list", data := .seq #[] }).update s.heap.objs.size (Obj.mapSeq (fun _ => (#[] : Array Value)))).get? b = some o :=
    fun b o e => (Heap.get?_update_other _ _ (Nat.ne_of_gt (Heap.lt_size e))).trans (Heap.get?_push_of_some _ e)
  refine wpAny_bind (wpAny_letGo ?_)
  refine extend_rev (A := A.in1) hh (hit.at fun o e => oth _ o e) (Heap.IsList.at hl fun o e => oth _ o e) hne hn hS2 hSi hSl fun s' acc c' hk he hS' hi => ?_
  obtain ⟨h', tk, rfl⟩ := he
  exact ⟨rfl, hQ h' tk acc c' (fun b o hb e => hk b o (Nat.ne_of_lt (Heap.lt_size e)) hb (oth b o e)) hS' hi⟩
end
/-- list(reversed(x)), x a list: a new list -/
def tListRev (K : PySem.W.Frag) (te : TE) : TE := fun σ H Q => te σ H fun v H1 => ∃ (a : Addr) (xs : List V), v = .ref a ∧ SqL K H1 a xs ∧ ∀ q, H1 q = none → Q (.ref q) (upd H1 q (.lst xs.reverse))
section
variable {X : Cx}
theorem pe_listRev0 {e : Expr} {te : TE} {p p2 pos pos2 : Pos} (hc : X.calm = true) (hg : Gl X "list") (hm : X.mg "list" = none) (hg2 : Gl X "reversed") (hm2 : X.mg "reversed" = none) (he : PE X e te)
    (hs : starEach [e] X.env = (false, eval e X.env) :: starEach [] X.env := by rfl)
    (hs2 : starEach [.Call (.Name "reversed" p2) [e] [] pos2] X.env = (false, eval (.Call (.Name "reversed" p2) [e] [] pos2) X.env) :: starEach [] X.env := by rfl) :
    PE X (.Call (.Name "list" p) [.Call (.Name "reversed" p2) [e] [] pos2] [] pos) (tListRev X.K te) := by
  refine ⟨fun pins s σ H Q I h => ?_⟩
  refine Call_ (ld_blt I hg hm boot_list (PyProof.Rows.callWith_type1 (args_cons (Call_ (ld_blt I hg2 hm2 PyProof.Rows.boot_reversed (PyProof.Rows.callWith_type1 (args_cons (thn (he.run pins s σ H _ I h) fun u s1 ⟨v, H1, I1, r1, q1⟩ => args_nil ?_) hs) hs rfl))) hs2) hs2 rfl))
  obtain ⟨a, xs, ev, hq, q⟩ := q1
  subst ev
  obtain rfl : u = Value.ref a := r1
  obtain ⟨its, rv, p', hz⟩ := I1.list hq
  refine call_reversed_list p'.isList (args_nil ?_)
  have k0 : ∀ b o, s1.heap.get? b = some o → (s1.heap.push (revObj a ((its.toArray.size : Int) - 1))).get? b = some o := fun b o e => Heap.get?_push_of_some _ e
  have I2 : Inv X pins σ H1 { s1 with heap := s1.heap.push (revObj a ((its.toArray.size : Int) - 1)) } := I1.kept (t' := s1.toks) k0
  obtain ⟨f0, f1, f2, f3, f4, f5⟩ := I1.fpOk (H' := H1) (b := s1.heap.objs.size) (Nat.le_refl _) (I1.hok.fresh (Nat.le_refl _))
  have hl := p'.isList
  obtain ⟨ol, hol, _⟩ := id hl
  have hne : a ≠ s1.heap.objs.size := Nat.ne_of_lt (Heap.lt_size hol)
  have hn : its.toArray.size ≤ sizeLine := by rw [List.size_toArray, ← rv.length]; exact hz
  refine call_list_rev (s := { s1 with heap := s1.heap.push (revObj a ((its.toArray.size : Int) - 1)) }) (I1.ok.hd hc) ⟨_, Heap.get?_push_size _ rfl, rfl, rfl⟩ (hl.push _) hne hn fun h' tk acc c' hk hS' hi => ?_
  refine ⟨.ref _, upd H1 _ (.lst xs.reverse), I1.laid (t' := tk) (fun b u e => hk b u (Nat.ne_of_lt (Heap.lt_size e)) (k0 b u e)) (by rw [Heap.size_push]; omega) (show ObjOk X.prog X.w _ _ _ (.lst xs.reverse) from ⟨by rw [List.length_reverse]; exact hz, acc.toList, c', RT.vals_rev rv hi, ?_⟩), rfl, q _ (I2.hok.fresh (Nat.le_refl _))⟩
  rw [Array.toArray_toList]
  exact hS'
theorem pe_listRev {K : PySem.W.Frag} {e : Expr} {te : TE} {p p2 pos pos2 : Pos} (hc : X.calm = true) (hg : Gl X "list") (hm : X.mg "list" = none) (hg2 : Gl X "reversed") (hm2 : X.mg "reversed" = none) (he : PE X e te)
    (hs : starEach [e] X.env = (false, eval e X.env) :: starEach [] X.env := by rfl)
    (hs2 : starEach [.Call (.Name "reversed" p2) [e] [] pos2] X.env = (false, eval (.Call (.Name "reversed" p2) [e] [] pos2) X.env) :: starEach [] X.env := by rfl) (hK : X.K = K := by rfl) :
    PE X (.Call (.Name "list" p) [.Call (.Name "reversed" p2) [e] [] pos2] [] pos) (tListRev K te) := hK ▸ pe_listRev0 hc hg hm hg2 hm2 he hs hs2
/-! ### list(a text) -/
theorem call_listS (hc : X.calm = true) : CallR X (.type "list") (fun xs H Q => ∃ z : Str, xs = [.str z] ∧ z.length ≤ sizeLine ∧ ∀ l, H l = none → Q (.ref l) (upd H l (.lst (z.cps.toList.map fun c => V.str ⟨#[c]⟩)))) := by
  intro pins s σ H xs us Q I r h
  obtain ⟨z, rfl, hz, q⟩ := h
  obtain ⟨u, rfl, t, rfl⟩ := vals1 r
  refine PySem.call_list_str (I.ok.hd hc) z t (fun h' tk acc' c' hk hS hi => ?_) hz
  refine ⟨.ref s.heap.objs.size, upd H s.heap.objs.size _, I.laid hk (Nat.le_refl _) (show ObjOk X.prog X.w _ _ _ (.lst (z.cps.toList.map fun c => V.str ⟨#[c]⟩)) from ⟨?_, acc'.toList, c', ?_, ?_⟩), rfl, q _ (I.hok.fresh (Nat.le_refl _))⟩
  · rw [List.length_map, Array.length_toList]; exact hz
  · have el : acc'.toList.length = acc'.size := by simp
    refine vals_of_at (by rw [List.length_map, Array.length_toList, el, hi.1]) fun j x w h1 h2 => ?_
    have h3 := hi.2 j w (by rw [← Array.getElem?_toList]; exact h2)
    rw [List.getElem?_map] at h1
    obtain ⟨c, hc1, rfl⟩ := Option.map_eq_some_iff.mp h1
    obtain ⟨c2, u, e1, rfl⟩ := h3
    rw [Array.getElem?_toList] at hc1
    rw [hc1] at e1
    cases e1
    exact ⟨u, rfl⟩
  · rw [Array.toArray_toList]; exact hS
end
end CB

set_option Elab.async false
set_option linter.all false
set_option maxRecDepth 100000
set_option maxHeartbeats 2000000
/-! zip of two sequences, each a list or a tuple, in any mix -/
namespace CB
open PySem PySem.Spec PyProof.Rows L2
inductive SK | L | T
def SqK (k : SK) (K : PySem.W.Frag) (H : Hp) (a : Addr) (xs : List V) : Prop := match k with | .L => SqL K H a xs | .T => SqT K H a xs
def IterK (k : SK) (h : Heap) (it a : Addr) (i : Nat) : Prop := match k with | .L => h.IsListIter it a i | .T => h.IsTupleIter it a i
def HasK (k : SK) (h : Heap) (a : Addr) (items : Array Value) : Prop := match k with | .L => h.IsList a items | .T => h.IsTuple a items
def iterObj (k : SK) (a : Addr) : Obj := match k with | .L => { cls := .type "list_iterator", data := .fields #[.ref a, .int 0 0] } | .T => { cls := .type "tuple_iterator", data := .fields #[.ref a, .int 0 0] }
section
variable {k : SK} {h h' : Heap} {it a : Addr} {i : Nat} {items : Array Value}
theorem IterK.at (x : IterK k h it a i) (e : ∀ o, h.get? it = some o → h'.get? it = some o) : IterK k h' it a i := by
  cases k with
  | L => exact Heap.IsListIter.at x e
  | T => exact Heap.IsTupleIter.at x e
theorem IterK.obj (x : IterK k h it a i) : ∃ o, h.get? it = some o ∧ ∀ v, o.data ≠ .cell v := by
  cases k with
  | L =>
    obtain ⟨o, e, _, d⟩ := x
    exact ⟨o, e, fun v q => by rw [d] at q; cases q⟩
  | T =>
    obtain ⟨o, e, _, d⟩ := x
    exact ⟨o, e, fun v q => by rw [d] at q; cases q⟩
theorem IterK.start (e : h.get? it = some (iterObj k a)) : IterK k h it a 0 := by
  cases k with
  | L => exact ⟨_, e, rfl, rfl⟩
  | T => exact ⟨_, e, rfl, rfl⟩
theorem HasK.lt (x : HasK k h a items) : a < h.objs.size := by
  cases k with
  | L => obtain ⟨o, e, _⟩ := x; exact Heap.lt_size e
  | T => obtain ⟨o, e, _⟩ := x; exact Heap.lt_size e
theorem drawsK {prog : Program} {w : World} {A : Around} (hh : A.handled = none) (k : SK) (it a : Addr) (hne : a ≠ it) (items : Array Value) :
    Draws prog w A it [it, a] items.size (fun i v => items[i]? = some v) (fun i h => IterK k h it a i ∧ HasK k h a items) := by
  cases k with
  | L => exact Draws.list hh it a hne items
  | T => exact Draws.tuple hh it a hne items
theorem beginsK (k : SK) (a : Addr) (items : Array Value) : Begins (.ref a) (iterObj k a) fun h => HasK k h a items := by
  cases k with
  | L => exact begins_list a items
  | T => exact begins_tuple a items
theorem InvK {X : Cx} {pins : List (Addr × Obj)} {σ : L2.St} {H : Hp} {s : Shared} {xs : List V} (I : Inv X pins σ H s) (hq : SqK k X.K H a xs) : ∃ its : List Value, Vals xs its ∧ HasK k s.heap a its.toArray ∧ ∀ ys, SqK k X.K H a ys → ys = xs := by
  cases k with
  | L =>
    obtain ⟨its, rv, p, _⟩ := I.list hq
    exact ⟨its, rv, p.isList, fun ys hy => I.list_inj hy hq⟩
  | T =>
    obtain ⟨its, rv, p, _⟩ := I.tuple hq
    exact ⟨its, rv, p, fun ys hy => I.tuple_inj hy hq⟩
end
def ItzK (k1 k2 : SK) (K : PySem.W.Frag) (a b : Addr) : It :=
  ⟨fun i H => ∃ (xs ys : List V) (x y : V), SqK k1 K H a xs ∧ SqK k2 K H b ys ∧ xs[i]? = some x ∧ ys[i]? = some y,
    fun i H v H' => ∃ T x y, v = .ref T ∧ H T = none ∧ H' = upd H T (.tup [x, y]) ∧ (∀ xs, SqK k1 K H a xs → xs[i]? = some x) ∧ ∀ ys, SqK k2 K H b ys → ys[i]? = some y,
    fun i H => ∃ xs ys : List V, SqK k1 K H a xs ∧ SqK k2 K H b ys ∧ i ≤ xs.length ∧ i ≤ ys.length ∧ (i = xs.length ∨ i = ys.length)⟩
theorem turn_zipK {P : Program} {w : World} {K : PySem.W.Frag} {elts : List Expr} {kk : Nat} {tpos : Pos} {k1 k2 : SK} {a b z TI TO i1 i2 : Addr} (S : ZipSep2 z TI TO i1 i2 [i1, a] [i2, b]) (na : a ≠ i1) (nb : b ≠ i2) :
    Turn P w K (.Tuple elts kk tpos) (ItzK k1 k2 K a b) [z, TI, TO, i1, i2] z (fun i h => IsZip h z TI TO .none ∧ IsTupOf2 h TI (.ref i1) (.ref i2) ∧ (∃ x y, IsTupOf2 h TO x y) ∧ IterK k1 h i1 a i ∧ IterK k2 h i2 b i) where
  mem := by simp
  obj := fun i h st c hc => by
    obtain ⟨hz, hTI, ⟨x, y, hTO⟩, h1, h2⟩ := st
    simp only [List.mem_cons, List.not_mem_nil, or_false] at hc
    rcases hc with rfl | rfl | rfl | rfl | rfl
    · exact ⟨_, hz, fun v q => nomatch q⟩
    · exact ⟨_, hTI, fun v q => nomatch q⟩
    · exact ⟨_, hTO, fun v q => nomatch q⟩
    · exact h1.obj
    · exact h2.obj
  keep := fun i h h' st k => by
    obtain ⟨hz, hTI, ⟨x, y, hTO⟩, h1, h2⟩ := st
    exact ⟨k z (by simp) _ hz, k TI (by simp) _ hTI, ⟨x, y, k TO (by simp) _ hTO⟩, h1.at fun o q => k i1 (by simp) o q, h2.at fun o q => k i2 (by simp) o q⟩
  item := by
    intro X hP hw hK hc i pins s σ H E I hf st hg
    subst hP hw hK
    obtain ⟨hz, hTI, ⟨x0, y0, hTO⟩, h1, h2⟩ := st
    obtain ⟨xs, ys, x, y, hqx, hqy, hx, hy⟩ := hg
    obtain ⟨its, rv, p, inj1⟩ := InvK I hqx
    obtain ⟨its2, rv2, p2, inj2⟩ := InvK I hqy
    obtain ⟨u, hu, ru⟩ := rv.get hx
    obtain ⟨u2, hu2, ru2⟩ := rv2.get hy
    have hA : X.A.in1.handled = none := I.ok.hd hc
    have D1 := drawsK (prog := X.prog) (w := X.w) hA k1 i1 a na its.toArray
    have D2 := drawsK (prog := X.prog) (w := X.w) hA k2 i2 b nb its2.toArray
    have hzl : z < s.heap.objs.size := Heap.lt_size hz
    have lt1 : i < its.toArray.size := by
      have := (List.getElem?_eq_some_iff.mp hu).1
      simpa using this
    have lt2 : i < its2.toArray.size := by
      have := (List.getElem?_eq_some_iff.mp hu2).1
      simpa using this
    refine wpAny_pyNext_zipD2_item S D1 D2 hz hTI hTO ⟨h1, p⟩ ⟨h2, p2⟩ lt1 lt2 fun x1 x2 h' tk y1 y2 z' TO' st1 st2 hT hsz hk => ?_
    have e1 : x1 = u := by
      have q : its.toArray[i]? = some u := by simpa using hu
      rw [q] at y1
      exact (Option.some.inj y1).symm
    have e2 : x2 = u2 := by
      have q : its2.toArray[i]? = some u2 := by simpa using hu2
      rw [q] at y2
      exact (Option.some.inj y2).symm
    subst e1 e2
    refine ⟨_, rfl, wpAny_letOwnedTupleGo_zip (s := { s with heap := h', toks := tk }) z' fun h'' z'' sb => ?_⟩
    have hT2 : h''.get? s.heap.objs.size = some { cls := .type "tuple", data := .seq #[x1, x2] } := (sb.2 _ (Nat.ne_of_gt hzl)).trans hT
    have new : ObjOk X.prog X.w (upd H s.heap.objs.size (.tup [x, y])) h'' s.heap.objs.size (.tup [x, y]) :=
      ⟨by show 2 ≤ sizeLine; decide, [x1, x2], .cons ru (.cons ru2 .nil), ⟨_, hT2, rfl, _, rfl⟩⟩
    have I1 : Inv X pins σ (upd H s.heap.objs.size (.tup [x, y])) { s with heap := h'', toks := tk } :=
      I.turnedNew (t' := tk) (ch := [z, TI, TO, i1, i2]) (fun c o hb q => by
        simp only [List.mem_cons, List.not_mem_nil, or_false, not_or] at hb
        exact (sb.2 c hb.1).trans (hk c o hb.1 hb.2.2.1 hb.2.2.2.1 hb.2.2.2.2 q)) hf (Nat.le_refl _) new
    refine ⟨.ref s.heap.objs.size, _, I1, rfl, ⟨_, x, y, rfl, I.hok.fresh (Nat.le_refl _), rfl, fun l hl => by rw [inj1 l hl]; exact hx, fun l hl => by rw [inj2 l hl]; exact hy⟩, ⟨z'', ?_, ⟨x1, x2, ?_⟩, ?_, ?_⟩, fun c hcm => ?_⟩
    · exact (sb.2 _ S.TIz).trans (hk _ _ S.TIz S.TITO S.TIi1 S.TIi2 hTI)
    · exact (sb.2 _ S.TOz).trans TO'
    · exact st1.1.at fun o q => (sb.2 _ S.zi1.symm).trans q
    · exact st2.1.at fun o q => (sb.2 _ S.zi2.symm).trans q
    · have hlt : c < s.heap.objs.size := by
        simp only [List.mem_cons, List.not_mem_nil, or_false] at hcm
        rcases hcm with rfl | rfl | rfl | rfl | rfl
        · exact hzl
        · exact Heap.lt_size hTI
        · exact Heap.lt_size hTO
        · obtain ⟨_, e1, _⟩ := h1.obj; exact Heap.lt_size e1
        · obtain ⟨_, e2, _⟩ := h2.obj; exact Heap.lt_size e2
      rw [upd_ne (Nat.ne_of_lt hlt)]
      exact (hf c hcm).1
  done := by
    intro X hP hw hK hc i pins s σ H E I hf st hg
    subst hP hw hK
    obtain ⟨hz, hTI, ⟨x0, y0, hTO⟩, h1, h2⟩ := st
    obtain ⟨xs, ys, hqx, hqy, le1, le2, hend⟩ := hg
    obtain ⟨its, rv, p, inj1⟩ := InvK I hqx
    obtain ⟨its2, rv2, p2, inj2⟩ := InvK I hqy
    have l1 := rv.length
    have l2 := rv2.length
    have hA : X.A.in1.handled = none := I.ok.hd hc
    refine wpAny_pyNext_zipD2_end S (drawsK (prog := X.prog) (w := X.w) hA k1 i1 a na its.toArray) (drawsK (prog := X.prog) (w := X.w) hA k2 i2 b nb its2.toArray) hz hTI hTO ⟨h1, p⟩ ⟨h2, p2⟩ (by rw [List.size_toArray]; omega) (by rw [List.size_toArray]; omega) (by rw [List.size_toArray, List.size_toArray]; omega) fun h' tk hk => ?_
    refine ⟨rfl, I.turnedL (t' := tk) (ch := [z, TI, TO, i1, i2]) (fun c o hb q => ?_) hf⟩
    simp only [List.mem_cons, List.not_mem_nil, or_false, not_or] at hb
    exact hk c o hb.1 hb.2.2.1 hb.2.2.2.1 hb.2.2.2.2 q
  self := fun A i s Q E st h => wpAny_pyIter_zip st.1 h
def iZipK (k1 k2 : SK) (K : PySem.W.Frag) (ta : TA) : TI := fun σ H R => ta σ H fun vs H1 => ∃ a b xs ys, vs = [.ref a, .ref b] ∧ SqK k1 K H1 a xs ∧ SqK k2 K H1 b ys ∧ R (ItzK k1 k2 K a b) H1
theorem pi_zipM (k1 k2 : SK) {X : Cx} {K : PySem.W.Frag} {e e2 : Expr} {ta : TA} {p pos tpos : Pos} {elts : List Expr} {kk : Nat} (hg : Gl X "zip") (hm : X.mg "zip" = none) (ha : PA X [e, e2] ta)
    (hs : starEach [e, e2] X.env = (false, eval e X.env) :: starEach [e2] X.env := by rfl) (hpl : (backTo pos (starEach [e2] X.env)).any (·.1) = false := by rfl) (hK : X.K = K := by rfl) :
    PI X (.Tuple elts kk tpos) (.Call (.Name "zip" p) [e, e2] [] pos) (iZipK k1 k2 K ta) := by
  subst hK
  refine ⟨fun pins s σ H R I h => ?_⟩
  refine Call_ (ld_blt I hg hm PyProof.Rows.boot_zip (PyProof.Rows.callWith_type1 (thn (ha.run pos pins s σ H _ I h) fun us s1 hus => ?_) hs hpl))
  obtain ⟨vs, H1, I1, r1, a, b, xs, ys, rfl, hqx, hqy, q⟩ := hus
  obtain ⟨u1, u2, rfl, ra, rb⟩ := vals2 r1
  obtain rfl : u1 = Value.ref a := ra
  obtain rfl : u2 = Value.ref b := rb
  obtain ⟨its, rv, p1, _⟩ := InvK I1 hqx
  obtain ⟨its2, rv2, p2, _⟩ := InvK I1 hqy
  refine zip_begins2 (beginsK k1 a its.toArray) (beginsK k2 b its2.toArray) p1 p2 fun h' hz hTI hTO h1 h2 hsz hk => wpAny_pyIter_zip hz ?_
  have I2 : Inv X pins σ H1 { s1 with heap := h' } := I1.kept (t' := s1.toks) hk
  have la : a < s1.heap.objs.size := p1.lt
  have lb : b < s1.heap.objs.size := p2.lt
  have S : ZipSep2 (s1.heap.objs.size + 4) (s1.heap.objs.size + 2) (s1.heap.objs.size + 3) s1.heap.objs.size (s1.heap.objs.size + 1) (s1.heap.objs.size :: [a]) ((s1.heap.objs.size + 1) :: [b]) :=
    zip_sep2 (fun c hc => by rw [List.mem_singleton.mp hc]; exact la) (fun c hc => by rw [List.mem_singleton.mp hc]; exact lb)
  refine ⟨s1.heap.objs.size + 4, [s1.heap.objs.size + 4, s1.heap.objs.size + 2, s1.heap.objs.size + 3, s1.heap.objs.size, s1.heap.objs.size + 1], _, _, H1, rfl, I2, turn_zipK S (Nat.ne_of_lt la) (Nat.ne_of_lt (Nat.lt_succ_of_lt lb)), ⟨hz, hTI, ⟨_, _, hTO⟩, IterK.start h1, IterK.start h2⟩, fun c hc => ?_, q⟩
  have hle : s1.heap.objs.size ≤ c := by
    simp only [List.mem_cons, List.not_mem_nil, or_false] at hc
    rcases hc with rfl | rfl | rfl | rfl | rfl
    · exact Nat.le_add_right _ _
    · exact Nat.le_add_right _ _
    · exact Nat.le_add_right _ _
    · exact Nat.le_refl _
    · exact Nat.le_add_right _ _
  have := I1.fpOk (H' := H1) hle (I1.hok.fresh hle)
  exact this
theorem walk_zipM {k1 k2 : SK} {K : PySem.W.Frag} {a b : Addr} {xs ys : List V} {n : Nat} (hn : n = min xs.length ys.length) :
    Walk (ItzK k1 k2 K a b) n (fun H => SqK k1 K H a xs ∧ SqK k2 K H b ys) (YPair (fun i => xs[i]?) (fun i => ys[i]?)) := by
  subst hn
  refine ⟨fun i _ hi q => ?_, fun _ q => ⟨xs, ys, q.1, q.2, by omega, by omega, by omega⟩, fun i H v H' _ q y => ?_⟩
  · have h1 : i < xs.length := by omega
    have h2 : i < ys.length := by omega
    exact ⟨xs, ys, xs[i], ys[i], q.1, q.2, by simp [h1], by simp [h2]⟩
  · obtain ⟨T, x, z, h1, h2, h3, h4, h5⟩ := y
    exact ⟨T, x, z, h1, h2, h3, h4 xs q.1, h5 ys q.2⟩
/-! ### xs.extend(t), t a list or a tuple -/
section
variable {prog : Program} {w : World} {A : Around} {E : Value → Shared → Prop} {s : Shared}
theorem call_extend_seq {k : SK} {l b : Addr} {its its2 : Array Value} {n : Nat} {Q : Value → Shared → Prop} (hl : s.heap.get? l = some { cls := .type "list", data := .seq its n }) (hb : HasK k s.heap b its2) (hz : its.size + its2.size ≤ sizeLine)
    (h : Q .none { s with heap := s.heap.update l (Obj.mapSeq (· ++ its2)) }) : wpAny (model prog w) A (call (.builtin "list.extend") [.ref l, .ref b]) Q E s := by
  have hT : s.TypeIs (.ref l) "list" := ⟨_, hl, rfl⟩
  have hlong : Builtin.List.listTooLong (its.size + its2.size) = false := notLongL hz
  obtain ⟨ob, T, hob, hcb, hTT, nb, hdb⟩ : ∃ (ob : Obj) (T : String), s.heap.get? b = some ob ∧ ob.cls = .type T ∧ (T = "list" ∨ T = "tuple") ∧ ∃ nb, ob.data = .seq its2 nb := by
    cases k with
    | L => obtain ⟨o, e1, e2, n2, e3⟩ := hb; exact ⟨o, "list", e1, e2, .inl rfl, n2, e3⟩
    | T => obtain ⟨o, e1, e2, n2, e3⟩ := hb; exact ⟨o, "tuple", e1, e2, .inr rfl, n2, e3⟩
  refine wpAny_call_entry F.slot_list_extend hT F.entry_list_extend ?_ (F.args_list_extend_2 _ _)
  show wpAny _ _ (Builtin.List.listExtendWith (.ref l) (.ref b) .none) _ _ s
  unfold Builtin.List.listExtendWith
  refine wpAny_bind (wpAny_typeOf (T := T) ⟨ob, hob, hcb⟩ ?_)
  have hc : (Builtin.List.listSameRef (.ref l) (.ref b) || Value.type T == Value.type "list" || Value.type T == Value.type "tuple") = true := by
    rcases hTT with rfl | rfl
    · simp
    · simp
  rw [if_pos hc]
  refine wpAny_bind (wpAny_listItems hob hdb ?_)
  refine wpAny_bind (wpAny_listItems hl rfl ?_)
  rw [hlong, Bool.and_false]
  refine wpAny_bind ?_
  show wpAny _ _ (updateSeq l (· ++ its2)) _ _ _
  refine wpAny_updateSeq hl rfl (wpAny_pure ⟨_, rfl, h⟩) (by omega) (by rw [Array.size_append]; omega)
end
section
variable {X : Cx}
def rExtK (k : SK) (K : PySem.W.Frag) : V → List V → Hp → VK → Prop := fun x vs H Q => ∃ l b xs zs, x = .ref l ∧ vs = [.ref b] ∧ H l = some (.lst xs) ∧ SqK k K H b zs ∧ xs.length + zs.length ≤ sizeLine ∧ Q .non (upd H l (.lst (xs ++ zs)))
theorem mt_extK (k : SK) {K : PySem.W.Frag} (hK : X.K = K := by rfl) : MtR X "list.extend" (rExtK k K) := by
  subst hK
  intro pins s σ H x vs v us Q I rx rv h
  obtain ⟨l, b, xs, zs, rfl, rfl, hH, hB, hz, q⟩ := h
  cases rx
  obtain ⟨u, rfl, ru⟩ := rv.one
  cases ru
  obtain ⟨z, its, n, r, hl, e⟩ := I.lstM hH
  obtain ⟨its2, r2, h2, _⟩ := InvK I hB
  have l2 := r2.length
  refine call_extend_seq e h2 (by rw [List.size_toArray, List.size_toArray]; omega) ?_
  refine ⟨.non, _, I.lset (its' := its ++ its2) hH e (by simp) (r.append r2) ?_, rfl, q⟩
  rw [List.length_append]
  omega
end
end CB

set_option Elab.async false
set_option linter.all false
set_option maxRecDepth 100000
set_option maxHeartbeats 2000000
namespace CB
open PySem PySem.Spec PyProof.Rows L2

abbrev Ex := Evl.Ex
/-! ### what is frozen (F) within what stands (H) -/
structure Gr (S : Addr → Prop) (F H F' H' : Hp) : Prop where
  fz : Ex F F'
  sub : Ex F' H'
  kp : ∀ a o, ¬ S a → H a = some o → H' a = some o
  al : ∀ a, H a ≠ none → H' a ≠ none
  nf : ∀ a, F a = none → H a ≠ none → F' a = none
abbrev NoS : Addr → Prop := fun _ => False
abbrev DL (d l : Addr) : Addr → Prop := fun a => a = d ∨ a = l
section
variable {S : Addr → Prop} {F H F1 H1 F2 H2 : Hp} {p : Addr} {o x : HO}
theorem Gr.refl (h : Ex F H) : Gr S F H F H := ⟨fun _ _ e => e, h, fun _ _ _ e => e, fun _ e => e, fun _ e _ => e⟩
theorem Gr.trans (g : Gr S F H F1 H1) (k : Gr S F1 H1 F2 H2) : Gr S F H F2 H2 :=
  ⟨g.fz.trans k.fz, k.sub, fun a o n e => k.kp a o n (g.kp a o n e), fun a e => k.al a (g.al a e), fun a e n => k.nf a (g.nf a e n) (g.al a n)⟩
theorem Gr.mono {S' : Addr → Prop} (g : Gr S F H F1 H1) (h : ∀ a, S a → S' a) : Gr S' F H F1 H1 :=
  ⟨g.fz, g.sub, fun a o n e => g.kp a o (fun z => n (h a z)) e, g.al, g.nf⟩
theorem Gr.pure (g : Gr NoS F H F1 H1) : Gr S F H F1 H1 := g.mono fun _ h => h.elim
theorem Gr.ex (g : Gr NoS F H F1 H1) : Ex H H1 := fun a o e => g.kp a o (fun h => h) e
theorem sub_none (h : Ex F H) (e : H p = none) : F p = none := Evl.fresh_back h e
/-- a new object, frozen at once -/
theorem Gr.new (g : Gr S F H F1 H1) (hp : H1 p = none) : Gr S F H (upd F1 p o) (upd H1 p o) := by
  have hf : F1 p = none := sub_none g.sub hp
  refine ⟨g.fz.trans (Evl.Ex.new hf), fun a u e => ?_, fun a u n e => ?_, fun a e => ?_, fun a e n => ?_⟩
  · by_cases h : a = p
    · subst h; rw [upd_same] at e ⊢; exact e
    · rw [upd_ne h] at e ⊢; exact g.sub a u e
  · have := g.kp a u n e
    rw [upd_ne (ne_of_none this hp)]; exact this
  · have := g.al a e
    by_cases h : a = p
    · subst h; exact absurd hp this
    · rw [upd_ne h]; exact this
  · have h : a ≠ p := fun h => g.al a n (h ▸ hp)
    rw [upd_ne h]; exact g.nf a e n
/-- a new object that may still change -/
theorem Gr.newm (g : Gr S F H F1 H1) (hp : H1 p = none) : Gr S F H F1 (upd H1 p o) := by
  refine ⟨g.fz, fun a u e => ?_, fun a u n e => ?_, fun a e => ?_, g.nf⟩
  · have := g.sub a u e
    rw [upd_ne (ne_of_none this hp)]; exact this
  · have := g.kp a u n e
    rw [upd_ne (ne_of_none this hp)]; exact this
  · have := g.al a e
    by_cases h : a = p
    · subst h; exact absurd hp this
    · rw [upd_ne h]; exact this
/-- an object of ours (new since the start, not frozen) changes -/
theorem Gr.mut (g : Gr S F H F1 H1) (hp : H p = none) (hf : F1 p = none) : Gr S F H F1 (upd H1 p o) := by
  refine ⟨g.fz, fun a u e => ?_, fun a u n e => ?_, fun a e => ?_, g.nf⟩
  · rw [upd_ne (ne_of_none e hf)]; exact g.sub a u e
  · rw [upd_ne (ne_of_none e hp)]; exact g.kp a u n e
  · by_cases h : a = p
    · subst h; rw [upd_same]; exact fun z => by cases z
    · rw [upd_ne h]; exact g.al a e
/-- an object of ours is frozen -/
theorem Gr.freeze (g : Gr S F H F1 H1) (hp : H p = none) (hf : F1 p = none) (ho : H1 p = some o) : Gr S F H (upd F1 p o) H1 := by
  refine ⟨g.fz.trans (Evl.Ex.new hf), fun a u e => ?_, g.kp, g.al, fun a e n => ?_⟩
  · by_cases h : a = p
    · subst h; rw [upd_same] at e; cases e; exact ho
    · rw [upd_ne h] at e; exact g.sub a u e
  · have h : a ≠ p := fun h => n (h ▸ hp)
    rw [upd_ne h]; exact g.nf a e n
/-- what is not frozen and stands stays so -/
theorem Gr.keepm (g : Gr S F H F1 H1) (hs : ¬ S p) (hf : F p = none) (ho : H p = some o) : F1 p = none ∧ H1 p = some o :=
  ⟨g.nf p hf (by rw [ho]; exact fun z => by cases z), g.kp p o hs ho⟩
theorem Gr.none (g : Gr S F H F1 H1) (h : H1 p = none) : H p = none := by
  cases e : H p with
  | none => rfl
  | some o => exact absurd h (g.al p (by rw [e]; exact fun z => by cases z))
theorem Gr.exs (g : Gr S F H F1 H1) : Ex F H1 := g.fz.trans g.sub
end
end CB
namespace L2
open PySem PySem.Spec PyProof.Rows CB
section
variable {K : PySem.W.Frag} {F F' H : Hp} {a : Addr} {xs : List V}
theorem ex_L (e : Ex F F') (h : SqL K F a xs) : SqL K F' a xs := Evl.ex_l e h
theorem ex_T (e : Ex F F') (h : SqT K F a xs) : SqT K F' a xs := Evl.ex_t e h
mutual
theorem Dp.ex (e : Ex F F') : ∀ {v : V} {d : PyData}, Dp K F v d → Dp K F' v d
  | _, _, .non => .non
  | _, _, .bl b => .bl b
  | _, _, .int i => .int i
  | _, _, .str x => .str x
  | _, _, .lst h hs => .lst (ex_L e h) (DpAll.ex e hs)
  | _, _, .tup h hs => .tup (ex_T e h) (DpAll.ex e hs)
theorem DpAll.ex (e : Ex F F') : ∀ {vs : List V} {ds : List PyData}, DpAll K F vs ds → DpAll K F' vs ds
  | _, _, .nil => .nil
  | _, _, .cons h hs => .cons (Dp.ex e h) (DpAll.ex e hs)
end
theorem DpAll.length : ∀ {vs : List V} {ds : List PyData}, DpAll K F vs ds → vs.length = ds.length
  | _, _, .nil => rfl
  | _, _, .cons _ h => by rw [List.length_cons, List.length_cons, DpAll.length h]
theorem DpAll.get : ∀ {vs : List V} {ds : List PyData} {i : Nat} {v : V}, DpAll K F vs ds → vs[i]? = some v → ∃ d, ds[i]? = some d ∧ Dp K F v d
  | _, _, _, _, .nil, e => by simp at e
  | _, _, 0, _, .cons h _, e => by simp at e; subst e; exact ⟨_, rfl, h⟩
  | _, _, i + 1, _, .cons _ h, e => by
    obtain ⟨d, e1, e2⟩ := DpAll.get (i := i) h (by simpa using e)
    exact ⟨d, by simpa using e1, e2⟩
theorem DpAll.get' : ∀ {vs : List V} {ds : List PyData} {i : Nat} {d : PyData}, DpAll K F vs ds → ds[i]? = some d → ∃ v, vs[i]? = some v ∧ Dp K F v d
  | _, _, _, _, .nil, e => by simp at e
  | _, _, 0, _, .cons h _, e => by simp at e; subst e; exact ⟨_, rfl, h⟩
  | _, _, i + 1, _, .cons _ h, e => by
    obtain ⟨d, e1, e2⟩ := DpAll.get' (i := i) h (by simpa using e)
    exact ⟨d, by simpa using e1, e2⟩
theorem DpAll.append : ∀ {vs ws : List V} {ds es : List PyData}, DpAll K F vs ds → DpAll K F ws es → DpAll K F (vs ++ ws) (ds ++ es)
  | _, _, _, _, .nil, h => h
  | _, _, _, _, .cons h hs, k => .cons h (DpAll.append hs k)
theorem DpAll.snoc {vs : List V} {v : V} {ds : List PyData} {d : PyData} (h : DpAll K F vs ds) (k : Dp K F v d) : DpAll K F (vs ++ [v]) (ds ++ [d]) := h.append (.cons k .nil)
theorem DpAll.ints : ∀ ns : List Int, DpAll K F (ns.map V.int) (ns.map PyData.int)
  | [] => .nil
  | n :: r => .cons (.int n) (DpAll.ints r)
theorem DpAll.strs : ∀ ns : List Str, DpAll K F (ns.map V.str) (ns.map PyData.str)
  | [] => .nil
  | n :: r => .cons (.str n) (DpAll.strs r)
theorem dp_ints_of : ∀ {vs : List V} {ns : List Int}, DpAll K F vs (ns.map PyData.int) → vs = ns.map V.int
  | _, [], h => by cases h; rfl
  | _, n :: r, h => by
    cases h with
    | cons h1 h2 => cases h1; rw [dp_ints_of h2]; rfl
end
/-- tuples of ints, tuples of those -/
abbrev ti (ns : List Int) : PyData := .tuple (ns.map PyData.int)
abbrev li (ns : List Int) : PyData := .list (ns.map PyData.int)
abbrev tti (r : List (List Int)) : PyData := .tuple (r.map ti)
abbrev lti (r : List (List Int)) : PyData := .list (r.map ti)
section
variable {K : PySem.W.Frag} {F F' H : Hp} {v : V}
theorem Dp.tup_inv {ds : List PyData} (h : Dp K F v (.tuple ds)) : ∃ a xs, v = .ref a ∧ SqT K F a xs ∧ DpAll K F xs ds := by
  cases h with
  | tup h1 h2 => exact ⟨_, _, rfl, h1, h2⟩
theorem Dp.lst_inv {ds : List PyData} (h : Dp K F v (.list ds)) : ∃ a xs, v = .ref a ∧ SqL K F a xs ∧ DpAll K F xs ds := by
  cases h with
  | lst h1 h2 => exact ⟨_, _, rfl, h1, h2⟩
theorem Dp.ti_inv {ns : List Int} (h : Dp K F v (ti ns)) : ∃ a, v = .ref a ∧ SqT K F a (ns.map V.int) := by
  obtain ⟨a, xs, e, h1, h2⟩ := h.tup_inv
  rw [dp_ints_of h2] at h1
  exact ⟨a, e, h1⟩
theorem Dp.li_inv {ns : List Int} (h : Dp K F v (li ns)) : ∃ a, v = .ref a ∧ SqL K F a (ns.map V.int) := by
  obtain ⟨a, xs, e, h1, h2⟩ := h.lst_inv
  rw [dp_ints_of h2] at h1
  exact ⟨a, e, h1⟩
theorem Dp.of_ti {a : Addr} {ns : List Int} (h : SqT K F a (ns.map V.int)) : Dp K F (.ref a) (ti ns) := .tup h (DpAll.ints ns)
theorem Dp.of_li {a : Addr} {ns : List Int} (h : SqL K F a (ns.map V.int)) : Dp K F (.ref a) (li ns) := .lst h (DpAll.ints ns)
theorem Dp.int_inv {i : Int} (h : Dp K F v (.int i)) : v = .int i := by cases h; rfl
theorem Dp.str_inv {i : Str} (h : Dp K F v (.str i)) : v = .str i := by cases h; rfl
end

end L2
namespace CB
open PySem PySem.Spec PyProof.Rows L2
/-! ### data that may be compared -/
theorem canLay_strs : ∀ l : List Str, (∀ x ∈ l, PyData.strOk x = true) → PyData.canLayAll0 (l.map PyData.str) = true
  | [], _ => rfl
  | x :: r, h => by
    show (PyData.strOk x && PyData.canLayAll0 (r.map PyData.str)) = true
    rw [h x List.mem_cons_self, canLay_strs r fun y hy => h y (List.mem_cons_of_mem _ hy)]
    rfl
theorem canLay_ints : ∀ l : List Int, PyData.canLayAll0 (l.map PyData.int) = true
  | [] => rfl
  | x :: r => by
    show (true && PyData.canLayAll0 (r.map PyData.int)) = true
    rw [canLay_ints r]
    rfl
theorem depth_strs : ∀ l : List Str, PyData.depthAll (l.map PyData.str) = 0
  | [] => rfl
  | x :: r => by
    show max 0 (PyData.depthAll (r.map PyData.str)) = 0
    rw [depth_strs r]
    rfl
theorem shaped_strs (l : List Str) (h : ∀ x ∈ l, PyData.strOk x = true) : SeqAt.shaped (.list (l.map PyData.str)) = true := by
  unfold SeqAt.shaped
  rw [Bool.and_eq_true, decide_eq_true_eq]
  refine ⟨canLay_strs l h, ?_⟩
  show PyData.depthAll (l.map PyData.str) + 1 ≤ 64
  rw [depth_strs]
  decide
/-! ### the drawing of numbers -/
abbrev kSeed : Key := Sum.inr "seed"
abbrev kNumber : Key := Sum.inr "number"
abbrev kLeft : Key := Sum.inr "left"
def dealD (s n : Int) (l : Addr) : List (Key × V) := [(kSeed, .int s), (kNumber, .int n), (kLeft, .ref l)]
theorem deal_seed {s n : Int} {l : Addr} : valV (dealD s n l) kSeed = some (.int s) := by
  exact valV_pos rfl
structure Deal (H : Hp) (d l : Addr) (s n : Int) (ls : List Int) : Prop where
  hd : H d = some (.dK (dealD s n l))
  hl : H l = some (.lst (ls.map V.int))
  s0 : 0 ≤ s
  s1 : s < 2147483648
  n0 : 0 ≤ n
  pos : ∀ x ∈ ls, 0 < x
  len : ls.length ≤ 63
def IsDeal (H : Hp) (d l : Addr) : Prop := ∃ s n ls, Deal H d l s n ls
theorem Deal.ne {H : Hp} {d l : Addr} {s n : Int} {ls : List Int} (h : Deal H d l s n ls) : d ≠ l := ne_of h.hd h.hl (by intro z; cases z)
theorem IsDeal.keep {H H' : Hp} {d l : Addr} (h : IsDeal H d l) (k : ∀ o, H d = some o → H' d = some o) (k2 : ∀ o, H l = some o → H' l = some o) : IsDeal H' d l := by
  obtain ⟨s, n, ls, h⟩ := h
  exact ⟨s, n, ls, k _ h.hd, k2 _ h.hl, h.s0, h.s1, h.n0, h.pos, h.len⟩
theorem ne_sn : ¬ kSeed = kNumber := by decide +kernel
theorem ne_sl : ¬ kSeed = kLeft := by decide +kernel
theorem ne_nl : ¬ kNumber = kLeft := by decide +kernel
theorem deal_number {s n : Int} {l : Addr} : valV (dealD s n l) kNumber = some (.int n) := by
  unfold dealD
  rw [valV_neg ne_sn, valV_pos rfl]
theorem deal_left {s n : Int} {l : Addr} : valV (dealD s n l) kLeft = some (.ref l) := by
  unfold dealD
  rw [valV_neg ne_sl, valV_neg ne_nl, valV_pos rfl]
theorem put_number {s n m : Int} {l : Addr} : putK (dealD s n l) kNumber (.int m) = dealD s m l := by
  unfold putK dealD
  rw [if_pos (by rw [List.any_cons, List.any_cons, decide_eq_true rfl]; simp)]
  simp only [List.map_cons, List.map_nil, if_neg ne_sn, if_true, if_neg (fun h => ne_nl (Eq.symm h))]
theorem put_seed {s n m : Int} {l : Addr} : putK (dealD s n l) kSeed (.int m) = dealD m n l := by
  unfold putK dealD
  rw [if_pos (by rw [List.any_cons, decide_eq_true rfl]; simp)]
  simp only [List.map_cons, List.map_nil, if_true, if_neg (fun h => ne_sn (Eq.symm h)), if_neg (fun h => ne_sl (Eq.symm h))]
theorem merge_deal {s n : Int} {l : Addr} : mergeK [] (dealD s n l) = dealD s n l := by
  have a1 : ([] : List (Key × V)).any (fun kv => decide (kv.1 = kSeed)) = false := rfl
  have a2 : ([(kSeed, V.int s)] : List (Key × V)).any (fun kv => decide (kv.1 = kNumber)) = false := by simp only [List.any_cons, List.any_nil, decide_eq_false ne_sn, Bool.or_false]
  have a3 : ([(kSeed, V.int s), (kNumber, V.int n)] : List (Key × V)).any (fun kv => decide (kv.1 = kLeft)) = false := by simp only [List.any_cons, List.any_nil, decide_eq_false ne_sl, decide_eq_false ne_nl, Bool.or_false]
  have e1 : putK ([] : List (Key × V)) kSeed (.int s) = [(kSeed, .int s)] := by unfold putK; rw [a1]; rfl
  have e2 : putK [(kSeed, V.int s)] kNumber (.int n) = [(kSeed, .int s), (kNumber, .int n)] := by unfold putK; rw [a2]; rfl
  have e3 : putK [(kSeed, V.int s), (kNumber, V.int n)] kLeft (.ref l) = dealD s n l := by unfold putK; rw [a3]; rfl
  show putK (putK (putK [] kSeed (.int s)) kNumber (.int n)) kLeft (.ref l) = _
  rw [e1, e2, e3]
section
variable {H : Hp} {d l : Addr} {s n : Int} {ls : List Int}
theorem Deal.g_seed (h : Deal H d l s n ls) : DGet H d (.str "seed") (some (.int s)) := by
  have e := DGet.k (k := kSeed) h.hd
  rw [deal_seed] at e
  exact e
theorem Deal.g_number (h : Deal H d l s n ls) : DGet H d (.str "number") (some (.int n)) := by
  have e := DGet.k (k := kNumber) h.hd
  rw [deal_number] at e
  exact e
theorem Deal.g_left (h : Deal H d l s n ls) : DGet H d (.str "left") (some (.ref l)) := by
  have e := DGet.k (k := kLeft) h.hd
  rw [deal_left] at e
  exact e
theorem Deal.p_number (h : Deal H d l s n ls) (m : Int) : DPut H d (.str "number") (.int m) (upd H d (.dK (dealD s m l))) := by
  have e := DPut.k (k := kNumber) (v := .int m) h.hd (by show 3 < sizeLine; decide)
  rw [put_number] at e
  exact e
theorem Deal.p_seed (h : Deal H d l s n ls) (m : Int) : DPut H d (.str "seed") (.int m) (upd H d (.dK (dealD m n l))) := by
  have e := DPut.k (k := kSeed) (v := .int m) h.hd (by show 3 < sizeLine; decide)
  rw [put_seed] at e
  exact e
theorem Deal.pop (h : Deal H d l s n ls) (hn : ls ≠ []) : Deal (upd H l (.lst (ls.map V.int).dropLast)) d l s n ls.dropLast :=
  ⟨by rw [upd_ne h.ne]; exact h.hd, by rw [upd_same, List.map_dropLast], h.s0, h.s1, h.n0, fun x hx => h.pos x (List.dropLast_subset _ hx), by have := h.len; rw [List.length_dropLast]; omega⟩
theorem Deal.last (h : Deal H d l s n ls) (hn : ls ≠ []) : ∃ y, 0 < y ∧ (ls.map V.int)[(ls.map V.int).length - 1]? = some (.int y) := by
  refine ⟨ls.getLast hn, h.pos _ (List.getLast_mem hn), ?_⟩
  rw [List.length_map, List.getElem?_map, ← List.getLast?_eq_getElem?, List.getLast?_eq_some_getLast hn]
  rfl
theorem Deal.with_number (h : Deal H d l s n ls) {m : Int} (m0 : 0 ≤ m) : Deal (upd H d (.dK (dealD s m l))) d l s m ls :=
  ⟨upd_same, by rw [upd_ne h.ne.symm]; exact h.hl, h.s0, h.s1, m0, h.pos, h.len⟩
theorem Deal.with_seed (h : Deal H d l s n ls) {m : Int} (m0 : 0 ≤ m) (m1 : m < 2147483648) : Deal (upd H d (.dK (dealD m n l))) d l m n ls :=
  ⟨upd_same, by rw [upd_ne h.ne.symm]; exact h.hl, m0, m1, h.n0, h.pos, h.len⟩
end
theorem fmod_in (x k : Int) (hk : 0 < k) : 0 ≤ x.fmod k ∧ x.fmod k < k := by
  rw [Int.fmod_eq_emod_of_nonneg x (by omega)]
  exact ⟨Int.emod_nonneg _ (by omega), Int.emod_lt_of_pos _ hk⟩
theorem cut_ints (ns : List Int) (lo hi : Option Int) : ∃ ms : List Int, cutV (ns.map V.int) lo hi = ms.map V.int ∧ ms.length ≤ ns.length :=
  ⟨(ns.drop (HT.sIx ns.length 0 lo)).take (HT.sIx ns.length ns.length hi - HT.sIx ns.length 0 lo), by
    unfold cutV
    rw [List.length_map, ← List.map_drop, ← List.map_take], by
    rw [List.length_take, List.length_drop]
    omega⟩
/-- what stands beside the deal stays -/
def Kp (d l : Addr) (H H' : Hp) : Prop := ∀ b o, b ≠ d → b ≠ l → H b = some o → H' b = some o
section
variable {d l p : Addr} {H H1 H2 : Hp} {o : HO}
theorem Kp.refl : Kp d l H H := fun _ _ _ _ e => e
theorem Kp.trans (a : Kp d l H H1) (b : Kp d l H1 H2) : Kp d l H H2 := fun x o h1 h2 e => b x o h1 h2 (a x o h1 h2 e)
theorem Kp.of_ex (a : Ex H H1) : Kp d l H H1 := fun x o _ _ e => a x o e
theorem Kp.of_draw (a : ∀ b, b ≠ d → b ≠ l → H1 b = H b) : Kp d l H H1 := fun x o h1 h2 e => (a x h1 h2).trans e
theorem Kp.mut (a : Kp d l H H1) (h : H p = none) : Kp d l H (upd H1 p o) := fun x u h1 h2 e => by
  rw [upd_ne (ne_of_none e h)]
  exact a x u h1 h2 e
theorem IsDeal.ex (h : IsDeal H d l) (e : Ex H H1) : IsDeal H1 d l := h.keep (fun o => e d o) (fun o => e l o)
theorem IsDeal.upd (h : IsDeal H d l) (hd : p ≠ d) (hl : p ≠ l) : IsDeal (L2.upd H p o) d l := h.keep (fun o e => by rw [upd_ne hd.symm]; exact e) (fun o e => by rw [upd_ne hl.symm]; exact e)
theorem IsDeal.nd (h : IsDeal H d l) (e : H p = none) : p ≠ d ∧ p ≠ l := by
  obtain ⟨s, n, ls, h⟩ := h
  exact ⟨(ne_of_none h.hd e).symm, (ne_of_none h.hl e).symm⟩
/-- an object other than the deal's two -/
theorem IsDeal.ne_str (h : IsDeal H d l) {y : Str} {ys : List V} (e : H p = some (.lst (.str y :: ys))) : p ≠ d ∧ p ≠ l := by
  obtain ⟨s, n, ls, h⟩ := h
  refine ⟨fun z => ?_, fun z => ?_⟩
  · rw [z, h.hd] at e; cases e
  · rw [z, h.hl] at e
    cases ls with
    | nil => cases e
    | cons a r => cases e
end
theorem at_in {xs : List V} {r : Int} (h0 : 0 ≤ r) (h1 : r < xs.length) : ∃ v, atI xs r = some v ∧ v ∈ xs := by
  have h2 : r.toNat < xs.length := by omega
  have e : xs[r.toNat]? = some xs[r.toNat] := List.getElem?_eq_getElem h2
  have e2 := atI_nat e
  rw [Int.toNat_of_nonneg h0] at e2
  exact ⟨_, e2, List.getElem_mem h2⟩
theorem at_inA {xs : List Nat} {r : Int} (h0 : 0 ≤ r) (h1 : r < xs.length) : ∃ v, atI xs r = some v ∧ v ∈ xs := by
  have h2 : r.toNat < xs.length := by omega
  have e : xs[r.toNat]? = some xs[r.toNat] := List.getElem?_eq_getElem h2
  have e2 := atI_nat e
  rw [Int.toNat_of_nonneg h0] at e2
  exact ⟨_, e2, List.getElem_mem h2⟩
theorem cut_strs (ns : List Str) (lo hi : Option Int) : ∃ ms : List Str, cutV (ns.map V.str) lo hi = ms.map V.str ∧ ms.length ≤ ns.length ∧ ∀ y ∈ ms, y ∈ ns :=
  ⟨(ns.drop (HT.sIx ns.length 0 lo)).take (HT.sIx ns.length ns.length hi - HT.sIx ns.length 0 lo), by
    unfold cutV
    rw [List.length_map, ← List.map_drop, ← List.map_take], by
    rw [List.length_take, List.length_drop]
    omega, fun y h => List.mem_of_mem_drop (List.mem_of_mem_take h)⟩
/-- the promise of the deal that is made of the script -/
def sp_deal (K : PySem.W.Frag) : Sp := fun vs H Q _ => ∃ (a : Addr) (ns : List Int) (b : Int), vs = [.ref a, .int b] ∧ SqL K H a (ns.map V.int) ∧ ns.length ≤ 63 ∧ 0 ≤ b ∧ b ≤ 63 ∧
  ∀ (d l : Addr) (H' : Hp), Ex H H' → H d = none → H l = none → IsDeal H' d l → Q (.ref d) H'
/-- the promise of a draw: some number below many -/
def sp_draw : Sp := fun vs H Q _ => ∃ (d l : Addr) (m : Int), vs = [.ref d, .int m] ∧ IsDeal H d l ∧ 0 < m ∧ m < 1073741824 ∧
  ∀ (r : Int) (H' : Hp), 0 ≤ r → r < m → IsDeal H' d l → Kp d l H H' → Q (.int r) H'
end CB

set_option Elab.async false
set_option linter.all false
set_option maxRecDepth 100000
set_option maxHeartbeats 2000000
namespace CB
open PySem PySem.Spec PyProof.Rows L2

/-! ### defs that are promised where no repr is under way (A.guards = some []) -/
structure FnG (P : Program) (w : World) (K : PySem.W.Frag) (mg : Str → Option Value) (base : Heap) (k : Nat) (f : Addr) (fd : FuncData) (ps : List Str) (sp : Sp) : Prop where
  len : ∀ vs H Q E, sp vs H Q E → vs.length = ps.length
  run : ∀ (A : Around) (outer : List Env) (s : Shared) (H : Hp) (args : Args) (us : List Value) (vs : List V) (Q : VK) (E : XK), A.guards = some [] → Room k A → Env0 P w K mg base A outer s H →
    BindsTo s fd args (ps.zip us) → Vals vs us → sp vs H Q E → codeAny (model P w) A (.call (.ref f) args) (CR CX0 outer P w H s Q E) s
section
variable {P : Program} {w : World} {K : PySem.W.Frag} {mg : Str → Option Value} {base : Heap}
theorem okG {x qual : Str} {st : Stmt} {f : Addr} {fd : FuncData} {N ps : List Str} {k : Nat} {sp : Sp} (F : Fun K x qual st f fd) (S : FnScope N ps (defScope st)) (len : ∀ vs H Q E, sp vs H Q E → vs.length = ps.length)
    (hbody : ∀ (cdv : Value) (A : Around) (outer : List Env) (s : Shared) (H : Hp) (vs : List V) (Q : VK) (E : XK), (A.deeper (envOfC qual (defScope st) s.heap.objs.size f cdv)).guards = some [] → Room k (A.deeper (envOfC qual (defScope st) s.heap.objs.size f cdv)) → sp vs H Q E →
      ∃ t, PSs (cxOf CX0 P w K mg base N qual (defScope st) f cdv A outer s H E).nox (defBody st) t ∧ t { nx := fun _ H' => Q .non H', rt := Q } (start N vs) H) : FnG P w K mg base (k + 1) f fd ps sp := by
  obtain ⟨oc, od, kV, doc, pm, an, cdv, ct, osl, rfl, lk, hcd⟩ := F.ex
  refine ⟨len, fun A outer s H args us vs Q E hg hr e0 hb r hsp => ?_⟩
  have keepBase : ∀ b o, base.get? b = some o → s.heap.get? b = some o := fun b o e => (e0.bs b o e).1
  have hkinds : ∀ y ∈ ps.zip us, (defScope st).names.lookup y.1 = some .local ∨ ((defScope st).names.lookup y.1 = some .cell ∧ ((cellsFrom (s.heap.objs.size + 1) (defScope st).names []).lookup y.1).isSome = true) := by
    rintro ⟨n, v⟩ hy
    exact (S.par n (List.of_mem_zip hy).1).elim .inl fun q => .inr ⟨q, PySem.W.cellsFrom_some _ _ _ (.inl q)⟩
  have KX := e0.mod.kin.keeps keepBase
  refine codeAny_call_function hr.depth (KX _ _ lk) rfl S.co S.gen rfl (PySem.W.codeRec_of KX hcd) (hb _ _ _ _ (wpAny_newFunctionEnv_cells S.kind hkinds ?_))
  rintro env rfl s1 x
  obtain ⟨t, ht, hq⟩ := hbody cdv A outer s H vs Q E hg (hr.deeper _) hsp
  have I0 := inv_start (CX := CX0) (E := E) S hr.hd e0 (len _ _ _ _ hsp) r x
  refine ⟨(e0.mod.nolimit.keeps keepBase).keeps x.toInCall.keep, codeAny_func (wpAny_mono (ht.nox.run [] s1 (start N vs) H _ I0 hq) (fun fl s' hs => ?_) fun e s' hs => hs)⟩
  cases fl with
  | ret u =>
    obtain ⟨v, σ', H', J, rv, q⟩ := hs
    exact ⟨v, H', J.os, J.bare, J.base, J.hok, rv, q⟩
  | next =>
    obtain ⟨σ', H', J, q⟩ := hs
    exact ⟨V.non, H', J.os, J.bare, J.base, J.hok, rfl, q⟩
  | brk => exact hs.elim fun _ h => h.elim fun _ h => (show False from h.2).elim
  | cont => exact hs.elim fun _ h => h.elim fun _ h => (show False from h.2).elim
end
section
variable {X : Cx} {k : Nat} {f : Addr} {fd : FuncData} {ps : List Str} {sp : Sp} {x : Str} {p pos : Pos} {e : Expr} {es : List Expr} {t : TA} {E : XK}
theorem pe_callG (F : FnG X.prog X.w X.K X.mg X.base k f fd ps sp) (hgd : X.A.guards = some []) (hr : Room k X.A) (hg : Gl X x) (hm : X.mg x = some (.ref f)) (hk : PySem.W.keepIn X.K (.ref f) = true) (hb : Binds X.K fd ps [])
    (ha : PA X (e :: es) t) (hdb : (x == ("__debug__" : Str)) = false := by decide) (he : starEach (e :: es) X.env = (false, eval e X.env) :: starEach es X.env := by rfl) (hpl : (backTo pos (starEach es X.env)).any (·.1) = false := by rfl) :
    PE X (.Call (.Name x p) (e :: es) [] pos) (tCall sp [] E t) := by
  refine ⟨fun pins s σ H Q I h => wpAny_Call_Name_kw (ld_glob I hg hm (PySem.W.callWith_K (h₀ := X.base) I.ok.mod.kin hk (thn (ha.run pos pins s σ H _ I h) fun us s1 hus => ?_) he hpl) hdb)⟩
  obtain ⟨vs, H1, I1, r, q⟩ := hus
  refine ⟨I1.kIn, ?_⟩
  have r2 : Vals (vs ++ []) us := by rw [List.append_nil]; exact r
  have hl : (us ++ []).length = ps.length := by rw [List.append_nil, ← r2.length]; exact F.len _ _ _ _ q
  have bnd := hb s1 us I1.kIn hl
  rw [List.append_nil] at bnd
  refine wpAny_call (codeAny_mono (F.run X.A X.stack s1 H1 ⟨us, []⟩ us (vs ++ []) Q E hgd hr I1.env0 bnd r2 q) fun r s' hq => ?_)
  cases r with
  | error e => exact False.elim hq
  | ok fl =>
    cases fl with
    | ret u => exact I1.after hq
    | next => exact False.elim hq
    | brk => exact False.elim hq
    | cont => exact False.elim hq
end
/-! ### the law's own call, where no repr is under way -/
theorem lawG {P : Program} {w : World} {K : PySem.W.Frag} {mg mb : Str → Option Value} {k : Nat} {fa a : Addr} {fd : FuncData} {x : Str} {sp : Sp} {s1 : Shared} {vs : List Value} {ns : List Int}
    (KX : K.In s1.heap) (hns : s1.heap.Ns mainGlobals mg) (hb : s1.heap.Ns builtinsNs mb) (hbb : ∀ x : Str, x ≠ "__name__" → mb x = bootBuiltins x) (hlim : s1.heap.NoLimit) (hg : s1.gens = #[])
    (ha : s1.heap.get? a = some { cls := .type "list", data := .seq vs.toArray }) (hi : IntsAre vs ns) (hl : ns.length ≤ sizeLine) (hr : Room k callerA)
    (F : ∀ base : Heap, K.In base → base.Ns mainGlobals mg → FnG P w K mg base k fa fd [x] sp) (hbind : ∀ (s : Shared) (u : Value), BindsTo s fd ⟨[u], []⟩ [(x, u)])
    (hsp : ∀ H : Hp, SqL K H a (ns.map V.int) → sp [.ref a] H (fun v _ => v = .bl true) fun _ _ _ => False) :
    codeAny (model P w) callerA (.call (.ref fa) ⟨[.ref a], []⟩) (fun r s' => r = .ok (.ret (.bool true)) ∧ OldK s1.heap s'.heap ∧ s'.os = s1.os ∧ AllBare s'.gens) s1 := by
  have rel := vals_ints hi
  -- H tracks nothing, or the script alone, locked
  suffices go : ∀ H : Hp, (∀ b u, H b = some u → b = a ∧ K.lookup a = none ∧ ∃ o xs, u = .frz o (.lst xs)) → SqL K H a (ns.map V.int) → HOk P w H s1.heap →
      codeAny (model P w) callerA (.call (.ref fa) ⟨[.ref a], []⟩) (fun r s' => r = .ok (.ret (.bool true)) ∧ OldK s1.heap s'.heap ∧ s'.os = s1.os ∧ AllBare s'.gens) s1 by
    cases hk : K.lookup a with
    | none =>
      refine go (upd (fun _ => none) a (.frz { cls := .type "list", data := .seq vs.toArray } (.lst (ns.map V.int)))) (fun b u e => ?_) (.inl (.inr ⟨_, upd_same⟩)) (fun b u e => ?_)
      · by_cases h : b = a
        · subst h
          rw [upd_same] at e
          cases e
          exact ⟨rfl, hk, _, _, rfl⟩
        · rw [upd_ne h] at e
          cases e
      · by_cases h : b = a
        · subst h
          rw [upd_same] at e
          cases e
          exact ⟨ha, by rw [List.length_map]; exact hl, vs, _, rel, ha⟩
        · rw [upd_ne h] at e
          cases e
    | some o =>
      have e := KX a o hk
      rw [ha] at e
      cases e
      exact go (fun _ => none) (fun b u e => by cases e) (.inr ⟨_, vs.toArray, _, hk, rfl, rfl, rfl, by rw [List.size_toArray, hi.length]; exact hl, by simpa using rel⟩) (fun b u e => by cases e)
  intro H hH hS hok
  have apart : ∀ {b : Addr} {o : Obj}, s1.heap.get? b = some o → (∃ es ep, o.data = .dict es ep) → H b = none := fun {b o} e hd => by
    cases q : H b with
    | none => rfl
    | some u =>
      obtain ⟨rfl, _⟩ := hH b u q
      rw [ha] at e
      cases e
      obtain ⟨es, ep, z⟩ := hd
      cases z
  have ns_base : ∀ {b : Addr} {m : Str → Option Value}, s1.heap.Ns b m → (hidT s1.heap H).Ns b m := fun {b m} h => by
    obtain ⟨o, es, ep, e, d, r⟩ := h
    exact ⟨o, es, ep, hidT_get e (apart e ⟨es, ep, d⟩), d, r⟩
  have kin : K.In (hidT s1.heap H) := fun b o e => hidT_get (KX b o e) (by
    cases q : H b with
    | none => rfl
    | some u =>
      obtain ⟨rfl, h2, _⟩ := hH b u q
      rw [h2] at e
      cases e)
  have limit : (hidT s1.heap H).NoLimit := by
    obtain ⟨mc, h1, h2⟩ := hlim
    exact ⟨mc, ns_base h1, h2⟩
  have e0 : Env0 P w K mg (hidT s1.heap H) callerA [] s1 H :=
    ⟨rfl, ⟨kin, ns_base hns, ⟨mb, ns_base hb, hbb⟩, limit⟩, fun b o e => of_hidT e, Nat.le_of_eq (hidT_size _ _), trivial, fun b hb => (List.not_mem_nil hb).elim, hok, .of_eq hg⟩
  refine codeAny_mono ((F _ kin (ns_base hns)).run callerA [] s1 H ⟨[.ref a], []⟩ [.ref a] [.ref a] _ _ rfl hr e0 (hbind s1 (.ref a)) (.cons rfl .nil) (hsp H hS)) fun r s' h => ?_
  cases r with
  | error e => exact False.elim h
  | ok fl =>
    cases fl with
    | ret u =>
      obtain ⟨v, H', os, bare, un, hok', ru, rfl⟩ := h
      obtain rfl : u = Value.bool true := ru
      refine ⟨rfl, OldK.of_keep fun b o e => ?_, os, bare⟩
      cases q : H b with
      | none => exact un.keep b o e q (fun z => (List.not_mem_nil z).elim) (by simp)
      | some u =>
        obtain ⟨rfl, _, ob, xs, rfl⟩ := hH b u q
        have h1 := (hok b _ q).1
        rw [e] at h1
        cases h1
        exact (hok' b _ (un.frzs b _ _ q)).1
    | next => exact False.elim h
    | brk => exact False.elim h
    | cont => exact False.elim h
/-- the goal that k_head leaves, from the law's promise -/
theorem walkG {l : PySem.W.OpenLaw} {n k : Nat} {q : Program} {loose : List Str} {XP : (Str → Option Value) → Heap → Prop} {YP : World → Heap → Prop} {d : DefRec} {K : Params → PySem.W.Frag} {sp : World → Sp} {x : Str}
    (hn : l.most = some n) (hn2 : n ≤ sizeLine) (hdf : d.params.defaults = []) (hr : Room k callerA) (hY : ∀ (w : World) (h : Heap), YP w h → (K w.params).In h)
    (F : ∀ (w : World) (mg : Str → Option Value) (fa : Addr) (h : Heap), (K w.params).In h → h.Ns mainGlobals mg → mg d.name = some (.ref fa) →
      ∃ fd : FuncData, (∀ (s : Shared) (u : Value), BindsTo s fd ⟨[u], []⟩ [(x, u)]) ∧ ∀ base : Heap, (K w.params).In base → base.Ns mainGlobals mg → FnG l.prog w (K w.params) mg base k fa fd [x] (sp w))
    (hsp : ∀ (w : World) (H : Hp) (a : Addr) (ns : List Int), ns.length ≤ n → SqL (K w.params) H a (ns.map V.int) → sp w [.ref a] H (fun v _ => v = .bl true) fun _ _ _ => False) :
    PySem.W.WalkO q loose XP YP l.row.toRowW d [] (fun f vs => PySem.call f vs) :=
  Att.attach_call hn hdf fun w s0 s1 mg mb fa o pm cd doc a vs ns G Y ho hd hcd hmg hobj hints hlen hg => by
    have KX := hY w _ Y
    obtain ⟨fd, hb, hF⟩ := F w mg fa _ KX G.T.g hmg
    exact lawG KX G.T.g G.T.b G.T.builtins G.T.nolimit hg hobj hints (Nat.le_trans hlen hn2) hr hF hb fun H hS => hsp w H a ns hlen hS
/-! ### repr -/
section
variable {X : Cx}
/-- repr(x), x a list or a tuple: what is shown -/
theorem call_reprD {K : PySem.W.Frag} (hgd : X.A.guards = some []) (hu : X.A.units + 66 < cLine) (hK : X.K = K := by rfl) : CallR X (.builtin "repr") (fun xs H Q => ∃ v d, xs = [v] ∧ Dp K H v d ∧ (∃ a, v = .ref a) ∧ SeqAt.shaped d = true ∧ d.showable = true ∧ d.shown.length ≤ sizeLine ∧ Q (.str d.shown) H) := by
  subst hK
  intro pins s σ H xs us Q I r h
  obtain ⟨v, d, rfl, hd, ⟨a, rfl⟩, sd, sw, hz, q⟩ := h
  obtain ⟨u, rfl, ru⟩ := vals1 r
  obtain rfl : u = Value.ref a := ru
  obtain ⟨as, rd⟩ := Dp.reads I d _ _ hd rfl
  have dp := SeqAt.depth_of_shaped sd
  refine repr_of_reads' rd sw (PyData.noDict_hsm (PyData.hasDict_of_canLay d (SeqAt.canLay_of_shaped sd))) hgd (by omega) (fun _ _ e => e) (fun h' u tk hk => ?_) hz
  exact ⟨.str d.shown, H, I.kept (t' := tk) hk, ⟨u, rfl⟩, q⟩
/-! ### sum(a tuple of ints) -/
theorem cr_sumT {K : PySem.W.Frag} (hc : X.calm = true) (hK : X.K = K := by rfl) : CallR X (.builtin "sum") (fun vs H Q => ∃ (a : Addr) (ns : List Int), vs = [V.ref a] ∧ SqT K H a (ns.map V.int) ∧ Q (.int ns.sum) H) := by
  subst hK
  intro pins s σ H vs us Q I r h
  obtain ⟨a, ns, rfl, hs, q⟩ := h
  obtain ⟨its, rv, hl, _⟩ := I.tuple hs
  rw [Vals.ref1 r]
  have hi := rv.ints
  obtain ⟨xs, e⟩ := hi.allInts.items
  have hn : numsOf (intItems xs).toList = ns := by rw [← e]; exact hi.numsOf
  rw [nums_intItems] at hn
  rw [e] at hl
  have hT : s.heap.IsTuple a (intItems xs) := hl
  have hlt : a < s.heap.objs.size := by obtain ⟨_, e, _⟩ := hT; exact Heap.lt_size e
  refine call_sum_walkG (wpAny_pyIter_tuple hT ⟨_, [_, a], [_], _, _, _, numAt xs, rfl, Walks.tuple (A := X.A.in1) (I.ok.hd hc) _ a (Nat.ne_of_lt hlt) (intItems xs), ⟨⟨_, Heap.get?_push_size _ rfl, rfl, rfl⟩, hT.push _⟩, fun b hb => ?_, (fun _ _ => intItems_at), fun h' tk t' hk => ?_⟩)
  · show b < (s.heap.push _).objs.size
    rw [Heap.size_push]
    rcases List.mem_cons.mp hb with rfl | hb
    · exact Nat.lt_succ_self _
    · rw [List.mem_singleton.mp hb]
      exact Nat.lt_succ_of_lt hlt
  · have e2 : preSum (numAt xs) (intItems xs).size = ns.sum := by
      have e3 : (intItems xs).size = xs.size := by simp [intItems]
      rw [e3, preSum_eq, List.take_of_length_le (by simp), hn]
    rw [e2]
    refine ⟨.int _, H, I.kept (t' := tk) fun b o eb => hk b o (fun hm => ?_) (Heap.get?_push_of_some _ eb), ⟨_, rfl⟩, q⟩
    rw [List.mem_singleton.mp hm] at eb
    exact absurd (Heap.lt_size eb) (Nat.lt_irrefl _)
/-! ### sorted(a list of data) -/
abbrev dSort (ds : List PyData) : List PyData := ds.mergeSort (PySem.W.dataLe false id)
theorem DpAll.pairs {K : PySem.W.Frag} {H : Hp} : ∀ {xs : List V} {ds : List PyData}, DpAll K H xs ds → ∀ p ∈ xs.zip ds, Dp K H p.1 p.2
  | _, _, .nil, p, hp => by cases hp
  | _, _, .cons h hs, p, hp => by
    rcases List.mem_cons.mp hp with rfl | hp
    · exact h
    · exact DpAll.pairs hs p hp
theorem dpAll_of {K : PySem.W.Frag} {H : Hp} : ∀ (l : List (V × PyData)), (∀ p ∈ l, Dp K H p.1 p.2) → DpAll K H (l.map Prod.fst) (l.map Prod.snd)
  | [], _ => .nil
  | p :: r, h => .cons (h p List.mem_cons_self) (dpAll_of r fun q hq => h q (List.mem_cons_of_mem _ hq))
theorem each_zip {H : Hp} {pins : List (Addr × Obj)} {σ : L2.St} {s : Shared} (I : Inv X pins σ H s) : ∀ {xs : List V} {us : List Value} {ds : List PyData}, Vals xs us → DpAll X.K H xs ds →
    PySem.W.EachIs (fun (u : Value) (p : V × PyData) => RelV p.1 u) us (xs.zip ds) ∧ PySem.W.EachIs (fun (u : Value) (p : V × PyData) => ∃ as, Reads s.heap u p.2 as) us (xs.zip ds)
  | _, _, _, .nil, .nil => ⟨.nil, .nil⟩
  | _, _, _, .cons r rs, .cons h hs => ⟨.cons r (each_zip I rs hs).1, .cons (Dp.reads I _ _ _ h r) (each_zip I rs hs).2⟩
theorem vals_each : ∀ {us : List Value} {l : List (V × PyData)}, PySem.W.EachIs (fun (u : Value) (p : V × PyData) => RelV p.1 u) us l → Vals (l.map Prod.fst) us
  | _, _, .nil => .nil
  | _, _, .cons r rs => .cons r (vals_each rs)
theorem zip_snd {xs : List V} {ds : List PyData} (h : xs.length = ds.length) : (xs.zip ds).map Prod.snd = ds := List.map_snd_zip (by omega)
theorem cr_sortD {K : PySem.W.Frag} (hu : X.A.units + 64 < cLine) (hK : X.K = K := by rfl) : CallR X (.builtin "sorted") (fun vs H Q => ∃ (a : Addr) (xs : List V) (ds : List PyData), vs = [V.ref a] ∧ SqL K H a xs ∧ DpAll K H xs ds ∧ PySem.W.AllAlike ds ∧ PySem.W.Sortable ds ∧ (∀ d ∈ ds, d.depth ≤ 60) ∧
    ∀ ys p, H p = none → (∀ F, DpAll K F xs ds → DpAll K F ys (dSort ds)) → (∀ y ∈ ys, y ∈ xs) → Q (.ref p) (upd H p (.lst ys))) := by
  subst hK
  intro pins s σ H vs us Q I r h
  obtain ⟨a, xs, ds, rfl, hs, hd, hal, hsr, hdp, q⟩ := h
  obtain ⟨its, rv, hl, hz⟩ := I.list hs
  rw [Vals.ref1 r]
  have hlen := DpAll.length hd
  obtain ⟨e1, e2⟩ := each_zip I rv hd
  have esnd := zip_snd hlen
  refine PySem.W.sorted_data (enc := Prod.snd) hl.isList e1 e2 (by rw [esnd]; exact hal) (by rw [esnd]; exact hsr) (by rw [List.length_zip]; omega) (fun p hp => ?_) fun out hout he => ?_
  · have := hdp p.2 (by rw [← esnd]; exact List.mem_map_of_mem hp)
    omega
  · obtain ⟨e, hat⟩ := sortedAll_at s.heap its out.toArray
    have hmem : ∀ p ∈ (xs.zip ds).mergeSort (PySem.W.dataLe false Prod.snd), p ∈ xs.zip ds := fun p hp => (List.mergeSort_perm _ _).mem_iff.mp hp
    have hys : ∀ F, DpAll X.K F xs ds → DpAll X.K F (((xs.zip ds).mergeSort (PySem.W.dataLe false Prod.snd)).map Prod.fst) (dSort ds) := fun F hF => by
      have h1 := dpAll_of (K := X.K) (H := F) ((xs.zip ds).mergeSort (PySem.W.dataLe false Prod.snd)) fun p hp => DpAll.pairs hF p (hmem p hp)
      have h2 : ((xs.zip ds).mergeSort (PySem.W.dataLe false Prod.snd)).map Prod.snd = dSort ds := by
        rw [PySem.W.sort_maps (r := PySem.W.dataLe false Prod.snd) (s := PySem.W.dataLe false id) Prod.snd (fun _ _ _ _ => rfl), esnd]
      rw [h2] at h1
      exact h1
    have hv := vals_each he
    refine ⟨.ref (s.heap.objs.size + 1), upd H (s.heap.objs.size + 1) (.lst _), I.laid (t' := s.toks) (fun b u eb => sortedAll_old eb) (by omega) (show ObjOk X.prog X.w _ _ _ (.lst _) from ⟨?_, out, e, hv, ?_⟩), rfl, q _ _ (I.hok.fresh (by omega)) hys fun y hy => ?_⟩
    · rw [List.length_map, List.length_mergeSort, List.length_zip]
      omega
    · exact hat
    · obtain ⟨p, hp, rfl⟩ := List.mem_map.mp hy
      exact (List.of_mem_zip (hmem p hp)).1
end
end CB

set_option Elab.async false
set_option linter.all false
set_option maxRecDepth 100000
set_option maxHeartbeats 2000000
namespace CB
open PySem PySem.Spec PyProof.Rows L2

/-! ### rows as data: they may be compared and shown -/
abbrev Sml (x : Int) : Prop := x.natAbs.log2 < 1920
theorem sml_of {x : Int} {k : Nat} (h : x.natAbs < 2 ^ k) (hk : 0 < k) (h2 : k ≤ 1920) : Sml x := Nat.lt_of_lt_of_le (PySem.Flt.log2_lt_of hk h) h2
theorem canLay_tis : ∀ r : List (List Int), PyData.canLayAll0 (r.map ti) = true
  | [] => rfl
  | p :: r => by
    show (PyData.canLayAll0 (p.map PyData.int) && PyData.canLayAll0 (r.map ti)) = true
    rw [canLay_ints, canLay_tis r]
    rfl
theorem depth_ints' (p : List Int) : PyData.depthAll (p.map PyData.int) = 0 := PySem.W.depth_ints p
theorem depth_tis : ∀ r : List (List Int), PyData.depthAll (r.map ti) ≤ 1
  | [] => Nat.zero_le _
  | p :: r => by
    show max (PyData.depthAll (p.map PyData.int) + 1) (PyData.depthAll (r.map ti)) ≤ 1
    rw [depth_ints']
    have := depth_tis r
    omega
theorem ti_shaped (p : List Int) : SeqAt.shaped (ti p) = true := by
  unfold SeqAt.shaped
  rw [Bool.and_eq_true, decide_eq_true_eq]
  refine ⟨canLay_ints p, ?_⟩
  show PyData.depthAll (p.map PyData.int) + 1 ≤ 64
  rw [depth_ints']
  decide
theorem li_shaped (p : List Int) : SeqAt.shaped (li p) = true := by
  unfold SeqAt.shaped
  rw [Bool.and_eq_true, decide_eq_true_eq]
  refine ⟨canLay_ints p, ?_⟩
  show PyData.depthAll (p.map PyData.int) + 1 ≤ 64
  rw [depth_ints']
  decide
theorem lti_shaped (r : List (List Int)) : SeqAt.shaped (lti r) = true := by
  unfold SeqAt.shaped
  rw [Bool.and_eq_true, decide_eq_true_eq]
  refine ⟨canLay_tis r, ?_⟩
  show PyData.depthAll (r.map ti) + 1 ≤ 64
  have := depth_tis r
  omega
theorem tti_shaped (r : List (List Int)) : SeqAt.shaped (tti r) = true := by
  unfold SeqAt.shaped
  rw [Bool.and_eq_true, decide_eq_true_eq]
  refine ⟨canLay_tis r, ?_⟩
  show PyData.depthAll (r.map ti) + 1 ≤ 64
  have := depth_tis r
  omega
theorem ints_showable (p : List Int) (h : ∀ x ∈ p, Sml x) : PyData.showableAll (p.map PyData.int) = true := PyData.showableAll_ints p h
theorem ti_showable {p : List Int} (h : ∀ x ∈ p, Sml x) : (ti p).showable = true := ints_showable p h
theorem li_showable {p : List Int} (h : ∀ x ∈ p, Sml x) : (li p).showable = true := ints_showable p h
theorem tis_showable (r : List (List Int)) (h : ∀ p ∈ r, ∀ x ∈ p, Sml x) : PyData.showableAll (r.map ti) = true := showableAll_of fun d hd => by
  obtain ⟨p, hp, rfl⟩ := List.mem_map.mp hd
  exact ti_showable (h p hp)
theorem lti_showable {r : List (List Int)} (h : ∀ p ∈ r, ∀ x ∈ p, Sml x) : (lti r).showable = true := tis_showable r h
theorem tti_showable {r : List (List Int)} (h : ∀ p ∈ r, ∀ x ∈ p, Sml x) : (tti r).showable = true := tis_showable r h
theorem int_shown {x : Int} (h : Sml x) : (PyData.shown (.int x)).length ≤ 1921 := PyProof.Rows.int_text_len_1921 h
theorem ints_shown : ∀ (p : List Int), (∀ x ∈ p, Sml x) → ((PyData.shownAll (p.map PyData.int)).map (·.length)).sum ≤ 1921 * p.length
  | [], _ => Nat.zero_le _
  | x :: p, h => by
    have h1 := int_shown (h x List.mem_cons_self)
    have h2 := ints_shown p fun y hy => h y (List.mem_cons_of_mem _ hy)
    show (PyData.shown (.int x)).length + ((PyData.shownAll (p.map PyData.int)).map (·.length)).sum ≤ 1921 * (p.length + 1)
    omega
theorem ti_shown {p : List Int} (h : ∀ x ∈ p, Sml x) : (ti p).shown.length ≤ 1923 * p.length + 3 := by
  have h1 := tupleText_len_le (PyData.shownAll (p.map PyData.int))
  have h2 := ints_shown p h
  have h3 : (PyData.shownAll (p.map PyData.int)).length = p.length := by rw [PyData.shownAll_length, List.length_map]
  show (tupleText (PyData.shownAll (p.map PyData.int))).length ≤ _
  omega
theorem li_shown {p : List Int} (h : ∀ x ∈ p, Sml x) : (li p).shown.length ≤ 1923 * p.length + 3 := by
  have h1 := listText_len_le (PyData.shownAll (p.map PyData.int))
  have h2 := ints_shown p h
  have h3 : (PyData.shownAll (p.map PyData.int)).length = p.length := by rw [PyData.shownAll_length, List.length_map]
  show (listText (PyData.shownAll (p.map PyData.int))).length ≤ _
  omega
theorem tis_shown {m : Nat} : ∀ (r : List (List Int)), (∀ p ∈ r, p.length ≤ m ∧ ∀ x ∈ p, Sml x) → ((PyData.shownAll (r.map ti)).map (·.length)).sum ≤ (1923 * m + 3) * r.length
  | [], _ => Nat.zero_le _
  | p :: r, h => by
    obtain ⟨l1, l2⟩ := h p List.mem_cons_self
    have h1 := ti_shown l2
    have h2 := tis_shown r fun y hy => h y (List.mem_cons_of_mem _ hy)
    have h3 : 1923 * p.length ≤ 1923 * m := Nat.mul_le_mul_left _ l1
    show (ti p).shown.length + ((PyData.shownAll (r.map ti)).map (·.length)).sum ≤ (1923 * m + 3) * (r.length + 1)
    rw [Nat.mul_succ]
    omega
theorem lti_shown {m : Nat} {r : List (List Int)} (h : ∀ p ∈ r, p.length ≤ m ∧ ∀ x ∈ p, Sml x) : (lti r).shown.length ≤ (1923 * m + 5) * r.length + 3 := by
  have h1 := listText_len_le (PyData.shownAll (r.map ti))
  have h2 := tis_shown r h
  have h3 : (PyData.shownAll (r.map ti)).length = r.length := by rw [PyData.shownAll_length, List.length_map]
  have h4 : (1923 * m + 5) * r.length = (1923 * m + 3) * r.length + 2 * r.length := by rw [← Nat.add_mul]
  show (listText (PyData.shownAll (r.map ti))).length ≤ _
  omega
theorem tti_shown {m : Nat} {r : List (List Int)} (h : ∀ p ∈ r, p.length ≤ m ∧ ∀ x ∈ p, Sml x) : (tti r).shown.length ≤ (1923 * m + 5) * r.length + 3 := by
  have h1 := tupleText_len_le (PyData.shownAll (r.map ti))
  have h2 := tis_shown r h
  have h3 : (PyData.shownAll (r.map ti)).length = r.length := by rw [PyData.shownAll_length, List.length_map]
  have h4 : (1923 * m + 5) * r.length = (1923 * m + 3) * r.length + 2 * r.length := by rw [← Nat.add_mul]
  show (tupleText (PyData.shownAll (r.map ti))).length ≤ _
  omega
/-! ### products -/
/-- a product with one box more, to a degree -/
def ext (d : Int) (p : List Int) : List (List Int) := (List.range (d - p.sum + 1).toNat).map fun (o : Nat) => p ++ [(o : Int)]
def raw (d : Int) : Nat → List (List Int)
  | 0 => [[]]
  | n + 1 => (raw d n).flatMap (ext d)
/-- a product beside its degree -/
def encP (p : List Int) : PyData := .tuple [.int p.sum, ti p]
def prods (n : Nat) (d : Int) : List (List Int) := (raw d n).mergeSort (PySem.W.dataLe false encP)
theorem ext_mem {d : Int} {p q : List Int} (h : q ∈ ext d p) : ∃ o : Nat, q = p ++ [(o : Int)] ∧ (o : Int) ≤ d - p.sum := by
  obtain ⟨o, ho, rfl⟩ := List.mem_map.mp h
  rw [List.mem_range] at ho
  exact ⟨o, rfl, by omega⟩
theorem sum_snoc (p : List Int) (o : Int) : (p ++ [o]).sum = p.sum + o := by
  rw [List.sum_append]
  simp
theorem raw_ok {d : Int} (hd : 0 ≤ d) : ∀ (n : Nat) (p : List Int), p ∈ raw d n → p.length = n ∧ 0 ≤ p.sum ∧ p.sum ≤ d ∧ ∀ x ∈ p, 0 ≤ x
  | 0, p, h => by
    rw [List.mem_singleton.mp (show p ∈ [[]] from h)]
    exact ⟨rfl, by decide, hd, fun x hx => by cases hx⟩
  | n + 1, p, h => by
    obtain ⟨q, hq, hp⟩ := List.mem_flatMap.mp h
    obtain ⟨h1, h2, h3, h4⟩ := raw_ok hd n q hq
    obtain ⟨o, rfl, ho⟩ := ext_mem hp
    refine ⟨by rw [List.length_append, h1]; rfl, by rw [sum_snoc]; omega, by rw [sum_snoc]; omega, fun x hx => ?_⟩
    rcases List.mem_append.mp hx with hx | hx
    · exact h4 x hx
    · rw [List.mem_singleton.mp hx]; omega
theorem ext_len {d : Int} {p : List Int} (h0 : 0 ≤ p.sum) (hd : d ≤ 6) : (ext d p).length ≤ 7 := by
  unfold ext
  rw [List.length_map, List.length_range]
  omega
theorem flat_len {d : Int} : ∀ (l : List (List Int)), (∀ p ∈ l, 0 ≤ p.sum) → d ≤ 6 → (l.flatMap (ext d)).length ≤ 7 * l.length
  | [], _, _ => by simp
  | p :: r, h, hd => by
    rw [List.flatMap_cons, List.length_append, List.length_cons]
    have h1 := ext_len (h p List.mem_cons_self) hd
    have h2 := flat_len r (fun q hq => h q (List.mem_cons_of_mem _ hq)) hd
    omega
theorem raw_len {d : Int} (hd : 0 ≤ d) (hd6 : d ≤ 6) : ∀ n : Nat, (raw d n).length ≤ 7 ^ n
  | 0 => Nat.le_refl 1
  | n + 1 => by
    have h1 := flat_len (raw d n) (fun p hp => (raw_ok hd n p hp).2.1) hd6
    have h2 := raw_len hd hd6 n
    show ((raw d n).flatMap (ext d)).length ≤ 7 ^ n * 7
    omega
theorem raw_len6 {d : Int} (hd : 0 ≤ d) (hd6 : d ≤ 6) {n : Nat} (hn : n ≤ 6) : (raw d n).length ≤ 117649 :=
  Nat.le_trans (raw_len hd hd6 n) (Nat.le_trans (Nat.pow_le_pow_right (by decide) hn) (by decide))
theorem prods_len (n : Nat) (d : Int) : (prods n d).length = (raw d n).length := List.length_mergeSort _
theorem prods_mem {n : Nat} {d : Int} {p : List Int} : p ∈ prods n d ↔ p ∈ raw d n := (List.mergeSort_perm _ _).mem_iff
theorem prods_ok {d : Int} (hd : 0 ≤ d) {n : Nat} {p : List Int} (h : p ∈ prods n d) : p.length = n ∧ 0 ≤ p.sum ∧ p.sum ≤ d ∧ ∀ x ∈ p, 0 ≤ x := raw_ok hd n p (prods_mem.mp h)
theorem sort_enc (l : List (List Int)) : dSort (l.map encP) = (l.mergeSort (PySem.W.dataLe false encP)).map encP :=
  (PySem.W.sort_maps (r := PySem.W.dataLe false encP) (s := PySem.W.dataLe false id) encP (fun _ _ _ _ => rfl)).symm
theorem alike_ints' (xs ys : List Int) : PySem.W.alikeAll (xs.map PyData.int) (ys.map PyData.int) = true := PySem.W.alike_ints xs ys
theorem enc_alike (l : List (List Int)) : PySem.W.AllAlike (l.map encP) := PySem.W.AllAlike.of fun p q => by
  show (true && (PySem.W.alikeAll (p.map PyData.int) (q.map PyData.int) && true)) = true
  rw [alike_ints']
  rfl
theorem enc_sortable (l : List (List Int)) : PySem.W.Sortable (l.map encP) := PySem.W.Sortable.tuples fun p => ⟨_, _, rfl⟩
theorem enc_depth (l : List (List Int)) : ∀ d ∈ l.map encP, d.depth ≤ 60 := fun d hd => by
  obtain ⟨p, _, rfl⟩ := List.mem_map.mp hd
  show max 0 (max (PyData.depthAll (p.map PyData.int) + 1) 0) + 1 ≤ 60
  rw [PySem.W.depth_ints]
  decide
/-- how many products there are, as it is reckoned -/
def hm (d : Int) : Nat → Int
  | 0 => 1
  | k + 1 => (hm d k * (d + (1 + (k : Int)))).fdiv (1 + (k : Int))
def sp_how_many : Sp := fun vs H Q _ => ∃ (n : Nat) (d : Int), vs = [.int (n : Int), .int d] ∧ n ≤ 6 ∧ 0 ≤ d ∧ d ≤ 6 ∧ Q (.int (hm d n)) H
/-- the promise: a new list of tuples -/
def sp_products (K : PySem.W.Frag) : Sp := fun vs H Q _ => ∃ (n : Nat) (d : Int) (F : Hp), vs = [.int (n : Int), .int d] ∧ Ex F H ∧ n ≤ 6 ∧ 0 ≤ d ∧ d ≤ 6 ∧
  ∀ p xs F' H', H p = none → Gr NoS F H F' H' → F' p = none → H' p = some (.lst xs) → DpAll K F' xs ((prods n d).map ti) → Q (.ref p) H'
end CB

set_option Elab.async false
set_option linter.all false
set_option maxRecDepth 100000
set_option maxHeartbeats 2000000
namespace CB
open PySem PySem.Spec PyProof.Rows L2
/-- what a def of data hands back: a value that reads as d, the frozen part grown -/
def RetD (K : PySem.W.Frag) (F H : Hp) (Q : VK) (d : PyData) : Prop := ∀ v F' H', Gr NoS F H F' H' → Dp K F' v d → Q v H'
/-- tuple(a list of ours) -/
theorem RetD.tuple {K : PySem.W.Frag} {F H F1 H1 : Hp} {Q : VK} {xs : List V} {ds : List PyData} {l : Addr} (q : RetD K F H Q (.tuple ds)) (g : Gr NoS F H F1 H1) (hl : H1 l = some (.lst xs)) (hd : DpAll K F1 xs ds) :
    (∃ p ys, [V.ref l] = [.ref p] ∧ ((SqL K H1 p ys ∧ ∀ l, H1 l = none → Q (.ref l) (upd H1 l (.tup ys))) ∨ (SqT K H1 p ys ∧ Q (.ref p) H1))) :=
  ⟨l, xs, rfl, .inl ⟨SqL.of hl, fun t nt => q _ _ _ (g.new nt) (.tup (SqT.of upd_same) (hd.ex (Evl.Ex.new (sub_none g.sub nt))))⟩⟩
theorem sum_nonneg : ∀ {p : List Int}, (∀ x ∈ p, 0 ≤ x) → 0 ≤ p.sum
  | [], _ => by decide
  | y :: r, h => by
    rw [List.sum_cons]
    have h1 := h y List.mem_cons_self
    have h2 := sum_nonneg (p := r) fun z hz => h z (List.mem_cons_of_mem _ hz)
    omega
theorem le_sum : ∀ {p : List Int} {x : Int}, (∀ x ∈ p, 0 ≤ x) → x ∈ p → x ≤ p.sum
  | [], _, _, hx => by cases hx
  | y :: r, x, h, hx => by
    rw [List.sum_cons]
    have h1 := h y List.mem_cons_self
    have h2 := sum_nonneg (p := r) fun z hz => h z (List.mem_cons_of_mem _ hz)
    rcases List.mem_cons.mp hx with rfl | hx
    · omega
    · have := le_sum (p := r) (fun z hz => h z (List.mem_cons_of_mem _ hz)) hx
      omega
/-! ### boxes multiplied -/
/-- the boxes (first) taken as often (second) -/
def wL (l : List (Int × Int)) : Int := l.foldl (fun w q => w * q.1 ^ q.2.toNat) 1
theorem wL_snoc (l : List (Int × Int)) (q : Int × Int) : wL (l ++ [q]) = wL l * q.1 ^ q.2.toNat := by
  unfold wL
  rw [List.foldl_append]
  rfl
def rowL (n : Nat) (d : Int) (boxes : List Int) : List Int := (prods n d).map fun p => wL (boxes.zip p)
theorem zip_get {α β : Type} {xs : List α} {ys : List β} {i : Nat} {x : α} {y : β} (hx : xs[i]? = some x) (hy : ys[i]? = some y) : (xs.zip ys)[i]? = some (x, y) := by
  rw [List.getElem?_zip_eq_some]
  exact ⟨hx, hy⟩
theorem take_zip_snoc {α β : Type} {xs : List α} {ys : List β} {i : Nat} {x : α} {y : β} (hx : xs[i]? = some x) (hy : ys[i]? = some y) : (xs.zip ys).take (i + 1) = (xs.zip ys).take i ++ [(x, y)] := by
  rw [List.take_add_one, zip_get hx hy]
  rfl
theorem int_get {ns : List Int} {i : Nat} {v : V} (h : (ns.map V.int)[i]? = some v) : ∃ x, ns[i]? = some x ∧ v = .int x := by
  rw [List.getElem?_map] at h
  obtain ⟨x, e, rfl⟩ := Option.map_eq_some_iff.mp h
  exact ⟨x, e, rfl⟩
/-- the promise of boxes_row -/
def sp_boxes_row (K : PySem.W.Frag) : Sp := fun vs H Q _ => ∃ (n : Nat) (d : Int) (bs : List Int) (v : V) (F : Hp), vs = [.int (n : Int), .int d, v] ∧ Ex F H ∧ Dp K F v (ti bs) ∧ bs.length = n ∧ n ≤ 6 ∧ 0 ≤ d ∧ d ≤ 6 ∧ (∀ x ∈ bs, -1000000 ≤ x ∧ x ≤ 1000000) ∧ RetD K F H Q (ti (rowL n d bs))
/-- the promise of a def that tells a row of all numbers -/
def sp_map_row (K : PySem.W.Frag) : Sp := fun vs H Q _ => ∃ (v : V) (r : List (List Int)) (F : Hp), vs = [v] ∧ Ex F H ∧ Dp K F v (tti r) ∧ r.flatten.length ≤ 10000 ∧ RetD K F H Q (ti r.flatten)
def sp_row_map (K : PySem.W.Frag) : Sp := fun vs H Q _ => ∃ (v : V) (r : List (List Int)) (m : Nat) (F : Hp), vs = [.int (r.length : Int), v] ∧ Ex F H ∧ Dp K F v (ti r.flatten) ∧ 0 < r.length ∧ r.length ≤ 1000 ∧ m ≤ 1000 ∧ (∀ p ∈ r, p.length = m) ∧ RetD K F H Q (tti r)
theorem flat_len_eq {r : List (List Int)} {m : Nat} (h : ∀ p ∈ r, p.length = m) : r.flatten.length = r.length * m := by
  induction r with
  | nil => simp
  | cons p r ih =>
    rw [List.flatten_cons, List.length_append, h p List.mem_cons_self, ih fun q hq => h q (List.mem_cons_of_mem _ hq), List.length_cons, Nat.succ_mul]
    omega
theorem flat_cut {m : Nat} : ∀ {r : List (List Int)} {k : Nat} {p : List Int}, (∀ p ∈ r, p.length = m) → r[k]? = some p → (r.flatten.drop (k * m)).take m = p
  | [], _, _, _, h => by simp at h
  | q :: r, 0, p, h, e => by
    have e' : q = p := by simpa using e
    subst e'
    rw [Nat.zero_mul, List.drop_zero, List.flatten_cons, List.take_append_of_le_length (by rw [h q List.mem_cons_self]; exact Nat.le_refl _)]
    exact List.take_of_length_le (by rw [h q List.mem_cons_self]; exact Nat.le_refl _)
  | q :: r, k + 1, p, h, e => by
    have ih := flat_cut (r := r) (k := k) (fun q hq => h q (List.mem_cons_of_mem _ hq)) (by simpa using e)
    rw [List.flatten_cons, Nat.succ_mul, Nat.add_comm (k * m) m, ← List.drop_drop]
    have e2 : (q ++ r.flatten).drop m = r.flatten := by
      rw [← h q List.mem_cons_self]
      exact List.drop_left
    rw [e2]
    exact ih
theorem cut_nat (xs : List V) {a b : Nat} (h : b ≤ xs.length) : cutV xs (some (a : Int)) (some (b : Int)) = (xs.drop (min a xs.length)).take (b - min a xs.length) := by
  unfold cutV
  rw [HT.sIx_nat, HT.sIx_nat, Nat.min_eq_left h]
/-! ### the deal beside a frozen part -/
structure Wr (d l : Addr) (F H : Hp) : Prop where
  sub : Ex F H
  nd : F d = none
  nl : F l = none
  deal : IsDeal H d l
section
variable {d l p : Addr} {F H F' H' : Hp} {o : HO}
theorem Wr.draw (h : Wr d l F H) (D : IsDeal H' d l) (k : Kp d l H H') : Wr d l F H' := ⟨fun b o e => k b o (ne_of_none e h.nd) (ne_of_none e h.nl) (h.sub b o e), h.nd, h.nl, D⟩
theorem Wr.gr (h : Wr d l F H) (g : Gr NoS F H F' H') : Wr d l F' H' := by
  obtain ⟨s, n, ls, D⟩ := h.deal
  exact ⟨g.sub, g.nf d h.nd (by rw [D.hd]; exact fun z => by cases z), g.nf l h.nl (by rw [D.hl]; exact fun z => by cases z), h.deal.ex g.ex⟩
theorem Wr.new (h : Wr d l F H) (hp : H p = none) : Wr d l (upd F p o) (upd H p o) := h.gr ((Gr.refl h.sub).new hp)
theorem Wr.newm (h : Wr d l F H) (hp : H p = none) : Wr d l F (upd H p o) := h.gr ((Gr.refl h.sub).newm hp)
theorem Wr.mut (h : Wr d l F H) (hf : F p = none) (n1 : p ≠ d) (n2 : p ≠ l) : Wr d l F (upd H p o) :=
  ⟨fun b u e => by rw [upd_ne (ne_of_none e hf)]; exact h.sub b u e, h.nd, h.nl, h.deal.upd n1 n2⟩
theorem Wr.ne (h : Wr d l F H) (hp : H p = none) : p ≠ d ∧ p ≠ l := h.deal.nd hp
theorem Kp.none (k : Kp d l H H') (n1 : p ≠ d) (n2 : p ≠ l) (e : H' p = none) : H p = none := by
  cases q : H p with
  | none => rfl
  | some o => rw [k p o n1 n2 q] at e; cases e
theorem Gr.toKp (g : Gr NoS F H F' H') : Kp d l H H' := Kp.of_ex g.ex
theorem Gr.of_ex (h : Ex F H) (x : Ex H H') : Gr NoS F H F H' := ⟨fun _ _ e => e, h.trans x, fun a o _ e => x a o e, fun a e => by
  cases q : H a with
  | none => exact absurd q e
  | some o => rw [x a o q]; exact fun z => (by cases z), fun _ e _ => e⟩
end
theorem rep_zero (ns : List Int) (k : Nat) : ns.map V.int ++ (List.replicate k [V.int 0]).flatten = (ns ++ List.replicate k 0).map V.int := by
  rw [List.map_append, List.map_replicate]
  congr 1
  induction k with
  | zero => rfl
  | succ k ih => rw [List.replicate_succ, List.flatten_cons, ih]; rfl
theorem eqv_refl (d : PyData) (h : SeqAt.shaped d = true) : PyData.eqv d d = true := SeqAt.eqv_refl d (SeqAt.canLay_of_shaped h)
end CB

set_option Elab.async false
set_option linter.all false
set_option maxRecDepth 100000
set_option maxHeartbeats 2000000
namespace CB
open PySem PySem.Spec PyProof.Rows L2
section
variable {X : Cx} {K : PySem.W.Frag}
theorem pg_lstK {es : List Expr} {k n : Nat} {t : TGs} {pos : Pos} (hc : X.calm = true) (h : PGs X es t)
    (hn : (assignEach es X.env).length = n := by rfl) (hst : (assignEach es X.env).findIdx? (·.1) = none := by rfl) (hK : X.K = K := by rfl) : PG X (.Tuple es k pos) (gLst K n t) := hK ▸ pg_lst hc h hn hst
end
/-! ### sums -/
def S (n : Nat) (f : Nat → Int) : Int := ((List.range n).map f).sum
section
variable {n m k : Nat} {f g : Nat → Int}
theorem S_zero : S 0 f = 0 := rfl
theorem S_succ : S (n + 1) f = S n f + f n := by
  unfold S
  rw [List.range_succ, List.map_append, List.sum_append]
  simp
theorem S_congr : ∀ {n : Nat}, (∀ i, i < n → f i = g i) → S n f = S n g
  | 0, _ => rfl
  | n + 1, h => by rw [S_succ, S_succ, S_congr fun i hi => h i (by omega), h n (by omega)]
theorem S_add : ∀ {n : Nat}, S n (fun i => f i + g i) = S n f + S n g
  | 0 => rfl
  | n + 1 => by rw [S_succ, S_succ, S_succ, S_add]; omega
theorem S_mul (c : Int) : ∀ {n : Nat}, S n (fun i => c * f i) = c * S n f
  | 0 => by rw [S_zero, S_zero, Int.mul_zero]
  | n + 1 => by rw [S_succ, S_succ, S_mul c, Int.mul_add]
theorem S_mulr (c : Int) : ∀ {n : Nat}, S n (fun i => f i * c) = S n f * c
  | 0 => by rw [S_zero, S_zero, Int.zero_mul]
  | n + 1 => by rw [S_succ, S_succ, S_mulr c, Int.add_mul]
theorem S_null (h : ∀ i, i < n → f i = 0) : S n f = 0 := by
  rw [S_congr (g := fun _ => 0) h]
  clear h
  induction n with
  | zero => rfl
  | succ n ih => rw [S_succ, ih]; rfl
theorem S_swap {F : Nat → Nat → Int} : ∀ {n : Nat}, S n (fun i => S m (F i)) = S m (fun j => S n (fun i => F i j))
  | 0 => by
    rw [S_zero]
    exact (S_null fun _ _ => rfl).symm
  | n + 1 => by
    rw [S_succ, S_swap, ← S_add]
    exact S_congr fun j _ => S_succ.symm
theorem S_one : ∀ {n : Nat}, k < n → (∀ i, i < n → i ≠ k → f i = 0) → S n f = f k
  | 0, h, _ => by omega
  | n + 1, h, hz => by
    rw [S_succ]
    by_cases e : k = n
    · subst e
      rw [S_null fun i hi => hz i (by omega) (by omega)]
      omega
    · rw [S_one (n := n) (by omega) fun i hi => hz i (by omega), hz n (by omega) (fun h => e h.symm)]
      omega
theorem S_abs {B : Nat} : ∀ {n : Nat}, (∀ i, i < n → (f i).natAbs ≤ B) → (S n f).natAbs ≤ n * B
  | 0, _ => by simp [S_zero]
  | n + 1, h => by
    rw [S_succ, Nat.succ_mul]
    have h1 := S_abs (n := n) fun i hi => h i (by omega)
    have h2 := h n (by omega)
    omega
end
/-! ### maps of rows -/
def at2 (M : List (List Int)) (i j : Nat) : Int := (M.getD i []).getD j 0
def pbI (w : Nat) (M : List (List Int)) (p : List Int) (i : Nat) : List Int := (List.range w).map fun j => S i fun t => p.getD t 0 * at2 M t j
def pb (w : Nat) (M : List (List Int)) (p : List Int) : List Int := pbI w M p M.length
def sg (many k : Nat) : List Int := (List.range many).map fun j => if j = k then (1 : Int) else 0
def sm (many : Nat) : List (List Int) := (List.range many).map (sg many)
section
variable {w i j : Nat} {M : List (List Int)} {p : List Int} {x : Int} {row : List Int}
theorem pbI_len : (pbI w M p i).length = w := by unfold pbI; rw [List.length_map, List.length_range]
theorem pb_len : (pb w M p).length = w := pbI_len
theorem pbI_get (hj : j < w) : (pbI w M p i)[j]? = some (S i fun t => p.getD t 0 * at2 M t j) := by
  unfold pbI
  rw [List.getElem?_map, List.getElem?_range hj]
  rfl
theorem getD_of {α : Type} {l : List α} {a d : α} (h : l[i]? = some a) : l.getD i d = a := by rw [List.getD_eq_getElem?_getD, h]; rfl
theorem pbI_next {h t : Int} (ep : p[i]? = some x) (eM : M[i]? = some row) (hw : row.length = w) (eh : (pbI w M p i)[j]? = some h) (et : row[j]? = some t) : (pbI w M p (i + 1))[j]? = some (h + x * t) := by
  have hj : j < w := by
    have := (List.getElem?_eq_some_iff.mp et).1
    omega
  rw [pbI_get hj] at eh ⊢
  cases eh
  rw [S_succ, getD_of ep]
  unfold at2
  rw [getD_of eM, getD_of et]
theorem pbI_zero (ep : p[i]? = some 0) : pbI w M p (i + 1) = pbI w M p i := by
  unfold pbI
  refine List.map_congr_left fun j _ => ?_
  rw [S_succ, getD_of ep, Int.zero_mul, Int.add_zero]
theorem pbI_nil : pbI w M p 0 = List.replicate w 0 := by
  unfold pbI
  show (List.range w).map (fun _ => (0 : Int)) = _
  rw [List.map_const', List.length_range]
theorem sg_len {many k : Nat} : (sg many k).length = many := by unfold sg; rw [List.length_map, List.length_range]
theorem sm_len {many : Nat} : (sm many).length = many := by unfold sm; rw [List.length_map, List.length_range]
theorem sg_get {many k : Nat} (hj : j < many) : (sg many k).getD j 0 = if j = k then 1 else 0 := by
  apply getD_of
  unfold sg
  rw [List.getElem?_map, List.getElem?_range hj]
  rfl
theorem sm_row {many : Nat} (hj : j < many) : (sm many).getD j [] = sg many j := by
  apply getD_of
  unfold sm
  rw [List.getElem?_map, List.getElem?_range hj]
  rfl
theorem at2_sm {many : Nat} (hi : i < many) (hj : j < many) : at2 (sm many) i j = if j = i then 1 else 0 := by
  unfold at2
  rw [sm_row hi, sg_get hj]
/-- the same map changes nothing -/
theorem pb_same (h : p.length = w) : pb w (sm w) p = p := by
  apply List.ext_getElem?
  intro j
  by_cases hj : j < w
  · have ep : p[j]? = some (p.getD j 0) := by
      rw [List.getD_eq_getElem?_getD, List.getElem?_eq_getElem (by omega)]
      rfl
    unfold pb
    rw [pbI_get hj, sm_len, ep, S_one (k := j) hj]
    · rw [at2_sm hj hj, if_pos rfl, Int.mul_one]
    · intro i hi ne
      rw [at2_sm hi hj, if_neg (fun e => ne e.symm), Int.mul_zero]
  · rw [List.getElem?_eq_none (by rw [pb_len]; omega), List.getElem?_eq_none (by omega)]
theorem pb_sg (hw : ∀ r ∈ M, r.length = w) {k : Nat} (eM : M[k]? = some row) : pb w M (sg M.length k) = row := by
  have hk : k < M.length := (List.getElem?_eq_some_iff.mp eM).1
  have hr : row.length = w := hw row (List.mem_of_getElem? eM)
  apply List.ext_getElem?
  intro j
  by_cases hj : j < w
  · have ep : row[j]? = some (row.getD j 0) := by
      rw [List.getD_eq_getElem?_getD, List.getElem?_eq_getElem (by omega)]
      rfl
    unfold pb
    rw [pbI_get hj, ep, S_one (k := k) hk]
    · rw [sg_get hk, if_pos rfl, Int.one_mul]
      unfold at2
      rw [getD_of eM]
    · intro i hi ne
      rw [sg_get hi, if_neg ne, Int.zero_mul]
  · rw [List.getElem?_eq_none (by rw [pb_len]; omega), List.getElem?_eq_none (by omega)]
theorem pb_sm (hw : ∀ r ∈ M, r.length = w) : (sm M.length).map (pb w M) = M := by
  apply List.ext_getElem?
  intro k
  by_cases hk : k < M.length
  · have eM : M[k]? = some M[k] := List.getElem?_eq_getElem hk
    unfold sm
    rw [List.getElem?_map, List.getElem?_map, List.getElem?_range hk, eM]
    show some (pb w M (sg M.length k)) = _
    rw [pb_sg hw eM]
  · rw [List.getElem?_eq_none (by rw [List.length_map, sm_len]; omega), List.getElem?_eq_none (by omega)]
/-- one map behind another -/
theorem pb_both {O : List (List Int)} : pb w (O.map (pb w M)) p = pb w M (pb M.length O p) := by
  show pbI w (O.map (pb w M)) p (O.map (pb w M)).length = pbI w M (pb M.length O p) M.length
  rw [List.length_map]
  show (List.range w).map _ = (List.range w).map _
  refine List.map_congr_left fun j hj => ?_
  rw [List.mem_range] at hj
  have e1 : ∀ i, i < O.length → at2 (O.map (pb w M)) i j = S M.length fun t => at2 O i t * at2 M t j := fun i hi => by
    unfold at2
    have eO : O[i]? = some (O.getD i []) := by rw [List.getD_eq_getElem?_getD, List.getElem?_eq_getElem hi]; rfl
    rw [getD_of (l := O.map (pb w M)) (a := pb w M (O.getD i [])) (by rw [List.getElem?_map, eO]; rfl)]
    unfold pb
    rw [getD_of (pbI_get hj)]
    rfl
  rw [S_congr (g := fun i => S M.length fun t => p.getD i 0 * (at2 O i t * at2 M t j)) fun i hi => by rw [e1 i hi, S_mul], S_swap]
  refine S_congr fun t ht => ?_
  rw [getD_of (l := pb M.length O p) (pbI_get ht), ← S_mulr]
  exact S_congr fun i _ => by rw [Int.mul_assoc]
theorem pb_small {B C : Nat} (hp : ∀ x ∈ p, x.natAbs ≤ B) (hM : ∀ r ∈ M, ∀ x ∈ r, x.natAbs ≤ C) : ∀ x ∈ pb w M p, x.natAbs ≤ M.length * (B * C) := fun x hx => by
  obtain ⟨j, _, rfl⟩ := List.mem_map.mp hx
  refine S_abs fun i hi => ?_
  rw [Int.natAbs_mul]
  refine Nat.mul_le_mul ?_ ?_
  · rw [List.getD_eq_getElem?_getD]
    cases e : p[i]? with
    | none => exact Nat.zero_le _
    | some y => exact hp y (List.mem_of_getElem? e)
  · unfold at2
    rw [List.getD_eq_getElem?_getD]
    cases e : (M.getD i [])[j]? with
    | none => exact Nat.zero_le _
    | some y =>
      rw [List.getD_eq_getElem?_getD, List.getElem?_eq_getElem hi] at e
      exact hM _ (List.getElem_mem hi) y (List.mem_of_getElem? e)
end
/-- the promises -/
def sp_single (K : PySem.W.Frag) : Sp := fun vs H Q _ => ∃ (m k : Nat) (F : Hp), vs = [.int (m : Int), .int (k : Int)] ∧ Ex F H ∧ m ≤ 1000 ∧ RetD K F H Q (ti (sg m k))
def sp_same_map (K : PySem.W.Frag) : Sp := fun vs H Q _ => ∃ (n m : Nat) (d : Int) (F : Hp), vs = [.int (n : Int), .int d] ∧ Ex F H ∧ n ≤ 6 ∧ 0 ≤ d ∧ d ≤ 6 ∧ hm d n = (m : Int) ∧ m ≤ 1000 ∧ RetD K F H Q (tti (sm m))
abbrev Wid (w : Nat) (M : List (List Int)) : Prop := ∀ r ∈ M, r.length = w
abbrev Few (p : List Int) : Prop := ∀ x ∈ p, -(2 ^ 64) < x ∧ x < 2 ^ 64
def sp_put_back (K : PySem.W.Frag) : Sp := fun vs H Q _ => ∃ (v1 v2 : V) (M : List (List Int)) (p : List Int) (w : Nat) (F : Hp), vs = [v1, v2] ∧ Ex F H ∧ Dp K F v1 (tti M) ∧ Dp K F v2 (ti p) ∧ M ≠ [] ∧ Wid w M ∧ w ≤ 1000 ∧ M.length ≤ 1000 ∧ p.length = M.length ∧ Few p ∧ RetD K F H Q (ti (pb w M p))
def sp_behind (K : PySem.W.Frag) : Sp := fun vs H Q _ => ∃ (v1 v2 : V) (M O : List (List Int)) (w : Nat) (F : Hp), vs = [v1, v2] ∧ Ex F H ∧ Dp K F v1 (tti M) ∧ Dp K F v2 (tti O) ∧ M ≠ [] ∧ Wid w M ∧ w ≤ 1000 ∧ M.length ≤ 1000 ∧ O.length ≤ 1000 ∧ Wid M.length O ∧ (∀ p ∈ O, Few p) ∧ RetD K F H Q (tti (O.map (pb w M)))
/-- _law_put_back: the width is told -/
def sp_put_backL (K : PySem.W.Frag) : Sp := fun vs H Q _ => ∃ (v1 v2 : V) (M : List (List Int)) (p : List Int) (w : Nat) (F : Hp), vs = [v1, v2, .int (w : Int)] ∧ Ex F H ∧ Dp K F v1 (tti M) ∧ Dp K F v2 (ti p) ∧ Wid w M ∧ w ≤ 1000 ∧ M.length ≤ 1000 ∧ p.length = M.length ∧ Few p ∧ RetD K F H Q (ti (pb w M p))
/-! ### data alike -/
def Al : Nat → PyData → Prop
  | 0, d => ∃ i, d = .int i
  | n + 1, d => ∃ ds, d = .tuple ds ∧ ds.length ≤ 1000 ∧ ∀ x ∈ ds, Al n x
def spA (K : PySem.W.Frag) : Nat → Sp
  | 0 => fun _ _ _ _ => False
  | n + 1 => fun vs H Q _ => ∃ (v1 v2 : V) (d : PyData) (F : Hp), vs = [v1, v2] ∧ Ex F H ∧ Dp K F v1 d ∧ Dp K F v2 d ∧ Al n d ∧ ∀ H', Ex H H' → Q (.bl true) H'
theorem al_ti {p : List Int} (h : p.length ≤ 1000) : Al 1 (ti p) := ⟨_, rfl, by rw [List.length_map]; exact h, fun x hx => by
  obtain ⟨i, _, rfl⟩ := List.mem_map.mp hx
  exact ⟨i, rfl⟩⟩
theorem al_tti {M : List (List Int)} (h : M.length ≤ 1000) (h2 : ∀ p ∈ M, p.length ≤ 1000) : Al 2 (tti M) := ⟨_, rfl, by rw [List.length_map]; exact h, fun x hx => by
  obtain ⟨p, hp, rfl⟩ := List.mem_map.mp hx
  exact al_ti (h2 p hp)⟩
end CB

set_option Elab.async false
set_option linter.all false
set_option maxRecDepth 100000
set_option maxHeartbeats 2000000
/-! max(a list of numbers, default=d) -/
namespace CB
open PySem PySem.Spec PyProof.Rows L2
def IsMx (num : Nat → Int) (j : Nat) (b : Int) : Prop := (∃ i, i < j ∧ num i = b) ∧ ∀ i, i < j → num i ≤ b
def Best (num : Nat → Int) (j : Nat) (old : Array Value) : Prop := (old = #[] ∧ j = 0) ∨ ∃ b t, old = #[.int b t, .int b t] ∧ IsMx num j b
def OutD (num : Nat → Int) (n : Nat) (d v : Value) : Prop := (n = 0 ∧ v = d) ∨ ∃ b t, v = .int b t ∧ IsMx num n b
section
variable {prog : Program} {w : World} {A : Around} {R : Result → Shared → Prop} {I : Addr} {fp wr : List Addr} {n : Nat} {P : Nat → Value → Prop} {St : Nat → Heap → Prop}
theorem IsMx.up {num : Nat → Int} {j : Nat} {b : Int} (h : IsMx num j b) (hg : num j > b) : IsMx num (j + 1) (num j) := ⟨⟨j, by omega, rfl⟩, fun i hi => by
  by_cases e : i = j
  · rw [e]; omega
  · have := h.2 i (by omega); omega⟩
theorem IsMx.stay {num : Nat → Int} {j : Nat} {b : Int} (h : IsMx num j b) (hg : ¬ num j > b) : IsMx num (j + 1) b := ⟨by obtain ⟨i, hi, e⟩ := h.1; exact ⟨i, by omega, e⟩, fun i hi => by
  by_cases e : i = j
  · rw [e]; omega
  · exact h.2 i (by omega)⟩
theorem max_loopD (W : Walks prog w A.in1 I fp wr n P St) {num : Nat → Int} (hnum : ∀ i v, P i v → ∃ t, v = .int (num i) t) (d : Value) {B : Addr} (hB : B ∉ fp) :
    ∀ (k j : Nat) (s : Shared) (old : Array Value) (c : Nat), n - j = k → j ≤ n → St j s.heap → Best num j old → s.heap.get? B = some { cls := .type "list", dict := none, data := .seq old c, slots := #[] } →
    (∀ v h' tk, OutD num n d v → (∀ b o, b ∉ wr → b ≠ B → s.heap.get? b = some o → h'.get? b = some o) → R (.ok (.ret v)) { s with heap := h', toks := tk }) →
    codeAny (model prog w) A (.builtin "max.loop" ⟨[.ref I, .none, .ref B], [("default", d)]⟩) R s := by
  have hBw : B ∉ wr := fun h => hB (W.sub _ h)
  have hname : (toString "max" ++ toString ".loop" : String) = "max.loop" := by decide
  intro k
  induction k with
  | zero =>
    intro j s old c hk hj hst hbest hS hR
    have hin : j = n := by omega
    subst hin
    refine codeAny_builtin F.entry_max_loop ?_
    rw [Around.under_plainId F.plain_max_loop _]
    show wpAny _ A.in1 (seqItems? (.ref B) >>= _) _ _ s
    refine wpAny_bind (wpAny_seqItems hS rfl ?_)
    show wpAny _ A.in1 (tryCatch (pyNext (.ref I)) _ >>= _) _ _ s
    refine wpAny_bind (wpAny_tryCatch (W.done s _ _ hst fun h' tk hk' => ?_))
    have hS' := hk' B _ hBw hS
    rcases hbest with ⟨rfl, h0⟩ | ⟨b, t, rfl, hm⟩
    · exact wpAny_bind (wpAny_rule (wpAny_pure (hR d h' tk (.inl ⟨h0, rfl⟩) fun b o hbw _ e => hk' b o hbw e)))
    · show wpAny _ A.in1 (updateSeq B (fun _ => #[]) >>= _) _ _ _
      refine wpAny_bind (wpAny_updateSeq hS' rfl (wpAny_bind (wpAny_letGo (wpAny_pure ?_))))
      exact hR _ _ tk (.inr ⟨b, t, rfl, hm⟩) fun x o hbw hbS e => (Heap.get?_update_other _ _ (Ne.symm hbS)).trans (hk' x o hbw e)
  | succ k ih =>
    intro j s old c hk hj hst hbest hS hR
    have hlt : j < n := by omega
    refine codeAny_builtin F.entry_max_loop ?_
    rw [Around.under_plainId F.plain_max_loop _]
    show wpAny _ A.in1 (seqItems? (.ref B) >>= _) _ _ s
    refine wpAny_bind (wpAny_seqItems hS rfl ?_)
    show wpAny _ A.in1 (tryCatch (pyNext (.ref I)) _ >>= _) _ _ s
    refine wpAny_bind (wpAny_tryCatch (W.item j s _ _ hlt hst fun v h' tk hP hst' hk' => ?_))
    have hS' := hk' B _ hBw hS
    obtain ⟨u, rfl⟩ := hnum j v hP
    -- the rest, once the best stands
    have go : ∀ (h2 : Heap) (tk2 : Nat) (old2 : Array Value) (c2 : Nat), St (j + 1) h2 → Best num (j + 1) old2 → h2.get? B = some { cls := .type "list", dict := none, data := .seq old2 c2, slots := #[] } → (∀ b o, b ∉ wr → b ≠ B → s.heap.get? b = some o → h2.get? b = some o) →
        codeAny (model prog w) A (.builtin "max.loop" ⟨[.ref I, .none, .ref B], [("default", d)]⟩) R { s with heap := h2, toks := tk2 } := fun h2 tk2 old2 c2 st2 b2 g2 k2 =>
      ih (j + 1) { s with heap := h2, toks := tk2 } old2 c2 (by omega) hlt st2 b2 g2 fun v' h'' tk'' ho hk'' => hR v' h'' tk'' ho fun b o hbw hbS e => hk'' b o hbw hbS (k2 b o hbw hbS e)
    have fr : ∀ (h2 : Heap), (∀ b, b ≠ B → h2.get? b = h'.get? b) → St (j + 1) h2 := fun h2 q => W.frame _ _ _ hst' fun b hbf o e => (q b fun z => hB (z ▸ hbf)).trans e
    rcases hbest with ⟨rfl, h0⟩ | ⟨b, t, rfl, hm⟩
    · show wpAny _ A.in1 (updateSeq B (fun _ => #[Value.int (num j) u, Value.int (num j) u]) >>= _) _ _ _
      refine wpAny_bind (wpAny_updateSeq hS' rfl ?_)
      rw [hname]
      refine wpAny_pure ⟨plainId_quiet F.plain_max_loop _, go _ tk _ _ (fr _ fun b hb => Heap.get?_update_other _ _ (Ne.symm hb)) (.inr ⟨num j, u, rfl, ⟨j, by omega, rfl⟩, fun i hi => ?_⟩) (Heap.get?_update_self _ hS' rfl) fun x o hbw hbS e => (Heap.get?_update_other _ _ (Ne.symm hbS)).trans (hk' x o hbw e)⟩
      have : i = j := by omega
      rw [this]
      exact Int.le_refl _
    · show wpAny _ A.in1 (tryCatch (holding [Value.int (num j) u, Value.int (num j) u] (richCompare .Gt (Value.int (num j) u) (Value.int b t) >>= _)) _ >>= _) _ _ _
      have hcmp := CmpOf.ints_gt (prog := prog) (w := w) (A := A.in1) (P := fun i v => ∃ t, v = Value.int (if i = 0 then num j else b) t) (fun i => if i = 0 then num j else b) (fun i v h => h)
      refine wpAny_bind (wpAny_tryCatch (wpAny_holding (wpAny_bind (hcmp 0 1 _ _ _ _ _ ⟨u, rfl⟩ ⟨t, rfl⟩ ?_))))
      refine wpAny_bind (wpAny_holding (wpAny_truthy_bool ?_))
      refine wpAny_bind (wpAny_letGo (wpAny_pure ?_))
      by_cases hg : num j > b
      · have e : decide ((if (0 : Nat) = 0 then num j else b) > if (1 : Nat) = 0 then num j else b) = true := decide_eq_true hg
        rw [if_pos e]
        refine wpAny_bind ?_
        refine wpAny_updateSeq hS' rfl (wpAny_bind (wpAny_letGo ?_))
        rw [hname]
        exact wpAny_pure ⟨plainId_quiet F.plain_max_loop _, go _ tk _ _ (fr _ fun b hb => Heap.get?_update_other _ _ (Ne.symm hb)) (.inr ⟨num j, u, rfl, hm.up hg⟩) (Heap.get?_update_self _ hS' rfl) fun x o hbw hbS e => (Heap.get?_update_other _ _ (Ne.symm hbS)).trans (hk' x o hbw e)⟩
      · have e : decide ((if (0 : Nat) = 0 then num j else b) > if (1 : Nat) = 0 then num j else b) = false := decide_eq_false hg
        rw [if_neg (fun h => Bool.false_ne_true (e.symm.trans h))]
        refine wpAny_bind (wpAny_letGo ?_)
        rw [hname]
        exact wpAny_pure ⟨plainId_quiet F.plain_max_loop _, go _ tk _ _ hst' (.inr ⟨b, t, rfl, hm.stay hg⟩) hS' fun x o hbw _ e => hk' x o hbw e⟩
theorem args_maxD (a d : Value) : argsOk "max" ⟨[a], [("default", d)]⟩ := by unfold argsOk; kernel_rfl
theorem tree_kw {E : Value → Shared → Prop} {s : Shared} {id : String} {b : Builtin} {args : List Value} {kw : List (Str × Value)} {Q : Value → Shared → Prop} (hk : builtinKind id = none) (hp : plainId id = true) (hb : entryFor table id = some b) (ha : argsOk id ⟨args, kw⟩)
    (hc : wpAny (model prog w) A.in1 (b ⟨args, kw⟩) (fun fin s' => match fin with
      | .done f => (match (Except.ok f : Result) with | .ok (.ret v) => Q v s' | .ok _ => False | .error e => E e s')
      | .again c' => c'.quiet = true ∧ codeAny (model prog w) A c' (fun r s' => match r with | .ok (.ret v) => Q v s' | .ok _ => False | .error e => E e s') s') E s) :
    wpAny (model prog w) A (call (.builtin id) args kw) Q E s := by
  refine wpAny_call (codeAny_call_builtin hp hb ?_)
  simp only [checkBuiltinCall, hk]
  cases hsig : Manifest.signature? id with
  | none => exact wpAny_pure hc
  | some sig =>
    simp only [argsOk, hsig] at ha
    have h2 : Bind.checkArgs id sig ⟨args, kw⟩ = pure () := ha
    show wpAny _ A.in1 (Bind.checkArgs id sig ⟨args, kw⟩) _ _ s
    rw [h2]
    exact wpAny_pure hc
theorem maxD_list {E : Value → Shared → Prop} {s : Shared} {l : Addr} {xs : Array (Int × Tok)} {d : Value} {Q : Value → Shared → Prop} (hh : A.handled = none) (hl : s.heap.IsList l (intItems xs))
    (h : ∀ v h' tk, OutD (numAt xs) xs.size d v → (∀ b o, s.heap.get? b = some o → h'.get? b = some o) → Q v { s with heap := h', toks := tk }) :
    wpAny (model prog w) A (call (.builtin "max") [.ref l] [("default", d)]) Q E s := by
  have hname : (toString "max" ++ toString ".loop" : String) = "max.loop" := by decide
  refine tree_kw F.kind_max F.plain_max F.entry_max (args_maxD _ _) ?_
  show wpAny _ A.in1 (Builtin.Builtins.bindParams "max" ["key", "default"] 0 ⟨[], [("default", d)]⟩ >>= _) _ _ s
  refine wpAny_bind (wpAny_of_eq (show Builtin.Builtins.bindParams "max" ["key", "default"] 0 ⟨[], [("default", d)]⟩ = pure [none, some d] from rfl) ?_)
  refine wpAny_bind (wpAny_pure ?_)
  refine wpAny_bind (iter_intList hl fun s₂ e st hfp hne => ?_)
  subst e
  refine wpAny_bind (wpAny_newObj_type ?_)
  rw [hname]
  have W := Walks.list (prog := prog) (w := w) (A := A.in1) hh _ l hne (intItems xs)
  have hsz : (intItems xs).size = xs.size := by unfold intItems; exact Array.size_map
  refine wpAny_pure ⟨plainId_quiet F.plain_max_loop _, max_loopD W (num := numAt xs) (fun i v => intItems_at) d (fun hm => Nat.lt_irrefl _ (hfp _ hm)) _ 0 _ #[] _ rfl (Nat.zero_le _) (W.frame _ _ _ st fun b _ o e => Heap.get?_push_of_some _ e) (.inl ⟨rfl, rfl⟩) (Heap.get?_push_size _ rfl) fun v h' tk ho hk => ?_⟩
  rw [hsz] at ho
  refine h v h' tk ho fun b o e => ?_
  have e1 := Heap.lt_size e
  refine hk b o (fun hm => ?_) (fun hm => ?_) (Heap.get?_push_of_some _ (Heap.get?_push_of_some _ e))
  · rw [List.mem_singleton.mp hm] at e1
    exact Nat.lt_irrefl _ e1
  · rw [hm] at e1
    have : s.heap.objs.size ≤ (s.heap.push { cls := .type "list_iterator", data := .fields #[.ref l, .int 0 0] }).objs.size := by rw [Heap.size_push]; omega
    exact absurd e1 (Nat.not_lt.mpr this)
end
/-- the greatest of a list, or what is said for none -/
def mxD (d : Int) : List Int → Int
  | [] => d
  | n :: r => r.foldl max n
theorem foldl_max_le : ∀ (r : List Int) (n : Int), n ≤ r.foldl max n ∧ ∀ x ∈ r, x ≤ r.foldl max n
  | [], n => ⟨Int.le_refl _, fun x hx => by cases hx⟩
  | y :: r, n => by
    obtain ⟨h1, h2⟩ := foldl_max_le r (max n y)
    show n ≤ r.foldl max (max n y) ∧ _
    refine ⟨by omega, fun x hx => ?_⟩
    rcases List.mem_cons.mp hx with rfl | hx
    · show x ≤ r.foldl max (max n x)
      omega
    · exact h2 x hx
theorem foldl_max_mem : ∀ (r : List Int) (n : Int), r.foldl max n ∈ n :: r
  | [], n => List.mem_cons_self
  | y :: r, n => by
    have h := foldl_max_mem r (max n y)
    show r.foldl max (max n y) ∈ _
    rcases List.mem_cons.mp h with h | h
    · rw [h]
      by_cases e : n ≤ y
      · rw [Int.max_eq_right e]; simp
      · rw [Int.max_eq_left (by omega)]; simp
    · exact List.mem_cons_of_mem _ (List.mem_cons_of_mem _ h)
theorem mxD_of {d : Int} {ns : List Int} {M : Int} (h : M ∈ ns) (h2 : ∀ x ∈ ns, x ≤ M) : mxD d ns = M := by
  cases ns with
  | nil => cases h
  | cons n r =>
    obtain ⟨h3, h4⟩ := foldl_max_le r n
    have h5 := foldl_max_mem r n
    have h6 := h2 _ h5
    show r.foldl max n = M
    rcases List.mem_cons.mp h with rfl | h
    · omega
    · have := h4 M h; omega
theorem maxD_raw {prog : Program} {w : World} {A : Around} {E : Value → Shared → Prop} {s : Shared} {l : Addr} {its : List Value} {ns : List Int} {d : Int} {t : Tok} {Q : Value → Shared → Prop} (hh : A.handled = none) (hl : s.heap.IsList l its.toArray) (hi : IntsAre its ns)
    (h : ∀ h' tk t', (∀ b o, s.heap.get? b = some o → h'.get? b = some o) → Q (.int (mxD d ns) t') { s with heap := h', toks := tk }) : wpAny (model prog w) A (call (.builtin "max") [.ref l] [("default", .int d t)]) Q E s := by
  obtain ⟨xs, e⟩ := hi.allInts.items
  have hn : numsOf (intItems xs).toList = ns := by rw [← e]; exact hi.numsOf
  rw [nums_intItems] at hn
  subst hn
  rw [e] at hl
  refine maxD_list hh hl fun v h' tk ho hk => ?_
  rcases ho with ⟨h0, rfl⟩ | ⟨b, t', rfl, ⟨i, hi, rfl⟩, hm2⟩
  · have e0 : xs.toList = [] := List.length_eq_zero_iff.mp (by rw [Array.length_toList]; exact h0)
    have := h h' tk t hk
    rw [e0] at this
    exact this
  · rw [← mxD_of (d := d) (ns := xs.toList.map (·.1)) (M := numAt xs i)]
    · exact h h' tk t' hk
    · rw [numAt_eq]; exact PySem.getD_mem (by rw [List.length_map, Array.length_toList]; omega)
    · intro a ha
      obtain ⟨j, hj, rfl⟩ := mem_getD ha
      rw [List.length_map, Array.length_toList] at hj
      rw [← numAt_eq]
      exact hm2 j (by omega)
def tMaxD (K : PySem.W.Frag) (t : TA) (tk : TA) : TE := fun σ H Q => t σ H fun vs H1 => tk σ H1 fun zs H2 => ∃ (a : Addr) (ns : List Int) (d : Int), vs = [V.ref a] ∧ zs = [V.int d] ∧ SqL K H2 a (ns.map V.int) ∧ Q (.int (mxD d ns)) H2
theorem pe_maxD {X : Cx} {K : PySem.W.Frag} {p pos kpos : Pos} {e e2 : Expr} {t tk : TA} (hc : X.calm = true) (hg : Gl X "max") (hm : X.mg "max" = none) (ha : PA X [e] t) (hk : PK X [⟨some "default", e2, kpos⟩] tk) (hK : X.K = K := by rfl)
    (he : backTo pos (starEach [e] X.env) = (false, eval e X.env) :: backTo pos (starEach [] X.env) := by rfl) (hpl : (backTo pos (starEach [e] X.env)).any (·.1) = false := by rfl) :
    PE X (.Call (.Name "max" p) [e] [⟨some "default", e2, kpos⟩] pos) (tMaxD K t tk) := by
  subst hK
  refine ⟨fun pins s σ H Q I h => ?_⟩
  refine wpAny_Call_Name_kw (ld_blt I hg hm bt_max ?_ (by decide) (by decide))
  refine PyProof.Rows.callWith_kw (thn (ha.run pos pins s σ H _ I h) fun us s1 ⟨vs, H1, I1, r1, q1⟩ => thn (hk.run pos pins s1 σ H1 _ I1 q1) fun ws s2 ⟨zs, H2, I2, r2, q2⟩ => ?_) he hpl
  obtain ⟨a, ns, d, rfl, rfl, hs, q⟩ := q2
  obtain ⟨its, rv, hl, _⟩ := I2.list hs
  rw [Vals.ref1 r1]
  obtain ⟨u, rfl, tt, rfl⟩ := vals1 r2
  exact maxD_raw (I2.ok.hd hc) hl.isList rv.ints fun h' tk t' hk => ⟨.int _, H2, I2.kept hk, ⟨_, rfl⟩, q⟩
end CB

set_option Elab.async false
set_option linter.all false
set_option maxRecDepth 100000
set_option maxHeartbeats 2000000
/-! a tuple times a number, once or more -/
namespace CB
open PySem PySem.Spec PyProof.Rows L2
theorem tuple_mul1 (l : Addr) (items : Array Value) (n : Nat) (dd : Option Addr) (sl : Array (Option Value)) (u : Tok) :
    Meets (Builtin.«tuple.__mul__» ⟨[.ref l, .int 1 u], []⟩) (fun _ R s => s.heap.get? l = some { cls := .type "tuple", dict := dd, data := .seq items n, slots := sl } ∧ R (.ok (.ret (Value.ref l))) s) :=
  .of_wp fun prog w A R s h => by
    obtain ⟨hp, g, d, tk, os⟩ := s
    obtain ⟨hl, h⟩ := h
    have f1 := AutoSeq1.idx_int
    wp_walk using wpAny_loadPart' hl
    exact ⟨_, rfl, h⟩
def rRepT1 (K : PySem.W.Frag) : R2 := fun x y H Q => ∃ l k xs, x = .ref l ∧ y = .int k ∧ SqT K H l xs ∧ xs ≠ [] ∧ 1 ≤ k ∧ k ≤ 1000 ∧ xs.length ≤ 1000 ∧ (k = 1 → Q (.ref l) H) ∧ ∀ p, H p = none → Q (.ref p) (upd H p (.tup (List.replicate k.toNat xs).flatten))
theorem op_repT1 {X : Cx} {K : PySem.W.Frag} (hK : X.K = K := by rfl) : OpR X (binaryOp .Mult) (rRepT1 K) := by
  subst hK
  intro pins s σ H x y v u Q I rx ry h
  obtain ⟨l, k, xs, rfl, rfl, hT, hne, h1, h2, hz, q1, q⟩ := h
  by_cases e : k = 1
  · subst e
    cases rx
    obtain ⟨t, rfl⟩ := ry
    obtain ⟨its, r, ⟨⟨cls, dd, data, sl⟩, ho, hc, n, hd⟩, hs⟩ := I.tuple hT
    simp only at hc hd
    subst hc hd
    exact wpAny_binaryOp_repeat_ref (T := "tuple") (U := "int") (by decide) ⟨_, ho, rfl⟩ (fun s' => typeIs_int s' 1 t) noFill_tuple_mul F.fills_int_mul F.slot_int_rmul repeat_tuple F.slot_int_index.lookup
      (call_meets F.slot_int_rmul (typeIs_int s 1 t) F.entry_int_rmul (F.args_int_rmul_2 _ _) (int_rmul_tuple 1 t l its.toArray n dd sl)
        ⟨ho, rfl, ⟨_, ho, rfl⟩, call_meets F.slot_tuple_mul ⟨_, ho, rfl⟩ F.entry_tuple_mul (F.args_tuple_mul_2 _ _) (tuple_mul1 l its.toArray n dd sl t) ⟨ho, ⟨.ref l, H, I, rfl, q1 rfl⟩⟩⟩)
  · exact op_repT pins s σ H _ _ v u Q I rx ry ⟨l, k, xs, rfl, rfl, hT, hne, by omega, h2, hz, q⟩
/-! ### what was not frozen and stood stays unfrozen, beside the deal -/
structure Nf (F H F' : Hp) : Prop where
  ex : Ex F F'
  nf : ∀ a, F a = none → H a ≠ none → F' a = none
section
variable {d l z : Addr} {F H F1 H1 F2 H2 : Hp} {o : HO}
theorem Wr.alive (W : Wr d l F1 H1) (k : Kp d l H H1) {a : Addr} (h : H a ≠ none) : H1 a ≠ none := by
  obtain ⟨s, n, ls, D⟩ := W.deal
  by_cases e1 : a = d
  · rw [e1, D.hd]; exact fun h => by cases h
  · by_cases e2 : a = l
    · rw [e2, D.hl]; exact fun h => by cases h
    · cases q : H a with
      | none => exact absurd q h
      | some u => rw [k a u e1 e2 q]; exact fun h => by cases h
theorem Nf.refl : Nf F H F := ⟨Evl.Ex.refl _, fun _ e _ => e⟩
theorem Nf.new (h : Nf F H F1) (W : Wr d l F1 H1) (k : Kp d l H H1) (hz : H1 z = none) : Nf F H (upd F1 z o) :=
  ⟨h.ex.trans (Evl.Ex.new (sub_none W.sub hz)), fun a e1 e2 => by
    have ne : a ≠ z := fun e => W.alive k e2 (by rw [e]; exact hz)
    rw [upd_ne ne]
    exact h.nf a e1 e2⟩
theorem Nf.gr (h : Nf F H F1) (W : Wr d l F1 H1) (k : Kp d l H H1) (g : Gr NoS F1 H1 F2 H2) : Nf F H F2 := ⟨h.ex.trans g.fz, fun a e1 e2 => g.nf a (h.nf a e1 e2) (W.alive k e2)⟩
theorem Nf.trans (h : Nf F H F1) (W : Wr d l F1 H1) (k : Kp d l H H1) (g : Nf F1 H1 F2) : Nf F H F2 := ⟨h.ex.trans g.ex, fun a e1 e2 => g.nf a (h.nf a e1 e2) (W.alive k e2)⟩
end
theorem cut_mem {xs : List V} {lo hi : Option Int} {y : V} (h : y ∈ cutV xs lo hi) : y ∈ xs := by
  unfold cutV at h
  exact List.mem_of_mem_drop (List.mem_of_mem_take h)
theorem cut_len (xs : List V) (lo hi : Option Int) : (cutV xs lo hi).length ≤ xs.length := by
  unfold cutV
  rw [List.length_take, List.length_drop]
  omega
/-! ### rows made bare -/
/-- the common part of a row -/
def gcF (g : Nat) (row : List Int) : Nat := row.foldl (fun g x => Nat.gcd g x.natAbs) g
def gc (row : List Int) : Nat := gcF 0 row
/-- the last number that is not 0, or 0 -/
def ls : List Int → Int
  | [] => 0
  | x :: r => if ls r = 0 then x else ls r
/-- what a row is divided by -/
def sc (row : List Int) : Int := if ls row < 0 then 0 - (gc row : Int) else gc row
def bareL (row : List Int) : List Int := if gc row = 0 then row else row.map fun x => x.fdiv (sc row)
theorem gcF_snoc (g : Nat) (row : List Int) (x : Int) : gcF g (row ++ [x]) = Nat.gcd (gcF g row) x.natAbs := by
  unfold gcF
  rw [List.foldl_append]
  rfl
theorem gcF_dvd : ∀ (row : List Int) (g : Nat), gcF g row ∣ g ∧ ∀ x ∈ row, gcF g row ∣ x.natAbs
  | [], g => ⟨Nat.dvd_refl _, fun x hx => by cases hx⟩
  | y :: r, g => by
    obtain ⟨h1, h2⟩ := gcF_dvd r (Nat.gcd g y.natAbs)
    refine ⟨Nat.dvd_trans h1 (Nat.gcd_dvd_left _ _), fun x hx => ?_⟩
    rcases List.mem_cons.mp hx with rfl | hx
    · exact Nat.dvd_trans h1 (Nat.gcd_dvd_right _ _)
    · exact h2 x hx
theorem gcF_mul (c : Int) : ∀ (row : List Int) (g : Nat), gcF (c.natAbs * g) (row.map fun x => c * x) = c.natAbs * gcF g row
  | [], g => rfl
  | y :: r, g => by
    show gcF (Nat.gcd (c.natAbs * g) (c * y).natAbs) (r.map fun x => c * x) = c.natAbs * gcF (Nat.gcd g y.natAbs) r
    rw [Int.natAbs_mul, Nat.gcd_mul_left, gcF_mul c r]
theorem gc_mul (c : Int) (row : List Int) : gc (row.map fun x => c * x) = c.natAbs * gc row := by
  have := gcF_mul c row 0
  rw [Nat.mul_zero] at this
  exact this
theorem gc_zero {row : List Int} : gc row = 0 → ∀ x ∈ row, x = 0 := fun h x hx => by
  have := (gcF_dvd row 0).2 x hx
  unfold gc at h
  rw [h, Nat.zero_dvd] at this
  omega
theorem ls_mul {c : Int} (hc : c ≠ 0) : ∀ row : List Int, ls (row.map fun x => c * x) = c * ls row
  | [] => by simp [ls]
  | x :: r => by
    show (if ls (r.map fun x => c * x) = 0 then c * x else ls (r.map fun x => c * x)) = c * (if ls r = 0 then x else ls r)
    rw [ls_mul hc r]
    by_cases h : ls r = 0
    · rw [if_pos h, if_pos (by rw [h, Int.mul_zero])]
    · rw [if_neg h, if_neg (Int.mul_ne_zero hc h)]
theorem ls_mem : ∀ {row : List Int}, ls row ≠ 0 → ls row ∈ row
  | [], h => absurd rfl h
  | x :: r, h => by
    show (if ls r = 0 then x else ls r) ∈ _
    by_cases e : ls r = 0
    · rw [if_pos e]; exact List.mem_cons_self
    · rw [if_neg e]; exact List.mem_cons_of_mem _ (ls_mem e)
theorem ls_zero : ∀ {row : List Int}, ls row = 0 → ∀ x ∈ row, x = 0
  | [], _, x, hx => by cases hx
  | y :: r, h, x, hx => by
    have h' : (if ls r = 0 then y else ls r) = 0 := h
    by_cases e : ls r = 0
    · rw [if_pos e] at h'
      rcases List.mem_cons.mp hx with rfl | hx
      · exact h'
      · exact ls_zero e x hx
    · rw [if_neg e] at h'
      exact absurd h' e
theorem ls_null : ∀ {row : List Int}, (∀ x ∈ row, x = 0) → ls row = 0
  | [], _ => rfl
  | y :: r, h => by
    show (if ls r = 0 then y else ls r) = 0
    rw [if_pos (ls_null fun x hx => h x (List.mem_cons_of_mem _ hx))]
    exact h y List.mem_cons_self
theorem gc_pos {row : List Int} (h : ls row ≠ 0) : gc row ≠ 0 := fun e => h (gc_zero e _ (ls_mem h))
theorem sc_ne {row : List Int} (h : gc row ≠ 0) : sc row ≠ 0 := by
  unfold sc
  split <;> omega
theorem sc_abs {row : List Int} : (sc row).natAbs = gc row := by
  unfold sc
  split <;> omega
theorem sc_mul {row : List Int} (h : gc row ≠ 0) {x : Int} (hx : x ∈ row) : x = sc row * x.fdiv (sc row) := by
  have hd : sc row ∣ x := Int.natAbs_dvd_natAbs.mp (by rw [sc_abs]; exact (gcF_dvd row 0).2 x hx)
  exact (Int.mul_fdiv_cancel' hd).symm
theorem bare_mul {row : List Int} (h : gc row ≠ 0) : row = (bareL row).map fun x => sc row * x := by
  unfold bareL
  rw [if_neg h, List.map_map]
  conv => lhs; rw [← List.map_id row]
  exact List.map_congr_left fun x hx => sc_mul h hx
theorem bare_gc {row : List Int} (h : gc row ≠ 0) : gc (bareL row) = 1 := by
  have e := congrArg gc (bare_mul h)
  rw [gc_mul, sc_abs] at e
  exact Nat.eq_of_mul_eq_mul_left (Nat.pos_of_ne_zero h) (by omega)
theorem bare_ls {row : List Int} (h : gc row ≠ 0) : ¬ ls (bareL row) < 0 := fun hn => by
  have e := congrArg ls (bare_mul h)
  rw [ls_mul (sc_ne h)] at e
  by_cases hs : ls row < 0
  · have h2 : sc row = 0 - (gc row : Int) := if_pos hs
    have h3 : sc row < 0 := by omega
    have := Int.mul_pos_of_neg_of_neg h3 hn
    omega
  · have h2 : sc row = (gc row : Int) := if_neg hs
    have h3 : 0 < sc row := by omega
    have := Int.mul_neg_of_pos_of_neg h3 hn
    omega
theorem bare_bare (row : List Int) : bareL (bareL row) = bareL row := by
  by_cases h : gc row = 0
  · unfold bareL
    rw [if_pos h, if_pos h]
  · have h1 := bare_gc h
    have h2 : sc (bareL row) = 1 := by
      unfold sc
      rw [if_neg (bare_ls h), h1]
      rfl
    have h3 : bareL (bareL row) = (bareL row).map fun x => x.fdiv (sc (bareL row)) := if_neg (by omega)
    rw [h3, h2]
    conv => rhs; rw [← List.map_id (bareL row)]
    exact List.map_congr_left fun x _ => Int.fdiv_one x
/-- the place of the last number that is not 0 -/
def IsLd (row : List Int) (k : Int) : Prop := (k = -1 ∧ ∀ x ∈ row, x = 0) ∨ ∃ (n : Nat) (x : Int), k = n ∧ row[n]? = some x ∧ x ≠ 0 ∧ ∀ j y, n < j → row[j]? = some y → y = 0
theorem IsLd.uniq {row : List Int} {k k' : Int} (h : IsLd row k) (h' : IsLd row k') : k = k' := by
  rcases h with ⟨rfl, hz⟩ | ⟨n, x, rfl, e, ne, hz⟩
  · rcases h' with ⟨rfl, _⟩ | ⟨m, y, rfl, e', ne', _⟩
    · rfl
    · exact absurd (hz y (List.mem_of_getElem? e')) ne'
  · rcases h' with ⟨rfl, hz'⟩ | ⟨m, y, rfl, e', ne', hz'⟩
    · exact absurd (hz' x (List.mem_of_getElem? e)) ne
    · rcases Nat.lt_trichotomy n m with h | h | h
      · exact absurd (hz m y h e') ne'
      · rw [h]
      · exact absurd (hz' n x h e) ne
theorem IsLd.bare {row : List Int} {k : Int} (h : IsLd (bareL row) k) : IsLd row k := by
  by_cases hg : gc row = 0
  · unfold bareL at h
    rwa [if_pos hg] at h
  · have e := bare_mul hg
    have hs := sc_ne hg
    have get : ∀ j, row[j]? = ((bareL row)[j]?).map fun x => sc row * x := fun j => by
      rw [← List.getElem?_map, ← e]
    rcases h with ⟨rfl, hz⟩ | ⟨n, x, rfl, ex, ne, hz⟩
    · refine .inl ⟨rfl, fun x hx => ?_⟩
      rw [e] at hx
      obtain ⟨y, hy, rfl⟩ := List.mem_map.mp hx
      rw [hz y hy, Int.mul_zero]
    · refine .inr ⟨n, sc row * x, rfl, by rw [get, ex]; rfl, Int.mul_ne_zero hs ne, fun j y hj ey => ?_⟩
      rw [get] at ey
      obtain ⟨z, ez, rfl⟩ := Option.map_eq_some_iff.mp ey
      rw [hz j z hj ez, Int.mul_zero]
theorem ls_get : ∀ {row : List Int} {n : Nat} {x : Int}, row[n]? = some x → x ≠ 0 → (∀ j y, n < j → row[j]? = some y → y = 0) → ls row = x
  | [], _, _, e, _, _ => by simp at e
  | y :: r, 0, x, e, ne, hz => by
    have e' : y = x := by simpa using e
    subst e'
    show (if ls r = 0 then y else ls r) = y
    rw [if_pos]
    exact ls_null fun z hz' => by
      obtain ⟨j, hj, rfl⟩ := List.mem_iff_getElem.mp hz'
      exact hz (j + 1) _ (by omega) (by rw [List.getElem?_cons_succ]; exact List.getElem?_eq_getElem hj)
  | y :: r, n + 1, x, e, ne, hz => by
    have ih := ls_get (row := r) (n := n) (by simpa using e) ne fun j z hj ez => hz (j + 1) z (by omega) (by simpa using ez)
    show (if ls r = 0 then y else ls r) = x
    rw [ih, if_neg ne]
/-- the last of those that are not 0 -/
theorem ls_filter : ∀ row : List Int, (row.filter fun x => decide (x ≠ 0)).getLast? = if ls row = 0 then none else some (ls row)
  | [] => rfl
  | y :: r => by
    have ih := ls_filter r
    show ((y :: r).filter fun x => decide (x ≠ 0)).getLast? = if (if ls r = 0 then y else ls r) = 0 then none else some (if ls r = 0 then y else ls r)
    by_cases h : ls r = 0
    · rw [if_pos h] at ih ⊢
      have e0 : (r.filter fun x => decide (x ≠ 0)) = [] := List.getLast?_eq_none_iff.mp ih
      by_cases hy : y = 0
      · rw [List.filter_cons_of_neg (by simp [hy]), e0, if_pos hy]
        rfl
      · rw [List.filter_cons_of_pos (by simp [hy]), e0, if_neg hy]
        rfl
    · rw [if_neg h] at ih ⊢
      rw [if_neg h]
      by_cases hy : y = 0
      · rw [List.filter_cons_of_neg (by simp [hy]), ih]
      · rw [List.filter_cons_of_pos (by simp [hy]), List.getLast?_cons, ih]
        rfl
end CB

set_option Elab.async false
set_option linter.all false
set_option maxRecDepth 100000
set_option maxHeartbeats 2000000
namespace CB
open PySem PySem.Spec PyProof.Rows L2
/-! ### lists whose things are told one by one -/
inductive F2 {β : Type} (R : V → β → Prop) : List V → List β → Prop
  | nil : F2 R [] []
  | cons {v : V} {b : β} {vs : List V} {bs : List β} : R v b → F2 R vs bs → F2 R (v :: vs) (b :: bs)
section
variable {β : Type} {R R' : V → β → Prop}
theorem F2.length : ∀ {vs : List V} {bs : List β}, F2 R vs bs → vs.length = bs.length
  | _, _, .nil => rfl
  | _, _, .cons _ h => by rw [List.length_cons, List.length_cons, F2.length h]
theorem F2.mono (h : ∀ v b, R v b → R' v b) : ∀ {vs : List V} {bs : List β}, F2 R vs bs → F2 R' vs bs
  | _, _, .nil => .nil
  | _, _, .cons a t => .cons (h _ _ a) (F2.mono h t)
theorem F2.append : ∀ {vs ws : List V} {bs cs : List β}, F2 R vs bs → F2 R ws cs → F2 R (vs ++ ws) (bs ++ cs)
  | _, _, _, _, .nil, h => h
  | _, _, _, _, .cons a t, h => .cons a (F2.append t h)
theorem F2.snoc {vs : List V} {v : V} {bs : List β} {b : β} (h : F2 R vs bs) (k : R v b) : F2 R (vs ++ [v]) (bs ++ [b]) := h.append (.cons k .nil)
theorem F2.get : ∀ {vs : List V} {bs : List β} {i : Nat} {v : V}, F2 R vs bs → vs[i]? = some v → ∃ b, bs[i]? = some b ∧ R v b
  | _, _, _, _, .nil, e => by simp at e
  | _, _, 0, _, .cons h _, e => by simp at e; subst e; exact ⟨_, rfl, h⟩
  | _, _, i + 1, _, .cons _ h, e => by
    obtain ⟨d, e1, e2⟩ := F2.get (i := i) h (by simpa using e)
    exact ⟨d, by simpa using e1, e2⟩
theorem F2.get' : ∀ {vs : List V} {bs : List β} {i : Nat} {b : β}, F2 R vs bs → bs[i]? = some b → ∃ v, vs[i]? = some v ∧ R v b
  | _, _, _, _, .nil, e => by simp at e
  | _, _, 0, _, .cons h _, e => by simp at e; subst e; exact ⟨_, rfl, h⟩
  | _, _, i + 1, _, .cons _ h, e => by
    obtain ⟨d, e1, e2⟩ := F2.get' (i := i) h (by simpa using e)
    exact ⟨d, by simpa using e1, e2⟩
theorem F2.pairs : ∀ {vs : List V} {bs : List β}, F2 R vs bs → ∀ q ∈ vs.zip bs, R q.1 q.2
  | _, _, .nil, q, h => by simp at h
  | _, _, .cons a t, q, h => by
    rw [List.zip_cons_cons] at h
    rcases List.mem_cons.mp h with rfl | h
    · exact a
    · exact F2.pairs t q h
theorem F2.of_pairs : ∀ (l : List (V × β)), (∀ q ∈ l, R q.1 q.2) → F2 R (l.map Prod.fst) (l.map Prod.snd)
  | [], _ => .nil
  | q :: r, h => .cons (h q List.mem_cons_self) (F2.of_pairs r fun x hx => h x (List.mem_cons_of_mem _ hx))
theorem F2.dp {K : PySem.W.Frag} {F : Hp} {enc : β → PyData} (h : ∀ v b, R v b → Dp K F v (enc b)) : ∀ {vs : List V} {bs : List β}, F2 R vs bs → DpAll K F vs (bs.map enc)
  | _, _, .nil => .nil
  | _, _, .cons a t => .cons (h _ _ a) (F2.dp h t)
/-- the values behind a sort by data -/
abbrev srt (xs : List V) (ds : List PyData) : List V := ((xs.zip ds).mergeSort (PySem.W.dataLe false Prod.snd)).map Prod.fst
theorem F2.sort {enc : β → PyData} {vs : List V} {bs : List β} (h : F2 R vs bs) : F2 R (srt vs (bs.map enc)) (bs.mergeSort (PySem.W.dataLe false enc)) := by
  have e1 : vs.zip (bs.map enc) = (vs.zip bs).map fun q => (q.1, enc q.2) := by
    rw [List.zip_map_right]
    rfl
  have e2 : (vs.zip bs).map Prod.snd = bs := List.map_snd_zip (by rw [h.length]; exact Nat.le_refl _)
  have m1 := PySem.W.sort_maps (l := vs.zip bs) (r := PySem.W.dataLe false fun q : V × β => enc q.2) (s := PySem.W.dataLe false Prod.snd) (fun q : V × β => (q.1, enc q.2)) (fun _ _ _ _ => rfl)
  have m2 := PySem.W.sort_maps (l := vs.zip bs) (r := PySem.W.dataLe false fun q : V × β => enc q.2) (s := PySem.W.dataLe false enc) Prod.snd (fun _ _ _ _ => rfl)
  rw [e2] at m2
  unfold srt
  rw [e1, ← m1, ← m2, List.map_map]
  exact F2.of_pairs _ fun q hq => h.pairs q ((List.mergeSort_perm _ _).mem_iff.mp hq)
end
theorem cr_sortP {X : Cx} {K : PySem.W.Frag} (hu : X.A.units + 64 < cLine) (hK : X.K = K := by rfl) : CallR X (.builtin "sorted") (fun vs H Q => ∃ (a : Addr) (xs : List V) (ds : List PyData), vs = [V.ref a] ∧ SqL K H a xs ∧ DpAll K H xs ds ∧ PySem.W.AllAlike ds ∧ PySem.W.Sortable ds ∧ (∀ d ∈ ds, d.depth ≤ 60) ∧
    ∀ p, H p = none → Q (.ref p) (upd H p (.lst (srt xs ds)))) := by
  subst hK
  intro pins s σ H vs us Q I r h
  obtain ⟨a, xs, ds, rfl, hs, hd, hal, hsr, hdp, q⟩ := h
  obtain ⟨its, rv, hl, hz⟩ := I.list hs
  rw [Vals.ref1 r]
  have hlen := DpAll.length hd
  obtain ⟨e1, e2⟩ := each_zip I rv hd
  have esnd := zip_snd hlen
  refine PySem.W.sorted_data (enc := Prod.snd) hl.isList e1 e2 (by rw [esnd]; exact hal) (by rw [esnd]; exact hsr) (by rw [List.length_zip]; omega) (fun p hp => ?_) fun out hout he => ?_
  · have := hdp p.2 (by rw [← esnd]; exact List.mem_map_of_mem hp)
    omega
  · obtain ⟨e, hat⟩ := sortedAll_at s.heap its out.toArray
    have hv := vals_each he
    refine ⟨.ref (s.heap.objs.size + 1), upd H (s.heap.objs.size + 1) (.lst _), I.laid (t' := s.toks) (fun b u eb => sortedAll_old eb) (by omega) (show ObjOk X.prog X.w _ _ _ (.lst _) from ⟨?_, out, e, hv, ?_⟩), rfl, q _ (I.hok.fresh (by omega))⟩
    · rw [List.length_map, List.length_mergeSort, List.length_zip]
      omega
    · exact hat
/-! ### tracked tuples of whole numbers -/
def Tr (F : Hp) (v : V) (p : List Int) : Prop := ∃ a, v = .ref a ∧ F a = some (.tup (p.map V.int))
/-- a pair of a degree and a tracked tuple -/
def Pr (F : Hp) (v : V) (p : List Int) : Prop := ∃ t a, v = .ref t ∧ F t = some (.tup [.int p.sum, .ref a]) ∧ F a = some (.tup (p.map V.int))
section
variable {K : PySem.W.Frag} {F F' : Hp} {v : V} {p : List Int}
theorem Tr.ex (e : Ex F F') (h : Tr F v p) : Tr F' v p := by
  obtain ⟨a, rfl, h⟩ := h
  exact ⟨a, rfl, e _ _ h⟩
theorem Pr.ex (e : Ex F F') (h : Pr F v p) : Pr F' v p := by
  obtain ⟨t, a, rfl, h1, h2⟩ := h
  exact ⟨t, a, rfl, e _ _ h1, e _ _ h2⟩
theorem Tr.dp (h : Tr F v p) : Dp K F v (ti p) := by
  obtain ⟨a, rfl, h⟩ := h
  exact Dp.of_ti (SqT.of h)
theorem Pr.dp (h : Pr F v p) : Dp K F v (encP p) := by
  obtain ⟨t, a, rfl, h1, h2⟩ := h
  exact .tup (SqT.of h1) (.cons (.int _) (.cons (Dp.of_ti (SqT.of h2)) .nil))
abbrev TrAll (F : Hp) : List V → List (List Int) → Prop := F2 (Tr F)
theorem TrAll.ex (e : Ex F F') {vs : List V} {r : List (List Int)} (h : TrAll F vs r) : TrAll F' vs r := F2.mono (fun _ _ => Tr.ex e) h
theorem PrAll.ex (e : Ex F F') {vs : List V} {r : List (List Int)} (h : F2 (Pr F) vs r) : F2 (Pr F') vs r := F2.mono (fun _ _ => Pr.ex e) h
theorem TrAll.dp {vs : List V} {r : List (List Int)} (h : TrAll F vs r) : DpAll K F vs (r.map ti) := F2.dp (enc := ti) (fun _ _ h => Tr.dp h) h
end
/-- the promise: a new list of tracked tuples -/
def sp_productsT : Sp := fun vs H Q _ => ∃ (n : Nat) (d : Int) (F : Hp), vs = [.int (n : Int), .int d] ∧ Ex F H ∧ n ≤ 6 ∧ 0 ≤ d ∧ d ≤ 6 ∧
  ∀ p xs F' H', H p = none → Gr NoS F H F' H' → F' p = none → H' p = some (.lst xs) → TrAll F' xs (prods n d) → Q (.ref p) H'
end CB

set_option Elab.async false
set_option linter.all false
set_option maxRecDepth 100000
set_option maxHeartbeats 2000000
namespace CB
open PySem PySem.Spec PyProof.Rows L2
/-! ### products: which they are, each once -/
theorem snoc_inj {p q : List Int} {x y : Int} (h : p ++ [x] = q ++ [y]) : p = q ∧ x = y := by
  have := List.append_inj' h rfl
  exact ⟨this.1, by simpa using this.2⟩
theorem raw_nodup (d : Int) : ∀ n : Nat, (raw d n).Nodup
  | 0 => by
    show [([] : List Int)].Nodup
    simp
  | n + 1 => by
    show ((raw d n).flatMap (ext d)).Nodup
    unfold List.Nodup
    rw [List.pairwise_flatMap]
    refine ⟨fun p _ => ?_, (raw_nodup d n).imp fun {p q} hne x hx y hy e => ?_⟩
    · unfold ext
      rw [List.pairwise_map]
      exact List.nodup_range.imp fun {a b} hab e => hab (by have := (snoc_inj e).2; omega)
    · obtain ⟨a, rfl, _⟩ := ext_mem hx
      obtain ⟨b, rfl, _⟩ := ext_mem hy
      exact hne (snoc_inj e).1
theorem raw_of {d : Int} : ∀ (n : Nat) (p : List Int), p.length = n → (∀ x ∈ p, 0 ≤ x) → p.sum ≤ d → p ∈ raw d n
  | 0, p, hl, _, _ => by
    have : p = [] := List.length_eq_zero_iff.mp hl
    subst this
    exact List.mem_singleton.mpr rfl
  | n + 1, p, hl, hx, hs => by
    have hne : p ≠ [] := fun e => by rw [e] at hl; simp at hl
    have e : p = p.dropLast ++ [p.getLast hne] := (List.dropLast_concat_getLast hne).symm
    have hlast : 0 ≤ p.getLast hne := hx _ (List.getLast_mem hne)
    have hsum : p.sum = p.dropLast.sum + p.getLast hne := by
      conv => lhs; rw [e]
      exact sum_snoc _ _
    have hq := raw_of (d := d) n p.dropLast (by rw [List.length_dropLast, hl]; rfl) (fun x h => hx x (List.dropLast_subset _ h)) (by omega)
    show p ∈ (raw d n).flatMap (ext d)
    refine List.mem_flatMap.mpr ⟨p.dropLast, hq, ?_⟩
    unfold ext
    refine List.mem_map.mpr ⟨(p.getLast hne).toNat, List.mem_range.mpr (by omega), ?_⟩
    rw [Int.toNat_of_nonneg hlast]
    exact e.symm
theorem prods_nodup (n : Nat) (d : Int) : (prods n d).Nodup := (List.mergeSort_perm _ _).nodup_iff.mpr (raw_nodup d n)
theorem prods_of {n : Nat} {d : Int} {p : List Int} (hl : p.length = n) (hx : ∀ x ∈ p, 0 ≤ x) (hs : p.sum ≤ d) : p ∈ prods n d := prods_mem.mpr (raw_of n p hl hx hs)
section
variable {s n : Nat} {d : Int} {p o : List Int}
theorem sum_split (p : List Int) (s : Nat) : p.sum = (p.take s).sum + (p.drop s).sum := by
  conv => lhs; rw [← List.take_append_drop s p]
  exact List.sum_append
theorem take_prods (hd : 0 ≤ d) (hs : s ≤ n) (h : p ∈ prods n d) : p.take s ∈ prods s d := by
  obtain ⟨h1, h2, h3, h4⟩ := prods_ok hd h
  refine prods_of (by rw [List.length_take]; omega) (fun x hx => h4 x (List.mem_of_mem_take hx)) ?_
  have e := sum_split p s
  have := sum_nonneg (p := p.drop s) fun x hx => h4 x (List.mem_of_mem_drop hx)
  omega
theorem join_prods (hd : 0 ≤ d) (hs : s ≤ n) (h : p ∈ prods n d) (ho : o ∈ prods s d) (hle : o.sum ≤ (p.take s).sum) : o ++ p.drop s ∈ prods n d := by
  obtain ⟨h1, h2, h3, h4⟩ := prods_ok hd h
  obtain ⟨o1, o2, o3, o4⟩ := prods_ok hd ho
  refine prods_of (by rw [List.length_append, List.length_drop]; omega) (fun x hx => ?_) ?_
  · rcases List.mem_append.mp hx with hx | hx
    · exact o4 x hx
    · exact h4 x (List.mem_of_mem_drop hx)
  · rw [List.sum_append]
    have e := sum_split p s
    omega
end
/-! ### dicts by tuples of numbers -/
def ky (p : List Int) : List Key := p.map Sum.inl
theorem ky_v (p : List Int) : (ky p).map kV = p.map V.int := by
  unfold ky
  rw [List.map_map]
  rfl
theorem ky_inj {p q : List Int} (h : ky p = ky q) : p = q := by
  unfold ky at h
  exact (List.map_inj_right fun _ _ e => Sum.inl.inj e).mp h
theorem ky_iff {p q : List Int} : ky p = ky q ↔ p = q := ⟨ky_inj, fun e => by rw [e]⟩
/-- the places of things -/
structure IsPl (P : List (List Int)) (kvs : List (List Key × V)) : Prop where
  len : kvs.length = P.length
  at_ : ∀ (i : Nat) (p : List Int), P[i]? = some p → valV kvs (ky p) = some (.int (i : Int))
  no : ∀ p : List Int, p ∉ P → valV kvs (ky p) = none
theorem IsPl.nil : IsPl [] [] := ⟨rfl, fun i p e => by simp at e, fun p _ => rfl⟩
theorem nodup_take {P : List (List Int)} (hn : P.Nodup) {j : Nat} {p : List Int} (e : P[j]? = some p) : p ∉ P.take j := fun h => by
  obtain ⟨i, hi, e2⟩ := List.mem_iff_getElem.mp h
  rw [List.length_take] at hi
  have hj := (List.getElem?_eq_some_iff.mp e).1
  have e3 : P[i]? = some p := by
    rw [List.getElem_take] at e2
    rw [List.getElem?_eq_getElem (by omega), e2]
  have := (List.getElem?_inj (by omega : i < P.length) hn).mp (e3.trans e.symm)
  omega
theorem IsPl.snoc {P : List (List Int)} {kvs : List (List Key × V)} {j : Nat} {p : List Int} (h : IsPl (P.take j) kvs) (hn : P.Nodup) (e : P[j]? = some p) : IsPl (P.take (j + 1)) (putK kvs (ky p) (.int (kvs.length : Int))) := by
  have hp := nodup_take hn e
  have hj := (List.getElem?_eq_some_iff.mp e).1
  have hlj : (P.take j).length = j := by rw [List.length_take]; omega
  have et : P.take (j + 1) = P.take j ++ [p] := by rw [List.take_add_one, e]; rfl
  have hno := h.no p hp
  refine ⟨?_, fun i q eq => ?_, fun q hq => ?_⟩
  · rw [putK_new _ hno, List.length_append, h.len, et, List.length_append]
    rfl
  · rw [valV_put]
    rw [et] at eq
    by_cases hi : i < j
    · rw [List.getElem?_append_left (by omega)] at eq
      have hne : q ≠ p := fun e2 => hp (by rw [← e2]; exact List.mem_of_getElem? eq)
      rw [if_neg (fun e3 => hne (ky_inj e3))]
      exact h.at_ i q eq
    · rw [List.getElem?_append_right (by omega)] at eq
      have hi2 : i = j := by
        have := (List.getElem?_eq_some_iff.mp eq).1
        simp at this
        omega
      subst hi2
      rw [hlj, Nat.sub_self] at eq
      have : p = q := by simpa using eq
      subst this
      rw [if_pos rfl, h.len, hlj]
  · rw [et] at hq
    have h1 : q ∉ P.take j := fun h2 => hq (List.mem_append_left _ h2)
    have h2 : q ≠ p := fun h3 => hq (List.mem_append_right _ (by rw [h3]; exact List.mem_singleton.mpr rfl))
    rw [valV_put, if_neg (fun e3 => h2 (ky_inj e3))]
    exact h.no q h1
/-! ### maps of calls -/
section
variable (s n : Nat) (d : Int)
/-- what stands at q in the row of p, when the first t inner products are through -/
def cEnt (p : List Int) (Mr : List Int) (t : Nat) (q : List Int) : Int := if q.drop s = p.drop s ∧ (prods s d).idxOf (q.take s) < t then Mr.getD ((prods s d).idxOf (q.take s)) 0 else 0
def cRow (p : List Int) (Mr : List Int) (t : Nat) : List Int := (prods n d).map (cEnt s d p Mr t)
def cMap (M : List (List Int)) : List (List Int) := (prods n d).map fun p => cRow s n d p (M.getD ((prods s d).idxOf (p.take s)) []) (prods s d).length
end
section
variable {s n t : Nat} {d : Int} {p q o Mr : List Int} {x : Int}
theorem idx_of {P : List (List Int)} (hn : P.Nodup) {i : Nat} {p : List Int} (e : P[i]? = some p) : P.idxOf p = i := by
  obtain ⟨hi, rfl⟩ := List.getElem?_eq_some_iff.mp e
  exact hn.idxOf_getElem i hi
theorem at_idx {P : List (List Int)} {p : List Int} (h : p ∈ P) : P[P.idxOf p]? = some p := by
  rw [List.getElem?_eq_getElem (List.idxOf_lt_length_of_mem h), List.getElem_idxOf (List.idxOf_lt_length_of_mem h)]
theorem cEnt_same (hq : q ∈ prods n d) (hd : 0 ≤ d) (hs : s ≤ n) (eo : (prods s d)[t]? = some o) (hne : q ≠ o ++ p.drop s) : cEnt s d p Mr (t + 1) q = cEnt s d p Mr t q := by
  unfold cEnt
  by_cases h1 : q.drop s = p.drop s
  · by_cases h2 : (prods s d).idxOf (q.take s) < t
    · rw [if_pos ⟨h1, by omega⟩, if_pos ⟨h1, h2⟩]
    · rw [if_neg (show ¬ (q.drop s = p.drop s ∧ (prods s d).idxOf (q.take s) < t) from fun h => h2 h.2), if_neg]
      rintro ⟨_, h3⟩
      have h4 : (prods s d).idxOf (q.take s) = t := by omega
      have h5 := at_idx (take_prods hd hs hq)
      rw [h4, eo] at h5
      cases h5
      exact hne (by rw [← h1, List.take_append_drop])
  · rw [if_neg (fun h => h1 h.1), if_neg (fun h => h1 h.1)]
theorem cEnt_new (hd : 0 ≤ d) (eo : (prods s d)[t]? = some o) (ex : Mr[t]? = some x) (e : q = o ++ p.drop s) : cEnt s d p Mr (t + 1) q = x := by
  have ho := prods_ok hd (List.mem_of_getElem? eo)
  have e1 : q.take s = o := by rw [e, ← ho.1, List.take_left]
  have e2 : q.drop s = p.drop s := by rw [e]; exact List.drop_left' ho.1
  have hi := idx_of (prods_nodup s d) eo
  unfold cEnt
  rw [e1, hi, if_pos ⟨e2, by omega⟩, getD_of ex]
theorem cRow_zero : cRow s n d p Mr 0 = List.replicate (prods n d).length 0 := by
  unfold cRow
  have : (prods n d).map (cEnt s d p Mr 0) = (prods n d).map fun _ => (0 : Int) := List.map_congr_left fun q _ => if_neg (fun h => by omega)
  rw [this, List.map_const']
theorem cRow_len : (cRow s n d p Mr t).length = (prods n d).length := List.length_map _
/-- a number that is 0 changes nothing -/
theorem cRow_skip (hd : 0 ≤ d) (hs : s ≤ n) (eo : (prods s d)[t]? = some o) (ex : Mr[t]? = some 0) : cRow s n d p Mr (t + 1) = cRow s n d p Mr t := by
  refine List.map_congr_left fun q hq => ?_
  by_cases e : q = o ++ p.drop s
  · rw [cEnt_new hd eo ex e]
    have ho := prods_ok hd (List.mem_of_getElem? eo)
    have e1 : q.take s = o := by rw [e, ← ho.1, List.take_left]
    have hi := idx_of (prods_nodup s d) eo
    unfold cEnt
    rw [e1, hi, if_neg (fun h => by omega)]
  · exact cEnt_same hq hd hs eo e
theorem cRow_set {k : Nat} (hd : 0 ≤ d) (hs : s ≤ n) (eo : (prods s d)[t]? = some o) (ex : Mr[t]? = some x) (ek : (prods n d)[k]? = some (o ++ p.drop s)) : (cRow s n d p Mr t).set k x = cRow s n d p Mr (t + 1) := by
  apply List.ext_getElem?
  intro j
  by_cases hj : j < (prods n d).length
  · have eq : (prods n d)[j]? = some (prods n d)[j] := List.getElem?_eq_getElem hj
    have r : (cRow s n d p Mr (t + 1))[j]? = some (cEnt s d p Mr (t + 1) (prods n d)[j]) := by
      unfold cRow
      rw [List.getElem?_map, eq]
      rfl
    rw [r]
    by_cases e : k = j
    · subst e
      rw [List.getElem?_set_self (by rw [cRow_len]; exact hj)]
      rw [eq] at ek
      rw [cEnt_new hd eo ex (Option.some.inj ek)]
    · rw [List.getElem?_set_ne e]
      unfold cRow
      rw [List.getElem?_map, eq]
      show some (cEnt s d p Mr t (prods n d)[j]) = _
      rw [cEnt_same (List.getElem_mem hj) hd hs eo]
      intro e2
      rw [← e2] at ek
      exact e ((List.getElem?_inj hj (prods_nodup n d)).mp (eq.trans ek.symm)).symm
  · rw [List.getElem?_eq_none (by rw [List.length_set, cRow_len]; omega), List.getElem?_eq_none (by rw [cRow_len]; omega)]
theorem cMap_same (hd : 0 ≤ d) (hs : s ≤ n) : cMap s n d (sm (prods s d).length) = sm (prods n d).length := by
  apply List.ext_getElem?
  intro k
  by_cases hk : k < (prods n d).length
  · have ek : (prods n d)[k]? = some (prods n d)[k] := List.getElem?_eq_getElem hk
    have hpk := List.getElem_mem hk
    unfold cMap
    have esm : (sm (prods n d).length)[k]? = some (sg (prods n d).length k) := by
      unfold sm
      rw [List.getElem?_map, List.getElem?_range hk]
      rfl
    rw [List.getElem?_map, ek, esm]
    show some (cRow s n d _ _ _) = _
    congr 1
    have hi := List.idxOf_lt_length_of_mem (take_prods hd hs hpk)
    rw [sm_row hi]
    apply List.ext_getElem?
    intro j
    by_cases hj : j < (prods n d).length
    · have ej : (prods n d)[j]? = some (prods n d)[j] := List.getElem?_eq_getElem hj
      have hqj := List.getElem_mem hj
      have hi2 := List.idxOf_lt_length_of_mem (take_prods hd hs hqj)
      unfold cRow
      rw [List.getElem?_map, ej]
      unfold sg
      rw [List.getElem?_map, List.getElem?_range hj]
      show some (cEnt s d _ (sg (prods s d).length _) _ _) = some _
      congr 1
      show _ = if j = k then (1 : Int) else 0
      unfold cEnt
      by_cases e : j = k
      · subst e
        rw [if_pos ⟨rfl, hi⟩, sg_get hi, if_pos rfl, if_pos rfl]
      · rw [if_neg e]
        by_cases h1 : (prods n d)[j].drop s = (prods n d)[k].drop s
        · rw [if_pos ⟨h1, hi2⟩, sg_get hi2, if_neg]
          intro h2
          apply e
          have h3 := at_idx (take_prods hd hs hqj)
          have h4 := at_idx (take_prods hd hs hpk)
          rw [h2, h4] at h3
          have h5 : (prods n d)[k].take s = (prods n d)[j].take s := Option.some.inj h3
          have h6 : (prods n d)[j] = (prods n d)[k] := by
            rw [← List.take_append_drop s (prods n d)[j], ← List.take_append_drop s (prods n d)[k], h1, h5]
          exact (List.getElem?_inj hj (prods_nodup n d)).mp (by rw [ej, ek, h6])
        · rw [if_neg (fun h => h1 h.1)]
    · rw [List.getElem?_eq_none (by rw [cRow_len]; omega), List.getElem?_eq_none (by rw [sg_len]; omega)]
  · rw [List.getElem?_eq_none (by unfold cMap; rw [List.length_map]; omega), List.getElem?_eq_none (by rw [sm_len]; omega)]
end
/-- the map is of no greater degree -/
def Deg (s : Nat) (d : Int) (M : List (List Int)) : Prop := ∀ (i j : Nat) (pi pj row : List Int) (x : Int), (prods s d)[i]? = some pi → (prods s d)[j]? = some pj → M[i]? = some row → row[j]? = some x → x ≠ 0 → pj.sum ≤ pi.sum
theorem deg_sm (s : Nat) (d : Int) : Deg s d (sm (prods s d).length) := fun i j pi pj row x ei ej er ex nx => by
  have hi := (List.getElem?_eq_some_iff.mp ei).1
  have hj := (List.getElem?_eq_some_iff.mp ej).1
  have e1 : row = sg (prods s d).length i := by
    unfold sm at er
    rw [List.getElem?_map, List.getElem?_range hi] at er
    exact (Option.some.inj er).symm
  subst e1
  have e2 : x = if j = i then 1 else 0 := by
    have := sg_get (k := i) hj
    rwa [getD_of ex] at this
  by_cases e : j = i
  · subst e
    rw [ei] at ej
    cases ej
    exact Int.le_refl _
  · rw [if_neg e] at e2
    exact absurd e2 nx
def sp_places : Sp := fun vs H Q _ => ∃ (n : Nat) (d : Int) (F : Hp), vs = [.int (n : Int), .int d] ∧ Ex F H ∧ n ≤ 6 ∧ 0 ≤ d ∧ d ≤ 6 ∧
  ∀ a kvs F' H', H a = none → Gr NoS F H F' H' → F' a = none → H' a = some (.dT kvs) → IsPl (prods n d) kvs → Q (.ref a) H'
def sp_call_map (K : PySem.W.Frag) : Sp := fun vs H Q _ => ∃ (s n : Nat) (d : Int) (v : V) (M : List (List Int)) (F : Hp), vs = [.int (s : Int), .int (n : Int), .int d, v] ∧ Ex F H ∧ s ≤ n ∧ n ≤ 6 ∧ 0 ≤ d ∧ d ≤ 6 ∧ (prods s d).length ≤ 1000 ∧ (prods n d).length ≤ 1000 ∧
  Dp K F v (tti M) ∧ M.length = (prods s d).length ∧ Wid (prods s d).length M ∧ Deg s d M ∧ RetD K F H Q (tti (cMap s n d M))
end CB

set_option Elab.async false
set_option linter.all false
set_option maxRecDepth 100000
set_option maxHeartbeats 2000000
namespace CB
open PySem PySem.Spec PyProof.Rows L2
/-- what is done with a tracked tuple -/
def RetT (F H : Hp) (Q : VK) (q : List Int) : Prop := ∀ b F' H', Gr NoS F H F' H' → F' b = some (.tup (q.map V.int)) → Q (.ref b) H'
section
variable {K : PySem.W.Frag} {F H : Hp} {a b : Addr} {p r : List Int} {Q : VK}
theorem cat_T (hF : Ex F H) (ha : F a = some (.tup (p.map V.int))) (hb : F b = some (.tup (r.map V.int))) (hl : p.length + r.length ≤ 1000) (q : RetT F H Q (p ++ r)) : rCatA K (.ref a) (.ref b) H Q := by
  refine ⟨a, b, _, _, rfl, rfl, SqT.of (hF _ _ ha), SqT.of (hF _ _ hb), ?_, fun e => ?_, fun _ e => ?_, fun _ _ t nt => ?_⟩
  · rw [List.length_map, List.length_map]
    exact Nat.le_of_lt (small1000 hl)
  · have : p = [] := List.map_eq_nil_iff.mp e
    subst this
    exact q b F H (Gr.refl hF) hb
  · have : r = [] := List.map_eq_nil_iff.mp e
    subst this
    rw [List.append_nil] at q
    exact q a F H (Gr.refl hF) ha
  · exact q t _ _ ((Gr.refl hF).new nt) (by rw [upd_same, List.map_append])
theorem slice_T {lo hi : Option Int} {c : List Int} (hF : Ex F H) (ha : F a = some (.tup (p.map V.int))) (hc : cutV (p.map V.int) lo hi = c.map V.int) (q : RetT F H Q c) : rSlA K (.ref a) lo hi H Q := by
  refine ⟨a, _, rfl, SqT.of (hF _ _ ha), fun e => ?_, fun _ t nt => q t _ _ ((Gr.refl hF).new nt) (by rw [upd_same, hc])⟩
  refine q a F H (Gr.refl hF) ?_
  have : cutV (p.map V.int) lo hi = p.map V.int := by
    unfold cutV
    rw [e.1, e.2, List.drop_zero, Nat.sub_zero, List.take_length]
  rw [ha, ← hc, this]
end
theorem cut_take (p : List Int) {s : Nat} (h : s ≤ p.length) : cutV (p.map V.int) none (some (s : Int)) = (p.take s).map V.int := by
  unfold cutV
  rw [HT.sIx_none, HT.sIx_nat, List.drop_zero, List.length_map, Nat.min_eq_left h, Nat.sub_zero, List.map_take]
theorem cut_drop (p : List Int) {s : Nat} (h : s ≤ p.length) : cutV (p.map V.int) (some (s : Int)) none = (p.drop s).map V.int := by
  unfold cutV
  rw [HT.sIx_none, HT.sIx_nat, List.length_map, Nat.min_eq_left h, List.map_drop]
  exact List.take_of_length_le (by rw [List.length_drop, List.length_map]; exact Nat.le_refl _)
theorem get_T {H : Hp} {a b : Addr} {kvs : List (List Key × V)} {p : List Int} (e : H a = some (.dT kvs)) (eb : H b = some (.tup (p.map V.int))) : DGet H a (.ref b) (valV kvs (ky p)) := DGet.t e (by rw [ky_v]; exact eb)
theorem put_T {H : Hp} {a b : Addr} {kvs : List (List Key × V)} {p : List Int} {v : V} (e : H a = some (.dT kvs)) (eb : H b = some (.tup (p.map V.int))) (hl : kvs.length < sizeLine) : DPut H a (.ref b) v (upd H a (.dT (putK kvs (ky p) v))) := DPut.t e (by rw [ky_v]; exact eb) hl
theorem ixN_nat {n j : Nat} (h : j < n) : ixN n (j : Int) = some j := by
  unfold ixN
  rw [if_pos (by omega), if_pos (by omega), Int.toNat_natCast]
theorem putK_le (c : List (List Key × V)) (k : List Key) (x : V) : (putK c k x).length ≤ c.length + 1 := by
  unfold putK
  split
  · rw [List.length_map]; omega
  · rw [List.length_append]; exact Nat.le_refl _
theorem eqv_ints : ∀ {p q : List Int}, PyData.eqvAll (p.map PyData.int) (q.map PyData.int) = true → p = q
  | [], [], _ => rfl
  | [], _ :: _, h => by simp [PyData.eqvAll] at h
  | _ :: _, [], h => by simp [PyData.eqvAll] at h
  | x :: p, y :: q, h => by
    rw [List.map_cons, List.map_cons, PyData.eqvAll, Bool.and_eq_true] at h
    have h1 : x = y := by simpa [PyData.eqv] using h.1
    rw [h1, eqv_ints h.2]
theorem eqv_ti {p q : List Int} (h : PyData.eqv (ti p) (ti q) = true) : p = q := by
  rw [PyData.eqv] at h
  exact eqv_ints h
end CB

set_option Elab.async false
set_option linter.all false
set_option maxRecDepth 100000
set_option maxHeartbeats 2000000
namespace CB
open PySem PySem.Spec PyProof.Rows L2
/-! ### programs, and how they are told -/
inductive Deed
  | call (k : Nat)
  | rest
  | any (b : Nat)
  | set (b : Nat) (s : List Int)
structure Part where
  name : Str
  own : List Str
  rows : List (Deed × List Int)
structure Prog where
  shared : List Str
  parts : List Part
def dDeed : Deed → PyData
  | .call k => .tuple [.str "call", .int (k : Int)]
  | .rest => .tuple [.str "rest"]
  | .any b => .tuple [.str "any", .int (b : Int)]
  | .set b s => .tuple [.str "set", .int (b : Int), ti s]
abbrev ts (l : List Str) : PyData := .tuple (l.map PyData.str)
def dRow (r : Deed × List Int) : PyData := .tuple [dDeed r.1, ti r.2]
def dPart (p : Part) : PyData := .tuple [.str p.name, ts p.own, .tuple (p.rows.map dRow)]
def dProg (p : Prog) : PyData := .tuple [ts p.shared, .tuple (p.parts.map dPart)]
/-- what the drawing promises of a deed: so many boxes, so many parts -/
def OkDeed (n parts : Nat) : Deed → Prop
  | .call k => k < parts
  | .rest => True
  | .any b => b < n
  | .set b s => b < n ∧ s.length = n + 1 ∧ ∀ x ∈ s, -9 ≤ x ∧ x ≤ 9
/-- of goings: one to three, rising, none beyond the rows -/
def OkGo (many : Nat) (g : List Int) : Prop := 1 ≤ g.length ∧ g.length ≤ 3 ∧ g.Pairwise (· < ·) ∧ ∀ x ∈ g, 0 ≤ x ∧ x ≤ many
/-- of rows: one to most, each of them such -/
def OkRows (n parts most : Nat) (rows : List (Deed × List Int)) : Prop := 1 ≤ rows.length ∧ rows.length ≤ most ∧ ∀ r ∈ rows, OkDeed n parts r.1 ∧ OkGo rows.length r.2
def sp_small : Sp := fun vs H Q _ => ∃ (d l : Addr), vs = [.ref d] ∧ IsDeal H d l ∧ ∀ (x : Int) (H' : Hp), -9 ≤ x → x ≤ 9 → IsDeal H' d l → Kp d l H H' → Q (.int x) H'
/-! ### the deal goes on beside a frozen part that grows -/
structure Go (d l : Addr) (F H F' H' : Hp) : Prop where
  w : Wr d l F' H'
  nf : Nf F H F'
  kp : Kp d l H H'
/-- an object of ours, still to be changed -/
structure Own (d l : Addr) (F H : Hp) (p : Addr) (o : HO) : Prop where
  f : F p = none
  h : H p = some o
  nd : p ≠ d
  nl : p ≠ l
section
variable {d l p z : Addr} {F H F1 H1 F2 H2 : Hp} {o u : HO}
theorem Go.refl (W : Wr d l F H) : Go d l F H F H := ⟨W, Nf.refl, Kp.refl⟩
theorem Go.trans (a : Go d l F H F1 H1) (b : Go d l F1 H1 F2 H2) : Go d l F H F2 H2 := ⟨b.w, a.nf.trans a.w a.kp b.nf, a.kp.trans b.kp⟩
theorem Go.draw (a : Go d l F H F1 H1) (D : IsDeal H2 d l) (k : Kp d l H1 H2) : Go d l F H F1 H2 := ⟨a.w.draw D k, a.nf, a.kp.trans k⟩
theorem Go.gr (a : Go d l F H F1 H1) (g : Gr NoS F1 H1 F2 H2) : Go d l F H F2 H2 := ⟨a.w.gr g, a.nf.gr a.w a.kp g, a.kp.trans g.toKp⟩
theorem Go.new (a : Go d l F H F1 H1) (hp : H1 p = none) : Go d l F H (upd F1 p o) (upd H1 p o) := ⟨a.w.new hp, a.nf.new a.w a.kp hp, a.kp.trans (Kp.of_ex (Evl.Ex.new hp))⟩
theorem Go.newm (a : Go d l F H F1 H1) (hp : H1 p = none) : Go d l F H F1 (upd H1 p o) := ⟨a.w.newm hp, a.nf, a.kp.trans (Kp.of_ex (Evl.Ex.new hp))⟩
theorem Go.mut (a : Go d l F H F1 H1) (h : H p = none) (m : Own d l F1 H1 p u) : Go d l F H F1 (upd H1 p o) := ⟨a.w.mut m.f m.nd m.nl, a.nf, a.kp.mut h⟩
theorem Go.sub (a : Go d l F H F1 H1) : Ex F1 H1 := a.w.sub
theorem Go.fz (a : Go d l F H F1 H1) : Ex F F1 := a.nf.ex
theorem Go.deal (a : Go d l F H F1 H1) : IsDeal H1 d l := a.w.deal
theorem Go.ex (a : Go d l F H F1 H1) : Ex F H1 := a.nf.ex.trans a.w.sub
theorem Own.new (W : Wr d l F H) (hp : H p = none) : Own d l F (upd H p o) p o := ⟨sub_none W.sub hp, upd_same, (W.ne hp).1, (W.ne hp).2⟩
theorem Own.go (m : Own d l F H p o) (a : Go d l F H F1 H1) : Own d l F1 H1 p o := ⟨a.nf.nf p m.f (by rw [m.h]; exact fun e => by cases e), a.kp p o m.nd m.nl m.h, m.nd, m.nl⟩
theorem Own.gr (m : Own d l F H p o) (g : Gr NoS F H F1 H1) : Own d l F1 H1 p o := ⟨(g.keepm (fun h => h) m.f m.h).1, (g.keepm (fun h => h) m.f m.h).2, m.nd, m.nl⟩
theorem Own.ne (m : Own d l F H p o) (hz : H z = none) : p ≠ z := ne_of_none m.h hz
theorem Own.fresh (m : Own d l F H p o) (hz : H z = none) : Own d l (upd F z u) (upd H z u) p o := ⟨by rw [upd_ne (m.ne hz)]; exact m.f, by rw [upd_ne (m.ne hz)]; exact m.h, m.nd, m.nl⟩
theorem Own.freshm (m : Own d l F H p o) (hz : H z = none) : Own d l F (upd H z u) p o := ⟨m.f, by rw [upd_ne (m.ne hz)]; exact m.h, m.nd, m.nl⟩
theorem Own.put (m : Own d l F H p o) : Own d l F (upd H p u) p u := ⟨m.f, upd_same, m.nd, m.nl⟩
theorem Own.other (m : Own d l F H p o) (h : p ≠ z) : Own d l F (upd H z u) p o := ⟨m.f, by rw [upd_ne h]; exact m.h, m.nd, m.nl⟩
theorem Own.draw (m : Own d l F H p o) (k : Kp d l H H1) : Own d l F H1 p o := ⟨m.f, k p o m.nd m.nl m.h, m.nd, m.nl⟩
theorem Own.L {K : PySem.W.Frag} {xs : List V} (m : Own d l F H p (.lst xs)) : SqL K H p xs := SqL.of m.h
theorem Go.none (a : Go d l F H F1 H1) (W : Wr d l F H) (hz : H1 z = none) : H z = none := by
  obtain ⟨n1, n2⟩ := a.w.ne hz
  exact a.kp.none n1 n2 hz
end
def sp_sum (K : PySem.W.Frag) : Sp := fun vs H Q _ => ∃ (d l : Addr) (n : Nat) (F : Hp), vs = [.ref d, .int (n : Int)] ∧ Wr d l F H ∧ n ≤ 100 ∧
  ∀ v F' H' s, Go d l F H F' H' → Dp K F' v (ti s) → s.length = n + 1 → (∀ x ∈ s, -9 ≤ x ∧ x ≤ 9) → Q v H'
def sp_goings (K : PySem.W.Frag) : Sp := fun vs H Q _ => ∃ (d l : Addr) (at_ many : Nat) (F : Hp), vs = [.ref d, .int (at_ : Int), .int (many : Int)] ∧ Wr d l F H ∧ at_ < many ∧ many ≤ 100 ∧
  ∀ v F' H' g, Go d l F H F' H' → Dp K F' v (ti g) → OkGo many g → Q v H'
def sp_deed (K : PySem.W.Frag) : Sp := fun vs H Q _ => ∃ (d l : Addr) (n parts : Nat) (F : Hp), vs = [.ref d, .int (n : Int), .int (parts : Int)] ∧ Wr d l F H ∧ n ≤ 100 ∧ parts ≤ 100 ∧
  ∀ v F' H' e, Go d l F H F' H' → Dp K F' v (dDeed e) → OkDeed n parts e → Q v H'
def sp_part (K : PySem.W.Frag) : Sp := fun vs H Q _ => ∃ (d l : Addr) (name : Str) (sh parts most : Nat) (own : List Str) (vo : V) (F : Hp), vs = [.ref d, .str name, .int (sh : Int), vo, .int (parts : Int), .int (most : Int)] ∧ Wr d l F H ∧ Dp K F vo (ts own) ∧ own.length ≤ 10 ∧ sh ≤ 10 ∧ parts ≤ 10 ∧ 1 ≤ most ∧ most ≤ 10 ∧
  ∀ v F' H' rows, Go d l F H F' H' → Dp K F' v (dPart ⟨name, own, rows⟩) → OkRows (sh + own.length) parts most rows → Q v H'
/-- names: letters alone, one to eight of them -/
def Low (c : UInt32) : Prop := 97 ≤ c.toNat ∧ c.toNat ≤ 122
end CB

set_option Elab.async false
set_option linter.all false
set_option maxRecDepth 100000
set_option maxHeartbeats 4000000
/-! set(a list of ints) -/
namespace CB
open PySem PySem.Spec PyProof.Rows L2
abbrev nS (w : World) : Obj := { cls := .type "set", dict := none, data := .set #[] 0 (.fresh 0 0 (!w.params.followText "set-order")) }
section
variable {P : Program} {w : World} {A : Around} {E : Value → Shared → Prop} {s : Shared}
set_option maxHeartbeats 6400000 in
theorem set_of_listI {l : Addr} {items : Array Value} (ns : List Int) {Q : Value → Shared → Prop} (hh : A.handled = none) (hl : s.heap.IsList l items) (hit : IntsAre items.toList ns) (hb : ns.length + 1 < scanBound)
    (h : ∀ (h' : Heap) (tk c : Nat), SetR w h' s.heap.objs.size (fun j => decide (j ∈ ns)) c → c ≤ ns.length → (∀ b o, s.heap.get? b = some o → h'.get? b = some o) → Q (.ref s.heap.objs.size) { s with heap := h', toks := tk }) :
    wpAny (model P w) A (call (.type "set") [.ref l]) Q E s := by
  have hisz : items.size = ns.length := by rw [← Array.length_toList]; exact IntsAre.length hit
  obtain ⟨c, tl, hmro⟩ := F.called_set.mro
  have hmade := F.called_set.made; have hsub := F.called_set.sub
  refine wpAny_call (codeAny_of_tree ?_)
  show wpAny _ _ (callAny (.type "set") _) _ _ _
  refine wpAny_pure ⟨Code.quiet_builtin _ (by decide +kernel), codeAny_builtin F.entry_type_call ?_⟩
  rw [Around.under_plain (weight_type_call_type "set" [.ref l] []) rfl]
  have h1 := F.called_set.notType; have h2 := F.called_set.canCreate; have hct := F.typeCall_set_1 (.ref l)
  repeat (any_goals (first | assumption | wp_step))
  refine codeAny_mono (code_set_led1 (.ref l) (E := E) (Q₁ := fun obj s₁ => obj = .ref s.heap.objs.size ∧ s₁ = { s with heap := s.heap.push (nS w) }) ⟨rfl, rfl⟩) fun r s₁ hr => ?_
  cases r with
  | error e => exact hr
  | ok fl =>
    cases fl with
    | ret obj =>
      obtain ⟨rfl, rfl⟩ := hr
      have hS : (s.heap.push (nS w)).get? s.heap.objs.size = some (nS w) := Heap.get?_push_size _ rfl
      have hT : Shared.TypeIs { s with heap := s.heap.push (nS w) } (.ref s.heap.objs.size) "set" := ⟨_, hS, rfl⟩
      have hli := F.called_set.init.lookup; have hbi := F.called_set.init.bind (.ref s.heap.objs.size)
      repeat (any_goals (first | assumption | wp_step))
      refine codeAny_mono (codeAny_call_builtin (R := wants (fun r s₂ => r = .none ∧ ∃ h' tk c, s₂ = { s with heap := h', toks := tk } ∧ SetR w h' s.heap.objs.size (fun j => decide (j ∈ ns)) c ∧ c ≤ ns.length ∧ (∀ b o, s.heap.get? b = some o → h'.get? b = some o)) E) F.called_set.init.plain F.entry_set_init (check_set_init_1 hT ?_)) fun r₂ s₂ hr₂ => ?_
      · obtain ⟨⟨ocls, odict, odata, oslots⟩, hol, hcl, nl, hdl⟩ := hl
        simp only at hcl hdl
        subst hcl; subst hdl
        have hol' : (s.heap.push (nS w)).get? l = some { cls := .type "list", dict := odict, data := .seq items nl, slots := oslots } := Heap.get?_push_of_some _ hol
        have hsls := F.sub_list_set; have hslf := F.sub_list_frozenset
        have hne : (Value.type "list" == Value.type "dict") = false := by decide
        have hl1 : (s.heap.push (nS w)).IsList l items := ⟨_, hol', rfl, nl, rfl⟩
        unfold Builtin.«set.__init__» noKeywords Builtin.Frozenset.updateFrom
        generalize hPI : pyIter = PI
        wp_walk
        subst hPI
        refine wpAny_pyIter_list hl1 (wpAny_bind (wpAny_runValue ?_))
        have hlS : l < s.heap.objs.size := Heap.lt_size hol
        have hh3 : A.in1.in1.in1.handled = none := by simp [hh]
        have hneI : l ≠ (s.heap.push (nS w)).objs.size := by rw [Heap.size_push]; exact Nat.ne_of_lt (Nat.lt_succ_of_lt hlS)
        have hSf : s.heap.objs.size ∉ [(s.heap.push (nS w)).objs.size, l] := by
          rw [Heap.size_push]; simp only [List.mem_cons, List.mem_singleton, List.not_mem_nil, or_false, not_or]; exact ⟨Nat.ne_of_lt (Nat.lt_succ_self _), Nat.ne_of_gt hlS⟩
        have hval : ∀ (i : Nat) (v : Value), items[i]? = some v → ∃ k t, ns[i]? = some k ∧ v = .int k t := fun i v hv => by
          have hi : i < ns.length := by rw [← hisz]; exact (Array.getElem?_eq_some_iff.mp hv).1
          obtain ⟨t, e⟩ := PyProof.Rows.IntsAre.int_at hit i v (by rw [Array.getElem?_toList]; exact hv)
          exact ⟨ns[i], t, List.getElem?_eq_getElem hi, by rw [e, List.getD_eq_getElem?_getD, List.getElem?_eq_getElem hi] <;> rfl⟩
        refine set_update_ints ((Walks.list hh3 _ l hneI items).toS) s.heap.objs.size hSf ns hisz hb hval (items.size - 0) 0 _ (by omega) (Nat.zero_le _) ⟨⟨_, Heap.get?_push_size _ rfl, rfl, rfl⟩, (hl1.push _)⟩ ⟨0, Nat.le_refl 0, setR_new_at (Heap.get?_push_of_some _ hS)⟩ fun s' c' hm hc' hS' => ?_
        obtain ⟨h', g2, d', tk', os'⟩ := s'
        obtain rfl : g2 = s.gens := hm.gens
        obtain rfl : d' = s.drawn := hm.drawn
        obtain rfl : os' = s.os := hm.os
        show wpAny _ _ _ _ _ _
        refine wpAny_pure ?_
        show wpAny _ _ (ret Value.none) _ _ _
        rw [hisz] at hc'
        refine wpAny_pure ⟨rfl, h', tk', c', rfl, hS', hc', fun b o e => ?_⟩
        have hb0 : b < s.heap.objs.size := Heap.lt_size e
        have hb2 : b ≠ (s.heap.push (nS w)).objs.size := by rw [Heap.size_push]; exact Nat.ne_of_lt (Nat.lt_succ_of_lt hb0)
        exact hm.heap b o (by simp only [List.mem_cons, List.mem_singleton, List.not_mem_nil, or_false, not_or]; exact ⟨Nat.ne_of_lt hb0, hb2⟩) (Heap.get?_push_of_some _ (Heap.get?_push_of_some _ e))
      · cases r₂ with
        | error e => exact hr₂
        | ok fl₂ =>
          cases fl₂ with
          | ret r =>
            obtain ⟨rfl, h', tk, c', rfl, hS', hc', hk'⟩ := hr₂
            repeat (any_goals (first | assumption | wp_step))
            exact h _ _ _ hS' hc' hk'
          | _ => exact hr₂.elim
    | _ => exact hr.elim
end
section
variable {X : Cx} {K : PySem.W.Frag}
def rSetL (w : World) (K : PySem.W.Frag) : List V → Hp → VK → Prop := fun xs H Q => ∃ (l : Addr) (ns : List Int), xs = [.ref l] ∧ SqL K H l (ns.map V.int) ∧ ns.length ≤ 1000 ∧ ∀ p n, H p = none → n ≤ ns.length → Q (.ref p) (upd H p (SetO w p (fun j => decide (j ∈ ns)) n))
theorem cr_setL (hc : X.calm = true) (hK : X.K = K := by rfl) : CallR X (.type "set") (rSetL X.w K) := by
  subst hK
  intro pins s σ H xs us Q I r h
  obtain ⟨l, ns, rfl, hs, hn, q⟩ := h
  obtain ⟨its, rv, p', hz⟩ := I.list hs
  rw [Vals.ref1 r]
  have hi := rv.ints
  refine set_of_listI ns (I.ok.hd hc) p'.isList (by simpa using hi) (by have e : scanBound = scanBound := rfl; unfold scanBound at e ⊢; omega) fun h' tk c hR hcl hk => ?_
  exact ⟨.ref s.heap.objs.size, upd H s.heap.objs.size _, I.laid (t' := tk) (fun b u e => hk b u e) (Nat.le_refl _) (setO_new hR), rfl, q _ c (I.hok.fresh (Nat.le_refl _)) hcl⟩
end
end CB

set_option Elab.async false
set_option linter.all false
set_option maxRecDepth 100000
set_option maxHeartbeats 4000000
/-! words of letters -/
namespace CB
open PySem PySem.Spec PyProof.Rows L2
def wd (l : List Nat) : Str := ⟨l.toArray⟩
theorem wd_len (l : List Nat) : (wd l).length = l.length := List.size_toArray
theorem wd_inj {a b : List Nat} (h : wd a = wd b) : a = b := by
  have : (wd a).cps.toList = (wd b).cps.toList := by rw [h]
  simpa [wd] using this
theorem wd_cat (a b : List Nat) : wd a ++ wd b = wd (a ++ b) := by
  show Str.append _ _ = _
  unfold Str.append wd
  rw [List.append_toArray]
theorem wd_to (a : List Nat) : TL.tl (wd a) = a := rfl
theorem cut_hi (l : List Nat) {a : Int} (h0 : 0 ≤ a) (h1 : a ≤ l.length) : cutS (wd l) none (some a) = wd (l.take a.toNat) := by
  obtain ⟨n, rfl⟩ := Int.eq_ofNat_of_zero_le h0
  unfold cutS
  rw [HT.sIx_none, HT.sIx_nat, List.drop_zero, wd_len, Nat.sub_zero]
  have : min n l.length = n := Nat.min_eq_left (by omega)
  rw [this]
  rfl
theorem cut_lo (l : List Nat) {a : Int} (h0 : 0 ≤ a) (h1 : a ≤ l.length) : cutS (wd l) (some a) none = wd (l.drop a.toNat) := by
  obtain ⟨n, rfl⟩ := Int.eq_ofNat_of_zero_le h0
  unfold cutS
  rw [HT.sIx_none, HT.sIx_nat, wd_len]
  have : min n l.length = n := Nat.min_eq_left (by omega)
  rw [this]
  have e : ((wd l).cps.toList.drop n).take (l.length - n) = l.drop n := by
    show (l.drop n).take (l.length - n) = l.drop n
    exact List.take_of_length_le (by rw [List.length_drop]; exact Nat.le_refl _)
  rw [e]
  rfl
theorem join_wd (l : List Nat) : Txt.join ("" : Str) (l.map fun c => wd [c]) = wd l := by
  have key : ∀ l : List Nat, TL.joinL [] ((l.map fun c => wd [c]).map TL.tl) = l := by
    intro l
    induction l with
    | nil => rfl
    | cons c r ih =>
      cases r with
      | nil => rfl
      | cons z r =>
        have e : TL.joinL [] (((c :: z :: r).map fun c => wd [c]).map TL.tl) = c :: TL.joinL [] (((z :: r).map fun c => wd [c]).map TL.tl) := rfl
        rw [e, ih]
  have e : TL.tl (Txt.join ("" : Str) (l.map fun c => wd [c])) = l := by
    rw [TL.join_eq, TL.tl_join]
    exact key l
  have : ∀ z : Str, z = wd (TL.tl z) := fun z => rfl
  rw [this (Txt.join _ _), e]
theorem in_strs (z : Str) (ys : List Str) : inV (.str z) (ys.map V.str) = decide (z ∈ ys) := by
  unfold inV
  rw [List.any_map]
  rw [Bool.eq_iff_iff, List.any_eq_true, decide_eq_true_eq]
  constructor
  · rintro ⟨y, hy, e⟩
    have : y = z := by simpa [eqV] using e
    rw [← this]; exact hy
  · exact fun h => ⟨z, h, by simp [eqV]⟩
theorem flat_strs' (l : List Str) : (l.map V.str).all flatV = true := by
  rw [List.all_map, List.all_eq_true]
  intro x _
  rfl
/-! letters -/
abbrev letS : Str := "abcdefghijklmnopqrstuvwxyz"
abbrev keptS : List Str := ["boxes", "part", "own", "any", "call", "rest", "all", "none"]
theorem let_at : ∀ c : Fin 26, atI letS.cps.toList (c.val : Int) = some (97 + c.val) := by decide +kernel
theorem let_at' {r : Int} (h0 : 0 ≤ r) (h1 : r < 26) : atI letS.cps.toList r = some (97 + r.toNat) := by
  obtain ⟨n, rfl⟩ := Int.eq_ofNat_of_zero_le h0
  exact let_at ⟨n, by omega⟩
theorem let_ix : ∀ c : Fin 26, Builtin.Str.occurrences letS (wd [97 + c.val]) 0 letS.length 1 = [c.val] := by decide +kernel
theorem let_len : letS.length = 26 := by decide +kernel
def Let (c : Nat) : Prop := 97 ≤ c ∧ c ≤ 122
/-- a word: one to six letters -/
structure Nm (z : Str) : Prop where
  ex : ∃ l : List Nat, z = wd l ∧ 1 ≤ l.length ∧ l.length ≤ 6 ∧ ∀ c ∈ l, Let c
/-- the word with another first letter -/
def rt (k : Nat) (c : Nat) (t : List Nat) : List Nat := (97 + (c - 97 + k) % 26) :: t
theorem rt_zero {c : Nat} {t : List Nat} (h : Let c) : rt 0 c t = c :: t := by
  unfold rt
  obtain ⟨h1, h2⟩ := h
  have : (c - 97 + 0) % 26 = c - 97 := by omega
  rw [this]
  congr 1
  omega
theorem rt_next {c k : Nat} {t : List Nat} : rt k (97 + (c - 97 + 1) % 26) t = rt (k + 1) c t := by
  unfold rt
  congr 2
  omega
theorem rt_inj {c i j : Nat} {t : List Nat} (hi : i < 26) (hj : j < 26) (h : rt i c t = rt j c t) : i = j := by
  unfold rt at h
  injection h with h1 _
  omega
/-- lists without twins within another -/
theorem nodup_le {α : Type} [DecidableEq α] : ∀ {l m : List α}, l.Nodup → (∀ x ∈ l, x ∈ m) → l.length ≤ m.length
  | [], m, _, _ => Nat.zero_le _
  | x :: l, m, h, k => by
    have hx : x ∈ m := k x List.mem_cons_self
    have h1 := nodup_le (l := l) (m := m.erase x) (List.nodup_cons.mp h).2 fun y hy => by
      have ne : y ≠ x := fun e => (List.nodup_cons.mp h).1 (e ▸ hy)
      exact (List.mem_erase_of_ne ne).mpr (k y (List.mem_cons_of_mem _ hy))
    rw [List.length_erase_of_mem hx] at h1
    have : 0 < m.length := List.length_pos_of_mem hx
    rw [List.length_cons]
    omega
theorem few_alike {α β : Type} [DecidableEq β] {f : α → β} {t : β} : ∀ {l : List α}, (l.map f).Nodup → (l.filter fun x => decide (f x = t)).length ≤ 1
  | [], _ => by simp
  | x :: l, h => by
    rw [List.map_cons, List.nodup_cons] at h
    rw [List.filter_cons]
    by_cases e : f x = t
    · rw [if_pos (decide_eq_true e)]
      have : (l.filter fun x => decide (f x = t)) = [] := by
        rw [List.filter_eq_nil_iff]
        intro y hy hd
        have := of_decide_eq_true hd
        exact h.1 (by rw [e, ← this]; exact List.mem_map_of_mem hy)
      rw [this]
      exact Nat.le_refl 1
    · rw [if_neg (by simpa using e)]
      exact few_alike h.2
theorem kept_tails : (keptS.map fun z => z.cps.toList.tail).Nodup := by decide +kernel
/-- of the words with other first letters one is free -/
theorem one_free {c : Nat} {t : List Nat} {found : List Str} (hf : found.length ≤ 20) : ∃ k, k < 26 ∧ wd (rt k c t) ∉ keptS ∧ wd (rt k c t) ∉ found := by
  by_cases h : ∃ k, k < 26 ∧ wd (rt k c t) ∉ keptS ∧ wd (rt k c t) ∉ found
  · exact h
  exfalso
  have all : ∀ k, k < 26 → wd (rt k c t) ∈ (keptS.filter fun z => decide (z.cps.toList.tail = t)) ++ found := fun k hk => by
    by_cases h1 : wd (rt k c t) ∈ keptS
    · exact List.mem_append_left _ (List.mem_filter.mpr ⟨h1, decide_eq_true rfl⟩)
    · by_cases h2 : wd (rt k c t) ∈ found
      · exact List.mem_append_right _ h2
      · exact absurd ⟨k, hk, h1, h2⟩ h
  have nd : ((List.range 26).map fun k => wd (rt k c t)).Nodup := by
    rw [List.nodup_iff_pairwise_ne, List.pairwise_map]
    refine List.Pairwise.imp_of_mem ?_ List.nodup_range
    intro a b ha hb hab e
    exact hab (rt_inj (List.mem_range.mp ha) (List.mem_range.mp hb) (wd_inj e))
  have le := nodup_le nd fun x hx => by
    obtain ⟨k, hk, rfl⟩ := List.mem_map.mp hx
    exact all k (List.mem_range.mp hk)
  have f1 := few_alike (t := t) kept_tails
  rw [List.length_append, List.length_map, List.length_range] at le
  omega
/-- the promise of words: unlike, none of them kept -/
def sp_words : Sp := fun vs H Q _ => ∃ (d l : Addr) (many : Nat) (F : Hp), vs = [.ref d, .int (many : Int)] ∧ Wr d l F H ∧ many ≤ 20 ∧
  ∀ (p : Addr) (names : List Str) (H' : Hp), H p = none → Go d l F H F H' → Own d l F H' p (.lst (names.map V.str)) → names.length = many → names.Nodup → (∀ z ∈ names, Nm z ∧ z ∉ keptS) → Q (.ref p) H'
/-- the part at a place of a drawn program -/
def PartOf (ws : List Str) (sh many mb mr k : Nat) (p : Part) : Prop := ws[9 + k]? = some p.name ∧ ∃ ol : Nat, ol ≤ 2 ∧ p.own = (ws.drop (3 + 2 * k)).take ol ∧ sh + ol ≤ mb ∧ OkRows (sh + p.own.length) many mr p.rows
/-- a program drawn: at most so many boxes, parts, rows -/
def OkProg (mb mp mr : Nat) (p : Prog) : Prop := ∃ ws : List Str, ws.length = 12 ∧ ws.Nodup ∧ (∀ z ∈ ws, Nm z ∧ z ∉ keptS) ∧ ∃ sh : Nat, p.shared = ws.take sh ∧ sh ≤ mb ∧ 1 ≤ p.parts.length ∧ p.parts.length ≤ mp ∧
  ∀ k q, p.parts[k]? = some q → PartOf ws sh p.parts.length mb mr k q
def sp_program (K : PySem.W.Frag) : Sp := fun vs H Q _ => ∃ (d l : Addr) (mb mp mr : Nat) (F : Hp), vs = [.ref d, .int (mb : Int), .int (mp : Int), .int (mr : Int)] ∧ Wr d l F H ∧ mb ≤ 3 ∧ 1 ≤ mp ∧ mp ≤ 3 ∧ 1 ≤ mr ∧ mr ≤ 5 ∧
  ∀ v F' H' p, Go d l F H F' H' → Dp K F' v (dProg p) → OkProg mb mp mr p → Q v H'
end CB

set_option Elab.async false
set_option linter.all false
set_option maxRecDepth 100000
set_option maxHeartbeats 4000000
/-! enumerate(a tuple) -/
namespace CB
open PySem PySem.Spec PyProof.Rows L2
open AutoSeq1 (wpAny_loadPart')
abbrev enO (it : Addr) : Obj := { cls := .type "enumerate", data := .fields #[.none, .bool false, .ref it, rawInt 0, .none, .none] }
theorem enum_newT (l : Addr) (items : Array Value) (n : Nat) (dct : Option Addr) (sl : Array (Option Value)) :
    Meets (Builtin.«enumerate.__new__» ⟨[.type "enumerate", .ref l], []⟩) (fun _ R s => s.heap.get? l = some { cls := .type "tuple", dict := dct, data := .seq items n, slots := sl } ∧
      R (.ok (.ret (.ref (s.heap.push (iterObj .T l)).objs.size))) { s with heap := (s.heap.push (iterObj .T l)).push (enO s.heap.objs.size) }) :=
  .of_wp fun prog w A R s h => by
    obtain ⟨hp, g, d, tk, os⟩ := s
    obtain ⟨hl, h⟩ := h
    have hsub := sub_enumerate
    have hL : Heap.IsTuple (Shared.heap ⟨hp, g, d, tk, os⟩) l items := ⟨_, hl, rfl, n, rfl⟩
    wp_walk using wpAny_loadPart' hl
    refine wpAny_stack_any fun st => wpAny_pure ?_
    split
    · rename_i c _ _ _ _ _
      cases (c == Value.type "enumerate") <;> (wp_walk using wpAny_loadPart' hl, wpAny_pyIter_tuple hL; exact ⟨_, rfl, h⟩)
    · wp_walk using wpAny_loadPart' hl, wpAny_pyIter_tuple hL
      exact ⟨_, rfl, h⟩
section
variable {prog : Program} {w : World} {A : Around} {E : Value → Shared → Prop} {s : Shared}
theorem call_enumT {l : Addr} {items : Array Value} {Q : Value → Shared → Prop} (hL : s.heap.IsTuple l items)
    (h : ∀ h', IsEnum h' (s.heap.objs.size + 1) s.heap.objs.size 0 .none → IterK .T h' s.heap.objs.size l 0 → (∀ b o, s.heap.get? b = some o → h'.get? b = some o) → Q (.ref (s.heap.objs.size + 1)) { s with heap := h' }) :
    wpAny (model prog w) A (call (.type "enumerate") [.ref l]) Q E s := by
  obtain ⟨⟨c, dct, dt, sl⟩, hl, hc, n, hd⟩ := hL
  obtain rfl : c = .type "tuple" := hc
  obtain rfl : dt = .seq items n := hd
  refine callType_new F.called_enumerate (by decide) (F.typeCall_enumerate_1 _) (F.newCall_enumerate_1 _) (fun obj => F.args_object_init_2 obj _) F.entry_enumerate_new (enum_newT l items n dct sl) ⟨hl, ?_⟩
  have hz : (s.heap.push (iterObj .T l)).objs.size = s.heap.objs.size + 1 := Heap.size_push ..
  show _ ∧ _
  rw [hz]
  have he : IsEnum ((s.heap.push (iterObj .T l)).push (enO s.heap.objs.size)) (s.heap.objs.size + 1) s.heap.objs.size 0 .none := by
    have := Heap.get?_push_size (s.heap.push (iterObj .T l)) (o := enO s.heap.objs.size) rfl
    rw [hz] at this
    exact this
  exact ⟨⟨_, he, rfl⟩, h _ he (IterK.start (Heap.get?_push_of_some _ (Heap.get?_push_size _ rfl))) fun b o x => Heap.get?_push_of_some _ (Heap.get?_push_of_some _ x)⟩
end
/-- what enumerate(a tuple) hands out -/
def IteT (K : PySem.W.Frag) (a : Addr) : It :=
  ⟨fun i H => ∃ (xs : List V) (x : V), SqT K H a xs ∧ xs[i]? = some x, fun i H v H' => ∃ T x, v = .ref T ∧ H T = none ∧ H' = upd H T (.tup [.int (i : Nat), x]) ∧ ∀ xs, SqT K H a xs → xs[i]? = some x, fun i H => ∃ xs : List V, SqT K H a xs ∧ xs.length = i⟩
theorem turn_enumT {P : Program} {w : World} {K : PySem.W.Frag} {elts : List Expr} {kk : Nat} {tpos : Pos} (a e it : Addr) (na : a ≠ it) (ne : e ≠ a) :
    Turn P w K (.Tuple elts kk tpos) (IteT K a) [e, it] e (fun i h => (∃ old, IsEnum h e it ((i : Nat) : Int) old) ∧ IterK .T h it a i ∧ e ≠ it) where
  mem := by simp
  obj := fun i h st b hb => by
    obtain ⟨⟨old, he⟩, hi, _⟩ := st
    rcases (by simpa using hb : b = e ∨ b = it) with z | z
    · rw [z]; exact ⟨_, he, fun v q => nomatch q⟩
    · rw [z]; exact hi.obj
  keep := fun i h h' st k => let ⟨⟨old, he⟩, hi, hne⟩ := st; ⟨⟨old, k e (by simp) _ he⟩, hi.at fun o q => k it (by simp) o q, hne⟩
  item := by
    intro X hP hw hK hc i pins s σ H E I hf st hg
    subst hP hw hK
    obtain ⟨⟨old, he⟩, hit, hne⟩ := st
    obtain ⟨xs, x, hq, hx⟩ := hg
    obtain ⟨its, rv, p, hinj⟩ := InvK (k := .T) I hq
    have hlen := rv.length
    obtain ⟨u, hu, ru⟩ := rv.get hx
    have hel : e < s.heap.objs.size := Heap.lt_size he
    have hil : it < s.heap.objs.size := by obtain ⟨_, q, _⟩ := hit.obj; exact Heap.lt_size q
    have hlt : i < its.toArray.size := by rw [List.size_toArray]; exact (List.getElem?_eq_some_iff.mp hu).1
    refine wpAny_pyNext_enum_itemD (drawsK (by rw [Around.in1_handled]; exact I.ok.hd hc) .T it a na its.toArray) he ⟨hit, p⟩ hlt hne (by simp [hne, ne]) fun y h' tk hP ho hst hT hsz hk => ?_
    have ey : y = u := by
      rw [List.getElem?_toArray, hu] at hP
      exact (Option.some.inj hP).symm
    subst ey
    refine ⟨_, rfl, wpAny_letOwnedTupleGo_enum (s := { s with heap := h', toks := tk + 1 }) ho fun h'' he' sb => ?_⟩
    have hT2 : h''.get? s.heap.objs.size = some { cls := .type "tuple", data := .seq #[.int i tk, y] } := (sb.2 _ (Nat.ne_of_gt hel)).trans hT
    have new : ObjOk X.prog X.w (upd H s.heap.objs.size (.tup [.int (i : Nat), x])) h'' s.heap.objs.size (.tup [.int (i : Nat), x]) :=
      ⟨by show 2 ≤ sizeLine; decide, [.int i tk, y], .cons ⟨_, rfl⟩ (.cons ru .nil), ⟨_, hT2, rfl, _, rfl⟩⟩
    have I1 : Inv X pins σ (upd H s.heap.objs.size (.tup [.int (i : Nat), x])) { s with heap := h'', toks := tk + 1 } :=
      I.turnedNew (ch := [e, it]) (fun b ob hb q => (sb.2 b (fun z => hb (by simp [z]))).trans (hk b ob (fun z => hb (by simp [z])) (fun z => hb (by simp [z])) q)) hf (Nat.le_refl _) new
    refine ⟨.ref s.heap.objs.size, _, I1, rfl, ⟨_, x, rfl, I.hok.fresh (Nat.le_refl _), rfl, fun ys hy => by rw [hinj ys hy]; exact hx⟩, ⟨⟨y, ?_⟩, hst.1.at fun o q => (sb.2 it (Ne.symm hne)).trans q, hne⟩, fun b hb => ?_⟩
    · have e1 : ((i + 1 : Nat) : Int) = (i : Int) + 1 := by omega
      rw [e1]; exact he'
    · have hb' : b < s.heap.objs.size := by
        rcases (by simpa using hb : b = e ∨ b = it) with z | z
        · rw [z]; exact hel
        · rw [z]; exact hil
      rw [upd_ne (Nat.ne_of_lt hb')]
      exact (hf b hb).1
  done := by
    intro X hP hw hK hc i pins s σ H E I hf st hg
    subst hP hw hK
    obtain ⟨⟨old, he⟩, hit, hne⟩ := st
    obtain ⟨xs, hq, hx⟩ := hg
    obtain ⟨its, rv, p, hinj⟩ := InvK (k := .T) I hq
    obtain ⟨f0, f1, f2, f3, f4, f5⟩ := hf it (by simp)
    have hl : its.toArray.size = i := by rw [List.size_toArray, ← hx]; exact rv.length.symm
    subst hl
    exact wpAny_pyNext_enum_endD (drawsK (by rw [Around.in1_handled]; exact I.ok.hd hc) .T it a na its.toArray) he ⟨hit, p⟩ fun h' eb => ⟨rfl, I.turned (t' := s.toks) (fun b o hb q => eb b o hb q) f0 f1 f3 f4 f5⟩
  self := fun A i s Q E st h => let ⟨⟨_, he⟩, _⟩ := st; wpAny_pyIter_enum he h
def iEnumT (K : PySem.W.Frag) (ta : TA) : TI := fun σ H R => ta σ H fun vs H1 => ∃ a xs, vs = [.ref a] ∧ SqT K H1 a xs ∧ R (IteT K a) H1
theorem pi_enumT {X : Cx} {K : PySem.W.Frag} {e : Expr} {ta : TA} {p pos tpos : Pos} {elts : List Expr} {kk : Nat} (hg : Gl X "enumerate") (hm : X.mg "enumerate" = none) (ha : PA X [e] ta) (hs : starEach [e] X.env = [(false, eval e X.env)] := by rfl) (hK : X.K = K := by rfl) :
    PI X (.Tuple elts kk tpos) (.Call (.Name "enumerate" p) [e] [] pos) (iEnumT K ta) := by
  subst hK
  refine ⟨fun pins s σ H R I h => ?_⟩
  refine Call_ (ld_blt I hg hm boot_enumerate (PyProof.Rows.callWith_type1 (thn (ha.run pos pins s σ H _ I h) fun us s1 ⟨vs, H1, I1, r1, q1⟩ => ?_) hs rfl))
  obtain ⟨a, xs, ex, hq, q⟩ := q1
  subst ex
  cases r1 with
  | cons r rr =>
    cases rr
    cases r
    obtain ⟨its, rv, p', hz⟩ := InvK (k := .T) I1 hq
    have hal : a < s1.heap.objs.size := HasK.lt (k := .T) p'
    refine call_enumT p' fun h' he hit hk => wpAny_pyIter_enum he ?_
    have I2 : Inv X pins σ H1 { s1 with heap := h' } := I1.kept (t' := s1.toks) hk
    refine ⟨s1.heap.objs.size + 1, [s1.heap.objs.size + 1, s1.heap.objs.size], _, _, H1, rfl, I2, turn_enumT a (s1.heap.objs.size + 1) s1.heap.objs.size (Nat.ne_of_lt hal) (Nat.ne_of_gt (Nat.lt_succ_of_lt hal)), ⟨⟨.none, he⟩, hit, Nat.succ_ne_self _⟩, fun b hb => ?_, q⟩
    have hle : s1.heap.objs.size ≤ b := by
      rcases (by simpa using hb : b = s1.heap.objs.size + 1 ∨ b = s1.heap.objs.size) with z | z
      · rw [z]; exact Nat.le_add_right _ _
      · rw [z]; exact Nat.le_refl _
    exact I1.fpOk hle (I1.hok.fresh hle)
theorem walk_enumT {K : PySem.W.Frag} {a : Addr} {xs : List V} : Walk (IteT K a) xs.length (fun H => SqT K H a xs) (YPair (fun i => some (.int (i : Nat))) (fun i => xs[i]?)) := by
  refine ⟨fun i _ hi q => ⟨xs, xs[i], q, by simp [hi]⟩, fun _ q => ⟨xs, q, rfl⟩, fun i H v H' _ q y => ?_⟩
  obtain ⟨T, x, h1, h2, h3, h4⟩ := y
  exact ⟨T, .int (i : Nat), x, h1, h2, h3, rfl, h4 xs q⟩
end CB

set_option Elab.async false
set_option linter.all false
set_option maxRecDepth 100000
set_option maxHeartbeats 4000000
/-! programs read, looked at -/
namespace CB
open PySem PySem.Spec PyProof.Rows L2
theorem iteD {p A B : Prop} [Decidable p] (hp : p) (h : A) : if decide p = true then A else B := by rw [if_pos (decide_eq_true hp)]; exact h
theorem iteN {p A B : Prop} [Decidable p] (hp : ¬ p) (h : B) : if decide p = true then A else B := by rw [if_neg (fun e => hp (of_decide_eq_true e))]; exact h
section
variable {K : PySem.W.Frag} {F H : Hp} {v : V}
theorem dp1 {a : PyData} (h : Dp K F v (.tuple [a])) : ∃ p x, v = .ref p ∧ SqT K F p [x] ∧ Dp K F x a := by
  obtain ⟨p, xs, e, s, d⟩ := h.tup_inv
  cases d with
  | cons d1 d => cases d; exact ⟨p, _, e, s, d1⟩
theorem dp2 {a b : PyData} (h : Dp K F v (.tuple [a, b])) : ∃ p x y, v = .ref p ∧ SqT K F p [x, y] ∧ Dp K F x a ∧ Dp K F y b := by
  obtain ⟨p, xs, e, s, d⟩ := h.tup_inv
  cases d with
  | cons d1 d =>
    cases d with
    | cons d2 d => cases d; exact ⟨p, _, _, e, s, d1, d2⟩
theorem dp3 {a b c : PyData} (h : Dp K F v (.tuple [a, b, c])) : ∃ p x y z, v = .ref p ∧ SqT K F p [x, y, z] ∧ Dp K F x a ∧ Dp K F y b ∧ Dp K F z c := by
  obtain ⟨p, xs, e, s, d⟩ := h.tup_inv
  cases d with
  | cons d1 d =>
    cases d with
    | cons d2 d =>
      cases d with
      | cons d3 d => cases d; exact ⟨p, _, _, _, e, s, d1, d2, d3⟩
theorem dp_strs_of : ∀ {vs : List V} {ns : List Str}, DpAll K F vs (ns.map PyData.str) → vs = ns.map V.str
  | _, [], h => by cases h; rfl
  | _, n :: r, h => by
    cases h with
    | cons h1 h2 => cases h1; rw [dp_strs_of h2]; rfl
theorem dp_ts {l : List Str} (h : Dp K F v (ts l)) : ∃ a, v = .ref a ∧ SqT K F a (l.map V.str) := by
  obtain ⟨a, xs, e, s, d⟩ := h.tup_inv
  rw [dp_strs_of d] at s
  exact ⟨a, e, s⟩
theorem dp_map {α : Type} {f : α → PyData} {l : List α} (h : Dp K F v (.tuple (l.map f))) : ∃ a xs, v = .ref a ∧ SqT K F a xs ∧ DpAll K F xs (l.map f) ∧ xs.length = l.length := by
  obtain ⟨a, xs, e, s, d⟩ := h.tup_inv
  exact ⟨a, xs, e, s, d, by rw [d.length, List.length_map]⟩
theorem dp_at {α : Type} {f : α → PyData} {l : List α} {xs : List V} {i : Nat} {y : α} (h : DpAll K F xs (l.map f)) (e : l[i]? = some y) : ∃ x, xs[i]? = some x ∧ Dp K F x (f y) :=
  h.get' (by rw [List.getElem?_map, e]; rfl)
theorem dp_at' {α : Type} {f : α → PyData} {l : List α} {xs : List V} {i : Nat} {x : V} (h : DpAll K F xs (l.map f)) (e : xs[i]? = some x) : ∃ y, l[i]? = some y ∧ Dp K F x (f y) := by
  obtain ⟨d, e1, e2⟩ := h.get e
  rw [List.getElem?_map] at e1
  obtain ⟨y, ey, rfl⟩ := Option.map_eq_some_iff.mp e1
  exact ⟨y, ey, e2⟩
theorem dp_prog {p : Prog} (h : Dp K F v (dProg p)) : ∃ a as ap xp, v = .ref a ∧ SqT K F a [.ref as, .ref ap] ∧ SqT K F as (p.shared.map V.str) ∧ SqT K F ap xp ∧ DpAll K F xp (p.parts.map dPart) ∧ xp.length = p.parts.length := by
  obtain ⟨a, x, y, e, s, d1, d2⟩ := dp2 h
  obtain ⟨as, rfl, s1⟩ := dp_ts d1
  obtain ⟨ap, xp, rfl, s2, dx, l⟩ := dp_map d2
  exact ⟨a, as, ap, xp, e, s, s1, s2, dx, l⟩
theorem dp_part {p : Part} (h : Dp K F v (dPart p)) : ∃ a ao ar xr, v = .ref a ∧ SqT K F a [.str p.name, .ref ao, .ref ar] ∧ SqT K F ao (p.own.map V.str) ∧ SqT K F ar xr ∧ DpAll K F xr (p.rows.map dRow) ∧ xr.length = p.rows.length := by
  obtain ⟨a, x, y, z, e, s, d1, d2, d3⟩ := dp3 h
  obtain ⟨ao, rfl, s1⟩ := dp_ts d2
  obtain ⟨ar, xr, rfl, s2, dx, l⟩ := dp_map d3
  cases d1.str_inv
  exact ⟨a, ao, ar, xr, e, s, s1, s2, dx, l⟩
theorem dp_row {r : Deed × List Int} (h : Dp K F v (dRow r)) : ∃ a ad ag, v = .ref a ∧ SqT K F a [.ref ad, .ref ag] ∧ Dp K F (.ref ad) (dDeed r.1) ∧ SqT K F ag (r.2.map V.int) := by
  obtain ⟨a, x, y, e, s, d1, d2⟩ := dp2 h
  obtain ⟨ag, rfl, s1⟩ := d2.ti_inv
  obtain ⟨ad, rfl⟩ : ∃ ad, x = .ref ad := by
    obtain ⟨r1, r2⟩ := r
    cases r1 <;> (obtain ⟨b, _, eb, _⟩ := d1.tup_inv; exact ⟨b, eb⟩)
  exact ⟨a, ad, ag, e, s, d1, s1⟩
/-- a slice of a tuple -/
theorem slA_by {a : Addr} {xs : List V} {lo hi : Option Int} {Q : VK} (h : SqT K H a xs) (q : ∀ t H', Ex H H' → SqT K H' t (cutV xs lo hi) → Q (.ref t) H') : rSlA K (.ref a) lo hi H Q := by
  refine ⟨a, _, rfl, h, fun e => ?_, fun _ t nt => q t _ (Evl.Ex.new nt) (SqT.of upd_same)⟩
  refine q a H (Evl.Ex.refl _) ?_
  have : cutV xs lo hi = xs := by
    unfold cutV
    rw [e.1, e.2, List.drop_zero, Nat.sub_zero, List.take_length]
  rw [this]
  exact h
theorem catA_by {a b : Addr} {xs ys : List V} {Q : VK} (h : SqT K H a xs) (h2 : SqT K H b ys) (hl : xs.length + ys.length ≤ 1000) (q : ∀ t H', Ex H H' → SqT K H' t (xs ++ ys) → Q (.ref t) H') : rCatA K (.ref a) (.ref b) H Q := by
  refine ⟨a, b, _, _, rfl, rfl, h, h2, Nat.le_of_lt (small1000 hl), fun e => ?_, fun _ e => ?_, fun _ _ t nt => q t _ (Evl.Ex.new nt) (SqT.of upd_same)⟩
  · subst e
    exact q b H (Evl.Ex.refl _) h2
  · subst e
    exact q a H (Evl.Ex.refl _) (by rw [List.append_nil]; exact h)
end
theorem cut_takeV (xs : List V) {s : Nat} (h : s ≤ xs.length) : cutV xs none (some (s : Int)) = xs.take s := by
  unfold cutV
  rw [HT.sIx_none, HT.sIx_nat, List.drop_zero, Nat.min_eq_left h, Nat.sub_zero]
theorem cut_dropV (xs : List V) {s : Nat} (h : s ≤ xs.length) : cutV xs (some (s : Int)) none = xs.drop s := by
  unfold cutV
  rw [HT.sIx_none, HT.sIx_nat, Nat.min_eq_left h]
  exact List.take_of_length_le (by rw [List.length_drop]; exact Nat.le_refl _)
/-- a program that is let by -/
structure LookOk (p : Prog) : Prop where
  p1 : 1 ≤ p.parts.length
  p3 : p.parts.length ≤ 3
  nd : p.shared.Nodup
  names : (p.parts.map Part.name).Nodup
  part : ∀ q ∈ p.parts, (p.shared ++ q.own).Nodup ∧ p.shared.length + q.own.length ≤ 3 ∧ OkRows (p.shared.length + q.own.length) p.parts.length 5 q.rows
def sp_need : Sp := fun vs H Q _ => ∃ (g : Bool) (a b c : V), vs = [.bl g, a, b, c] ∧ g = true ∧ Q .non H
def sp_rising (K : PySem.W.Frag) : Sp := fun vs H Q _ => ∃ (a : Addr) (g : List Int), vs = [.ref a] ∧ SqT K H a (g.map V.int) ∧ g.length ≤ 100 ∧ g.Pairwise (· < ·) ∧ ∀ H', Ex H H' → Q (.bl true) H'
def sp_look_row (K : PySem.W.Frag) : Sp := fun vs H Q _ => ∃ (v : V) (p : Prog) (i k : Nat) (q : Part), vs = [v, .int (i : Int), .int (k : Int)] ∧ Dp K H v (dProg p) ∧ LookOk p ∧ p.parts[i]? = some q ∧ k < q.rows.length ∧ ∀ H', Ex H H' → Q .non H'
def sp_look_part (K : PySem.W.Frag) : Sp := fun vs H Q _ => ∃ (v : V) (p : Prog) (i : Nat), vs = [v, .int (i : Int)] ∧ Dp K H v (dProg p) ∧ LookOk p ∧ i < p.parts.length ∧ ∀ H', Ex H H' → Q .non H'
def sp_look (K : PySem.W.Frag) : Sp := fun vs H Q _ => ∃ (v : V) (p : Prog), vs = [v] ∧ Dp K H v (dProg p) ∧ LookOk p ∧ ∀ H', Ex H H' → Q (.bl true) H'
theorem not_in_take {ns : List Str} {b : Nat} {z : Str} (h : ns.Nodup) (e : ns[b]? = some z) : inV (.str z) ((ns.take b).map V.str) = false := by
  rw [in_strs]
  refine decide_eq_false fun hz => ?_
  obtain ⟨j, hj⟩ := List.mem_iff_getElem?.mp hz
  rw [List.getElem?_take] at hj
  by_cases hjb : j < b
  · rw [if_pos hjb] at hj
    have h1 := (List.getElem?_eq_some_iff.mp hj).1
    have h2 := (List.getElem?_eq_some_iff.mp e).1
    have := (List.getElem?_inj h1 h).mp (hj.trans e.symm)
    omega
  · rw [if_neg hjb] at hj
    cases hj

theorem snoc_true {i : Nat} {b : Bool} (h : b = true) : some (HO.lst ((List.replicate i true).map V.bl ++ [V.bl b])) = some (HO.lst ((List.replicate (i + 1) true).map V.bl)) := by
  rw [h, List.replicate_succ', List.map_append]
  rfl
theorem iteT' {b : Bool} {A B : Prop} (hb : b = true) (h : A) : if b = true then A else B := by rw [if_pos hb]; exact h
theorem iteF' {b : Bool} {A B : Prop} (hb : b = false) (h : B) : if b = true then A else B := by rw [hb]; exact h
end CB

set_option Elab.async false
set_option linter.all false
set_option maxRecDepth 100000
set_option maxHeartbeats 4000000
/-! drawn programs are let by; so are they with other names -/
namespace CB
open PySem PySem.Spec PyProof.Rows L2
theorem cut_two {ws : List Str} (h : ws.Nodup) {sh a b : Nat} (ha : sh ≤ a) : (ws.take sh ++ (ws.drop a).take b).Nodup := by
  have h1 : ((ws.drop a).take b).Sublist (ws.drop sh) := (List.take_sublist _ _).trans (List.drop_sublist_drop_left ws ha)
  have h2 : (ws.take sh ++ (ws.drop a).take b).Sublist (ws.take sh ++ ws.drop sh) := (List.Sublist.refl _).append h1
  rw [List.take_append_drop] at h2
  exact h.sublist h2
section
variable {p : Prog} {mb mp mr : Nat}
theorem names_of {ws : List Str} {sh many : Nat} (h : ∀ k q, p.parts[k]? = some q → PartOf ws sh many mb mr k q) : p.parts.map Part.name = (ws.drop 9).take p.parts.length := by
  apply List.ext_getElem?
  intro k
  by_cases hk : k < p.parts.length
  · have e : p.parts[k]? = some p.parts[k] := List.getElem?_eq_getElem hk
    obtain ⟨h1, _⟩ := h k _ e
    rw [List.getElem?_map, e, List.getElem?_take, if_pos hk, List.getElem?_drop, h1]
    rfl
  · rw [List.getElem?_eq_none (by rw [List.length_map]; omega), List.getElem?_eq_none]
    rw [List.length_take]
    omega
theorem OkProg.look (h : OkProg mb mp mr p) (hb : mb ≤ 3) (hp : mp ≤ 3) (hr : mr ≤ 5) : LookOk p ∧ (p.shared ++ p.parts.map Part.name).Nodup := by
  obtain ⟨ws, lw, nd, hw, sh, es, hsh, p1, p3, parts⟩ := h
  have en := names_of parts
  have n2 : (p.shared ++ p.parts.map Part.name).Nodup := by
    rw [en, es]
    exact cut_two nd (by omega)
  have lsh : p.shared.length = sh := by rw [es, List.length_take, lw]; omega
  refine ⟨⟨p1, by omega, (List.nodup_append.mp n2).1, (List.nodup_append.mp n2).2.1, fun q hq => ?_⟩, n2⟩
  obtain ⟨k, ek⟩ := List.mem_iff_getElem?.mp hq
  obtain ⟨_, ol, o2, eo, ho, r1, r2, r3⟩ := parts k q ek
  have hk := (List.getElem?_eq_some_iff.mp ek).1
  have lo : q.own.length ≤ ol := by rw [eo, List.length_take]; omega
  refine ⟨by rw [es, eo]; exact cut_two nd (by omega), by omega, r1, by omega, ?_⟩
  rw [lsh]
  exact r3
end
/-- other names, the same rows -/
def Lk (p : Prog) (nm : List Str) (ps : List Part) : Prop := ∀ (k : Nat) (q' : Part), ps[k]? = some q' → ∃ q : Part, p.parts[k]? = some q ∧ q'.rows = q.rows ∧ q'.own.length = q.own.length ∧ (p.shared ++ q'.own).Nodup ∧ nm[k]? = some q'.name
theorem Lk.snoc {p : Prog} {nm : List Str} {ps : List Part} {q' : Part} (h : Lk p nm ps) (k : ∃ q : Part, p.parts[ps.length]? = some q ∧ q'.rows = q.rows ∧ q'.own.length = q.own.length ∧ (p.shared ++ q'.own).Nodup ∧ nm[ps.length]? = some q'.name) : Lk p nm (ps ++ [q']) := fun j r e => by
  by_cases hj : j < ps.length
  · rw [List.getElem?_append_left hj] at e
    exact h j r e
  · have hlt := (List.getElem?_eq_some_iff.mp e).1
    rw [List.length_append] at hlt
    have hj2 : j = ps.length := by
      simp at hlt
      omega
    subst hj2
    rw [List.getElem?_append_right (Nat.le_refl _), Nat.sub_self] at e
    have : q' = r := by simpa using e
    subst this
    exact k
theorem Lk.look {p : Prog} {nm : List Str} {ps : List Part} (L : LookOk p) (nn : nm.Nodup) (h : Lk p nm ps) (l : ps.length = p.parts.length) : LookOk ⟨p.shared, ps⟩ := by
  refine ⟨by rw [l]; exact L.p1, by rw [l]; exact L.p3, L.nd, ?_, fun q' hq => ?_⟩
  · have e : ps.map Part.name = nm.take ps.length := by
      apply List.ext_getElem?
      intro k
      by_cases hk : k < ps.length
      · have e : ps[k]? = some ps[k] := List.getElem?_eq_getElem hk
        obtain ⟨q, _, _, _, _, h1⟩ := h k _ e
        rw [List.getElem?_map, e, List.getElem?_take, if_pos hk, h1]
        rfl
      · rw [List.getElem?_eq_none (by rw [List.length_map]; omega), List.getElem?_eq_none]
        rw [List.length_take]
        omega
    show (ps.map Part.name).Nodup
    rw [e]
    exact nn.sublist (List.take_sublist _ _)
  · obtain ⟨k, ek⟩ := List.mem_iff_getElem?.mp hq
    obtain ⟨q, eq, er, eo, nd, _⟩ := h k q' ek
    obtain ⟨_, h2, h3⟩ := L.part q (List.mem_of_getElem? eq)
    refine ⟨nd, by show p.shared.length + q'.own.length ≤ 3; omega, ?_⟩
    show OkRows (p.shared.length + q'.own.length) ps.length 5 q'.rows
    rw [er, eo, l]
    exact h3
/-- the promise: a program that is let by -/
def sp_renamed (K : PySem.W.Frag) : Sp := fun vs H Q _ => ∃ (d l : Addr) (v : V) (p : Prog) (F : Hp), vs = [.ref d, v] ∧ Wr d l F H ∧ Dp K F v (dProg p) ∧ OkProg 3 3 5 p ∧
  ∀ v' F' H' p', Go d l F H F' H' → Dp K F' v' (dProg p') → LookOk p' → Q v' H'
def sp_bounds (K : PySem.W.Frag) : Sp := fun vs H Q _ => ∃ (d l : Addr) (F : Hp), vs = [.ref d] ∧ Wr d l F H ∧
  ∀ v' F' H' p', Go d l F H F' H' → Dp K F' v' (dProg p') → LookOk p' → Q v' H'
end CB

set_option Elab.async false
set_option linter.all false
set_option maxRecDepth 100000
set_option maxHeartbeats 4000000
namespace CB
open PySem PySem.Spec PyProof.Rows L2
open AutoSeq1 (wpAny_loadPart')
/-! ### a tuple times a number from 0 on -/
theorem tuple_mul0 (l : Addr) (items : Array Value) (n : Nat) (dd : Option Addr) (sl : Array (Option Value)) (u : Tok) (c1 : items.isEmpty = false) :
    Meets (Builtin.«tuple.__mul__» ⟨[.ref l, .int 0 u], []⟩) (fun _ R s => s.heap.get? l = some { cls := .type "tuple", dict := dd, data := .seq items n, slots := sl } ∧ R (.ok (.ret (Value.ref s.heap.objs.size))) { s with heap := s.heap.push { cls := Value.type "tuple", data := Data.seq #[] }, toks := s.toks }) :=
  .of_wp fun prog w A R s h => by
    obtain ⟨hp, g, d, tk, os⟩ := s
    obtain ⟨hl, h⟩ := h
    have f1 := AutoSeq1.idx_int
    have c2 : (items.isEmpty || (0 : Int) == 1) = false := by rw [c1]; rfl
    wp_walk using wpAny_loadPart' hl
    repeat (first
      | (refine wpAny_ite_false (decide_eq_false (by rw [c2]; exact Bool.false_ne_true)) ?_; wp_walk using wpAny_loadPart' hl))
    exact ⟨_, rfl, h⟩
def rRepT0 (K : PySem.W.Frag) : R2 := fun x y H Q => ∃ l k xs, x = .ref l ∧ y = .int k ∧ SqT K H l xs ∧ xs ≠ [] ∧ 0 ≤ k ∧ k ≤ 1000 ∧ xs.length ≤ 1000 ∧ (k = 1 → Q (.ref l) H) ∧ ∀ p, H p = none → Q (.ref p) (upd H p (.tup (List.replicate k.toNat xs).flatten))
theorem op_repT0 {X : Cx} {K : PySem.W.Frag} (hK : X.K = K := by rfl) : OpR X (binaryOp .Mult) (rRepT0 K) := by
  subst hK
  intro pins s σ H x y v u Q I rx ry h
  obtain ⟨l, k, xs, rfl, rfl, hT, hne, h1, h2, hz, q1, q⟩ := h
  by_cases e : k = 0
  · subst e
    cases rx
    obtain ⟨t, rfl⟩ := ry
    obtain ⟨its, r, ⟨⟨cls, dd, data, sl⟩, ho, hc, n, hd⟩, hs⟩ := I.tuple hT
    simp only at hc hd
    subst hc hd
    have hi : its.toArray.isEmpty = false := by
      cases its with
      | nil => exact absurd (List.eq_nil_of_length_eq_zero r.length) hne
      | cons a b => rfl
    refine wpAny_binaryOp_repeat_ref (T := "tuple") (U := "int") (by decide) ⟨_, ho, rfl⟩ (fun s' => typeIs_int s' 0 t) noFill_tuple_mul F.fills_int_mul F.slot_int_rmul repeat_tuple F.slot_int_index.lookup
      (call_meets F.slot_int_rmul (typeIs_int s 0 t) F.entry_int_rmul (F.args_int_rmul_2 _ _) (int_rmul_tuple 0 t l its.toArray n dd sl)
        ⟨ho, rfl, ⟨_, ho, rfl⟩, call_meets F.slot_tuple_mul ⟨_, ho, rfl⟩ F.entry_tuple_mul (F.args_tuple_mul_2 _ _) (tuple_mul0 l its.toArray n dd sl t hi) ⟨ho, ?_⟩⟩)
    refine ⟨.ref s.heap.objs.size, _, I.laid (t' := s.toks) (o := .tup []) (fun b ob q => Heap.get?_push_of_some _ q) (Nat.le_refl _) ?_, rfl, q _ (I.hok.fresh (Nat.le_refl _))⟩
    exact ⟨Nat.zero_le _, [], .nil, IsTup.new _ _⟩
  · exact op_repT1 rfl pins s σ H _ _ v u Q I rx ry ⟨l, k, xs, rfl, rfl, hT, hne, by omega, h2, hz, q1, q⟩
theorem repT_by {K : PySem.W.Frag} {H : Hp} {a : Addr} {n : Nat} {Q : VK} (h : SqT K H a [V.int 0]) (hn : n ≤ 1000) (q : ∀ t H', Ex H H' → SqT K H' t ((List.replicate n (0 : Int)).map V.int) → Q (.ref t) H') : rRepT0 K (.ref a) (.int (n : Int)) H Q := by
  have e : (List.replicate n [V.int 0]).flatten = (List.replicate n (0 : Int)).map V.int := by
    have := rep_zero [] n
    simpa using this
  refine ⟨a, n, _, rfl, rfl, h, by simp, by omega, by omega, by show 1 ≤ 1000; decide, fun e1 => ?_, fun p np => q p _ (Evl.Ex.new np) (SqT.of ?_)⟩
  · have : n = 1 := by omega
    subst this
    exact q a H (Evl.Ex.refl _) h
  · rw [upd_same, Int.toNat_natCast, e]
/-! ### the deal goes on, and one more object of ours changes -/
structure Gm (d l m : Addr) (F H F' H' : Hp) : Prop where
  w : Wr d l F' H'
  nf : Nf F H F'
  kp : ∀ b o, b ≠ d → b ≠ l → b ≠ m → H b = some o → H' b = some o
  al : ∀ b, H b ≠ none → H' b ≠ none
section
variable {d l m p z : Addr} {F H F1 H1 F2 H2 : Hp} {o u x : HO}
theorem IsDeal.al (D : IsDeal H d l) : H d ≠ none ∧ H l ≠ none := by
  obtain ⟨s, n, ls, D⟩ := D
  exact ⟨(by rw [D.hd]; exact fun e => (by cases e)), (by rw [D.hl]; exact fun e => (by cases e))⟩
theorem go_al (a : Go d l F H F1 H1) (b : Addr) (h : H b ≠ none) : H1 b ≠ none := a.w.alive a.kp h
theorem Gm.refl (W : Wr d l F H) : Gm d l m F H F H := ⟨W, Nf.refl, fun _ _ _ _ _ e => e, fun _ e => e⟩
theorem Gm.of (a : Go d l F H F1 H1) : Gm d l m F H F1 H1 := ⟨a.w, a.nf, fun b o h1 h2 _ e => a.kp b o h1 h2 e, go_al a⟩
theorem Gm.trans (a : Gm d l m F H F1 H1) (b : Gm d l m F1 H1 F2 H2) : Gm d l m F H F2 H2 :=
  ⟨b.w, ⟨a.nf.ex.trans b.nf.ex, fun x e1 e2 => b.nf.nf x (a.nf.nf x e1 e2) (a.al x e2)⟩, fun x o h1 h2 h3 e => b.kp x o h1 h2 h3 (a.kp x o h1 h2 h3 e), fun x e => b.al x (a.al x e)⟩
theorem Gm.go (a : Gm d l m F H F1 H1) (b : Go d l F1 H1 F2 H2) : Gm d l m F H F2 H2 := a.trans (Gm.of b)
theorem Gm.draw (a : Gm d l m F H F1 H1) (D : IsDeal H2 d l) (k : Kp d l H1 H2) : Gm d l m F H F1 H2 := a.go ((Go.refl a.w).draw D k)
theorem Gm.new (a : Gm d l m F H F1 H1) (hp : H1 p = none) : Gm d l m F H (upd F1 p o) (upd H1 p o) := a.go ((Go.refl a.w).new hp)
theorem Gm.newm (a : Gm d l m F H F1 H1) (hp : H1 p = none) : Gm d l m F H F1 (upd H1 p o) := a.go ((Go.refl a.w).newm hp)
/-- an object of ours, new since the start -/
theorem Gm.mut (a : Gm d l m F H F1 H1) (h : H p = none) (k : Own d l F1 H1 p u) : Gm d l m F H F1 (upd H1 p o) :=
  ⟨a.w.mut k.f k.nd k.nl, a.nf, fun b x h1 h2 h3 e => by rw [upd_ne (ne_of_none e h)]; exact a.kp b x h1 h2 h3 e, fun b e => by
    by_cases hb : b = p
    · rw [hb, upd_same]; exact fun z => by cases z
    · rw [upd_ne hb]; exact a.al b e⟩
/-- the one more -/
theorem Gm.put (a : Gm d l m F H F1 H1) (k : Own d l F1 H1 m u) : Gm d l m F H F1 (upd H1 m o) :=
  ⟨a.w.mut k.f k.nd k.nl, a.nf, fun b x h1 h2 h3 e => by rw [upd_ne h3]; exact a.kp b x h1 h2 h3 e, fun b e => by
    by_cases hb : b = m
    · rw [hb, upd_same]; exact fun z => by cases z
    · rw [upd_ne hb]; exact a.al b e⟩
theorem Gm.none (a : Gm d l m F H F1 H1) (hz : H1 z = none) : H z = none := by
  cases q : H z with
  | none => rfl
  | some o => exact absurd hz (a.al z (by rw [q]; exact fun e => by cases e))
theorem Gm.fz (a : Gm d l m F H F1 H1) : Ex F F1 := a.nf.ex
theorem Gm.sub (a : Gm d l m F H F1 H1) : Ex F1 H1 := a.w.sub
theorem Gm.ex (a : Gm d l m F H F1 H1) : Ex F H1 := a.nf.ex.trans a.w.sub
theorem Gm.deal (a : Gm d l m F H F1 H1) : IsDeal H1 d l := a.w.deal
theorem Own.gm (k : Own d l F H p o) (a : Gm d l m F H F1 H1) (h : p ≠ m) : Own d l F1 H1 p o := ⟨a.nf.nf p k.f (by rw [k.h]; exact fun e => by cases e), a.kp p o k.nd k.nl h k.h, k.nd, k.nl⟩
end
/-! ### ways: what they come to, and to which row -/
inductive Kd
  | call (q : Nat)
  | any
  | plain
def kd : Deed → Kd
  | .call q => .call q
  | .any _ => .any
  | _ => .plain
abbrev Shp := List (List (Kd × List Int))
def shp (P : Prog) : Shp := P.parts.map fun p => p.rows.map fun r => (kd r.1, r.2)
def worth (s bs : List Int) : Int := s.headD 0 + (((s.drop 1).zip bs).map fun q => q.1 * q.2).sum
abbrev WF := Nat → List Int → List PyData → Option (Nat × List Int)
/-- the boxes behind a deed -/
def deedW (rec : WF) (P : Prog) (e : Deed) (bs : List Int) (t : PyData) : Option (List Int) :=
  match e, t with
  | .any b, .int i => some (bs.set b i)
  | .rest, .none => some bs
  | .set b s, .none => some (bs.set b (worth s bs))
  | .call q, .tuple w =>
    match P.parts[q]? with
    | none => none
    | some p =>
      match rec q (bs.take P.shared.length ++ List.replicate p.own.length 0) w with
      | none => none
      | some r => if r.1 = p.rows.length then some (r.2.take P.shared.length ++ bs.drop P.shared.length) else none
  | _, _ => none
/-- what a step tells, and which going -/
def stp : PyData → Option (PyData × Int)
  | .tuple [t, .int k] => some (t, k)
  | _ => none
def stepW (rec : WF) (P : Prog) (p : Part) (st : Nat × List Int) (x : PyData) : Option (Nat × List Int) :=
  match p.rows[st.1]?, stp x with
  | some r, some tk => if 0 ≤ tk.2 ∧ tk.2 < r.2.length then (deedW rec P r.1 st.2 tk.1).map fun bs => ((r.2.getD tk.2.toNat 0).toNat, bs) else none
  | _, _ => none
/-- the row and the boxes to which a way through part q comes -/
def wayW (P : Prog) : Nat → WF
  | 0 => fun _ _ _ => none
  | n + 1 => fun q bs ds => match P.parts[q]? with
    | none => none
    | some p => ds.foldlM (stepW (wayW P n) P p) (0, bs)
abbrev RF := Nat → List PyData → Option Nat
def deedR (rec : RF) (S : Shp) (e : Kd) (t : PyData) : Bool :=
  match e, t with
  | .any, .int _ => true
  | .plain, .none => true
  | .call q, .tuple w =>
    match S[q]? with
    | none => false
    | some p => match rec q w with
      | none => false
      | some r => decide (r = p.length)
  | _, _ => false
def stepR (rec : RF) (S : Shp) (p : List (Kd × List Int)) (row : Nat) (x : PyData) : Option Nat :=
  match p[row]?, stp x with
  | some r, some tk => if 0 ≤ tk.2 ∧ tk.2 < r.2.length then (if deedR rec S r.1 tk.1 = true then some (r.2.getD tk.2.toNat 0).toNat else none) else none
  | _, _ => none
def wayR (S : Shp) : Nat → RF
  | 0 => fun _ _ => none
  | n + 1 => fun q ds => match S[q]? with
    | none => none
    | some p => ds.foldlM (stepR (wayR S n) S p) 0
section
variable {P : Prog} {n : Nat}
theorem shp_at {q : Nat} : (shp P)[q]? = (P.parts[q]?).map fun p => p.rows.map fun r => (kd r.1, r.2) := by
  unfold shp
  rw [List.getElem?_map]
theorem deed_row {rec : WF} {rr : RF} (hr : ∀ q bs w, (rec q bs w).map Prod.fst = rr q w) (e : Deed) (bs : List Int) (t : PyData) : (deedW rec P e bs t).isSome = deedR rr (shp P) (kd e) t := by
  cases e with
  | call q =>
    cases t <;> try rfl
    rename_i w
    show (deedW rec P (.call q) bs (.tuple w)).isSome = deedR rr (shp P) (.call q) (.tuple w)
    unfold deedW deedR
    dsimp only
    rw [shp_at]
    cases P.parts[q]? with
    | none => rfl
    | some p =>
      dsimp only [Option.map]
      have := hr q (bs.take P.shared.length ++ List.replicate p.own.length 0) w
      cases hw : rec q (bs.take P.shared.length ++ List.replicate p.own.length 0) w with
      | none =>
        rw [hw] at this
        have h2 : rr q w = none := this.symm
        rw [h2]
        rfl
      | some r =>
        rw [hw] at this
        have h2 : rr q w = some r.1 := this.symm
        rw [h2]
        dsimp only
        rw [List.length_map]
        by_cases h : r.1 = p.rows.length
        · rw [if_pos h, decide_eq_true h]; rfl
        · rw [if_neg h, decide_eq_false h]; rfl
  | rest => cases t <;> rfl
  | any b => cases t <;> rfl
  | set b s => cases t <;> rfl
theorem step_row {rec : WF} {rr : RF} (hr : ∀ q bs w, (rec q bs w).map Prod.fst = rr q w) (p : Part) (st : Nat × List Int) (x : PyData) :
    (stepW rec P p st x).map Prod.fst = stepR rr (shp P) (p.rows.map fun r => (kd r.1, r.2)) st.1 x := by
  unfold stepW stepR
  rw [List.getElem?_map]
  cases p.rows[st.1]? with
  | none => rfl
  | some r =>
    cases stp x with
    | none => rfl
    | some tk =>
      obtain ⟨t, k⟩ := tk
      dsimp only [Option.map]
      by_cases h : 0 ≤ k ∧ k < r.2.length
      · rw [if_pos h, if_pos h]
        have := deed_row (P := P) hr r.1 st.2 t
        cases hd : deedW rec P r.1 st.2 t with
        | none =>
          rw [hd] at this
          rw [← this]
          rfl
        | some bs =>
          rw [hd] at this
          rw [← this]
          rfl
      · rw [if_neg h, if_neg h]
theorem fold_row {rec : WF} {rr : RF} (hr : ∀ q bs w, (rec q bs w).map Prod.fst = rr q w) (p : Part) : ∀ (ds : List PyData) (st : Nat × List Int),
    (ds.foldlM (stepW rec P p) st).map Prod.fst = ds.foldlM (stepR rr (shp P) (p.rows.map fun r => (kd r.1, r.2))) st.1
  | [], st => rfl
  | x :: ds, st => by
    rw [List.foldlM_cons, List.foldlM_cons]
    have h := step_row (P := P) hr p st x
    cases hs : stepW rec P p st x with
    | none =>
      rw [hs] at h
      rw [← h]
      rfl
    | some st' =>
      rw [hs] at h
      rw [← h]
      exact fold_row hr p ds st'
theorem way_row : ∀ (n q : Nat) (bs : List Int) (w : List PyData), (wayW P n q bs w).map Prod.fst = wayR (shp P) n q w
  | 0, _, _, _ => rfl
  | n + 1, q, bs, w => by
    show (match P.parts[q]? with | none => none | some p => w.foldlM (stepW (wayW P n) P p) (0, bs)).map Prod.fst = (match (shp P)[q]? with | none => none | some p => w.foldlM (stepR (wayR (shp P) n) (shp P) p) 0)
    rw [shp_at]
    cases P.parts[q]? with
    | none => rfl
    | some p => exact fold_row (way_row n) p w (0, bs)
/-- a beginning of a way is one -/
theorem fold_take {α β : Type} {f : α → β → Option α} : ∀ {ds : List β} {a b : α} (k : Nat), ds.foldlM f a = some b → ∃ c, (ds.take k).foldlM f a = some c
  | _, a, _, 0, _ => ⟨a, by rw [List.take_zero]; rfl⟩
  | [], a, _, k + 1, _ => ⟨a, rfl⟩
  | x :: ds, a, b, k + 1, h => by
    rw [List.foldlM_cons] at h
    rw [List.take_succ_cons, List.foldlM_cons]
    cases hx : f a x with
    | none => rw [hx] at h; cases h
    | some a' =>
      rw [hx] at h
      exact fold_take (ds := ds) k h
theorem fold_snoc {α β : Type} {f : α → β → Option α} {ds : List β} {x : β} {a b : α} (h : ds.foldlM f a = some b) : (ds ++ [x]).foldlM f a = f b x := by
  rw [List.foldlM_append, h]
  show (List.foldlM f b [x]) = _
  rw [List.foldlM_cons]
  show (f b x >>= fun a => some a) = _
  cases f b x <;> rfl
end
/-- data that may be a way: so deep at most -/
def IsWay : Nat → List PyData → Prop
  | 0, _ => False
  | n + 1, ds => ds.length ≤ 500 ∧ ∀ x ∈ ds, ∃ t k, x = .tuple [t, .int k] ∧ (t = .none ∨ (∃ i, t = .int i) ∨ ∃ w, t = .tuple w ∧ IsWay n w)
def IsTold (n : Nat) (t : PyData) : Prop := t = .none ∨ (∃ i, t = .int i) ∨ ∃ w, t = .tuple w ∧ IsWay n w
theorem IsWay.mono : ∀ {n : Nat} {ds : List PyData}, IsWay n ds → IsWay (n + 1) ds
  | 0, _, h => h.elim
  | n + 1, ds, h => ⟨h.1, fun x hx => by
    obtain ⟨t, k, e, h1⟩ := h.2 x hx
    refine ⟨t, k, e, ?_⟩
    rcases h1 with h1 | h1 | ⟨w, e2, h1⟩
    · exact .inl h1
    · exact .inr (.inl h1)
    · exact .inr (.inr ⟨w, e2, h1.mono⟩)⟩
def resW : Option (Nat × List Int) → PyData
  | none => .none
  | some r => .tuple [.int (r.1 : Int), ti r.2]
def resB : Option (List Int) → PyData
  | none => .none
  | some bs => ti bs
def resL : Option (List Int) → PyData
  | none => .none
  | some bs => li bs
/-- how many boxes stand at a part's rows -/
def nb (P : Prog) (p : Part) : Nat := P.shared.length + p.own.length
section
variable {P : Prog}
theorem deed_len {rec : WF} {e : Deed} {bs bs' : List Int} {t : PyData} {m : Nat} (hs : P.shared.length ≤ bs.length) (hrec : ∀ q p bs w r, P.parts[q]? = some p → bs.length = nb P p → rec q bs w = some r → r.2.length = nb P p) (h : deedW rec P e bs t = some bs') : bs'.length = bs.length := by
  unfold deedW at h
  split at h
  · cases h; rw [List.length_set]
  · cases h; rfl
  · cases h; rw [List.length_set]
  · rename_i q w
    cases hq : P.parts[q]? with
    | none => rw [hq] at h; cases h
    | some p =>
      rw [hq] at h
      dsimp only at h
      cases hr : rec q (bs.take P.shared.length ++ List.replicate p.own.length 0) w with
      | none => rw [hr] at h; cases h
      | some r =>
        rw [hr] at h
        dsimp only at h
        by_cases e : r.1 = p.rows.length
        · rw [if_pos e] at h
          cases h
          have l1 := hrec q p _ w r hq (by rw [List.length_append, List.length_take, List.length_replicate]; unfold nb; omega) hr
          rw [List.length_append, List.length_take, List.length_drop, l1]
          unfold nb
          omega
        · rw [if_neg e] at h; cases h
  · cases h
/-- where a way comes to -/
theorem way_ok (L : LookOk P) : ∀ (n q : Nat) (p : Part) (bs : List Int) (w : List PyData) (r : Nat × List Int), P.parts[q]? = some p → bs.length = nb P p → wayW P n q bs w = some r → r.1 ≤ p.rows.length ∧ r.2.length = nb P p
  | 0, _, _, _, _, _, _, _, h => by cases h
  | n + 1, q, p, bs, w, r, hp, hb, h => by
    have h' : w.foldlM (stepW (wayW P n) P p) (0, bs) = some r := by
      have : wayW P (n + 1) q bs w = w.foldlM (stepW (wayW P n) P p) (0, bs) := by
        show (match P.parts[q]? with | none => none | some p => w.foldlM (stepW (wayW P n) P p) (0, bs)) = _
        rw [hp]
      rw [← this]; exact h
    have key : ∀ (w : List PyData) (st r : Nat × List Int), st.1 ≤ p.rows.length → st.2.length = nb P p → w.foldlM (stepW (wayW P n) P p) st = some r → r.1 ≤ p.rows.length ∧ r.2.length = nb P p := by
      intro w
      induction w with
      | nil => intro st r h1 h2 h3; cases h3; exact ⟨h1, h2⟩
      | cons x w ih =>
        intro st r h1 h2 h3
        rw [List.foldlM_cons] at h3
        cases hs : stepW (wayW P n) P p st x with
        | none => rw [hs] at h3; cases h3
        | some st' =>
          rw [hs] at h3
          refine ih st' r ?_ ?_ h3
          · unfold stepW at hs
            split at hs
            · rename_i r' tk e1 e2
              obtain ⟨t, k⟩ := tk
              dsimp only at hs
              split at hs
              · rename_i hk
                obtain ⟨bs', hb', rfl⟩ := Option.map_eq_some_iff.mp hs
                have ro := (L.part p (List.mem_of_getElem? hp)).2.2
                have hg := (ro.2.2 r' (List.mem_of_getElem? e1)).2.2.2.2
                have hki : k.toNat < r'.2.length := by omega
                have : r'.2.getD k.toNat 0 ∈ r'.2 := by
                  rw [List.getD_eq_getElem?_getD, List.getElem?_eq_getElem hki]
                  exact List.getElem_mem hki
                have := hg _ this
                show (r'.2.getD k.toNat 0).toNat ≤ _
                omega
              · cases hs
            · cases hs
          · unfold stepW at hs
            split at hs
            · split at hs
              · obtain ⟨bs', hb', rfl⟩ := Option.map_eq_some_iff.mp hs
                have := deed_len (m := 0) (by rw [h2]; unfold nb; omega) (fun q p bs w r a b c => (way_ok L n q p bs w r a b c).2) hb'
                rw [← h2]; exact this
              · cases hs
            · cases hs
    exact key w (0, bs) r (Nat.zero_le _) hb h'
end
/-! ### data alike, of any depth -/
def Ax : Nat → PyData → Prop
  | 0, d => d = .none ∨ ∃ i, d = .int i
  | n + 1, d => (d = .none ∨ ∃ i, d = .int i) ∨ ∃ ds, d = .tuple ds ∧ ds.length ≤ 1000 ∧ ∀ x ∈ ds, Ax n x
def spX (K : PySem.W.Frag) : Nat → Sp
  | 0 => fun _ _ _ _ => False
  | n + 1 => fun vs H Q _ => ∃ (v1 v2 : V) (d : PyData) (F : Hp), vs = [v1, v2] ∧ Ex F H ∧ Dp K F v1 d ∧ Dp K F v2 d ∧ Ax n d ∧ ∀ H', Ex H H' → Q (.bl true) H'
theorem ax_ti {p : List Int} (h : p.length ≤ 1000) : Ax 1 (ti p) := .inr ⟨_, rfl, by rw [List.length_map]; exact h, fun x hx => by
  obtain ⟨i, _, rfl⟩ := List.mem_map.mp hx
  exact .inr ⟨i, rfl⟩⟩
theorem ax_resW {r : Option (Nat × List Int)} (h : ∀ x, r = some x → x.2.length ≤ 1000) : Ax 2 (resW r) := by
  cases r with
  | none => exact .inl (.inl rfl)
  | some x =>
    refine .inr ⟨_, rfl, by show 2 ≤ 1000; decide, fun y hy => ?_⟩
    rcases List.mem_cons.mp hy with rfl | hy
    · exact .inl (.inr ⟨_, rfl⟩)
    · rw [List.mem_singleton.mp hy]
      exact ax_ti (h x rfl)
end CB
namespace CB
open PySem PySem.Spec PyProof.Rows L2
theorem iteND {p A B : Prop} [Decidable p] (hp : p) (h : B) : if (!decide p) = true then A else B := by rw [decide_eq_true hp]; exact h
theorem iteNN {p A B : Prop} [Decidable p] (hp : ¬ p) (h : A) : if (!decide p) = true then A else B := by rw [decide_eq_false hp]; exact h
/-- what a def of data hands back, where all stays -/
def RetE (K : PySem.W.Frag) (H : Hp) (Q : VK) (d : PyData) : Prop := ∀ v H', Ex H H' → Dp K H' v d → Q v H'
def isI : PyData → Bool
  | .int _ => true
  | _ => false
def sp_whole (K : PySem.W.Frag) : Sp := fun vs H Q _ => ∃ (v : V) (t : PyData) (n : Nat), vs = [v] ∧ Dp K H v t ∧ IsTold n t ∧ Q (.bl (isI t)) H
def sp_sumw (K : PySem.W.Frag) : Sp := fun vs H Q _ => ∃ (a b : Addr) (s bs : List Int), vs = [.ref a, .ref b] ∧ SqT K H a (s.map V.int) ∧ SqT K H b (bs.map V.int) ∧ 1 ≤ s.length ∧ s.length ≤ 200 ∧ (∀ x ∈ s, -9 ≤ x ∧ x ≤ 9) ∧ ∀ H', Ex H H' → Q (.int (worth s bs)) H'
def sp_with_box (K : PySem.W.Frag) : Sp := fun vs H Q _ => ∃ (a : Addr) (b : Nat) (x : Int) (bs : List Int), vs = [.ref a, .int (b : Int), .int x] ∧ SqT K H a (bs.map V.int) ∧ b < bs.length ∧ bs.length ≤ 100 ∧ RetE K H Q (ti (bs.set b x))
def sp_begun (K : PySem.W.Frag) : Sp := fun vs H Q _ => ∃ (v : V) (P : Prog) (q : Nat) (p : Part) (a : Addr) (bs : List Int), vs = [v, .int (q : Int), .ref a] ∧ Dp K H v (dProg P) ∧ P.parts[q]? = some p ∧ p.own.length ≤ 10 ∧ SqT K H a (bs.map V.int) ∧ bs.length ≤ 100 ∧ RetE K H Q (ti (bs ++ List.replicate p.own.length 0))
def sp_call_done (K : PySem.W.Frag) (n : Nat) : Sp := fun vs H Q _ => ∃ (v : V) (P : Prog) (q : Nat) (p : Part) (a : Addr) (bs : List Int) (vt : V) (t : PyData), vs = [v, .int (q : Int), .ref a, vt] ∧ Dp K H v (dProg P) ∧ LookOk P ∧ P.parts[q]? = some p ∧ SqT K H a (bs.map V.int) ∧ P.shared.length ≤ bs.length ∧ bs.length ≤ 100 ∧ Dp K H vt t ∧ IsTold n t ∧ RetE K H Q (resB (deedW (wayW P n) P (.call q) bs t))
def sp_deed_done (K : PySem.W.Frag) (n : Nat) : Sp := fun vs H Q _ => ∃ (v : V) (P : Prog) (vd : V) (e : Deed) (a : Addr) (bs : List Int) (vt : V) (t : PyData), vs = [v, vd, .ref a, vt] ∧ Dp K H v (dProg P) ∧ LookOk P ∧ Dp K H vd (dDeed e) ∧ OkDeed bs.length P.parts.length e ∧ SqT K H a (bs.map V.int) ∧ P.shared.length ≤ bs.length ∧ bs.length ≤ 100 ∧ Dp K H vt t ∧ IsTold n t ∧ RetE K H Q (resB (deedW (wayW P n) P e bs t))
def sp_way_done (K : PySem.W.Frag) : Nat → Sp
  | 0 => fun _ _ _ _ => False
  | n + 1 => fun vs H Q _ => ∃ (v : V) (P : Prog) (q : Nat) (p : Part) (a : Addr) (bs : List Int) (vw : V) (ds : List PyData), vs = [v, .int (q : Int), .ref a, vw] ∧ Dp K H v (dProg P) ∧ LookOk P ∧ P.parts[q]? = some p ∧ SqT K H a (bs.map V.int) ∧ bs.length = nb P p ∧ Dp K H vw (.tuple ds) ∧ IsWay (n + 1) ds ∧ RetE K H Q (resW (wayW P (n + 1) q bs ds))
theorem worth_take {s bs : List Int} {i : Nat} {x y : Int} (hx : (s.drop 1)[i]? = some x) (hy : bs[i]? = some y) : (((((s.drop 1).zip bs).take (i + 1)).map fun q => q.1 * q.2).sum : Int) = ((((s.drop 1).zip bs).take i).map fun q => q.1 * q.2).sum + x * y := by
  rw [take_zip_snoc hx hy, List.map_append, List.sum_append]
  simp
theorem set_parts {bs : List Int} {b : Nat} {x : Int} (h : b < bs.length) : bs.take b ++ [x] ++ bs.drop (b + 1) = bs.set b x := by
  rw [List.set_eq_take_append_cons_drop, if_pos h, List.append_assoc]
  rfl
theorem fold_next {α β : Type} {f : α → β → Option α} {ds : List β} {i : Nat} {x : β} {a b : α} (h : (ds.take i).foldlM f a = some b) (e : ds[i]? = some x) : (ds.take (i + 1)).foldlM f a = f b x := by
  rw [List.take_add_one, e]
  exact fold_snoc h
theorem fold_fail {α β : Type} {f : α → β → Option α} {ds : List β} {i : Nat} {x : β} {a b : α} (h : (ds.take i).foldlM f a = some b) (e : ds[i]? = some x) (hn : f b x = none) : ds.foldlM f a = none := by
  have h1 : (ds.take (i + 1)).foldlM f a = none := by rw [fold_next h e]; exact hn
  have h2 : ds.foldlM f a = ((ds.take (i + 1)) ++ ds.drop (i + 1)).foldlM f a := by rw [List.take_append_drop]
  rw [h2, List.foldlM_append, h1]
  rfl
theorem way_eq {P : Prog} {n q : Nat} {p : Part} {bs : List Int} {ds : List PyData} (h : P.parts[q]? = some p) : wayW P (n + 1) q bs ds = ds.foldlM (stepW (wayW P n) P p) (0, bs) := by
  show (match P.parts[q]? with | none => none | some p => ds.foldlM (stepW (wayW P n) P p) (0, bs)) = _
  rw [h]
theorem slN_by {K : PySem.W.Frag} {H : Hp} {a : Addr} {xs : List V} {lo : Option Int} {σ : L2.St} {Q : VK} (h : SqT K H a xs) (q : ∀ t H', Ex H H' → SqT K H' t (cutV xs lo none) → Q (.ref t) H') : tNoPart σ H (fun u H3 => rSlA K (.ref a) lo u H3 Q) := slA_by h q
/-- whether what is told suits a deed -/
def suit : Deed → PyData → Bool
  | .any _, .int _ => true
  | .call _, .tuple _ => true
  | .rest, .none => true
  | .set _ _, .none => true
  | _, _ => false
theorem suit_none {rec : WF} {P : Prog} {e : Deed} {bs : List Int} {t : PyData} (h : suit e t = false) : deedW rec P e bs t = none := by
  cases e <;> cases t <;> first | rfl | cases h
def sp_behindW (K : PySem.W.Frag) (n : Nat) : Sp := fun vs H Q _ => ∃ (v : V) (P : Prog) (i : Int) (vd : V) (e : Deed) (a : Addr) (bs : List Int) (vt : V) (t : PyData), vs = [v, .int i, .ref a, vd, vt] ∧ Dp K H v (dProg P) ∧ LookOk P ∧ Dp K H vd (dDeed e) ∧ OkDeed bs.length P.parts.length e ∧ SqL K H a (bs.map V.int) ∧ P.shared.length ≤ bs.length ∧ bs.length ≤ 100 ∧ Dp K H vt t ∧ IsTold n t ∧ RetE K H Q (resL (deedW (wayW P n) P e bs t))
def sp_goneW (K : PySem.W.Frag) : Nat → Sp
  | 0 => fun _ _ _ _ => False
  | n + 1 => fun vs H Q _ => ∃ (v : V) (P : Prog) (q : Nat) (p : Part) (a : Addr) (bs : List Int) (vw : V) (ds : List PyData), vs = [v, .int (q : Int), .ref a, vw] ∧ Dp K H v (dProg P) ∧ LookOk P ∧ P.parts[q]? = some p ∧ SqL K H a (bs.map V.int) ∧ bs.length = nb P p ∧ Dp K H vw (.tuple ds) ∧ IsWay (n + 1) ds ∧ RetE K H Q (resW (wayW P (n + 1) q bs ds))
/-- a row's numbers multiplied with boxes -/
theorem mul_take {s bs : List Int} {i : Nat} {x y : Int} (hx : s[i]? = some x) (hy : bs[i]? = some y) : ((s.zip bs).map fun q => q.1 * q.2).take (i + 1) = ((s.zip bs).map fun q => q.1 * q.2).take i ++ [x * y] := by
  rw [← List.map_take, ← List.map_take, take_zip_snoc hx hy, List.map_append]
  rfl
def deedItems : Deed → List PyData
  | .call k => [.str "call", .int (k : Int)]
  | .rest => [.str "rest"]
  | .any b => [.str "any", .int (b : Int)]
  | .set b s => [.str "set", .int (b : Int), ti s]
def deedWord : Deed → Str
  | .call _ => "call"
  | .rest => "rest"
  | .any _ => "any"
  | .set _ _ => "set"
theorem deed_items {K : PySem.W.Frag} {H : Hp} {v : V} {e : Deed} (h : Dp K H v (dDeed e)) : ∃ a xd, v = .ref a ∧ SqT K H a xd ∧ DpAll K H xd (deedItems e) ∧ atI xd 0 = some (.str (deedWord e)) := by
  have key : ∃ a xd, v = .ref a ∧ SqT K H a xd ∧ DpAll K H xd (deedItems e) := by
    cases e <;> exact h.tup_inv
  obtain ⟨a, xd, rfl, s, d⟩ := key
  refine ⟨a, xd, rfl, s, d, ?_⟩
  have h0 : (deedItems e)[0]? = some (.str (deedWord e)) := by cases e <;> rfl
  obtain ⟨x, ex, dx⟩ := d.get' h0
  cases dx.str_inv
  exact atI_nat (j := 0) ex
theorem deed_one {K : PySem.W.Frag} {H : Hp} {xd : List V} {e : Deed} {j : Int} (d : DpAll K H xd (deedItems e)) (h : (deedItems e)[1]? = some (.int j)) : atI xd 1 = some (.int j) := by
  obtain ⟨x, ex, dx⟩ := d.get' h
  cases dx.int_inv
  exact atI_nat (j := 1) ex
theorem deed_two {K : PySem.W.Frag} {H : Hp} {xd : List V} {b : Nat} {s : List Int} (d : DpAll K H xd (deedItems (.set b s))) : ∃ az, atI xd 2 = some (.ref az) ∧ SqT K H az (s.map V.int) := by
  obtain ⟨x, ex, dx⟩ := d.get' (i := 2) (d := ti s) rfl
  obtain ⟨az, rfl, sz⟩ := dx.ti_inv
  exact ⟨az, atI_nat (j := 2) ex, sz⟩
/-- the promise of a way drawn: so deep at most -/
def sp_walk (K : PySem.W.Frag) : Nat → Sp
  | 0 => fun _ _ _ _ => False
  | n + 1 => fun vs H Q _ => ∃ (d l : Addr) (v : V) (P : Prog) (q : Nat) (p : Part) (m : Addr) (r : Nat) (F : Hp), vs = [.ref d, v, .int (q : Int), .ref m, .int (n : Int)] ∧ Wr d l F H ∧ Dp K F v (dProg P) ∧ LookOk P ∧ P.parts[q]? = some p ∧ Own d l F H m (.lst [.int (r : Int)]) ∧ r ≤ 60 ∧
    ∀ v' F' H' ds at_ r', Gm d l m F H F' H' → Own d l F' H' m (.lst [.int ((r' : Nat) : Int)]) → r' ≤ r → Dp K F' v' (.tuple [.tuple ds, .int ((at_ : Nat) : Int)]) → IsWay (n + 1) ds → ds.length ≤ 60 → wayR (shp P) (n + 1) q ds = some at_ → at_ ≤ p.rows.length → Q v' H'
theorem wayR_eq {S : Shp} {n q : Nat} {p : List (Kd × List Int)} {ds : List PyData} (h : S[q]? = some p) : wayR S (n + 1) q ds = ds.foldlM (stepR (wayR S n) S p) 0 := by
  show (match S[q]? with | none => none | some p => ds.foldlM (stepR (wayR S n) S p) 0) = _
  rw [h]
theorem stepR_eq {rr : RF} {S : Shp} {p : List (Kd × List Int)} {r : Nat} {t : PyData} {k : Int} {e : Kd} {go : List Int} (h : p[r]? = some (e, go)) (hk : 0 ≤ k ∧ k < go.length) (hd : deedR rr S e t = true) : stepR rr S p r (.tuple [t, .int k]) = some (go.getD k.toNat 0).toNat := by
  unfold stepR
  rw [h]
  show (if 0 ≤ k ∧ k < go.length then (if deedR rr S e t = true then some (go.getD k.toNat 0).toNat else none) else none) = _
  rw [if_pos hk, if_pos hd]
theorem isWay_snoc {n : Nat} {ds : List PyData} {t : PyData} {k : Int} (h : IsWay (n + 1) ds) (hl : ds.length < 500) (ht : IsTold n t) : IsWay (n + 1) (ds ++ [.tuple [t, .int k]]) := by
  refine ⟨by rw [List.length_append]; show ds.length + 1 ≤ 500; omega, fun x hx => ?_⟩
  rcases List.mem_append.mp hx with h1 | h1
  · exact h.2 x h1
  · exact ⟨t, k, List.mem_singleton.mp h1, ht⟩
end CB

set_option Elab.async false
set_option linter.all false
set_option maxRecDepth 100000
set_option maxHeartbeats 4000000
/-! ways in programs alike; what the laws of ways promise -/
namespace CB
open PySem PySem.Spec PyProof.Rows L2
theorem deedR_mono {rr rr' : RF} {S : Shp} {e : Kd} {t : PyData} (h : ∀ q w r, rr q w = some r → rr' q w = some r) (k : deedR rr S e t = true) : deedR rr' S e t = true := by
  unfold deedR at k ⊢
  split at k
  · rfl
  · rfl
  · rename_i q w
    cases hq : S[q]? with
    | none => rw [hq] at k; cases k
    | some p =>
      rw [hq] at k
      dsimp only at k ⊢
      cases hr : rr q w with
      | none => rw [hr] at k; cases k
      | some r =>
        rw [hr] at k
        rw [h q w r hr]
        exact k
  · cases k
theorem stepR_mono {rr rr' : RF} {S : Shp} {p : List (Kd × List Int)} {r r2 : Nat} {x : PyData} (h : ∀ q w r, rr q w = some r → rr' q w = some r) (k : stepR rr S p r x = some r2) : stepR rr' S p r x = some r2 := by
  unfold stepR at k ⊢
  cases hp : p[r]? with
  | none => rw [hp] at k; cases k
  | some y =>
    rw [hp] at k
    cases hx : stp x with
    | none => rw [hx] at k; cases k
    | some tk =>
      rw [hx] at k
      dsimp only at k ⊢
      by_cases hk : 0 ≤ tk.2 ∧ tk.2 < y.2.length
      · rw [if_pos hk] at k ⊢
        by_cases hd : deedR rr S y.1 tk.1 = true
        · rw [if_pos hd] at k
          rw [if_pos (deedR_mono h hd)]
          exact k
        · rw [if_neg hd] at k; cases k
      · rw [if_neg hk] at k; cases k
theorem foldR_mono {rr rr' : RF} {S : Shp} {p : List (Kd × List Int)} (h : ∀ q w r, rr q w = some r → rr' q w = some r) : ∀ {ds : List PyData} {a r : Nat}, ds.foldlM (stepR rr S p) a = some r → ds.foldlM (stepR rr' S p) a = some r
  | [], _, _, k => k
  | x :: ds, a, r, k => by
    rw [List.foldlM_cons] at k ⊢
    cases hs : stepR rr S p a x with
    | none => rw [hs] at k; cases k
    | some b =>
      rw [hs] at k
      rw [stepR_mono h hs]
      exact foldR_mono h (ds := ds) k
theorem wayR_mono {S : Shp} : ∀ (n q : Nat) (ds : List PyData) (r : Nat), wayR S n q ds = some r → wayR S (n + 1) q ds = some r
  | 0, _, _, _, h => by cases h
  | n + 1, q, ds, r, h => by
    cases hq : S[q]? with
    | none =>
      have : wayR S (n + 1) q ds = none := by
        show (match S[q]? with | none => none | some p => ds.foldlM (stepR (wayR S n) S p) 0) = none
        rw [hq]
      rw [this] at h
      cases h
    | some p =>
      rw [wayR_eq hq] at h ⊢
      exact foldR_mono (wayR_mono n) h
/-- a beginning of a way comes to some row -/
theorem wayR_take {S : Shp} {n q : Nat} {ds : List PyData} {r : Nat} (k : Nat) (h : wayR S (n + 1) q ds = some r) : ∃ r', wayR S (n + 1) q (ds.take k) = some r' := by
  cases hq : S[q]? with
  | none =>
    have : wayR S (n + 1) q ds = none := by
      show (match S[q]? with | none => none | some p => ds.foldlM (stepR (wayR S n) S p) 0) = none
      rw [hq]
    rw [this] at h
    cases h
  | some p =>
    rw [wayR_eq hq] at h ⊢
    exact fold_take k h
theorem IsWay.take {n : Nat} {ds : List PyData} (k : Nat) (h : IsWay (n + 1) ds) : IsWay (n + 1) (ds.take k) := ⟨by rw [List.length_take]; have := h.1; omega, fun x hx => h.2 x (List.mem_of_mem_take hx)⟩
theorem dpAll_take {K : PySem.W.Frag} {F : Hp} : ∀ {xs : List V} {ds : List PyData} (k : Nat), DpAll K F xs ds → DpAll K F (xs.take k) (ds.take k)
  | _, _, 0, _ => .nil
  | _, _, k + 1, .nil => .nil
  | _, _, k + 1, .cons h hs => .cons h (dpAll_take k hs)
/-! ### the number by itself another one -/
def nxt (x : Int) : Int := if x = 9 then -9 else x + 1
def likeD : Deed → Deed
  | .set b s => .set b (nxt (s.headD 0) :: s.drop 1)
  | e => e
def likeRow (r : Deed × List Int) : Deed × List Int := (likeD r.1, r.2)
def likePart (p : Part) : Part := ⟨p.name, p.own, p.rows.map likeRow⟩
def likeP (P : Prog) : Prog := ⟨P.shared, P.parts.map likePart⟩
theorem kd_like (e : Deed) : kd (likeD e) = kd e := by cases e <;> rfl
theorem shp_like (P : Prog) : shp (likeP P) = shp P := by
  unfold shp likeP
  dsimp only
  rw [List.map_map]
  refine List.map_congr_left fun p _ => ?_
  show (p.rows.map likeRow).map _ = p.rows.map _
  rw [List.map_map]
  refine List.map_congr_left fun r _ => ?_
  show (kd (likeD r.1), r.2) = (kd r.1, r.2)
  rw [kd_like]
theorem okDeed_like {n parts : Nat} {e : Deed} (h : OkDeed n parts e) : OkDeed n parts (likeD e) := by
  cases e with
  | set b s =>
    obtain ⟨h1, h2, h3⟩ := h
    cases s with
    | nil => simp at h2
    | cons x r =>
      refine ⟨h1, h2, fun y hy => ?_⟩
      rcases List.mem_cons.mp hy with rfl | hy
      · have := h3 x List.mem_cons_self
        show -9 ≤ nxt x ∧ nxt x ≤ 9
        unfold nxt
        split <;> omega
      · exact h3 y (List.mem_cons_of_mem _ hy)
  | _ => exact h
theorem look_like {P : Prog} (L : LookOk P) : LookOk (likeP P) := by
  have el : (likeP P).parts.length = P.parts.length := List.length_map ..
  refine ⟨by rw [el]; exact L.p1, by rw [el]; exact L.p3, L.nd, ?_, fun q hq => ?_⟩
  · show ((P.parts.map likePart).map Part.name).Nodup
    rw [List.map_map]
    exact L.names
  · obtain ⟨p, hp, rfl⟩ := List.mem_map.mp hq
    obtain ⟨h1, h2, r1, r2, r3⟩ := L.part p hp
    have e1 : (p.rows.map likeRow).length = p.rows.length := List.length_map ..
    refine ⟨h1, h2, ?_⟩
    show OkRows (P.shared.length + p.own.length) (likeP P).parts.length 5 (p.rows.map likeRow)
    rw [el]
    refine ⟨by omega, by omega, fun r hr => ?_⟩
    obtain ⟨r0, hr0, rfl⟩ := List.mem_map.mp hr
    rw [e1]
    exact ⟨okDeed_like (r3 r0 hr0).1, (r3 r0 hr0).2⟩
theorem like_at {P : Prog} {q : Nat} {p : Part} (h : P.parts[q]? = some p) : (likeP P).parts[q]? = some (likePart p) ∧ nb (likeP P) (likePart p) = nb P p := by
  refine ⟨?_, rfl⟩
  show (P.parts.map likePart)[q]? = _
  rw [List.getElem?_map, h]
  rfl
def sp_like (K : PySem.W.Frag) : Sp := fun vs H Q _ => ∃ (v : V) (P : Prog), vs = [v] ∧ Dp K H v (dProg P) ∧ LookOk P ∧ RetE K H Q (dProg (likeP P))
def sp_lboxes (K : PySem.W.Frag) : Sp := fun vs H Q _ => ∃ (d l : Addr) (many : Nat) (F : Hp), vs = [.ref d, .int (many : Int)] ∧ Wr d l F H ∧ many ≤ 100 ∧ ∀ v F' H' bs, Go d l F H F' H' → Dp K F' v (ti bs) → bs.length = many → Q v H'
def sp_right18 (K : PySem.W.Frag) : Sp := fun vs H Q _ => ∃ (v : V) (P : Prog) (q : Nat) (p : Part) (a : Addr) (bs : List Int) (vw : V) (ds : List PyData) (at_ : Nat), vs = [v, .int (q : Int), .ref a, vw] ∧ Dp K H v (dProg P) ∧ LookOk P ∧ P.parts[q]? = some p ∧ SqT K H a (bs.map V.int) ∧ bs.length = nb P p ∧ Dp K H vw (.tuple ds) ∧ IsWay 6 ds ∧ wayR (shp P) 6 q ds = some at_ ∧ ∀ H', Ex H H' → Q (.bl true) H'
theorem Gm.toGo {d l m : Addr} {F H F1 H1 F2 H2 : Hp} (a : Go d l F H F1 H1) (h : H m = Option.none) (b : Gm d l m F1 H1 F2 H2) : Go d l F H F2 H2 :=
  ⟨b.w, a.nf.trans a.w a.kp b.nf, fun x o h1 h2 e => b.kp x o h1 h2 (ne_of_none e h) (a.kp x o h1 h2 e)⟩
/-- what is heard: a part, boxes, a way -/
def It18 (K : PySem.W.Frag) (F : Hp) (P : Prog) (x : V) : Prop := ∃ (t : Addr) (q : Nat) (p : Part) (ab : Addr) (bs : List Int) (vw : V) (ds : List PyData) (at_ : Nat), x = .ref t ∧ SqT K F t [.int (q : Int), .ref ab, vw] ∧ P.parts[q]? = some p ∧ SqT K F ab (bs.map V.int) ∧ bs.length = nb P p ∧ Dp K F vw (.tuple ds) ∧ IsWay 6 ds ∧ wayR (shp P) 6 q ds = some at_
theorem It18.ex {K : PySem.W.Frag} {F F' : Hp} {P : Prog} {x : V} (e : Ex F F') (h : It18 K F P x) : It18 K F' P x := by
  obtain ⟨t, q, p, ab, bs, vw, ds, at_, e1, s1, ep, s2, l, dw, hw, hr⟩ := h
  exact ⟨t, q, p, ab, bs, vw, ds, at_, e1, ex_T e s1, ep, ex_T e s2, l, dw.ex e, hw, hr⟩
/-- an object of ours, still to be changed, where nothing is drawn -/
structure Mu (F H : Hp) (p : Addr) (o : HO) : Prop where
  f : F p = none
  h : H p = some o
section
variable {F H F1 H1 : Hp} {p z : Addr} {o u : HO}
theorem Mu.new (e : Ex F H) (hp : H p = none) : Mu F (upd H p o) p o := ⟨sub_none e hp, upd_same⟩
theorem Mu.gr (m : Mu F H p o) (g : Gr NoS F H F1 H1) : Mu F1 H1 p o := ⟨(g.keepm (fun h => h) m.f m.h).1, (g.keepm (fun h => h) m.f m.h).2⟩
theorem Mu.ne (m : Mu F H p o) (hz : H z = none) : p ≠ z := ne_of_none m.h hz
theorem Mu.fresh (m : Mu F H p o) (hz : H z = none) : Mu (upd F z u) (upd H z u) p o := ⟨by rw [upd_ne (m.ne hz)]; exact m.f, by rw [upd_ne (m.ne hz)]; exact m.h⟩
theorem Mu.freshm (m : Mu F H p o) (hz : H z = none) : Mu F (upd H z u) p o := ⟨m.f, by rw [upd_ne (m.ne hz)]; exact m.h⟩
theorem Mu.put (m : Mu F H p o) : Mu F (upd H p u) p u := ⟨m.f, upd_same⟩
theorem Mu.other (m : Mu F H p o) (h : p ≠ z) : Mu F (upd H z u) p o := ⟨m.f, by rw [upd_ne h]; exact m.h⟩
theorem Mu.L {K : PySem.W.Frag} {xs : List V} (m : Mu F H p (.lst xs)) : SqL K H p xs := SqL.of m.h
end
section
variable {K : PySem.W.Frag} {F H : Hp} {a b : Addr} {xs ys : List V} {lo hi : Option Int} {Q : VK}
theorem slG (hF : Ex F H) (h : SqT K F a xs) (q : ∀ t F' H', Gr NoS F H F' H' → SqT K F' t (cutV xs lo hi) → Q (.ref t) H') : rSlA K (.ref a) lo hi H Q := by
  refine ⟨a, _, rfl, ex_T hF h, fun e => ?_, fun _ t nt => q t _ _ ((Gr.refl hF).new nt) (SqT.of upd_same)⟩
  refine q a F H (Gr.refl hF) ?_
  have : cutV xs lo hi = xs := by
    unfold cutV
    rw [e.1, e.2, List.drop_zero, Nat.sub_zero, List.take_length]
  rw [this]
  exact h
theorem slNG {σ : L2.St} (hF : Ex F H) (h : SqT K F a xs) (q : ∀ t F' H', Gr NoS F H F' H' → SqT K F' t (cutV xs lo none) → Q (.ref t) H') : tNoPart σ H (fun u H3 => rSlA K (.ref a) lo u H3 Q) := slG hF h q
theorem catG (hF : Ex F H) (h : SqT K F a xs) (h2 : SqT K F b ys) (hl : xs.length + ys.length ≤ 1000) (q : ∀ t F' H', Gr NoS F H F' H' → SqT K F' t (xs ++ ys) → Q (.ref t) H') : rCatA K (.ref a) (.ref b) H Q := by
  refine ⟨a, b, _, _, rfl, rfl, ex_T hF h, ex_T hF h2, Nat.le_of_lt (small1000 hl), fun e => ?_, fun _ e => ?_, fun _ _ t nt => q t _ _ ((Gr.refl hF).new nt) (SqT.of upd_same)⟩
  · subst e
    exact q b F H (Gr.refl hF) h2
  · subst e
    exact q a F H (Gr.refl hF) (by rw [List.append_nil]; exact h)
end
end CB

set_option Elab.async false
set_option linter.all false
set_option maxRecDepth 100000
set_option maxHeartbeats 4000000
/-! runs: ways within calls that go on -/
namespace CB
open PySem PySem.Spec PyProof.Rows L2
abbrev RS := Nat × Nat × List Int
def cal : Deed → Option Nat
  | .call q => some q
  | _ => none
def calK : Kd → Option Nat
  | .call q => some q
  | _ => none
/-- the part that a row calls -/
def calledW (P : Prog) (q r : Nat) : Option Nat := (P.parts[q]?).bind fun p => (p.rows[r]?).bind fun x => cal x.1
def calledR (S : Shp) (q r : Nat) : Option Nat := (S[q]?).bind fun p => (p[r]?).bind fun x => calK x.1
def beginW (P : Prog) (p : Part) (bs : List Int) : List Int := bs.take P.shared.length ++ List.replicate p.own.length 0
def nextW (P : Prog) (n : Nat) (st : RS) (ds : List PyData) : Option RS :=
  match calledW P st.1 st.2.1 with
  | none => none
  | some q => match P.parts[q]? with
    | none => none
    | some p => (wayW P n q (beginW P p st.2.2) ds).map fun r => (q, r)
def firstW (P : Prog) (n : Nat) (sh : List Int) (ds : List PyData) : Option RS :=
  match P.parts[0]? with
  | none => none
  | some p => (wayW P n 0 (sh ++ List.replicate p.own.length 0) ds).map fun r => (0, r)
def runW (P : Prog) (n : Nat) (sh : List Int) : List (List PyData) → Option RS
  | [] => none
  | w :: ws => match firstW P n sh w with
    | none => none
    | some st => ws.foldlM (nextW P n) st
def nextR (S : Shp) (n : Nat) (st : Nat × Nat) (ds : List PyData) : Option (Nat × Nat) :=
  match calledR S st.1 st.2 with
  | none => none
  | some q => (wayR S n q ds).map fun r => (q, r)
def runR (S : Shp) (n : Nat) : List (List PyData) → Option (Nat × Nat)
  | [] => none
  | w :: ws => match wayR S n 0 w with
    | none => none
    | some r => ws.foldlM (nextR S n) (0, r)
def rowOf (s : RS) : Nat × Nat := (s.1, s.2.1)
section
variable {P : Prog} {n : Nat}
theorem called_row (q r : Nat) : calledW P q r = calledR (shp P) q r := by
  unfold calledW calledR
  rw [shp_at]
  cases P.parts[q]? with
  | none => rfl
  | some p =>
    show (p.rows[r]?).bind _ = ((p.rows.map fun r => (kd r.1, r.2))[r]?).bind _
    rw [List.getElem?_map]
    cases p.rows[r]? with
    | none => rfl
    | some x =>
      show cal x.1 = calK (kd x.1)
      cases x.1 <;> rfl
theorem next_row (hL : LookOk P) (st : RS) (ds : List PyData) : (nextW P n st ds).map rowOf = nextR (shp P) n (rowOf st) ds := by
  unfold nextW nextR
  rw [called_row]
  show _ = match calledR (shp P) st.1 st.2.1 with | none => none | some q => (wayR (shp P) n q ds).map fun r => (q, r)
  cases hc : calledR (shp P) st.1 st.2.1 with
  | none => rfl
  | some q =>
    dsimp only
    cases hq : P.parts[q]? with
    | none =>
      have : wayR (shp P) n q ds = none := by
        cases n with
        | zero => rfl
        | succ n =>
          show (match (shp P)[q]? with | none => none | some p => ds.foldlM (stepR (wayR (shp P) n) (shp P) p) 0) = none
          rw [shp_at, hq]
          rfl
      rw [this]
      rfl
    | some p =>
      dsimp only
      rw [← way_row n q (beginW P p st.2.2) ds]
      cases wayW P n q (beginW P p st.2.2) ds <;> rfl
theorem foldRun_row (hL : LookOk P) : ∀ (ws : List (List PyData)) (st : RS), (ws.foldlM (nextW P n) st).map rowOf = ws.foldlM (nextR (shp P) n) (rowOf st)
  | [], st => rfl
  | w :: ws, st => by
    rw [List.foldlM_cons, List.foldlM_cons]
    have h := next_row (n := n) hL st w
    cases hs : nextW P n st w with
    | none =>
      rw [hs] at h
      rw [← h]
      rfl
    | some st' =>
      rw [hs] at h
      rw [← h]
      exact foldRun_row hL ws st'
theorem run_row (hL : LookOk P) (sh : List Int) (ws : List (List PyData)) : (runW P n sh ws).map rowOf = runR (shp P) n ws := by
  cases ws with
  | nil => rfl
  | cons w ws =>
    show (match firstW P n sh w with | none => none | some st => ws.foldlM (nextW P n) st).map rowOf = (match wayR (shp P) n 0 w with | none => none | some r => ws.foldlM (nextR (shp P) n) (0, r))
    have hp : 0 < P.parts.length := hL.p1
    have ep : P.parts[0]? = some P.parts[0] := List.getElem?_eq_getElem hp
    unfold firstW
    rw [ep, ← way_row n 0 (sh ++ List.replicate P.parts[0].own.length 0) w]
    dsimp only
    cases wayW P n 0 (sh ++ List.replicate P.parts[0].own.length 0) w with
    | none => rfl
    | some r => exact foldRun_row hL ws (0, r)
end
def resR : Option RS → PyData
  | none => .none
  | some s => .tuple [.tuple [.int (s.1 : Int), .int (s.2.1 : Int)], ti s.2.2]
theorem ax_resR {r : Option RS} (h : ∀ x, r = some x → x.2.2.length ≤ 1000) : Ax 2 (resR r) := by
  cases r with
  | none => exact .inl (.inl rfl)
  | some x =>
    refine .inr ⟨_, rfl, by show 2 ≤ 1000; decide, fun y hy => ?_⟩
    rcases List.mem_cons.mp hy with rfl | hy
    · refine .inr ⟨_, rfl, by show 2 ≤ 1000; decide, fun z hz => ?_⟩
      rcases List.mem_cons.mp hz with rfl | hz
      · exact .inr ⟨_, rfl⟩
      · rw [List.mem_singleton.mp hz]
        exact .inr ⟨_, rfl⟩
    · rw [List.mem_singleton.mp hy]
      exact ax_ti (h x rfl)
/-- a state of a run stands at a row of a part -/
def RsOk (P : Prog) (s : RS) : Prop := ∃ p, P.parts[s.1]? = some p ∧ s.2.1 ≤ p.rows.length ∧ s.2.2.length = nb P p
section
variable {P : Prog} {n : Nat}
theorem begin_len {p : Part} {bs : List Int} (h : P.shared.length ≤ bs.length) : (beginW P p bs).length = nb P p := by
  unfold beginW nb
  rw [List.length_append, List.length_take, List.length_replicate]
  omega
theorem first_ok (L : LookOk P) {sh : List Int} {ds : List PyData} {s : RS} (hs : sh.length = P.shared.length) (h : firstW P n sh ds = some s) : RsOk P s := by
  unfold firstW at h
  cases hp : P.parts[0]? with
  | none => rw [hp] at h; cases h
  | some p =>
    rw [hp] at h
    obtain ⟨r, hr, rfl⟩ := Option.map_eq_some_iff.mp h
    obtain ⟨h1, h2⟩ := way_ok L n 0 p _ ds r hp (by rw [List.length_append, List.length_replicate]; unfold nb; omega) hr
    exact ⟨p, hp, h1, h2⟩
theorem next_ok (L : LookOk P) {st s : RS} {ds : List PyData} (hst : RsOk P st) (h : nextW P n st ds = some s) : RsOk P s := by
  obtain ⟨p0, _, _, hl⟩ := hst
  unfold nextW at h
  cases hc : calledW P st.1 st.2.1 with
  | none => rw [hc] at h; cases h
  | some q =>
    rw [hc] at h
    dsimp only at h
    cases hp : P.parts[q]? with
    | none => rw [hp] at h; cases h
    | some p =>
      rw [hp] at h
      obtain ⟨r, hr, rfl⟩ := Option.map_eq_some_iff.mp h
      obtain ⟨h1, h2⟩ := way_ok L n q p _ ds r hp (begin_len (by rw [hl]; unfold nb; omega)) hr
      exact ⟨p, hp, h1, h2⟩
theorem run_ok (L : LookOk P) {sh : List Int} (hs : sh.length = P.shared.length) {ws : List (List PyData)} {s : RS} (h : runW P n sh ws = some s) : RsOk P s := by
  cases ws with
  | nil => cases h
  | cons w ws =>
    have h' : (match firstW P n sh w with | none => none | some st => ws.foldlM (nextW P n) st) = some s := h
    cases hf : firstW P n sh w with
    | none => rw [hf] at h'; cases h'
    | some st =>
      rw [hf] at h'
      have key : ∀ (ws : List (List PyData)) (st : RS), RsOk P st → ws.foldlM (nextW P n) st = some s → RsOk P s := by
        intro ws
        induction ws with
        | nil => intro st a b; cases b; exact a
        | cons x ws ih =>
          intro st a b
          rw [List.foldlM_cons] at b
          cases hx : nextW P n st x with
          | none => rw [hx] at b; cases b
          | some st' =>
            rw [hx] at b
            exact ih st' (next_ok L a hx) b
      exact key ws st (first_ok L hs hf) h'
end
def IsRun (n : Nat) (ws : List (List PyData)) : Prop := ws.length ≤ 100 ∧ ∀ w ∈ ws, IsWay n w
abbrev dRun (ws : List (List PyData)) : PyData := .tuple (ws.map PyData.tuple)
def sp_called_at (K : PySem.W.Frag) : Sp := fun vs H Q _ => ∃ (v : V) (P : Prog) (q r : Nat) (p : Part), vs = [v, .int (q : Int), .int (r : Int)] ∧ Dp K H v (dProg P) ∧ P.parts[q]? = some p ∧ r ≤ p.rows.length ∧ Q (match calledW P q r with | none => .non | some c => .int (c : Int)) H
def sp_run_done (K : PySem.W.Frag) (n : Nat) : Sp := fun vs H Q _ => ∃ (v : V) (P : Prog) (a : Addr) (sh : List Int) (vr : V) (ws : List (List PyData)), vs = [v, .ref a, vr] ∧ Dp K H v (dProg P) ∧ LookOk P ∧ SqT K H a (sh.map V.int) ∧ sh.length = P.shared.length ∧ Dp K H vr (dRun ws) ∧ IsRun (n + 1) ws ∧ RetE K H Q (resR (runW P (n + 1) sh ws))
theorem called_ok {P : Prog} (L : LookOk P) {q r c : Nat} (h : calledW P q r = some c) : ∃ p, P.parts[c]? = some p := by
  unfold calledW at h
  obtain ⟨p, hp, h⟩ := Option.bind_eq_some_iff.mp h
  obtain ⟨x, hx, h⟩ := Option.bind_eq_some_iff.mp h
  have ok := ((L.part p (List.mem_of_getElem? hp)).2.2.2.2 x (List.mem_of_getElem? hx)).1
  cases hd : x.1 with
  | call k =>
    rw [hd] at h ok
    have hk : k = c := Option.some.inj h
    subst hk
    have : k < P.parts.length := ok
    exact ⟨_, List.getElem?_eq_getElem this⟩
  | rest => rw [hd] at h; cases h
  | any b => rw [hd] at h; cases h
  | set b s => rw [hd] at h; cases h
theorem called_eq {P : Prog} {q r : Nat} {p : Part} {e : Deed} {go : List Int} (hp : P.parts[q]? = some p) (hr : p.rows[r]? = some (e, go)) : calledW P q r = cal e := by
  unfold calledW
  rw [hp]
  show (p.rows[r]?).bind _ = _
  rw [hr]
  rfl
theorem called_end {P : Prog} {q r : Nat} {p : Part} (hp : P.parts[q]? = some p) (hr : p.rows[r]? = none) : calledW P q r = none := by
  unfold calledW
  rw [hp]
  show (p.rows[r]?).bind _ = _
  rw [hr]
  rfl
/-- the run so far: the first way, and so many more -/
def preW (P : Prog) (n : Nat) (sh : List Int) (w : List PyData) (ws : List (List PyData)) (i : Nat) : Option RS := match firstW P n sh w with | none => none | some st => (ws.take i).foldlM (nextW P n) st
theorem pre_next {P : Prog} {n : Nat} {sh : List Int} {w x : List PyData} {ws : List (List PyData)} {i : Nat} {s : RS} (h : preW P n sh w ws i = some s) (e : ws[i]? = some x) : preW P n sh w ws (i + 1) = nextW P n s x := by
  unfold preW at h ⊢
  cases hf : firstW P n sh w with
  | none => rw [hf] at h; cases h
  | some st =>
    rw [hf] at h
    exact fold_next h e
theorem pre_stop {P : Prog} {n : Nat} {sh : List Int} {w x : List PyData} {ws : List (List PyData)} {i : Nat} {s : RS} (h : preW P n sh w ws i = some s) (e : ws[i]? = some x) (hn : nextW P n s x = none) : runW P n sh (w :: ws) = none := by
  unfold preW at h
  show (match firstW P n sh w with | none => none | some st => ws.foldlM (nextW P n) st) = none
  cases hf : firstW P n sh w with
  | none => rfl
  | some st =>
    rw [hf] at h
    exact fold_fail h e hn
theorem pre_none {P : Prog} {n : Nat} {sh : List Int} {w : List PyData} {ws : List (List PyData)} {i : Nat} (h : preW P n sh w ws i = none) : runW P n sh (w :: ws) = none := by
  unfold preW at h
  show (match firstW P n sh w with | none => none | some st => ws.foldlM (nextW P n) st) = none
  cases hf : firstW P n sh w with
  | none => rfl
  | some st =>
    rw [hf] at h
    dsimp only at h ⊢
    have : ws = ws.take i ++ ws.drop i := (List.take_append_drop i ws).symm
    rw [this, List.foldlM_append, h]
    rfl
theorem pre_all {P : Prog} {n : Nat} {sh : List Int} {w : List PyData} {ws : List (List PyData)} : preW P n sh w ws ws.length = runW P n sh (w :: ws) := by
  unfold preW
  rw [List.take_length]
  rfl
theorem pre_ok {P : Prog} {n : Nat} (L : LookOk P) {sh : List Int} (hs : sh.length = P.shared.length) {w : List PyData} {ws : List (List PyData)} {i : Nat} {s : RS} (h : preW P n sh w ws i = some s) : RsOk P s :=
  run_ok L hs (ws := w :: ws.take i) h
/-- the run behind its way i -/
def preA (P : Prog) (n : Nat) (sh : List Int) (ws : List (List PyData)) (i : Nat) : Option RS := match ws with | [] => none | w :: r => preW P n sh w r i
theorem preA_zero {P : Prog} {n : Nat} {sh : List Int} {ws : List (List PyData)} {w : List PyData} {p : Part} (hp : P.parts[0]? = some p) (e : ws[0]? = some w) : preA P n sh ws 0 = (wayW P n 0 (sh ++ List.replicate p.own.length 0) w).map fun r => (0, r) := by
  cases ws with
  | nil => cases e
  | cons x r =>
    have : x = w := by simpa using e
    subst this
    show preW P n sh x r 0 = _
    unfold preW firstW
    rw [hp]
    dsimp only
    cases wayW P n 0 (sh ++ List.replicate p.own.length 0) x <;> rfl
theorem preA_succ {P : Prog} {n : Nat} {sh : List Int} {ws : List (List PyData)} {w : List PyData} {i : Nat} {s : RS} (h : preA P n sh ws i = some s) (e : ws[i + 1]? = some w) : preA P n sh ws (i + 1) = nextW P n s w := by
  cases ws with
  | nil => cases h
  | cons x r => exact pre_next (ws := r) h (by simpa using e)
theorem preA_none {P : Prog} {n : Nat} {sh : List Int} {ws : List (List PyData)} {i : Nat} (h : preA P n sh ws i = none) : runW P n sh ws = none := by
  cases ws with
  | nil => rfl
  | cons x r => exact pre_none h
theorem preA_stop {P : Prog} {n : Nat} {sh : List Int} {ws : List (List PyData)} {w : List PyData} {i : Nat} {s : RS} (h : preA P n sh ws i = some s) (e : ws[i + 1]? = some w) (hn : nextW P n s w = none) : runW P n sh ws = none := preA_none (i := i + 1) (by rw [preA_succ h e]; exact hn)
theorem preA_all {P : Prog} {n : Nat} {sh : List Int} {ws : List (List PyData)} {i : Nat} (h : ws.length = i + 1) : preA P n sh ws i = runW P n sh ws := by
  cases ws with
  | nil => simp at h
  | cons x r =>
    have : i = r.length := by simp at h; omega
    subst this
    exact pre_all
theorem preA_ok {P : Prog} {n : Nat} (L : LookOk P) {sh : List Int} (hs : sh.length = P.shared.length) {ws : List (List PyData)} {i : Nat} {s : RS} (h : preA P n sh ws i = some s) : RsOk P s := by
  cases ws with
  | nil => cases h
  | cons x r => exact pre_ok L hs h
theorem next_eq {P : Prog} {n : Nat} {s : RS} {w : List PyData} {c : Nat} {p : Part} (hc : calledW P s.1 s.2.1 = some c) (hp : P.parts[c]? = some p) : nextW P n s w = (wayW P n c (beginW P p s.2.2) w).map fun r => (c, r) := by
  unfold nextW
  rw [hc]
  dsimp only
  rw [hp]
theorem next_no {P : Prog} {n : Nat} {s : RS} {w : List PyData} (hc : calledW P s.1 s.2.1 = none) : nextW P n s w = none := by
  unfold nextW
  rw [hc]
theorem runR_snoc {S : Shp} {n : Nat} {ws : List (List PyData)} {s : Nat × Nat} {q at_ : Nat} {ds : List PyData} (h : runR S n ws = some s) (hc : calledR S s.1 s.2 = some q) (hw : wayR S n q ds = some at_) : runR S n (ws ++ [ds]) = some (q, at_) := by
  cases ws with
  | nil => cases h
  | cons w ws =>
    have h' : (match wayR S n 0 w with | none => none | some r => ws.foldlM (nextR S n) (0, r)) = some s := h
    show (match wayR S n 0 w with | none => none | some r => (ws ++ [ds]).foldlM (nextR S n) (0, r)) = _
    cases hf : wayR S n 0 w with
    | none => rw [hf] at h'; cases h'
    | some r =>
      rw [hf] at h'
      dsimp only at h' ⊢
      rw [fold_snoc h']
      unfold nextR
      rw [hc]
      dsimp only
      rw [hw]
      rfl
def sp_run_gone (K : PySem.W.Frag) (n : Nat) : Sp := sp_run_done K n
def sp_run (K : PySem.W.Frag) (n : Nat) : Sp := fun vs H Q _ => ∃ (d l : Addr) (v : V) (P : Prog) (m : Addr) (r dn : Nat) (F : Hp), vs = [.ref d, v, .ref m, .int (dn : Int)] ∧ Wr d l F H ∧ Dp K F v (dProg P) ∧ LookOk P ∧ Own d l F H m (.lst [.int (r : Int)]) ∧ r ≤ 60 ∧ 1 ≤ dn ∧ dn ≤ 50 ∧
  ∀ v' F' H' ws r', Gm d l m F H F' H' → Own d l F' H' m (.lst [.int ((r' : Nat) : Int)]) → Dp K F' v' (dRun ws) → IsRun (n + 1) ws → ws ≠ [] → (∃ s, runR (shp P) (n + 1) ws = some s) → Q v' H'
theorem repTG {K : PySem.W.Frag} {F H : Hp} {a : Addr} {n : Nat} {Q : VK} (hF : Ex F H) (h : SqT K F a [V.int 0]) (hn : n ≤ 1000) (q : ∀ t F' H', Gr NoS F H F' H' → SqT K F' t ((List.replicate n (0 : Int)).map V.int) → Q (.ref t) H') : rRepT0 K (.ref a) (.int (n : Int)) H Q := by
  have e : (List.replicate n [V.int 0]).flatten = (List.replicate n (0 : Int)).map V.int := by
    have := rep_zero [] n
    simpa using this
  refine ⟨a, n, _, rfl, rfl, ex_T hF h, by simp, by omega, by omega, by show 1 ≤ 1000; decide, fun e1 => ?_, fun p np => q p _ _ ((Gr.refl hF).new np) (SqT.of ?_)⟩
  · have : n = 1 := by omega
    subst this
    exact q a F H (Gr.refl hF) h
  · rw [upd_same, Int.toNat_natCast, e]
theorem at_last {xs : List V} {x : V} (h : xs[xs.length - 1]? = some x) : atI xs (-1) = some x := by
  have hl : 0 < xs.length := by
    have := (List.getElem?_eq_some_iff.mp h).1
    omega
  unfold atI ixN
  rw [if_neg (by decide), if_pos (by omega)]
  show xs[(-1 + (xs.length : Int)).toNat]? = some x
  have : (-1 + (xs.length : Int)).toNat = xs.length - 1 := by omega
  rw [this]
  exact h
theorem cut_init (xs : List V) : cutV xs none (some (-1)) = xs.take (xs.length - 1) := by
  unfold cutV
  rw [HT.sIx_none, List.drop_zero, Nat.sub_zero]
  have : HT.sIx xs.length xs.length (some (-1)) = xs.length - 1 := by
    unfold HT.sIx
    simp
    omega
  rw [this]
def sp_right19 (K : PySem.W.Frag) : Sp := fun vs H Q _ => ∃ (v : V) (P : Prog) (a : Addr) (sh : List Int) (vr : V) (ws : List (List PyData)) (s : Nat × Nat), vs = [v, .ref a, vr] ∧ Dp K H v (dProg P) ∧ LookOk P ∧ SqT K H a (sh.map V.int) ∧ sh.length = P.shared.length ∧ Dp K H vr (dRun ws) ∧ IsRun 4 ws ∧ ws ≠ [] ∧ runR (shp P) 4 ws = some s ∧ ∀ H', Ex H H' → Q (.bl true) H'
/-- the last way shorter -/
theorem runR_cut {S : Shp} {n : Nat} {init : List (List PyData)} {last : List PyData} {s : Nat × Nat} (k : Nat) (h : runR S (n + 1) (init ++ [last]) = some s) : ∃ s', runR S (n + 1) (init ++ [last.take k]) = some s' := by
  cases init with
  | nil =>
    have h' : (match wayR S (n + 1) 0 last with | none => none | some r => ([] : List (List PyData)).foldlM (nextR S (n + 1)) (0, r)) = some s := h
    cases hw : wayR S (n + 1) 0 last with
    | none => rw [hw] at h'; cases h'
    | some r =>
      obtain ⟨r', hr'⟩ := wayR_take k hw
      refine ⟨(0, r'), ?_⟩
      show (match wayR S (n + 1) 0 (last.take k) with | none => none | some r => ([] : List (List PyData)).foldlM (nextR S (n + 1)) (0, r)) = _
      rw [hr']
      rfl
  | cons w ws =>
    have h' : (match wayR S (n + 1) 0 w with | none => none | some r => (ws ++ [last]).foldlM (nextR S (n + 1)) (0, r)) = some s := h
    cases hw : wayR S (n + 1) 0 w with
    | none => rw [hw] at h'; cases h'
    | some r =>
      rw [hw] at h'
      dsimp only at h'
      cases hm : ws.foldlM (nextR S (n + 1)) (0, r) with
      | none =>
        rw [List.foldlM_append, hm] at h'
        cases h'
      | some st =>
        rw [fold_snoc hm] at h'
        have h2 := h'
        unfold nextR at h2
        cases hc : calledR S st.1 st.2 with
        | none => rw [hc] at h2; cases h2
        | some q =>
          rw [hc] at h2
          dsimp only at h2
          obtain ⟨r2, hr2, _⟩ := Option.map_eq_some_iff.mp h2
          obtain ⟨r', hr'⟩ := wayR_take k hr2
          refine ⟨(q, r'), ?_⟩
          exact runR_snoc (ws := w :: ws) (s := st) (by
            show (match wayR S (n + 1) 0 w with | none => none | some r => ws.foldlM (nextR S (n + 1)) (0, r)) = _
            rw [hw]
            exact hm) hc hr'
def It19 (K : PySem.W.Frag) (F : Hp) (P : Prog) (x : V) : Prop := ∃ (t : Addr) (ab : Addr) (sh : List Int) (vr : V) (ws : List (List PyData)) (s : Nat × Nat), x = .ref t ∧ SqT K F t [.ref ab, vr] ∧ SqT K F ab (sh.map V.int) ∧ sh.length = P.shared.length ∧ Dp K F vr (dRun ws) ∧ IsRun 4 ws ∧ ws ≠ [] ∧ runR (shp P) 4 ws = some s
theorem It19.ex {K : PySem.W.Frag} {F F' : Hp} {P : Prog} {x : V} (e : Ex F F') (h : It19 K F P x) : It19 K F' P x := by
  obtain ⟨t, ab, sh, vr, ws, s, e1, s1, s2, l, dr, hr, hn, hs⟩ := h
  exact ⟨t, ab, sh, vr, ws, s, e1, ex_T e s1, ex_T e s2, l, dr.ex e, hr, hn, hs⟩
end CB

set_option Elab.async false
set_option linter.all false
set_option maxRecDepth 100000
set_option maxHeartbeats 4000000
/-! ways otherwise -/
namespace CB
open PySem PySem.Spec PyProof.Rows L2
/-- a way so deep at most, at each depth of at most so many steps -/
def IsWy (b : Nat) : Nat → List PyData → Prop
  | 0, _ => False
  | n + 1, ds => ds.length ≤ b ∧ ∀ x ∈ ds, ∃ t k, x = .tuple [t, .int k] ∧ (t = .none ∨ (∃ i, t = .int i) ∨ ∃ w, t = .tuple w ∧ IsWy b n w)
def IsTd (b n : Nat) (t : PyData) : Prop := t = .none ∨ (∃ i, t = .int i) ∨ ∃ w, t = .tuple w ∧ IsWy b n w
theorem IsWy.mono {b b' : Nat} (hb : b ≤ b') : ∀ {n n' : Nat} {ds : List PyData}, n ≤ n' → IsWy b n ds → IsWy b' n' ds
  | 0, _, _, _, h => h.elim
  | n + 1, 0, _, hn, _ => by omega
  | n + 1, n' + 1, ds, hn, h => ⟨Nat.le_trans h.1 hb, fun x hx => by
    obtain ⟨t, k, e, h1⟩ := h.2 x hx
    refine ⟨t, k, e, ?_⟩
    rcases h1 with h1 | h1 | ⟨w, e2, h1⟩
    · exact .inl h1
    · exact .inr (.inl h1)
    · exact .inr (.inr ⟨w, e2, IsWy.mono hb (by omega) h1⟩)⟩
theorem IsTd.mono {b b' n n' : Nat} {t : PyData} (hb : b ≤ b') (hn : n ≤ n') (h : IsTd b n t) : IsTd b' n' t := by
  rcases h with h | h | ⟨w, e, h⟩
  · exact .inl h
  · exact .inr (.inl h)
  · exact .inr (.inr ⟨w, e, h.mono hb hn⟩)
theorem IsWy.way {b : Nat} (hb : b ≤ 500) : ∀ {n : Nat} {ds : List PyData}, IsWy b n ds → IsWay n ds
  | 0, _, h => h.elim
  | n + 1, ds, h => ⟨Nat.le_trans h.1 hb, fun x hx => by
    obtain ⟨t, k, e, h1⟩ := h.2 x hx
    refine ⟨t, k, e, ?_⟩
    rcases h1 with h1 | h1 | ⟨w, e2, h1⟩
    · exact .inl h1
    · exact .inr (.inl h1)
    · exact .inr (.inr ⟨w, e2, IsWy.way hb h1⟩)⟩
theorem IsWy.told {b n : Nat} {ds : List PyData} {x : PyData} (h : IsWy b (n + 1) ds) (hx : x ∈ ds) : ∃ t k, x = .tuple [t, .int k] ∧ IsTd b n t := h.2 x hx
theorem isWy_snoc {n : Nat} {ds : List PyData} {t : PyData} {k : Int} (h : IsWy 60 (n + 1) ds) (hl : ds.length < 60) (ht : IsTd 60 n t) : IsWy 60 (n + 1) (ds ++ [.tuple [t, .int k]]) := by
  refine ⟨by rw [List.length_append]; show ds.length + 1 ≤ 60; omega, fun x hx => ?_⟩
  rcases List.mem_append.mp hx with h1 | h1
  · exact h.2 x h1
  · exact ⟨t, k, List.mem_singleton.mp h1, ht⟩
def sp_walk6 (K : PySem.W.Frag) : Nat → Sp
  | 0 => fun _ _ _ _ => False
  | n + 1 => fun vs H Q _ => ∃ (d l : Addr) (v : V) (P : Prog) (q : Nat) (p : Part) (m : Addr) (r : Nat) (F : Hp), vs = [.ref d, v, .int (q : Int), .ref m, .int (n : Int)] ∧ Wr d l F H ∧ Dp K F v (dProg P) ∧ LookOk P ∧ P.parts[q]? = some p ∧ Own d l F H m (.lst [.int (r : Int)]) ∧ r ≤ 60 ∧
    ∀ v' F' H' ds at_ r', Gm d l m F H F' H' → Own d l F' H' m (.lst [.int ((r' : Nat) : Int)]) → r' ≤ r → Dp K F' v' (.tuple [.tuple ds, .int ((at_ : Nat) : Int)]) → IsWy 60 (n + 1) ds → ds.length ≤ 60 → wayR (shp P) (n + 1) q ds = some at_ → at_ ≤ p.rows.length → Q v' H'
def IsRn (b n : Nat) (ws : List (List PyData)) : Prop := ws.length ≤ b ∧ ∀ w ∈ ws, IsWy b n w
def sp_run6 (K : PySem.W.Frag) (n : Nat) : Sp := fun vs H Q _ => ∃ (d l : Addr) (v : V) (P : Prog) (m : Addr) (r dn : Nat) (F : Hp), vs = [.ref d, v, .ref m, .int (dn : Int)] ∧ Wr d l F H ∧ Dp K F v (dProg P) ∧ LookOk P ∧ Own d l F H m (.lst [.int (r : Int)]) ∧ r ≤ 60 ∧ 1 ≤ dn ∧ dn ≤ 50 ∧
  ∀ v' F' H' ws r', Gm d l m F H F' H' → Own d l F' H' m (.lst [.int ((r' : Nat) : Int)]) → Dp K F' v' (dRun ws) → IsRn 60 (n + 1) ws → ws ≠ [] → (∃ s, runR (shp P) (n + 1) ws = some s) → Q v' H'
theorem IsRn.mono {b b' n n' : Nat} {ws : List (List PyData)} (hb : b ≤ b') (hn : n ≤ n') (h : IsRn b n ws) : IsRn b' n' ws := ⟨Nat.le_trans h.1 hb, fun w hw => (h.2 w hw).mono hb hn⟩
theorem IsRn.run {b n : Nat} {ws : List (List PyData)} (hb : b ≤ 100) (h : IsRn b n ws) : IsRun n ws := ⟨Nat.le_trans h.1 hb, fun w hw => (h.2 w hw).way (by omega)⟩
/-- promises of what is told, of ways, of runs otherwise -/
def sp_wo (K : PySem.W.Frag) (N : Nat) : Sp := fun vs H Q _ => ∃ (n b : Nat) (d l : Addr) (v : V) (ds : List PyData) (F : Hp), n ≤ N ∧ 1 ≤ b ∧ b ≤ 400 ∧ vs = [.ref d, v] ∧ Wr d l F H ∧ Dp K F v (.tuple ds) ∧ IsWy b n ds ∧
  ∀ v' F' H' ds', Go d l F H F' H' → Dp K F' v' (.tuple ds') → IsWy (b + 1) (n + 1) ds' → Q v' H'
def sp_to (K : PySem.W.Frag) (N : Nat) : Sp := fun vs H Q _ => ∃ (n b : Nat) (d l : Addr) (v : V) (t : PyData) (F : Hp), n ≤ N ∧ 1 ≤ b ∧ b ≤ 400 ∧ vs = [.ref d, v] ∧ Wr d l F H ∧ Dp K F v t ∧ IsTd b n t ∧
  ∀ v' F' H' t', Go d l F H F' H' → Dp K F' v' t' → IsTd (b + 1) (n + 1) t' → Q v' H'
def sp_ro (K : PySem.W.Frag) (N : Nat) : Sp := fun vs H Q _ => ∃ (n b : Nat) (d l : Addr) (v : V) (ws : List (List PyData)) (F : Hp), 1 ≤ n ∧ n ≤ N ∧ 1 ≤ b ∧ b ≤ 400 ∧ vs = [.ref d, v] ∧ Wr d l F H ∧ Dp K F v (dRun ws) ∧ IsRn b n ws ∧
  ∀ v' F' H' ws', Go d l F H F' H' → Dp K F' v' (dRun ws') → IsRn (b + 1) (n + 1) ws' → Q v' H'
theorem wy_one {b n : Nat} : IsWy (b + 1) (n + 1) [.tuple [.none, .int 0]] := ⟨by show 1 ≤ b + 1; omega, fun x hx => ⟨.none, 0, List.mem_singleton.mp hx, .inl rfl⟩⟩
theorem wy_up {b n : Nat} {ds ds' : List PyData} (h : IsWy b n ds) (hl : ds'.length ≤ b + 1) (hd : ∀ x ∈ ds', x ∈ ds ∨ ∃ t k, x = .tuple [t, .int k] ∧ IsTd (b + 1) n t) : IsWy (b + 1) (n + 1) ds' := by
  refine ⟨hl, fun x hx => ?_⟩
  rcases hd x hx with h1 | h1
  · cases n with
    | zero => exact h.elim
    | succ n =>
      obtain ⟨t, k, e, ht⟩ := h.told h1
      exact ⟨t, k, e, IsTd.mono (by omega) (by omega) ht⟩
  · exact h1
end CB
namespace CB
open PySem PySem.Spec PyProof.Rows L2
theorem dpAll_drop {K : PySem.W.Frag} {F : Hp} : ∀ {xs : List V} {ds : List PyData} (k : Nat), DpAll K F xs ds → DpAll K F (xs.drop k) (ds.drop k)
  | _, _, 0, h => h
  | _, _, k + 1, .nil => .nil
  | _, _, k + 1, .cons _ hs => dpAll_drop k hs
theorem IsTd.told {b n : Nat} {t : PyData} (hb : b ≤ 500) (h : IsTd b n t) : IsTold n t := by
  rcases h with h | h | ⟨w, e, h⟩
  · exact .inl h
  · exact .inr (.inl h)
  · exact .inr (.inr ⟨w, e, h.way hb⟩)
theorem cut_dropI (xs : List V) {s : Nat} (h : s + 1 ≤ xs.length) : cutV xs (some ((s : Int) + 1)) none = xs.drop (s + 1) := by
  have : (s : Int) + 1 = ((s + 1 : Nat) : Int) := by omega
  rw [this]
  exact cut_dropV xs h
theorem cut_takeI (xs : List V) {s : Nat} (h : s + 1 ≤ xs.length) : cutV xs none (some ((s : Int) + 1)) = xs.take (s + 1) := by
  have : (s : Int) + 1 = ((s + 1 : Nat) : Int) := by omega
  rw [this]
  exact cut_takeV xs h
def sp_rright (K : PySem.W.Frag) (n : Nat) : Sp := fun vs H Q _ => ∃ (v : V) (P : Prog) (a : Addr) (sh : List Int) (vr : V) (ws : List (List PyData)), vs = [v, .ref a, vr] ∧ Dp K H v (dProg P) ∧ LookOk P ∧ SqT K H a (sh.map V.int) ∧ sh.length = P.shared.length ∧ Dp K H vr (dRun ws) ∧ IsRun (n + 1) ws ∧ ∀ H', Ex H H' → Q (.bl true) H'
def sp_wright (K : PySem.W.Frag) (n : Nat) : Sp := fun vs H Q _ => ∃ (v : V) (P : Prog) (q : Nat) (p : Part) (a : Addr) (bs : List Int) (vw : V) (ds : List PyData), vs = [v, .int (q : Int), .ref a, vw] ∧ Dp K H v (dProg P) ∧ LookOk P ∧ P.parts[q]? = some p ∧ SqT K H a (bs.map V.int) ∧ bs.length = nb P p ∧ Dp K H vw (.tuple ds) ∧ IsWay (n + 1) ds ∧ ∀ H', Ex H H' → Q (.bl true) H'
theorem isWay_up {n m : Nat} {ds : List PyData} (h : IsWay n ds) (k : n ≤ m) : IsWay m ds := by
  induction m with
  | zero =>
    have : n = 0 := by omega
    subst this
    exact h
  | succ m ih =>
    by_cases e : n = m + 1
    · subst e; exact h
    · exact (ih (by omega)).mono
end CB

set_option Elab.async false
set_option linter.all false
set_option maxRecDepth 100000
set_option maxHeartbeats 4000000
/-! own errors without fields; range as a value; classes asked of an error -/
namespace CB
open PySem PySem.Spec PyProof.Rows L2
section
variable {X : Cx} {K : PySem.W.Frag}
/-- X(), X an own exception class without own __init__ -/
theorem pmk_own0 {C : Addr} {bmB : List Value} {B newId initId : String} {x : Str} {p pos : Pos} (F : ExcBaseFacts B newId initId bmB) (q : PySem.W.excIn X.K C bmB newId = true) (gC : X.mg x = some (.ref C))
    (kC : PySem.W.keepIn X.K (.ref C) = true) (r : Raises X (.ref C)) (hg : Gl X x) (hdb : (x == ("__debug__" : Str)) = false := by decide) :
    PMk X (.Call (.Name x p) [] [] pos) (fun _ H Q => Q (.ref C) none H) := by
  intro pins s σ H Q I h
  refine wpAny_Call_Name_kw (ld_glob I hg gC ?_ hdb)
  refine PySem.W.callWith_K0 I.kIn kC ?_
  show wpAny _ _ (call (.ref C) []) _ _ _
  obtain ⟨bm, N, nm, qn, bs, hdct, sn, sub, ab, col, dd, k0, k1, k2, k3, k5, mN, hC, hN, hni, T⟩ := exc_obj I.kIn q
  refine wpAny_call_exc_subT F T hC hN hni (fun h' e hm => ?_) (Nat.zero_le _)
  exact mk_of I hm r h (I.hok.gone hm.new)
/-- isinstance(e, c) and isinstance(e, (c1, ..)), e the exception that the suite holds, its class told at the reading -/
theorem call_isEc {a D : Addr} {cls : Value} {d : Option Addr} {oe : Obj} {pn : List (Addr × Obj)} (C : ExcC K D) (hz : Zc cls d oe) (hf : ∃ vs, oe.data = .fields vs) (hK : X.K = K := by rfl) :
    CallR (X.suite a ((a, oe) :: pn)) (.builtin "isinstance") (fun xs H Q => cls = .ref D ∧ d = none ∧ rIsE K D a xs H Q) := by
  intro pins s σ H xs us Q I r h
  obtain ⟨e1, e2, h⟩ := h
  subst e1 e2 hK
  exact call_isE C hz hf pins s σ H xs us Q I r h
def rIsET (K : PySem.W.Frag) (D a : Addr) : List V → Hp → VK → Prop := fun xs H Q => ∃ (tp : Addr) (cs : List V) (us : List Value) (b : Bool), xs = [.ref a, .ref tp] ∧ H tp = some (.tup cs) ∧ Paired ClsV cs us ∧ PySem.W.kitAny K (.ref D) us = some b ∧ Q (.bl b) H
theorem call_isETc {a D : Addr} {cls : Value} {d : Option Addr} {oe : Obj} {pn : List (Addr × Obj)} (C : ExcC K D) (hz : Zc cls d oe) (hf : ∃ vs, oe.data = .fields vs) (hK : X.K = K := by rfl) :
    CallR (X.suite a ((a, oe) :: pn)) (.builtin "isinstance") (fun xs H Q => cls = .ref D ∧ d = none ∧ rIsET K D a xs H Q) := by
  intro pins s σ H xs us Q I r h
  obtain ⟨e1, e2, tp, cs, ws, b, rfl, hT, k, e, q⟩ := h
  subst e1 e2 hK
  obtain ⟨u1, u2, rfl, r1, r2⟩ := vals2 r
  cases (show u1 = Value.ref a from r1)
  cases (show u2 = Value.ref tp from r2)
  obtain ⟨hget, _⟩ := I.pin (a, oe) (List.mem_append.mpr (.inl List.mem_cons_self))
  obtain ⟨vs, hv⟩ := hf
  have J : PySem.W.InstAt s.heap a oe D none := by
    obtain ⟨oc, od, oda, osl⟩ := oe
    obtain ⟨h1, h2⟩ := hz
    dsimp only at h1 h2 hv
    subst h1 h2 hv
    exact ⟨hget, rfl, rfl, trivial⟩
  obtain ⟨_, its, rv, o, h1, h2, n, h3⟩ := (show ObjOk X.prog X.w H s.heap tp (.tup cs) from I.hok tp _ hT)
  have e3 := ClsV.all k rv
  subst e3
  obtain ⟨oc, od, dt, sl⟩ := o
  simp only at h2 h3
  subst h2 h3
  exact PySem.W.kia_tup (PySem.W.handS_kitx_exc C.hg C.hk C.hs C.hd C.ha C.hn C.ht C.hm) I.kIn J h1 e (fun z => nomatch z) fun tk => ⟨.bl b, H, I.kept (t' := tk) fun _ _ z => z, rfl, q⟩
theorem cr_range1 : CallR X (.type "range") (fun vs H Q => ∃ j, vs = [V.int j] ∧ ∀ p, H p = none → Q (.ref p) (upd H p (.rng 0 j))) := by
  intro pins s σ H vs us Q I r h
  obtain ⟨j, rfl, q⟩ := h
  cases r with
  | cons rj rr =>
    cases rr
    obtain ⟨u, rfl⟩ := rj
    refine call_range_1 ⟨.ref s.heap.objs.size, upd H s.heap.objs.size (.rng 0 j), I.laid (t' := s.toks + 1 + 1) (fun b o e => Heap.get?_push_of_some _ e) (Nat.le_refl _) ?_, rfl, q _ (I.hok.fresh (Nat.le_refl _))⟩
    exact ⟨s.toks, u, s.toks + 1, Heap.get?_push_size _ rfl⟩
theorem bt_range : bootBuiltins "range" = some (.type "range") := by decide +kernel
/-- i not in r -/
theorem op_notin_rng : OpR X (compareOp .NotIn) (fun x y H Q => ∃ i a lo hi, x = V.int i ∧ y = V.ref a ∧ H a = some (.rng lo hi) ∧ Q (.bl (!decide (lo ≤ i ∧ i < hi))) H) := by
  intro pins s σ H x y v u Q I rx ry h
  obtain ⟨i, a, lo, hi, rfl, rfl, ha, q⟩ := h
  obtain ⟨k, rfl⟩ := rx
  obtain rfl : u = Value.ref a := ry
  obtain ⟨t1, t2, t3, ho⟩ := I.hok a _ ha
  show wpAny _ _ (do return Value.bool (!(← contains (Value.ref a) (Value.int i k)))) _ _ s
  refine wpAny_bind (wpAny_contains_slot (T := "range") ⟨_, ho, rfl⟩ F.slot_range_contains (call_meets F.slot_range_contains ⟨_, ho, rfl⟩ F.entry_range_contains (F.args_range_contains_2 _ _) (q_contains a lo hi i t1 t2 t3 k)
    ⟨ho, wpAny_truthy_bool (wpAny_pure ⟨.bl _, H, I, rfl, ?_⟩)⟩))
  rw [place1]
  exact q
end
end CB
namespace CB
open PySem PySem.Spec PyProof.Rows L2
/-! set(a tuple of ints) -/
section
variable {P : Program} {w : World} {A : Around} {E : Value → Shared → Prop} {s : Shared}
set_option maxHeartbeats 6400000 in
theorem set_of_tupI {l : Addr} {items : Array Value} (ns : List Int) {Q : Value → Shared → Prop} (hh : A.handled = none) (hl : s.heap.IsTuple l items) (hit : IntsAre items.toList ns) (hb : ns.length + 1 < scanBound)
    (h : ∀ (h' : Heap) (tk c : Nat), SetR w h' s.heap.objs.size (fun j => decide (j ∈ ns)) c → c ≤ ns.length → (∀ b o, s.heap.get? b = some o → h'.get? b = some o) → Q (.ref s.heap.objs.size) { s with heap := h', toks := tk }) :
    wpAny (model P w) A (call (.type "set") [.ref l]) Q E s := by
  have hisz : items.size = ns.length := by rw [← Array.length_toList]; exact IntsAre.length hit
  obtain ⟨c, tl, hmro⟩ := F.called_set.mro
  have hmade := F.called_set.made; have hsub := F.called_set.sub
  refine wpAny_call (codeAny_of_tree ?_)
  show wpAny _ _ (callAny (.type "set") _) _ _ _
  refine wpAny_pure ⟨Code.quiet_builtin _ (by decide +kernel), codeAny_builtin F.entry_type_call ?_⟩
  rw [Around.under_plain (weight_type_call_type "set" [.ref l] []) rfl]
  have h1 := F.called_set.notType; have h2 := F.called_set.canCreate; have hct := F.typeCall_set_1 (.ref l)
  repeat (any_goals (first | assumption | wp_step))
  refine codeAny_mono (code_set_led1 (.ref l) (E := E) (Q₁ := fun obj s₁ => obj = .ref s.heap.objs.size ∧ s₁ = { s with heap := s.heap.push (nS w) }) ⟨rfl, rfl⟩) fun r s₁ hr => ?_
  cases r with
  | error e => exact hr
  | ok fl =>
    cases fl with
    | ret obj =>
      obtain ⟨rfl, rfl⟩ := hr
      have hS : (s.heap.push (nS w)).get? s.heap.objs.size = some (nS w) := Heap.get?_push_size _ rfl
      have hT : Shared.TypeIs { s with heap := s.heap.push (nS w) } (.ref s.heap.objs.size) "set" := ⟨_, hS, rfl⟩
      have hli := F.called_set.init.lookup; have hbi := F.called_set.init.bind (.ref s.heap.objs.size)
      repeat (any_goals (first | assumption | wp_step))
      refine codeAny_mono (codeAny_call_builtin (R := wants (fun r s₂ => r = .none ∧ ∃ h' tk c, s₂ = { s with heap := h', toks := tk } ∧ SetR w h' s.heap.objs.size (fun j => decide (j ∈ ns)) c ∧ c ≤ ns.length ∧ (∀ b o, s.heap.get? b = some o → h'.get? b = some o)) E) F.called_set.init.plain F.entry_set_init (check_set_init_1 hT ?_)) fun r₂ s₂ hr₂ => ?_
      · obtain ⟨⟨ocls, odict, odata, oslots⟩, hol, hcl, nl, hdl⟩ := hl
        simp only at hcl hdl
        subst hcl; subst hdl
        have hol' : (s.heap.push (nS w)).get? l = some { cls := .type "tuple", dict := odict, data := .seq items nl, slots := oslots } := Heap.get?_push_of_some _ hol
        have hsls := F.sub_tuple_set; have hslf := F.sub_tuple_frozenset
        have hne : (Value.type "tuple" == Value.type "dict") = false := by decide
        have hl1 : (s.heap.push (nS w)).IsTuple l items := ⟨_, hol', rfl, nl, rfl⟩
        unfold Builtin.«set.__init__» noKeywords Builtin.Frozenset.updateFrom
        generalize hPI : pyIter = PI
        wp_walk
        subst hPI
        refine wpAny_pyIter_tuple hl1 (wpAny_bind (wpAny_runValue ?_))
        have hlS : l < s.heap.objs.size := Heap.lt_size hol
        have hh3 : A.in1.in1.in1.handled = none := by simp [hh]
        have hneI : l ≠ (s.heap.push (nS w)).objs.size := by rw [Heap.size_push]; exact Nat.ne_of_lt (Nat.lt_succ_of_lt hlS)
        have hSf : s.heap.objs.size ∉ [(s.heap.push (nS w)).objs.size, l] := by
          rw [Heap.size_push]; simp only [List.mem_cons, List.mem_singleton, List.not_mem_nil, or_false, not_or]; exact ⟨Nat.ne_of_lt (Nat.lt_succ_self _), Nat.ne_of_gt hlS⟩
        have hval : ∀ (i : Nat) (v : Value), items[i]? = some v → ∃ k t, ns[i]? = some k ∧ v = .int k t := fun i v hv => by
          have hi : i < ns.length := by rw [← hisz]; exact (Array.getElem?_eq_some_iff.mp hv).1
          obtain ⟨t, e⟩ := PyProof.Rows.IntsAre.int_at hit i v (by rw [Array.getElem?_toList]; exact hv)
          exact ⟨ns[i], t, List.getElem?_eq_getElem hi, by rw [e, List.getD_eq_getElem?_getD, List.getElem?_eq_getElem hi] <;> rfl⟩
        refine set_update_ints ((Walks.tuple hh3 _ l hneI items).toS) s.heap.objs.size hSf ns hisz hb hval (items.size - 0) 0 _ (by omega) (Nat.zero_le _) ⟨⟨_, Heap.get?_push_size _ rfl, rfl, rfl⟩, (hl1.push _)⟩ ⟨0, Nat.le_refl 0, setR_new_at (Heap.get?_push_of_some _ hS)⟩ fun s' c' hm hc' hS' => ?_
        obtain ⟨h', g2, d', tk', os'⟩ := s'
        obtain rfl : g2 = s.gens := hm.gens
        obtain rfl : d' = s.drawn := hm.drawn
        obtain rfl : os' = s.os := hm.os
        show wpAny _ _ _ _ _ _
        refine wpAny_pure ?_
        show wpAny _ _ (ret Value.none) _ _ _
        rw [hisz] at hc'
        refine wpAny_pure ⟨rfl, h', tk', c', rfl, hS', hc', fun b o e => ?_⟩
        have hb0 : b < s.heap.objs.size := Heap.lt_size e
        have hb2 : b ≠ (s.heap.push (nS w)).objs.size := by rw [Heap.size_push]; exact Nat.ne_of_lt (Nat.lt_succ_of_lt hb0)
        exact hm.heap b o (by simp only [List.mem_cons, List.mem_singleton, List.not_mem_nil, or_false, not_or]; exact ⟨Nat.ne_of_lt hb0, hb2⟩) (Heap.get?_push_of_some _ (Heap.get?_push_of_some _ e))
      · cases r₂ with
        | error e => exact hr₂
        | ok fl₂ =>
          cases fl₂ with
          | ret r =>
            obtain ⟨rfl, h', tk, c', rfl, hS', hc', hk'⟩ := hr₂
            repeat (any_goals (first | assumption | wp_step))
            exact h _ _ _ hS' hc' hk'
          | _ => exact hr₂.elim
    | _ => exact hr.elim
end
section
variable {X : Cx} {K : PySem.W.Frag}
def rSetT (w : World) (K : PySem.W.Frag) : List V → Hp → VK → Prop := fun xs H Q => ∃ (l : Addr) (ns : List Int), xs = [.ref l] ∧ SqT K H l (ns.map V.int) ∧ ns.length ≤ 1000 ∧ ∀ p n, H p = none → n ≤ ns.length → Q (.ref p) (upd H p (SetO w p (fun j => decide (j ∈ ns)) n))
theorem cr_setT (hc : X.calm = true) (hK : X.K = K := by rfl) : CallR X (.type "set") (rSetT X.w K) := by
  subst hK
  intro pins s σ H xs us Q I r h
  obtain ⟨l, ns, rfl, hs, hn, q⟩ := h
  obtain ⟨its, rv, p', hz⟩ := I.tuple hs
  rw [Vals.ref1 r]
  have hi := rv.ints
  refine set_of_tupI ns (I.ok.hd hc) p' (by simpa using hi) (by have e : scanBound = scanBound := rfl; unfold scanBound at e ⊢; omega) fun h' tk c hR hcl hk => ?_
  exact ⟨.ref s.heap.objs.size, upd H s.heap.objs.size _, I.laid (t' := tk) (fun b u e => hk b u e) (Nat.le_refl _) (setO_new hR), rfl, q _ c (I.hok.fresh (Nat.le_refl _)) hcl⟩
end
end CB

set_option Elab.async false
set_option linter.all false
set_option maxRecDepth 100000
set_option maxHeartbeats 4000000
/-! programs made over: a going more -/
namespace CB
open PySem PySem.Spec PyProof.Rows L2
theorem incr_ext : ∀ {xs ys : List Int}, xs.Pairwise (· < ·) → ys.Pairwise (· < ·) → (∀ k : Int, k ∈ xs ↔ k ∈ ys) → xs = ys
  | [], [], _, _, _ => rfl
  | [], y :: ys, _, _, h => by have := (h y).mpr List.mem_cons_self; cases this
  | x :: xs, [], _, _, h => by have := (h x).mp List.mem_cons_self; cases this
  | x :: xs, y :: ys, hx, hy, h => by
    have hx1 := (List.pairwise_cons.mp hx)
    have hy1 := (List.pairwise_cons.mp hy)
    have e : x = y := by
      rcases List.mem_cons.mp ((h x).mp List.mem_cons_self) with e | e
      · exact e
      · rcases List.mem_cons.mp ((h y).mpr List.mem_cons_self) with e2 | e2
        · exact e2.symm
        · have := hy1.1 x e
          have := hx1.1 y e2
          omega
    subst e
    have t : xs = ys := incr_ext hx1.2 hy1.2 fun k => by
      constructor
      · intro hk
        rcases List.mem_cons.mp ((h k).mp (List.mem_cons_of_mem _ hk)) with e | e
        · have := hx1.1 k hk; omega
        · exact e
      · intro hk
        rcases List.mem_cons.mp ((h k).mpr (List.mem_cons_of_mem _ hk)) with e | e
        · have := hy1.1 k hk; omega
        · exact e
    rw [t]
/-- a number put in its place among rising ones -/
def insZ : List Int → Int → List Int
  | [], x => [x]
  | y :: ys, x => if x < y then x :: y :: ys else y :: insZ ys x
theorem insZ_mem : ∀ {l : List Int} {x k : Int}, k ∈ insZ l x ↔ k ∈ l ∨ k = x
  | [], x, k => by simp [insZ]
  | y :: ys, x, k => by
    unfold insZ
    by_cases h : x < y
    · rw [if_pos h]
      simp only [List.mem_cons]
      constructor
      · rintro (h | h | h)
        · exact .inr h
        · exact .inl (.inl h)
        · exact .inl (.inr h)
      · rintro ((h | h) | h)
        · exact .inr (.inl h)
        · exact .inr (.inr h)
        · exact .inl h
    · rw [if_neg h]
      simp only [List.mem_cons, insZ_mem]
      constructor
      · rintro (h | h | h)
        · exact .inl (.inl h)
        · exact .inl (.inr h)
        · exact .inr h
      · rintro ((h | h) | h)
        · exact .inl h
        · exact .inr (.inl h)
        · exact .inr (.inr h)
theorem insZ_incr : ∀ {l : List Int} {x : Int}, l.Pairwise (· < ·) → x ∉ l → (insZ l x).Pairwise (· < ·)
  | [], x, _, _ => List.pairwise_singleton _ _
  | y :: ys, x, h, hn => by
    have h1 := List.pairwise_cons.mp h
    have hne : x ≠ y := fun e => hn (by rw [e]; exact List.mem_cons_self)
    unfold insZ
    by_cases hx : x < y
    · rw [if_pos hx]
      refine List.pairwise_cons.mpr ⟨fun k hk => ?_, h⟩
      rcases List.mem_cons.mp hk with e | e
      · omega
      · have := h1.1 k e; omega
    · rw [if_neg hx]
      refine List.pairwise_cons.mpr ⟨fun k hk => ?_, insZ_incr h1.2 fun e => hn (List.mem_cons_of_mem _ e)⟩
      rcases insZ_mem.mp hk with e | e
      · exact h1.1 k e
      · omega
theorem insZ_len : ∀ {l : List Int} {x : Int}, (insZ l x).length = l.length + 1
  | [], _ => rfl
  | y :: ys, x => by
    unfold insZ
    by_cases h : x < y
    · rw [if_pos h]; rfl
    · rw [if_neg h]; show (insZ ys x).length + 1 = _; rw [insZ_len]; rfl
def atZ {α : Type} (l : List α) (i : Int) : Option α := if 0 ≤ i then l[i.toNat]? else none
theorem atZ_some {α : Type} {l : List α} {i : Int} {x : α} (h : atZ l i = some x) : ∃ j : Nat, i = (j : Int) ∧ l[j]? = some x ∧ j < l.length := by
  unfold atZ at h
  by_cases h0 : 0 ≤ i
  · rw [if_pos h0] at h
    exact ⟨i.toNat, by omega, h, (List.getElem?_eq_some_iff.mp h).1⟩
  · rw [if_neg h0] at h; cases h
theorem atZ_none {α : Type} {l : List α} {i : Int} (h : atZ l i = none) : ¬ (0 ≤ i ∧ i < l.length) := by
  unfold atZ at h
  rintro ⟨h0, h1⟩
  rw [if_pos h0] at h
  have := List.getElem?_eq_none_iff.mp h
  omega
def rowAt (P : Prog) (i k : Int) : Option (Deed × List Int) := (atZ P.parts i).bind fun p => atZ p.rows k
def setRows (P : Prog) (i : Nat) (p : Part) (rows : List (Deed × List Int)) : Prog := ⟨P.shared, P.parts.set i ⟨p.name, p.own, rows⟩⟩
def withGo (P : Prog) (i k x : Int) : Option Prog :=
  match atZ P.parts i with
  | none => none
  | some p => match atZ p.rows k with
    | none => none
    | some r => if x ∈ r.2 ∨ ¬ (0 ≤ x ∧ x ≤ p.rows.length) then none else some (setRows P i.toNat p (p.rows.set k.toNat (r.1, insZ r.2 x)))
def optP : Option Prog → PyData
  | none => .none
  | some P => dProg P
def optRow : Option (Deed × List Int) → PyData
  | none => .none
  | some r => dRow r
def sp_in_order (K : PySem.W.Frag) : Sp := fun vs H Q _ => ∃ (a : Addr) (ns : List Int), vs = [.ref a] ∧ SqT K H a (ns.map V.int) ∧ ns.length ≤ 60 ∧ ∀ (t : Addr) (ms : List Int) H', Ex H H' → ms.Pairwise (· < ·) → (∀ k : Int, k ∈ ms ↔ k ∈ ns) → SqT K H' t (ms.map V.int) → Q (.ref t) H'
def sp_row_there (K : PySem.W.Frag) : Sp := fun vs H Q _ => ∃ (v : V) (P : Prog) (i k : Int), vs = [v, .int i, .int k] ∧ Dp K H v (dProg P) ∧ ∀ v', Dp K H v' (optRow (rowAt P i k)) → Q v' H
def sp_with_row (K : PySem.W.Frag) : Sp := fun vs H Q _ => ∃ (v : V) (P : Prog) (i : Nat) (p : Part) (l : Addr) (xs : List V) (rows : List (Deed × List Int)), vs = [v, .int (i : Int), .ref l] ∧ Dp K H v (dProg P) ∧ P.parts.length ≤ 100 ∧ P.parts[i]? = some p ∧ SqL K H l xs ∧ DpAll K H xs (rows.map dRow) ∧ RetE K H Q (dProg (setRows P i p rows))
theorem in_ints (z : Int) (ys : List Int) : inV (.int z) (ys.map V.int) = decide (z ∈ ys) := by
  unfold inV
  rw [List.any_map]
  rw [Bool.eq_iff_iff, List.any_eq_true, decide_eq_true_eq]
  constructor
  · rintro ⟨y, hy, e⟩
    have : y = z := by simpa [eqV] using e
    rw [← this]; exact hy
  · exact fun h => ⟨z, h, by simp [eqV]⟩
theorem flat_ints' (l : List Int) : (l.map V.int).all flatV = true := by
  rw [List.all_map, List.all_eq_true]
  intro x _
  rfl
def sp_with_going (K : PySem.W.Frag) (C : Addr) : Sp := fun vs H Q E => ∃ (v : V) (P : Prog) (i k x : Int), vs = [v, .int i, .int k, .int x] ∧ Dp K H v (dProg P) ∧ LookOk P ∧
  (withGo P i k x = none → ∀ H', Ex H H' → E (.ref C) none H') ∧ (∀ P', withGo P i k x = some P' → ∀ v' H', Ex H H' → Dp K H' v' (dProg P') → Q v' H')
theorem dpAll_set {K : PySem.W.Frag} {F : Hp} : ∀ {xs : List V} {ds : List PyData} (k : Nat) {x : V} {d : PyData}, DpAll K F xs ds → Dp K F x d → DpAll K F (xs.set k x) (ds.set k d)
  | _, _, _, _, _, .nil, _ => .nil
  | _, _, 0, _, _, .cons _ hs, h => .cons h hs
  | _, _, k + 1, _, _, .cons h0 hs, h => .cons h0 (dpAll_set k hs h)
theorem sqT_mut {K : PySem.W.Frag} {H : Hp} {a p : Addr} {xs ys : List V} {o : HO} (h : SqT K H a xs) (hp : H p = some (.lst ys)) : SqT K (upd H p o) a xs := by
  rcases h with (h | ⟨ob, h⟩) | h
  · have : a ≠ p := fun e => by rw [e, hp] at h; cases h
    exact .inl (.inl (by rw [upd_ne this]; exact h))
  · have : a ≠ p := fun e => by rw [e, hp] at h; cases h
    exact .inl (.inr ⟨ob, by rw [upd_ne this]; exact h⟩)
  · exact .inr h
def sp_never : Sp := fun _ _ _ _ => False
def sp_heard (K : PySem.W.Frag) : Sp := fun vs H Q _ => ∃ (v : V) (P : Prog) (i k x : Int), vs = [v, .int i, .int k, .int x] ∧ Dp K H v (dProg P) ∧ LookOk P ∧
  ∀ (p : Addr) (v' : V) H', Ex H H' → H' p = some (.lst [v', .bl (withGo P i k x).isNone]) → Dp K H' v' (optP (withGo P i k x)) → Q (.ref p) H'
def sp_due (K : PySem.W.Frag) : Sp := fun vs H Q _ => ∃ (v : V) (P : Prog) (i k x : Int), vs = [v, .int i, .int k, .int x] ∧ Dp K H v (dProg P) ∧ LookOk P ∧ RetE K H Q (optP (withGo P i k x))
theorem cr_sortedK {X : Cx} {K : PySem.W.Frag} (hK : X.K = K := by rfl) : CallR X (.builtin "sorted") (rSorted K) := hK ▸ cr_sorted
end CB

set_option Elab.async false
set_option linter.all false
set_option maxRecDepth 100000
set_option maxHeartbeats 4000000
/-! programs shown -/
namespace CB
open PySem PySem.Spec PyProof.Rows L2
/-- data that may be shown: so many signs, so deep -/
structure Shn (n m : Nat) (d : PyData) : Prop where
  lay : PyData.canLay0 d = true
  sh : d.showable = true
  dep : d.depth ≤ m
  len : d.shown.length ≤ n
theorem Shn.mono {n m n' m' : Nat} {d : PyData} (h : Shn n m d) (hn : n ≤ n') (hm : m ≤ m') : Shn n' m' d := ⟨h.lay, h.sh, Nat.le_trans h.dep hm, Nat.le_trans h.len hn⟩
theorem Shn.shaped {n m : Nat} {d : PyData} (h : Shn n m d) (hm : m ≤ 64) : SeqAt.shaped d = true := by
  unfold SeqAt.shaped
  rw [Bool.and_eq_true, decide_eq_true_eq]
  exact ⟨h.lay, Nat.le_trans h.dep hm⟩
theorem shp_int {i : Int} (h : i.natAbs < 10 ^ 12) : Shn 13 0 (.int i) := by
  refine ⟨rfl, ?_, Nat.le_refl _, PyData.shown_int_le h⟩
  show decide (i.natAbs.log2 < 1920) = true
  exact decide_eq_true (sml_of (k := 40) (Nat.lt_trans h (by decide)) (by decide) (by decide))
theorem shp_none : Shn 4 0 .none := ⟨rfl, rfl, Nat.le_refl _, by decide⟩
theorem shp_bool (b : Bool) : Shn 5 0 (.bool b) := ⟨rfl, rfl, Nat.le_refl _, by cases b <;> decide⟩
theorem shp_str {z : Str} {k : Nat} (h : ∀ c ∈ z.cps.toList, c < 0x110000) (hl : z.length ≤ k) : Shn (10 * k + 2) 0 (.str z) := by
  refine ⟨?_, rfl, Nat.le_refl _, ?_⟩
  · show z.cps.all (· < 0x110000) = true
    rw [Array.all_eq_true_iff_forall_mem]
    intro c hc
    exact decide_eq_true (h c (Array.mem_toList_iff.mpr hc))
  · have e := StrLaws.reprText_len z fun c hc => Nat.lt_trans (h c hc) (by decide)
    show (reprText z).length ≤ _
    omega
theorem shp_all {n m : Nat} : ∀ {ds : List PyData}, (∀ d ∈ ds, Shn n m d) → PyData.canLayAll0 ds = true ∧ PyData.showableAll ds = true ∧ PyData.depthAll ds ≤ m ∧ ((PyData.shownAll ds).map (·.length)).sum ≤ n * ds.length
  | [], _ => ⟨rfl, rfl, Nat.zero_le _, Nat.zero_le _⟩
  | d :: ds, h => by
    have h1 := h d List.mem_cons_self
    obtain ⟨a, b, c, e⟩ := shp_all fun x hx => h x (List.mem_cons_of_mem _ hx)
    refine ⟨?_, ?_, ?_, ?_⟩
    · show (d.canLay0 && PyData.canLayAll0 ds) = true
      rw [h1.lay, a]; rfl
    · show (d.showable && PyData.showableAll ds) = true
      rw [h1.sh, b]; rfl
    · show max d.depth (PyData.depthAll ds) ≤ m
      have := h1.dep
      omega
    · show d.shown.length + ((PyData.shownAll ds).map (·.length)).sum ≤ n * (ds.length + 1)
      have := h1.len
      rw [Nat.mul_succ]
      omega
theorem shp_tup {n m k : Nat} {ds : List PyData} (h : ∀ d ∈ ds, Shn n m d) (hl : ds.length ≤ k) : Shn ((n + 2) * k + 3) (m + 1) (.tuple ds) := by
  obtain ⟨a, b, c, e⟩ := shp_all h
  refine ⟨a, b, ?_, ?_⟩
  · show PyData.depthAll ds + 1 ≤ m + 1
    omega
  · have h1 := tupleText_len_le (PyData.shownAll ds)
    have h3 : (PyData.shownAll ds).length = ds.length := by rw [PyData.shownAll_length]
    have h4 : (n + 2) * ds.length = n * ds.length + 2 * ds.length := Nat.add_mul ..
    have h5 : (n + 2) * ds.length ≤ (n + 2) * k := Nat.mul_le_mul_left _ hl
    show (tupleText (PyData.shownAll ds)).length ≤ _
    omega
theorem shp_lst {n m k : Nat} {ds : List PyData} (h : ∀ d ∈ ds, Shn n m d) (hl : ds.length ≤ k) : Shn ((n + 2) * k + 3) (m + 1) (.list ds) := by
  obtain ⟨a, b, c, e⟩ := shp_all h
  refine ⟨a, b, ?_, ?_⟩
  · show PyData.depthAll ds + 1 ≤ m + 1
    omega
  · have h1 := listText_len_le (PyData.shownAll ds)
    have h3 : (PyData.shownAll ds).length = ds.length := by rw [PyData.shownAll_length]
    have h4 : (n + 2) * ds.length = n * ds.length + 2 * ds.length := Nat.add_mul ..
    have h5 : (n + 2) * ds.length ≤ (n + 2) * k := Nat.mul_le_mul_left _ hl
    show (listText (PyData.shownAll ds)).length ≤ _
    omega
theorem shp_map {α : Type} {f : α → PyData} {n m k : Nat} {l : List α} (h : ∀ x ∈ l, Shn n m (f x)) (hl : l.length ≤ k) : Shn ((n + 2) * k + 3) (m + 1) (.tuple (l.map f)) := shp_tup (fun d hd => by
  obtain ⟨x, hx, rfl⟩ := List.mem_map.mp hd
  exact h x hx) (by rw [List.length_map]; exact hl)
/-- names that may be shown -/
def NmS (z : Str) : Prop := z.length ≤ 20 ∧ ∀ c ∈ z.cps.toList, c < 0x110000
theorem nmS_of {z : Str} (h : Nm z) : NmS z := by
  obtain ⟨l, rfl, h1, h6, hl⟩ := h.ex
  refine ⟨by rw [wd_len]; omega, fun c hc => ?_⟩
  have hc' : c ∈ l := by simpa [wd] using hc
  have := hl c hc'
  have h2 := this.2
  omega
/-- programs that may be shown: at most a hundred of each thing -/
structure ShP (a : Nat) (P : Prog) : Prop where
  sl : P.shared.length ≤ a
  sn : ∀ z ∈ P.shared, NmS z
  pl : P.parts.length ≤ a
  pt : ∀ p ∈ P.parts, NmS p.name ∧ p.own.length ≤ a ∧ (∀ z ∈ p.own, NmS z) ∧ p.rows.length ≤ a ∧ ∀ r ∈ p.rows, r.2.length ≤ a ∧ (∀ x ∈ r.2, x.natAbs < 10 ^ 12) ∧
    match r.1 with
    | .call k => k < 10 ^ 12
    | .rest => True
    | .any b => b < 10 ^ 12
    | .set b s => b < 10 ^ 12 ∧ s.length ≤ a ∧ ∀ x ∈ s, x.natAbs < 10 ^ 12
theorem nmS_shp {z : Str} (h : NmS z) : Shn 202 0 (.str z) := shp_str h.2 h.1
theorem ti_shp {a : Nat} {s : List Int} (hl : s.length ≤ a) (h : ∀ x ∈ s, x.natAbs < 10 ^ 12) : Shn (15 * a + 3) 1 (ti s) := shp_map (n := 13) (m := 0) (fun x hx => shp_int (h x hx)) hl
theorem word_shp {z : Str} (h : NmS z := by decide) : Shn 202 0 (.str z) := nmS_shp h
instance {z : Str} : Decidable (NmS z) := inferInstanceAs (Decidable (_ ∧ _))
theorem ShP.row {a : Nat} {P : Prog} (h : ShP a P) {p : Part} (hp : p ∈ P.parts) {r : Deed × List Int} (hr : r ∈ p.rows) : Shn ((((15 * a + 300) + 2) * 3 + 3 + 15 * a + 5) * 2 + 3) 3 (dRow r) := by
  obtain ⟨_, _, _, _, h4⟩ := h.pt p hp
  obtain ⟨h5, h6, h7⟩ := h4 r hr
  refine shp_tup (m := 2) (n := ((15 * a + 300) + 2) * 3 + 3 + 15 * a + 3) (fun d hd => ?_) (by show 2 ≤ 2; omega)
  rcases List.mem_cons.mp hd with rfl | hd
  · have key : ∀ (ds : List PyData), ds.length ≤ 3 → (∀ d ∈ ds, Shn (15 * a + 300) 1 d) → Shn (((15 * a + 300) + 2) * 3 + 3 + 15 * a + 3) 2 (.tuple ds) := fun ds hl hd => (shp_tup hd hl).mono (by omega) (Nat.le_refl _)
    have kc : Shn (15 * a + 300) 1 (.str "call") := (word_shp (z := "call")).mono (by omega) (by omega)
    have kr : Shn (15 * a + 300) 1 (.str "rest") := (word_shp (z := "rest")).mono (by omega) (by omega)
    have ka : Shn (15 * a + 300) 1 (.str "any") := (word_shp (z := "any")).mono (by omega) (by omega)
    have ks : Shn (15 * a + 300) 1 (.str "set") := (word_shp (z := "set")).mono (by omega) (by omega)
    have ki : ∀ n : Nat, n < 10 ^ 12 → Shn (15 * a + 300) 1 (.int (n : Int)) := fun n hn => (shp_int (by omega)).mono (by omega) (by omega)
    cases e : r.1 with
    | call k =>
      rw [e] at h7
      refine key _ (by show 2 ≤ 3; omega) fun d hd => ?_
      rcases List.mem_cons.mp hd with rfl | hd
      · exact kc
      · rw [List.mem_singleton.mp hd]; exact ki _ h7
    | rest =>
      refine key _ (by show 1 ≤ 3; omega) fun d hd => ?_
      rw [List.mem_singleton.mp hd]; exact kr
    | any b =>
      rw [e] at h7
      refine key _ (by show 2 ≤ 3; omega) fun d hd => ?_
      rcases List.mem_cons.mp hd with rfl | hd
      · exact ka
      · rw [List.mem_singleton.mp hd]; exact ki _ h7
    | set b s =>
      rw [e] at h7
      refine key _ (by show 3 ≤ 3; omega) fun d hd => ?_
      rcases List.mem_cons.mp hd with rfl | hd
      · exact ks
      rcases List.mem_cons.mp hd with rfl | hd
      · exact ki _ h7.1
      · rw [List.mem_singleton.mp hd]; exact (ti_shp h7.2.1 h7.2.2).mono (by omega) (Nat.le_refl _)
  · rw [List.mem_singleton.mp hd]
    exact (ti_shp h5 h6).mono (by omega) (by omega)
theorem ShP.part {P : Prog} (h : ShP 20 P) {p : Part} (hp : p ∈ P.parts) : Shn 254100 5 (dPart p) := by
  obtain ⟨h1, h2, h3, h4, _⟩ := h.pt p hp
  refine (shp_tup (n := 84664) (m := 4) (k := 3) (fun d hd => ?_) (by show 3 ≤ 3; omega)).mono (by omega) (by omega)
  rcases List.mem_cons.mp hd with rfl | hd
  · exact (nmS_shp h1).mono (by omega) (by omega)
  rcases List.mem_cons.mp hd with rfl | hd
  · exact (shp_map (n := 202) (m := 0) (fun z hz => nmS_shp (h3 z hz)) h2).mono (by omega) (by omega)
  · rw [List.mem_singleton.mp hd]
    exact (shp_map (fun r hr => h.row hp hr) h4).mono (by omega) (by omega)
theorem ShP.shp {P : Prog} (h : ShP 20 P) : Shn 11000000 7 (dProg P) := by
  refine (shp_tup (n := 5200000) (m := 6) (k := 2) (fun d hd => ?_) (by show 2 ≤ 2; omega)).mono (by omega) (by omega)
  rcases List.mem_cons.mp hd with rfl | hd
  · exact (shp_map (n := 202) (m := 0) (fun z hz => nmS_shp (h.sn z hz)) h.sl).mono (by omega) (by omega)
  · rw [List.mem_singleton.mp hd]
    exact (shp_map (fun p hp => h.part hp) h.pl).mono (by omega) (by omega)
theorem OkProg.shows {mb mp mr : Nat} {P : Prog} (O : OkProg mb mp mr P) (hb : mb ≤ 3) (hp : mp ≤ 3) (hr : mr ≤ 5) : ShP 20 P := by
  have L := (O.look hb hp hr).1
  obtain ⟨ws, lw, nd, hw, sh, es, hsh, p1, p3, parts⟩ := O
  have mem_take : ∀ {k : Nat} {l : List Str} {z : Str}, z ∈ l.take k → z ∈ l := fun h => List.mem_of_mem_take h
  refine ⟨?_, fun z hz => ?_, by omega, fun q hq => ?_⟩
  · rw [es, List.length_take]; omega
  · rw [es] at hz
    exact nmS_of (hw z (List.mem_of_mem_take hz)).1
  · obtain ⟨k, ek⟩ := List.mem_iff_getElem?.mp hq
    obtain ⟨en, ol, o2, eo, ho, r1, r2, r3⟩ := parts k q ek
    refine ⟨nmS_of (hw _ (List.mem_of_getElem? en)).1, ?_, fun z hz => ?_, by omega, fun r hr => ?_⟩
    · rw [eo, List.length_take]; omega
    · rw [eo] at hz
      exact nmS_of (hw z (List.mem_of_mem_drop (List.mem_of_mem_take hz))).1
    · obtain ⟨h1, g1, g3, gp, gx⟩ := r3 r hr
      have lo : q.own.length ≤ ol := by rw [eo, List.length_take]; omega
      refine ⟨by omega, fun x hx => ?_, ?_⟩
      · have := gx x hx; omega
      · cases e : r.1 with
        | call k => rw [e] at h1; show k < _; have h1 : k < _ := h1; omega
        | rest => trivial
        | any b => rw [e] at h1; show b < _; have h1 : b < _ := h1; omega
        | set b s =>
          rw [e] at h1
          obtain ⟨a1, a2, a3⟩ : b < _ ∧ s.length = _ ∧ _ := h1
          refine ⟨by omega, by omega, fun x hx => ?_⟩
          have := a3 x hx
          omega
end CB

set_option Elab.async false
set_option linter.all false
set_option maxRecDepth 100000
set_option maxHeartbeats 4000000
/-! comprehensions of whole numbers; calls written out, plain part -/
namespace CB
open PySem PySem.Spec PyProof.Rows L2
section
variable {K : PySem.W.Frag} {a : Addr} {ns : List Int} {g : TG} {tt : TT} {te : TE} {vs : List Nat} {σ : L2.St} {H1 : Hp} {D : Addr} {Qd : Hp → Prop} {p : Int → Bool} {f : Int → Int}
theorem take_snoc {i : Nat} {z : Int} (ez : ns[i]? = some z) : ns.take (i + 1) = ns.take i ++ [z] := by rw [List.take_add_one, ez]; rfl
theorem filt_yes {i : Nat} {z : Int} (ez : ns[i]? = some z) (hp : p z = true) : ((((ns.take (i + 1)).filter p).map f).map V.int) = ((((ns.take i).filter p).map f).map V.int) ++ [.int (f z)] := by
  rw [take_snoc ez, List.filter_append, List.map_append, List.map_append]
  have : [z].filter p = [z] := by rw [List.filter_cons, if_pos hp, List.filter_nil]
  rw [this]
  rfl
theorem filt_no {i : Nat} {z : Int} (ez : ns[i]? = some z) (hp : p z = false) : ((((ns.take (i + 1)).filter p).map f).map V.int) = ((((ns.take i).filter p).map f).map V.int) := by
  rw [take_snoc ez, List.filter_append]
  have : [z].filter p = [] := by rw [List.filter_cons, if_neg (by rw [hp]; exact Bool.false_ne_true), List.filter_nil]
  rw [this, List.append_nil]
theorem filt_len {i : Nat} (hl : ns.length ≤ 1000) : ((((ns.take i).filter p).map f).map V.int).length ≤ 1000 := by
  rw [List.length_map, List.length_map]
  have h1 := List.length_filter_le p (ns.take i)
  have h2 : (ns.take i).length ≤ ns.length := by rw [List.length_take]; omega
  omega
/-- a comprehension of whole numbers over a tuple of whole numbers -/
theorem lcT_ints (hS : SqT K H1 a (ns.map V.int)) (nD : H1 D = none) (hl : ns.length ≤ 1000)
    (hs : ∀ x ∈ ns, ∀ (H' : Hp), Ex H1 H' → ∀ (R : V → Hp → Prop) (N : Hp → Prop), (p x = true → ∀ H'', Ex H' H'' → R (.int (f x)) H'') → (p x = false → N H') → g (.int x) (wipe σ vs) H' fun σ2 H2 => wipe σ2 vs = wipe σ vs ∧ tt σ2 H2 fun b H3 => if b = true then te σ2 H3 R else N H3)
    (q : ∀ H', Ex H1 H' → H' D = some (.lst (((ns.filter p).map f).map V.int)) → Qd H') :
    ∃ W : Nat → Nat → Hp → Prop, (∃ m, W 0 m (upd H1 D (.lst []))) ∧ ∀ i m H, W i m H → ((Itt K a).stop i H ∧ Qd H) ∨ ((Itt K a).go i H ∧ ∃ Nx : Hp → Prop, (∀ H', Nx H' → ∃ m', m' < m ∧ W (i + 1) m' H') ∧ ∀ x H', (Itt K a).yld i H x H' → g x (wipe σ vs) H' fun σ2 H2 => wipe σ2 vs = wipe σ vs ∧ tt σ2 H2 fun b H3 =>
      if b = true then te σ2 H3 fun y H4 => ∃ acc, H4 D = some (.lst acc) ∧ acc.length < sizeLine ∧ Nx (upd H4 D (.lst (acc ++ [y]))) else Nx H3) := by
  refine lc_tup (K := K) (a := a) (xs := ns.map V.int) (fun i H' => Ex H1 H' ∧ H' D = some (.lst ((((ns.take i).filter p).map f).map V.int))) ⟨Evl.Ex.new nD, by rw [upd_same]; rfl⟩ (fun i H' _ h => ex_T h.1 hS) (fun i x H' hx h => ?_) (fun H' h => ?_)
  · obtain ⟨x1, hD⟩ := h
    obtain ⟨z, ez, rfl⟩ := int_get hx
    exact hs z (List.mem_of_getElem? ez) H' x1 _ _ (fun hp H'' x'' => ⟨_, x'' _ _ hD, small1000 (filt_len hl), Evl.Ex.mut (x1.trans x'') nD, by rw [upd_same, filt_yes ez hp]⟩) (fun hp => ⟨x1, by rw [filt_no ez hp]; exact hD⟩)
  · obtain ⟨x1, hD⟩ := h
    rw [List.length_map, List.take_of_length_le (Nat.le_refl _)] at hD
    exact q H' x1 hD
/-- the same over a list -/
theorem lcL_ints (hS : SqL K H1 a (ns.map V.int)) (nD : H1 D = none) (hl : ns.length ≤ 1000)
    (hs : ∀ x ∈ ns, ∀ (H' : Hp), Ex H1 H' → ∀ (R : V → Hp → Prop) (N : Hp → Prop), (p x = true → ∀ H'', Ex H' H'' → R (.int (f x)) H'') → (p x = false → N H') → g (.int x) (wipe σ vs) H' fun σ2 H2 => wipe σ2 vs = wipe σ vs ∧ tt σ2 H2 fun b H3 => if b = true then te σ2 H3 R else N H3)
    (q : ∀ H', Ex H1 H' → H' D = some (.lst (((ns.filter p).map f).map V.int)) → Qd H') :
    ∃ W : Nat → Nat → Hp → Prop, (∃ m, W 0 m (upd H1 D (.lst []))) ∧ ∀ i m H, W i m H → ((Itl K a).stop i H ∧ Qd H) ∨ ((Itl K a).go i H ∧ ∃ Nx : Hp → Prop, (∀ H', Nx H' → ∃ m', m' < m ∧ W (i + 1) m' H') ∧ ∀ x H', (Itl K a).yld i H x H' → g x (wipe σ vs) H' fun σ2 H2 => wipe σ2 vs = wipe σ vs ∧ tt σ2 H2 fun b H3 =>
      if b = true then te σ2 H3 fun y H4 => ∃ acc, H4 D = some (.lst acc) ∧ acc.length < sizeLine ∧ Nx (upd H4 D (.lst (acc ++ [y]))) else Nx H3) := by
  refine lc_list (K := K) (a := a) (xs := ns.map V.int) (fun i H' => Ex H1 H' ∧ H' D = some (.lst ((((ns.take i).filter p).map f).map V.int))) ⟨Evl.Ex.new nD, by rw [upd_same]; rfl⟩ (fun i H' _ h => ex_L h.1 hS) (fun i x H' hx h => ?_) (fun H' h => ?_)
  · obtain ⟨x1, hD⟩ := h
    obtain ⟨z, ez, rfl⟩ := int_get hx
    exact hs z (List.mem_of_getElem? ez) H' x1 _ _ (fun hp H'' x'' => ⟨_, x'' _ _ hD, small1000 (filt_len hl), Evl.Ex.mut (x1.trans x'') nD, by rw [upd_same, filt_yes ez hp]⟩) (fun hp => ⟨x1, by rw [filt_no ez hp]; exact hD⟩)
  · obtain ⟨x1, hD⟩ := h
    rw [List.length_map, List.take_of_length_le (Nat.le_refl _)] at hD
    exact q H' x1 hD
end
/-! ### data of tuples alone: a list of ours may change beside it -/
def Safe (d : PyData) : Prop := ∀ (K : PySem.W.Frag) (H : Hp) (p : Addr) (ys : List V) (o : HO) (x : V), H p = some (.lst ys) → Dp K H x d → Dp K (upd H p o) x d
theorem safe_int (i : Int) : Safe (.int i) := fun K H p ys o x _ h => by cases h; exact .int _
theorem safe_str (i : Str) : Safe (.str i) := fun K H p ys o x _ h => by cases h; exact .str _
theorem safe_all {K : PySem.W.Frag} {H : Hp} {p : Addr} {ys : List V} {o : HO} (hp : H p = some (.lst ys)) : ∀ {xs : List V} {ds : List PyData}, (∀ d ∈ ds, Safe d) → DpAll K H xs ds → DpAll K (upd H p o) xs ds
  | _, _, _, .nil => .nil
  | _, _, h, .cons h1 h2 => .cons (h _ List.mem_cons_self _ _ _ _ _ _ hp h1) (safe_all hp (fun d hd => h d (List.mem_cons_of_mem _ hd)) h2)
theorem safe_tup {ds : List PyData} (h : ∀ d ∈ ds, Safe d) : Safe (.tuple ds) := fun K H p ys o x hp hd => by
  obtain ⟨a, xs, rfl, s, dx⟩ := hd.tup_inv
  exact .tup (sqT_mut s hp) (safe_all hp h dx)
theorem safe_map {α : Type} {f : α → PyData} {l : List α} (h : ∀ x ∈ l, Safe (f x)) : Safe (.tuple (l.map f)) := safe_tup fun d hd => by
  obtain ⟨x, hx, rfl⟩ := List.mem_map.mp hd
  exact h x hx
theorem safe_deed : ∀ d : Deed, Safe (dDeed d)
  | .call k => safe_tup fun d hd => by
    rcases List.mem_cons.mp hd with rfl | hd
    · exact safe_str _
    · rw [List.mem_singleton.mp hd]; exact safe_int _
  | .rest => safe_tup fun d hd => by rw [List.mem_singleton.mp hd]; exact safe_str _
  | .any b => safe_tup fun d hd => by
    rcases List.mem_cons.mp hd with rfl | hd
    · exact safe_str _
    · rw [List.mem_singleton.mp hd]; exact safe_int _
  | .set b s => safe_tup fun d hd => by
    rcases List.mem_cons.mp hd with rfl | hd
    · exact safe_str _
    rcases List.mem_cons.mp hd with rfl | hd
    · exact safe_int _
    · rw [List.mem_singleton.mp hd]; exact safe_map fun x _ => safe_int x
theorem safe_row (r : Deed × List Int) : Safe (dRow r) := safe_tup fun d hd => by
  rcases List.mem_cons.mp hd with rfl | hd
  · exact safe_deed _
  · rw [List.mem_singleton.mp hd]; exact safe_map fun x _ => safe_int x
theorem safe_part (p : Part) : Safe (dPart p) := safe_tup fun d hd => by
  rcases List.mem_cons.mp hd with rfl | hd
  · exact safe_str _
  rcases List.mem_cons.mp hd with rfl | hd
  · exact safe_map fun x _ => safe_str x
  · rw [List.mem_singleton.mp hd]; exact safe_map fun x _ => safe_row x
theorem safe_prog (p : Prog) : Safe (dProg p) := safe_tup fun d hd => by
  rcases List.mem_cons.mp hd with rfl | hd
  · exact safe_map fun x _ => safe_str x
  · rw [List.mem_singleton.mp hd]; exact safe_map fun x _ => safe_part x
theorem safe_rows {K : PySem.W.Frag} {H : Hp} {p : Addr} {ys : List V} {o : HO} (hp : H p = some (.lst ys)) {xs : List V} {rows : List (Deed × List Int)} (h : DpAll K H xs (rows.map dRow)) : DpAll K (upd H p o) xs (rows.map dRow) := safe_all hp (fun d hd => by
  obtain ⟨r, _, rfl⟩ := List.mem_map.mp hd
  exact safe_row r) h
/-! ### a call written out -/
def srtZ (l : List Int) : List Int := l.foldr (fun x acc => if x ∈ acc then acc else insZ acc x) []
theorem srtZ_mem : ∀ {l : List Int} {k : Int}, k ∈ srtZ l ↔ k ∈ l
  | [], k => Iff.rfl
  | x :: l, k => by
    show k ∈ (if x ∈ srtZ l then srtZ l else insZ (srtZ l) x) ↔ _
    by_cases h : x ∈ srtZ l
    · rw [if_pos h, srtZ_mem, List.mem_cons]
      refine ⟨.inr, fun h2 => h2.elim (fun e => ?_) id⟩
      rw [e]; exact srtZ_mem.mp h
    · rw [if_neg h, insZ_mem, srtZ_mem, List.mem_cons]
      exact Or.comm
theorem srtZ_incr : ∀ {l : List Int}, (srtZ l).Pairwise (· < ·)
  | [] => List.Pairwise.nil
  | x :: l => by
    show (if x ∈ srtZ l then srtZ l else insZ (srtZ l) x).Pairwise (· < ·)
    by_cases h : x ∈ srtZ l
    · rw [if_pos h]; exact srtZ_incr
    · rw [if_neg h]; exact insZ_incr srtZ_incr h
theorem srtZ_len : ∀ {l : List Int}, (srtZ l).length ≤ l.length
  | [] => Nat.le_refl _
  | x :: l => by
    show (if x ∈ srtZ l then srtZ l else insZ (srtZ l) x).length ≤ l.length + 1
    have := srtZ_len (l := l)
    by_cases h : x ∈ srtZ l
    · rw [if_pos h]; omega
    · rw [if_neg h, insZ_len]; omega
theorem srtZ_eq {ms l : List Int} (inc : ms.Pairwise (· < ·)) (h : ∀ k : Int, k ∈ ms ↔ k ∈ l) : ms = srtZ l := incr_ext inc srtZ_incr fun k => by rw [h k, srtZ_mem]
theorem srtZ_congr {l m : List Int} (h : ∀ k : Int, k ∈ l ↔ k ∈ m) : srtZ l = srtZ m := srtZ_eq srtZ_incr fun k => by rw [srtZ_mem, h k]
def mvG (many more g : Int) : Int := g + more * (if g = many then 1 else 0)
def widen : Deed → Nat → Deed
  | .set b s, n => .set b (s ++ List.replicate n 0)
  | d, _ => d
def onwG (many more : Int) (beh g : List Int) : List Int := srtZ ((g.filter fun x => decide (x < more)).map (fun x => x + many) ++ if more ∈ g then beh else [])
def outRows (rows : List (Deed × List Int)) (m : Nat) (g : List Int) (called : List (Deed × List Int)) (no : Nat) : List (Deed × List Int) :=
  (rows.map fun r => (r.1, r.2.map (mvG rows.length called.length))).set m (.rest, [(rows.length : Int)]) ++ called.map fun r => (widen r.1 no, onwG rows.length called.length (g.map (mvG rows.length called.length)) r.2)
def wrOut (P : Prog) (i k : Int) : Option Prog :=
  match atZ P.parts i with
  | none => none
  | some p => match atZ p.rows k with
    | none => none
    | some r => match r.1 with
      | .call q => if (q : Int) = i then none else match P.parts[q]? with
        | none => none
        | some c => if 0 < c.own.length then none else some (setRows P i.toNat p (outRows p.rows k.toNat r.2 c.rows p.own.length))
      | _ => none
theorem wrOut_none1 {P : Prog} {i k : Int} (hp : atZ P.parts i = none) : wrOut P i k = none := by unfold wrOut; rw [hp]
theorem wrOut_none2 {P : Prog} {i k : Int} {p : Part} (hp : atZ P.parts i = some p) (hk : atZ p.rows k = none) : wrOut P i k = none := by unfold wrOut; rw [hp]; dsimp only; rw [hk]
theorem wrOut_none3 {P : Prog} {i k : Int} {p : Part} {r : Deed × List Int} (hp : atZ P.parts i = some p) (hk : atZ p.rows k = some r) (hc : ∀ q, r.1 ≠ .call q) : wrOut P i k = none := by
  unfold wrOut; rw [hp]; dsimp only; rw [hk]; dsimp only
  cases e : r.1 with
  | call q => exact absurd e (hc q)
  | rest => rfl
  | any b => rfl
  | set b s => rfl
theorem wrOut_call {P : Prog} {i k : Int} {p c : Part} {r : Deed × List Int} {q : Nat} (hp : atZ P.parts i = some p) (hk : atZ p.rows k = some r) (hc : r.1 = .call q) (hq : P.parts[q]? = some c) :
    wrOut P i k = if (q : Int) = i then none else if 0 < c.own.length then none else some (setRows P i.toNat p (outRows p.rows k.toNat r.2 c.rows p.own.length)) := by
  unfold wrOut; rw [hp]; dsimp only; rw [hk]; dsimp only; rw [hc]; dsimp only; rw [hq]
def sp_in_orderL (K : PySem.W.Frag) : Sp := fun vs H Q _ => ∃ (a : Addr) (ns : List Int), vs = [.ref a] ∧ SqL K H a (ns.map V.int) ∧ ns.length ≤ 60 ∧ ∀ (t : Addr) H', Ex H H' → SqT K H' t ((srtZ ns).map V.int) → Q (.ref t) H'
def sp_widened (K : PySem.W.Frag) : Sp := fun vs H Q _ => ∃ (v : V) (e : Deed) (n : Nat), vs = [v, .int (n : Int)] ∧ Dp K H v (dDeed e) ∧ n ≤ 100 ∧ (∀ b s, e = .set b s → s.length ≤ 100) ∧ RetE K H Q (dDeed (widen e n))
def sp_written (K : PySem.W.Frag) (C : Addr) : Sp := fun vs H Q E => ∃ (v : V) (P : Prog) (i k : Int), vs = [v, .int i, .int k] ∧ Dp K H v (dProg P) ∧ LookOk P ∧
  (wrOut P i k = none → ∀ H', Ex H H' → E (.ref C) none H') ∧ (∀ P', wrOut P i k = some P' → ∀ v' H', Ex H H' → Dp K H' v' (dProg P') → Q v' H')
def sp_moved (K : PySem.W.Frag) : Sp := fun vs H Q _ => ∃ (a b : Addr) (g o : List Int) (many more : Nat), vs = [.ref a, .int (more : Int), .int (many : Int), .ref b] ∧ SqT K H a (g.map V.int) ∧ SqL K H b (o.map V.int) ∧ g.length ≤ 20 ∧ o.length ≤ 20 ∧ (∀ x ∈ g, x ≤ more) ∧ many ≤ 100 ∧
  ∀ (t : Addr) H', Ex H H' → SqT K H' t ((onwG many more o g).map V.int) → Q (.ref t) H'
def sp_due49 (K : PySem.W.Frag) : Sp := fun vs H Q _ => ∃ (v : V) (P : Prog) (i k : Int), vs = [v, .int i, .int k] ∧ Dp K H v (dProg P) ∧ LookOk P ∧ RetE K H Q (optP (wrOut P i k))
def sp_heard49 (K : PySem.W.Frag) : Sp := fun vs H Q _ => ∃ (v : V) (P : Prog) (i k : Int), vs = [v, .int i, .int k, .non] ∧ Dp K H v (dProg P) ∧ LookOk P ∧
  ∀ (p : Addr) (v' : V) H', Ex H H' → H' p = some (.lst [v', .bl (wrOut P i k).isNone]) → Dp K H' v' (optP (wrOut P i k)) → Q (.ref p) H'
theorem set_snoc {α : Type} {l : List α} {x y : α} {m : Nat} : (l ++ [x]).set m y = l.set m y ++ [if m = l.length then y else x] := by
  rw [List.set_append]
  by_cases h : m < l.length
  · rw [if_pos h, if_neg (by omega)]
  · rw [if_neg h, show l.set m y = l from List.set_eq_of_length_le (by omega)]
    by_cases e : m = l.length
    · rw [if_pos e, e, Nat.sub_self]; rfl
    · rw [if_neg e, List.set_eq_of_length_le (show [x].length ≤ m - l.length by show 1 ≤ _; omega)]
theorem b01 {x y : Int} : (if decide (V.int x = V.int y) = true then (1 : Int) else 0) = if x = y then 1 else 0 := by
  by_cases h : x = y
  · subst h; rw [if_pos (decide_eq_true rfl), if_pos rfl]
  · rw [if_neg (fun e => h (V.int.inj (of_decide_eq_true e))), if_neg h]
theorem mv_at {x a b : Int} : atI [V.int x, V.int (a + b)] (if decide (V.int x = V.int a) = true then 1 else 0) = some (.int (mvG a b x)) := by
  rw [b01]
  unfold mvG
  by_cases h : x = a
  · rw [if_pos h, h, Int.mul_one]; rfl
  · rw [if_neg h, Int.mul_zero, Int.add_zero]; rfl
theorem filt_le {g : List Int} {m : Int} (h : ∀ x ∈ g, x ≤ m) : (g.filter fun x => !decide (x = m)) = g.filter fun x => decide (x < m) := List.filter_congr fun x hx => by
  have := h x hx
  by_cases e : x = m
  · rw [decide_eq_true e, decide_eq_false (by omega)]; rfl
  · rw [decide_eq_false e, decide_eq_true (by omega)]; rfl
theorem onwG_of {g o : List Int} {many more : Int} (h : ∀ x ∈ g, x ≤ more) : srtZ ((g.filter fun x => !decide (x = more)).map (fun x => x + many * (if decide (x < more) = true then 1 else 0)) ++ if more ∈ g then o else []) = onwG many more o g := by
  unfold onwG
  rw [filt_le h]
  refine congrArg (fun l => srtZ (l ++ _)) (List.map_congr_left fun x hx => ?_)
  have := of_decide_eq_true (List.mem_filter.mp hx).2
  rw [if_pos (decide_eq_true this), Int.mul_one]
end CB

set_option Elab.async false
set_option linter.all false
set_option maxRecDepth 100000
set_option maxHeartbeats 4000000
/-! a def called within an except suite, handed the error that is caught -/
namespace CB
open PySem PySem.Spec PyProof.Rows L2
/-- what such a def promises: a is the error's place, D its class -/
structure FnE (P : Program) (w : World) (K : PySem.W.Frag) (mg : Str → Option Value) (base : Heap) (D : Addr) (k : Nat) (f : Addr) (fd : FuncData) (ps : List Str) (sp : Addr → Sp) : Prop where
  len : ∀ a vs H Q E, sp a vs H Q E → vs.length = ps.length
  run : ∀ (A : Around) (outer : List Env) (s : Shared) (H : Hp) (args : Args) (us : List Value) (vs : List V) (Q : VK) (E : XK) (a : Addr) (oe : Obj), L2H.RoomH k A → L2H.PinOk outer H s (a, oe) → Zc (.ref D) none oe → (∃ vs, oe.data = .fields vs) →
    Env0 P w K mg base A outer s H → BindsTo s fd args (ps.zip us) → Vals vs us → sp a vs H Q E → codeAny (model P w) A (.call (.ref f) args) (CR CX0 outer P w H s Q E) s
section
variable {P : Program} {w : World} {K : PySem.W.Frag} {mg : Str → Option Value} {base : Heap} {D : Addr}
theorem okE {x qual : Str} {st : Stmt} {f : Addr} {fd : FuncData} {N ps : List Str} {k : Nat} {sp : Addr → Sp} (F : Fun K x qual st f fd) (S : FnScope N ps (defScope st)) (len : ∀ a vs H Q E, sp a vs H Q E → vs.length = ps.length)
    (body : ∀ (cdv : Value) (A : Around) (outer : List Env) (s : Shared) (H : Hp) (vs : List V) (Q : VK) (E : XK) (a : Addr) (oe : Obj), Zc (.ref D) none oe → (∃ vs, oe.data = .fields vs) → L2H.RoomH k (A.deeper (envOfC qual (defScope st) s.heap.objs.size f cdv)) → sp a vs H Q E →
      ∃ t, PSs (L2H.cxH CX0 P w K mg base N qual (defScope st) f cdv A outer s H E (a, oe)) (defBody st) t ∧ t { nx := fun _ H' => Q .non H', rt := Q } (start N vs) H) : FnE P w K mg base D (k + 1) f fd ps sp := by
  obtain ⟨oc, od, kV, doc, pm, an, cdv, ct, osl, rfl, lk, hcd⟩ := F.ex
  refine ⟨len, fun A outer s H args us vs Q E a oe room pin z fl e0 bnd rel say => ?_⟩
  have still : ∀ b o, base.get? b = some o → s.heap.get? b = some o := fun b o q => (e0.bs b o q).1
  have inK := e0.mod.kin.keeps still
  have kinds : ∀ y ∈ ps.zip us, (defScope st).names.lookup y.1 = some .local ∨ ((defScope st).names.lookup y.1 = some .cell ∧ ((cellsFrom (s.heap.objs.size + 1) (defScope st).names []).lookup y.1).isSome = true) := by
    rintro ⟨nm, v⟩ hy
    exact (S.par nm (List.of_mem_zip hy).1).elim .inl fun q => .inr ⟨q, PySem.W.cellsFrom_some _ _ _ (.inl q)⟩
  refine codeAny_call_function room.depth (inK _ _ lk) rfl S.co S.gen rfl (PySem.W.codeRec_of inK hcd) (bnd _ _ _ _ (wpAny_newFunctionEnv_cells S.kind kinds ?_))
  rintro env rfl s1 made
  obtain ⟨t, ht, hq⟩ := body cdv A outer s H vs Q E a oe z fl (room.deeper _) say
  have I0 := L2H.inv_startH (CX := CX0) (E := E) S pin e0 (len _ _ _ _ _ say) rel made
  refine ⟨(e0.mod.nolimit.keeps still).keeps made.toInCall.keep, codeAny_func (wpAny_mono (ht.run [] s1 (start N vs) H _ I0 hq) (fun fl2 s2 done => ?_) fun e s2 done => done)⟩
  cases fl2 with
  | ret u =>
    obtain ⟨v, σ2, H2, J, rv, q⟩ := done
    exact ⟨v, H2, J.os, J.bare, J.base, J.hok, rv, q⟩
  | next =>
    obtain ⟨σ2, H2, J, q⟩ := done
    exact ⟨V.non, H2, J.os, J.bare, J.base, J.hok, rfl, q⟩
  | brk => exact done.elim fun _ h => h.elim fun _ h => (show False from h.2).elim
  | cont => exact done.elim fun _ h => h.elim fun _ h => (show False from h.2).elim
end
section
variable {X : Cx} {k : Nat} {f a D : Addr} {oe : Obj} {fd : FuncData} {ps : List Str} {sp : Addr → Sp} {x : Str} {p pos : Pos} {e : Expr} {es : List Expr} {t : TA} {E : XK}
theorem pe_callE (F : FnE X.prog X.w X.K X.mg X.base D k f fd ps sp) (room : L2H.RoomH k X.A) (hp : (a, oe) ∈ X.pn) (z : Zc (.ref D) none oe) (fl : ∃ vs, oe.data = .fields vs) (hg : Gl X x) (hm : X.mg x = some (.ref f)) (hk : PySem.W.keepIn X.K (.ref f) = true) (hb : Binds X.K fd ps [])
    (ha : PA X (e :: es) t) (hdb : (x == ("__debug__" : Str)) = false := by decide) (he : starEach (e :: es) X.env = (false, eval e X.env) :: starEach es X.env := by rfl) (hpl : (backTo pos (starEach es X.env)).any (·.1) = false := by rfl) :
    PE X (.Call (.Name x p) (e :: es) [] pos) (fun σ H Q => t σ H fun vs H1 => sp a vs H1 Q E) := by
  refine ⟨fun pins s σ H Q I h => wpAny_Call_Name_kw (ld_glob I hg hm (PySem.W.callWith_K (h₀ := X.base) I.ok.mod.kin hk (thn (ha.run pos pins s σ H _ I h) fun us s1 hus => ?_) he hpl) hdb)⟩
  obtain ⟨vs, H1, I1, r, q⟩ := hus
  refine ⟨I1.kIn, ?_⟩
  have hl : (us ++ []).length = ps.length := by rw [List.append_nil, ← r.length]; exact F.len _ _ _ _ _ q
  have bnd := hb s1 us I1.kIn hl
  rw [List.append_nil] at bnd
  have pinned := I1.pin (a, oe) (List.mem_append_left _ hp)
  have pin : L2H.PinOk X.stack H1 s1 (a, oe) := ⟨pinned.1, pinned.2.1, fun there => (List.mem_cons.mp (I1.stkSub a there)).elim pinned.2.2.1 pinned.2.2.2.1, pinned.2.2.2.2⟩
  refine wpAny_call (codeAny_mono (F.run X.A X.stack s1 H1 ⟨us, []⟩ us vs Q E a oe room pin z fl I1.env0 bnd r q) fun r s' hq => ?_)
  cases r with
  | error e => exact False.elim hq
  | ok fl2 =>
    cases fl2 with
    | ret u => exact I1.after hq
    | next => exact False.elim hq
    | brk => exact False.elim hq
    | cont => exact False.elim hq
theorem inst_of {h : Heap} {D : Addr} (get : h.get? a = some oe) (z : Zc (.ref D) none oe) (fl : ∃ vs, oe.data = .fields vs) : PySem.W.InstAt h a oe D none := by
  obtain ⟨vs, hv⟩ := fl
  obtain ⟨oc, od, oda, osl⟩ := oe
  obtain ⟨h1, h2⟩ := z
  dsimp only at h1 h2 hv
  subst h1 h2 hv
  exact ⟨get, rfl, rfl, trivial⟩
/-- isinstance(e, c), e an error that the context bears -/
theorem isE_pin {K : PySem.W.Frag} (C : ExcC K D) (hp : (a, oe) ∈ X.pn) (z : Zc (.ref D) none oe) (fl : ∃ vs, oe.data = .fields vs) (hK : X.K = K := by rfl) : CallR X (.builtin "isinstance") (rIsE K D a) := by
  subst hK
  intro pins s σ H xs us Q I r h
  obtain ⟨c, cv, b, rfl, hcv, ans, q⟩ := h
  obtain ⟨u1, u2, rfl, r1, r2⟩ := vals2 r
  cases (show u1 = Value.ref a from r1)
  have ec := hcv _ r2
  subst ec
  have J := inst_of (D := D) (I.pin (a, oe) (List.mem_append_left _ hp)).1 z fl
  exact PySem.W.kia_one (PySem.W.handS_kitx_exc C.hg C.hk C.hs C.hd C.ha C.hn C.ht C.hm) I.kIn J ans (fun no => nomatch no) fun tk => ⟨.bl b, H, I.kept (t' := tk) fun _ _ q => q, rfl, q⟩
theorem isET_pin {K : PySem.W.Frag} (C : ExcC K D) (hp : (a, oe) ∈ X.pn) (z : Zc (.ref D) none oe) (fl : ∃ vs, oe.data = .fields vs) (hK : X.K = K := by rfl) : CallR X (.builtin "isinstance") (rIsET K D a) := by
  subst hK
  intro pins s σ H xs us Q I r h
  obtain ⟨tp, cs, ws, b, rfl, hT, k, ans, q⟩ := h
  obtain ⟨u1, u2, rfl, r1, r2⟩ := vals2 r
  cases (show u1 = Value.ref a from r1)
  cases (show u2 = Value.ref tp from r2)
  have J := inst_of (D := D) (I.pin (a, oe) (List.mem_append_left _ hp)).1 z fl
  obtain ⟨_, its, rv, o, h1, h2, n, h3⟩ := (show ObjOk X.prog X.w H s.heap tp (.tup cs) from I.hok tp _ hT)
  have e3 := ClsV.all k rv
  subst e3
  obtain ⟨oc, od, dt, sl⟩ := o
  simp only at h2 h3
  subst h2 h3
  exact PySem.W.kia_tup (PySem.W.handS_kitx_exc C.hg C.hk C.hs C.hd C.ha C.hn C.ht C.hm) I.kIn J h1 ans (fun no => nomatch no) fun tk => ⟨.bl b, H, I.kept (t' := tk) fun _ _ q => q, rfl, q⟩
end
end CB

set_option Elab.async false
set_option linter.all false
set_option maxRecDepth 100000
set_option maxHeartbeats 4000000
/-! sets of texts -/
namespace CB
open PySem PySem.Spec PyProof.Rows L2
/-- how many unlike ones a list has -/
def dst {α : Type} [DecidableEq α] : List α → Nat
  | [] => 0
  | x :: l => if x ∈ l then dst l else dst l + 1
section
variable {α : Type} [DecidableEq α]
theorem dst_snoc : ∀ (l : List α) (z : α), dst (l ++ [z]) = if z ∈ l then dst l else dst l + 1
  | [], z => by simp [dst]
  | x :: l, z => by
    have ih := dst_snoc l z
    show (if x ∈ l ++ [z] then dst (l ++ [z]) else dst (l ++ [z]) + 1) = if z ∈ x :: l then (if x ∈ l then dst l else dst l + 1) else (if x ∈ l then dst l else dst l + 1) + 1
    rw [ih]
    by_cases hx : x ∈ l
    · rw [if_pos (List.mem_append_left _ hx), if_pos hx]
      by_cases hz : z ∈ l
      · rw [if_pos hz, if_pos (List.mem_cons_of_mem _ hz)]
      · rw [if_neg hz, if_neg (fun h => by rcases List.mem_cons.mp h with e | e; exact hz (e ▸ hx); exact hz e)]
    · rw [if_neg hx]
      by_cases hz : z ∈ l
      · rw [if_pos hz, if_pos (List.mem_cons_of_mem _ hz), if_neg (fun h => by rcases List.mem_append.mp h with e | e; exact hx e; exact hx (List.mem_singleton.mp e ▸ hz))]
      · rw [if_neg hz]
        by_cases e : x = z
        · rw [if_pos (List.mem_append_right _ (List.mem_singleton.mpr e)), if_pos (by rw [e]; exact List.mem_cons_self)]
        · rw [if_neg (fun h => by rcases List.mem_append.mp h with k | k; exact hx k; exact e (List.mem_singleton.mp k)), if_neg (fun h => by rcases List.mem_cons.mp h with k | k; exact e k.symm; exact hz k)]
theorem dst_le : ∀ l : List α, dst l ≤ l.length
  | [] => Nat.le_refl _
  | x :: l => by
    have := dst_le l
    show (if x ∈ l then dst l else dst l + 1) ≤ l.length + 1
    by_cases h : x ∈ l
    · rw [if_pos h]; omega
    · rw [if_neg h]; omega
theorem dst_app : ∀ (a b : List α), dst (a ++ b) ≤ a.length + dst b ∧ (dst (a ++ b) = a.length + dst b ↔ a.Nodup ∧ ∀ x ∈ a, x ∉ b)
  | [], b => by
    refine ⟨by show dst b ≤ 0 + dst b; omega, fun _ => ⟨List.nodup_nil, fun x hx => by cases hx⟩, fun _ => by show dst b = 0 + dst b; omega⟩
  | x :: a, b => by
    obtain ⟨h1, h2⟩ := dst_app a b
    have e : dst (x :: a ++ b) = if x ∈ a ++ b then dst (a ++ b) else dst (a ++ b) + 1 := rfl
    rw [e, List.length_cons]
    by_cases h : x ∈ a ++ b
    · rw [if_pos h]
      refine ⟨by omega, fun q => by omega, fun q => ?_⟩
      rcases List.mem_append.mp h with k | k
      · exact absurd k (List.nodup_cons.mp q.1).1
      · exact absurd k (q.2 x List.mem_cons_self)
    · rw [if_neg h]
      refine ⟨by omega, fun q => ?_, fun q => ?_⟩
      · obtain ⟨n, dj⟩ := h2.mp (by omega)
        refine ⟨List.nodup_cons.mpr ⟨fun k => h (List.mem_append_left _ k), n⟩, fun y hy => ?_⟩
        rcases List.mem_cons.mp hy with rfl | hy
        · exact fun k => h (List.mem_append_right _ k)
        · exact dj y hy
      · have := h2.mpr ⟨(List.nodup_cons.mp q.1).2, fun y hy => q.2 y (List.mem_cons_of_mem _ hy)⟩
        omega
theorem dst_nodup (l : List α) : dst l = l.length ↔ l.Nodup := by
  have h := (dst_app l []).2
  rw [List.append_nil] at h
  have e : dst ([] : List α) = 0 := rfl
  rw [e, Nat.add_zero] at h
  rw [h]
  exact ⟨fun q => q.1, fun q => ⟨q, fun x _ k => by cases k⟩⟩
end
/-- which keys are in -/
def inK (ks : List Str) : Key → Bool
  | .inl _ => false
  | .inr x => decide (x ∈ ks)
theorem strs_len : ∀ {us : List Value} {ys : List Str}, StrsAre us ys → us.length = ys.length
  | _, _, .nil => rfl
  | _, _, .cons _ _ r => by rw [List.length_cons, List.length_cons, strs_len r]
theorem strs_at : ∀ {us : List Value} {ys : List Str}, StrsAre us ys → ∀ (i : Nat) (y : Str), ys[i]? = some y → ∃ t, us[i]? = some (.str y t)
  | _, _, .nil, i, y, e => by simp at e
  | _, _, .cons z k r, 0, y, e => by
    rw [List.getElem?_cons_zero] at e
    cases e
    exact ⟨k, rfl⟩
  | _, _, .cons z k r, i + 1, y, e => by
    rw [List.getElem?_cons_succ] at e ⊢
    exact strs_at r i y e
section
variable {P : Program} {w : World} {A : Around} {E : Value → Shared → Prop} {s : Shared}
theorem setS_new {h : Heap} {a : Addr} (ho : h.get? a = some (nS w)) : h.SetOf (mixKind P w) a (inK []) (dst ([] : List Str)) :=
  ⟨_, #[], 0, _, ho, ⟨rfl, rfl, rfl⟩, rfl, (fun e he => by simp at he), (fun k => by cases k <;> simp [inK]), (by decide), (by rfl), rfl⟩
theorem setS_congr {h : Heap} {a : Addr} {S S' : Key → Bool} {n : Nat} (R : h.SetOf (mixKind P w) a S n) (e : ∀ k, S k = S' k) : h.SetOf (mixKind P w) a S' n := by
  have : S = S' := funext e
  rw [← this]
  exact R
theorem set_update_strs {I : Addr} {fp wr : List Addr} {G : Array GenState → Array GenState → Prop} {n : Nat} {Pv : Nat → Value → Prop} {St : Nat → Shared → Prop} {R : Result → Shared → Prop}
    (W : WalksS P w A.in1 I fp wr G n Pv St) (S : Addr) (apart : S ∉ fp) (ks : List Str) (hn : n = ks.length) (room : ks.length + 1 < scanBound) (tells : ∀ i v, Pv i v → ∃ k t, ks[i]? = some k ∧ v = .str k t) :
    ∀ (k i : Nat) (s : Shared), n - i = k → i ≤ n → St i s → s.heap.SetOf (mixKind P w) S (inK (ks.take i)) (dst (ks.take i)) →
      (∀ s', Moved (S :: wr) G s s' → s'.heap.SetOf (mixKind P w) S (inK ks) (dst ks) → R (.ok (.ret .none)) s') →
      codeAny (model P w) A (.builtin "set.update.loop" ⟨[.ref S, .ref I], []⟩) R s := by
  have nw : S ∉ wr := fun h => apart (W.sub _ h)
  have more : ∀ b ∈ wr, b ∈ S :: wr := fun b hb => List.mem_cons_of_mem _ hb
  intro k
  induction k with
  | zero =>
    intro i s hk hi st now hR
    obtain rfl : i = n := by omega
    refine codeAny_builtin F.entry_set_update_loop ?_
    rw [Around.under_plainId F.plain_set_update_loop _]
    show wpAny _ A.in1 (pyNext (.ref I) >>= _) _ _ s
    refine wpAny_bind (W.done s _ _ st fun s2 moved => ?_)
    show wpAny _ A.in1 (ret Value.none) _ _ s2
    rw [List.take_of_length_le (by omega)] at now
    exact wpAny_pure (hR s2 (moved.mono more) (setOf_at now fun o e => moved.heap S o nw e))
  | succ k ih =>
    intro i s hk hi st now hR
    have hlt : i < n := by omega
    refine codeAny_builtin F.entry_set_update_loop ?_
    rw [Around.under_plainId F.plain_set_update_loop _]
    show wpAny _ A.in1 (pyNext (.ref I) >>= _) _ _ s
    refine wpAny_bind (W.item i s _ _ hlt st fun v s2 hv st2 moved => ?_)
    obtain ⟨z, t, ez, rfl⟩ := tells i v hv
    have now2 : s2.heap.SetOf (mixKind P w) S (inK (ks.take i)) (dst (ks.take i)) := setOf_at now fun o e => moved.heap S o nw e
    show wpAny _ A.in1 (holding [Value.str z t] (setAdd S (.str z t)) >>= _) _ _ s2
    refine wpAny_bind (wpAny_holding ?_)
    unfold setAdd
    refine wpAny_holding ?_
    have isk : (mixKind P w).is (Sum.inr z) (.str z t) = true := kV_is (k := Sum.inr z) ⟨t, rfl⟩
    have few := dst_le (ks.take i)
    have lt : (ks.take i).length = i := by rw [List.length_take]; omega
    refine wpAny_bind ((mixKind P w).pyHash isk ?_)
    refine wpAny_setAddHashed_of (s := { s2 with toks := s2.toks + 1 }) isk rfl now2 (by omega) fun h3 same now3 => ?_
    have es : ks.take (i + 1) = ks.take i ++ [z] := by rw [List.take_add_one, ez]; rfl
    have now4 : h3.SetOf (mixKind P w) S (inK (ks.take (i + 1))) (dst (ks.take (i + 1))) := by
      have e1 : (if inK (ks.take i) (Sum.inr z) = true then dst (ks.take i) else dst (ks.take i) + 1) = dst (ks.take (i + 1)) := by
        rw [es, dst_snoc]
        show (if decide (z ∈ ks.take i) = true then _ else _) = _
        by_cases hz : z ∈ ks.take i
        · rw [if_pos (decide_eq_true hz), if_pos hz]
        · rw [if_neg (by simpa using hz), if_neg hz]
      rw [← e1]
      refine setS_congr now3 fun q => ?_
      rw [es]
      cases q with
      | inl _ => rfl
      | inr x => show (decide (x ∈ ks.take i) || decide ((Sum.inr x : Key) = Sum.inr z)) = decide (x ∈ ks.take i ++ [z]); simp
    refine wpAny_pure ⟨plainId_quiet F.plain_set_update_loop _, ih (i + 1) _ (by omega) hlt (W.frame _ s2 _ _ st2 (Nat.le_succ _) fun b hb o e => ?_) now4 fun s5 moved5 now5 => ?_⟩
    · rw [same.2 b (fun h : b = S => apart (by rw [← h]; exact hb))]; exact e
    · refine hR s5 (Moved.trans W.gtrans ((moved.mono more).then_heap (Nat.le_succ _) fun b o hb e => ?_) moved5) now5
      rw [same.2 b (fun h : b = S => hb (by rw [h]; exact List.mem_cons_self))]; exact e
set_option maxHeartbeats 6400000 in
theorem set_of_listS {l : Addr} {items : Array Value} (ks : List Str) {Q : Value → Shared → Prop} (hh : A.handled = none) (hl : s.heap.IsList l items) (hit : StrsAre items.toList ks) (hb : ks.length + 1 < scanBound)
    (h : ∀ (h' : Heap) (tk : Nat), h'.SetOf (mixKind P w) s.heap.objs.size (inK ks) (dst ks) → (∀ b o, s.heap.get? b = some o → h'.get? b = some o) → Q (.ref s.heap.objs.size) { s with heap := h', toks := tk }) :
    wpAny (model P w) A (call (.type "set") [.ref l]) Q E s := by
  have hisz : items.size = ks.length := by rw [← Array.length_toList]; exact strs_len hit
  obtain ⟨c, tl, hmro⟩ := F.called_set.mro
  have hmade := F.called_set.made; have hsub := F.called_set.sub
  refine wpAny_call (codeAny_of_tree ?_)
  show wpAny _ _ (callAny (.type "set") _) _ _ _
  refine wpAny_pure ⟨Code.quiet_builtin _ (by decide +kernel), codeAny_builtin F.entry_type_call ?_⟩
  rw [Around.under_plain (weight_type_call_type "set" [.ref l] []) rfl]
  have h1 := F.called_set.notType; have h2 := F.called_set.canCreate; have hct := F.typeCall_set_1 (.ref l)
  repeat (any_goals (first | assumption | wp_step))
  refine codeAny_mono (code_set_led1 (.ref l) (E := E) (Q₁ := fun obj s₁ => obj = .ref s.heap.objs.size ∧ s₁ = { s with heap := s.heap.push (nS w) }) ⟨rfl, rfl⟩) fun r s₁ hr => ?_
  cases r with
  | error e => exact hr
  | ok fl =>
    cases fl with
    | ret obj =>
      obtain ⟨rfl, rfl⟩ := hr
      have hS : (s.heap.push (nS w)).get? s.heap.objs.size = some (nS w) := Heap.get?_push_size _ rfl
      have hT : Shared.TypeIs { s with heap := s.heap.push (nS w) } (.ref s.heap.objs.size) "set" := ⟨_, hS, rfl⟩
      have hli := F.called_set.init.lookup; have hbi := F.called_set.init.bind (.ref s.heap.objs.size)
      repeat (any_goals (first | assumption | wp_step))
      refine codeAny_mono (codeAny_call_builtin (R := wants (fun r s₂ => r = .none ∧ ∃ h' tk, s₂ = { s with heap := h', toks := tk } ∧ h'.SetOf (mixKind P w) s.heap.objs.size (inK ks) (dst ks) ∧ (∀ b o, s.heap.get? b = some o → h'.get? b = some o)) E) F.called_set.init.plain F.entry_set_init (check_set_init_1 hT ?_)) fun r₂ s₂ hr₂ => ?_
      · obtain ⟨⟨ocls, odict, odata, oslots⟩, hol, hcl, nl, hdl⟩ := hl
        simp only at hcl hdl
        subst hcl; subst hdl
        have hol' : (s.heap.push (nS w)).get? l = some { cls := .type "list", dict := odict, data := .seq items nl, slots := oslots } := Heap.get?_push_of_some _ hol
        have hsls := F.sub_list_set; have hslf := F.sub_list_frozenset
        have hne : (Value.type "list" == Value.type "dict") = false := by decide
        have hl1 : (s.heap.push (nS w)).IsList l items := ⟨_, hol', rfl, nl, rfl⟩
        unfold Builtin.«set.__init__» noKeywords Builtin.Frozenset.updateFrom
        generalize hPI : pyIter = PI
        wp_walk
        subst hPI
        refine wpAny_pyIter_list hl1 (wpAny_bind (wpAny_runValue ?_))
        have hlS : l < s.heap.objs.size := Heap.lt_size hol
        have hh3 : A.in1.in1.in1.handled = none := by simp [hh]
        have hneI : l ≠ (s.heap.push (nS w)).objs.size := by rw [Heap.size_push]; exact Nat.ne_of_lt (Nat.lt_succ_of_lt hlS)
        have hSf : s.heap.objs.size ∉ [(s.heap.push (nS w)).objs.size, l] := by
          rw [Heap.size_push]; simp only [List.mem_cons, List.mem_singleton, List.not_mem_nil, or_false, not_or]; exact ⟨Nat.ne_of_lt (Nat.lt_succ_self _), Nat.ne_of_gt hlS⟩
        have hval : ∀ (i : Nat) (v : Value), items[i]? = some v → ∃ k t, ks[i]? = some k ∧ v = .str k t := fun i v hv => by
          have hi : i < ks.length := by rw [← hisz]; exact (Array.getElem?_eq_some_iff.mp hv).1
          obtain ⟨t, e⟩ := strs_at hit i ks[i] (List.getElem?_eq_getElem hi)
          refine ⟨ks[i], t, List.getElem?_eq_getElem hi, ?_⟩
          rw [Array.getElem?_toList, hv] at e
          exact Option.some.inj e
        refine set_update_strs ((Walks.list hh3 _ l hneI items).toS) s.heap.objs.size hSf ks hisz hb hval (items.size - 0) 0 _ (by omega) (Nat.zero_le _) ⟨⟨_, Heap.get?_push_size _ rfl, rfl, rfl⟩, (hl1.push _)⟩ (setS_new (Heap.get?_push_of_some _ hS)) fun s' hm hS' => ?_
        obtain ⟨h', g2, d', tk', os'⟩ := s'
        obtain rfl : g2 = s.gens := hm.gens
        obtain rfl : d' = s.drawn := hm.drawn
        obtain rfl : os' = s.os := hm.os
        show wpAny _ _ _ _ _ _
        refine wpAny_pure ?_
        show wpAny _ _ (ret Value.none) _ _ _
        refine wpAny_pure ⟨rfl, h', tk', rfl, hS', fun b o e => ?_⟩
        have hb0 : b < s.heap.objs.size := Heap.lt_size e
        have hb2 : b ≠ (s.heap.push (nS w)).objs.size := by rw [Heap.size_push]; exact Nat.ne_of_lt (Nat.lt_succ_of_lt hb0)
        exact hm.heap b o (by simp only [List.mem_cons, List.mem_singleton, List.not_mem_nil, or_false, not_or]; exact ⟨Nat.ne_of_lt hb0, hb2⟩) (Heap.get?_push_of_some _ (Heap.get?_push_of_some _ e))
      · cases r₂ with
        | error e => exact hr₂
        | ok fl₂ =>
          cases fl₂ with
          | ret r =>
            obtain ⟨rfl, h', tk, rfl, hS', hk'⟩ := hr₂
            repeat (any_goals (first | assumption | wp_step))
            exact h _ _ hS' hk'
          | _ => exact hr₂.elim
    | _ => exact hr.elim
set_option maxHeartbeats 6400000 in
theorem set_of_tupS {l : Addr} {items : Array Value} (ks : List Str) {Q : Value → Shared → Prop} (hh : A.handled = none) (hl : s.heap.IsTuple l items) (hit : StrsAre items.toList ks) (hb : ks.length + 1 < scanBound)
    (h : ∀ (h' : Heap) (tk : Nat), h'.SetOf (mixKind P w) s.heap.objs.size (inK ks) (dst ks) → (∀ b o, s.heap.get? b = some o → h'.get? b = some o) → Q (.ref s.heap.objs.size) { s with heap := h', toks := tk }) :
    wpAny (model P w) A (call (.type "set") [.ref l]) Q E s := by
  have hisz : items.size = ks.length := by rw [← Array.length_toList]; exact strs_len hit
  obtain ⟨c, tl, hmro⟩ := F.called_set.mro
  have hmade := F.called_set.made; have hsub := F.called_set.sub
  refine wpAny_call (codeAny_of_tree ?_)
  show wpAny _ _ (callAny (.type "set") _) _ _ _
  refine wpAny_pure ⟨Code.quiet_builtin _ (by decide +kernel), codeAny_builtin F.entry_type_call ?_⟩
  rw [Around.under_plain (weight_type_call_type "set" [.ref l] []) rfl]
  have h1 := F.called_set.notType; have h2 := F.called_set.canCreate; have hct := F.typeCall_set_1 (.ref l)
  repeat (any_goals (first | assumption | wp_step))
  refine codeAny_mono (code_set_led1 (.ref l) (E := E) (Q₁ := fun obj s₁ => obj = .ref s.heap.objs.size ∧ s₁ = { s with heap := s.heap.push (nS w) }) ⟨rfl, rfl⟩) fun r s₁ hr => ?_
  cases r with
  | error e => exact hr
  | ok fl =>
    cases fl with
    | ret obj =>
      obtain ⟨rfl, rfl⟩ := hr
      have hS : (s.heap.push (nS w)).get? s.heap.objs.size = some (nS w) := Heap.get?_push_size _ rfl
      have hT : Shared.TypeIs { s with heap := s.heap.push (nS w) } (.ref s.heap.objs.size) "set" := ⟨_, hS, rfl⟩
      have hli := F.called_set.init.lookup; have hbi := F.called_set.init.bind (.ref s.heap.objs.size)
      repeat (any_goals (first | assumption | wp_step))
      refine codeAny_mono (codeAny_call_builtin (R := wants (fun r s₂ => r = .none ∧ ∃ h' tk, s₂ = { s with heap := h', toks := tk } ∧ h'.SetOf (mixKind P w) s.heap.objs.size (inK ks) (dst ks) ∧ (∀ b o, s.heap.get? b = some o → h'.get? b = some o)) E) F.called_set.init.plain F.entry_set_init (check_set_init_1 hT ?_)) fun r₂ s₂ hr₂ => ?_
      · obtain ⟨⟨ocls, odict, odata, oslots⟩, hol, hcl, nl, hdl⟩ := hl
        simp only at hcl hdl
        subst hcl; subst hdl
        have hol' : (s.heap.push (nS w)).get? l = some { cls := .type "tuple", dict := odict, data := .seq items nl, slots := oslots } := Heap.get?_push_of_some _ hol
        have hsls := F.sub_tuple_set; have hslf := F.sub_tuple_frozenset
        have hne : (Value.type "tuple" == Value.type "dict") = false := by decide
        have hl1 : (s.heap.push (nS w)).IsTuple l items := ⟨_, hol', rfl, nl, rfl⟩
        unfold Builtin.«set.__init__» noKeywords Builtin.Frozenset.updateFrom
        generalize hPI : pyIter = PI
        wp_walk
        subst hPI
        refine wpAny_pyIter_tuple hl1 (wpAny_bind (wpAny_runValue ?_))
        have hlS : l < s.heap.objs.size := Heap.lt_size hol
        have hh3 : A.in1.in1.in1.handled = none := by simp [hh]
        have hneI : l ≠ (s.heap.push (nS w)).objs.size := by rw [Heap.size_push]; exact Nat.ne_of_lt (Nat.lt_succ_of_lt hlS)
        have hSf : s.heap.objs.size ∉ [(s.heap.push (nS w)).objs.size, l] := by
          rw [Heap.size_push]; simp only [List.mem_cons, List.mem_singleton, List.not_mem_nil, or_false, not_or]; exact ⟨Nat.ne_of_lt (Nat.lt_succ_self _), Nat.ne_of_gt hlS⟩
        have hval : ∀ (i : Nat) (v : Value), items[i]? = some v → ∃ k t, ks[i]? = some k ∧ v = .str k t := fun i v hv => by
          have hi : i < ks.length := by rw [← hisz]; exact (Array.getElem?_eq_some_iff.mp hv).1
          obtain ⟨t, e⟩ := strs_at hit i ks[i] (List.getElem?_eq_getElem hi)
          refine ⟨ks[i], t, List.getElem?_eq_getElem hi, ?_⟩
          rw [Array.getElem?_toList, hv] at e
          exact Option.some.inj e
        refine set_update_strs ((Walks.tuple hh3 _ l hneI items).toS) s.heap.objs.size hSf ks hisz hb hval (items.size - 0) 0 _ (by omega) (Nat.zero_le _) ⟨⟨_, Heap.get?_push_size _ rfl, rfl, rfl⟩, (hl1.push _)⟩ (setS_new (Heap.get?_push_of_some _ hS)) fun s' hm hS' => ?_
        obtain ⟨h', g2, d', tk', os'⟩ := s'
        obtain rfl : g2 = s.gens := hm.gens
        obtain rfl : d' = s.drawn := hm.drawn
        obtain rfl : os' = s.os := hm.os
        show wpAny _ _ _ _ _ _
        refine wpAny_pure ?_
        show wpAny _ _ (ret Value.none) _ _ _
        refine wpAny_pure ⟨rfl, h', tk', rfl, hS', fun b o e => ?_⟩
        have hb0 : b < s.heap.objs.size := Heap.lt_size e
        have hb2 : b ≠ (s.heap.push (nS w)).objs.size := by rw [Heap.size_push]; exact Nat.ne_of_lt (Nat.lt_succ_of_lt hb0)
        exact hm.heap b o (by simp only [List.mem_cons, List.mem_singleton, List.not_mem_nil, or_false, not_or]; exact ⟨Nat.ne_of_lt hb0, hb2⟩) (Heap.get?_push_of_some _ (Heap.get?_push_of_some _ e))
      · cases r₂ with
        | error e => exact hr₂
        | ok fl₂ =>
          cases fl₂ with
          | ret r =>
            obtain ⟨rfl, h', tk, rfl, hS', hk'⟩ := hr₂
            repeat (any_goals (first | assumption | wp_step))
            exact h _ _ hS' hk'
          | _ => exact hr₂.elim
    | _ => exact hr.elim
end
section
variable {X : Cx} {K : PySem.W.Frag}
def rSetSL (P : Program) (w : World) (K : PySem.W.Frag) : List V → Hp → VK → Prop := fun xs H Q => ∃ (l : Addr) (ks : List Str), xs = [.ref l] ∧ SqL K H l (ks.map V.str) ∧ ks.length ≤ 1000 ∧ ∀ p, H p = none → Q (.ref p) (upd H p (SetK P w p (inK ks) (dst ks)))
def rSetST (P : Program) (w : World) (K : PySem.W.Frag) : List V → Hp → VK → Prop := fun xs H Q => ∃ (l : Addr) (ks : List Str), xs = [.ref l] ∧ SqT K H l (ks.map V.str) ∧ ks.length ≤ 1000 ∧ ∀ p, H p = none → Q (.ref p) (upd H p (SetK P w p (inK ks) (dst ks)))
theorem cr_setSL (hc : X.calm = true) (hK : X.K = K := by rfl) : CallR X (.type "set") (rSetSL X.prog X.w K) := by
  subst hK
  intro pins s σ H xs us Q I r h
  obtain ⟨l, ks, rfl, hs, hn, q⟩ := h
  obtain ⟨its, rv, p', hz⟩ := I.list hs
  rw [Vals.ref1 r]
  have hi := strsAre_of rv
  refine set_of_listS ks (I.ok.hd hc) p'.isList (by simpa using hi) (by have e : scanBound = scanBound := rfl; unfold scanBound at e ⊢; omega) fun h' tk hR hk => ?_
  exact ⟨.ref s.heap.objs.size, upd H s.heap.objs.size _, I.laid (t' := tk) (fun b u e => hk b u e) (Nat.le_refl _) (setK_new hR), rfl, q _ (I.hok.fresh (Nat.le_refl _))⟩
theorem cr_setST (hc : X.calm = true) (hK : X.K = K := by rfl) : CallR X (.type "set") (rSetST X.prog X.w K) := by
  subst hK
  intro pins s σ H xs us Q I r h
  obtain ⟨l, ks, rfl, hs, hn, q⟩ := h
  obtain ⟨its, rv, p', hz⟩ := I.tuple hs
  rw [Vals.ref1 r]
  have hi := strsAre_of rv
  refine set_of_tupS ks (I.ok.hd hc) p' (by simpa using hi) (by have e : scanBound = scanBound := rfl; unfold scanBound at e ⊢; omega) fun h' tk hR hk => ?_
  exact ⟨.ref s.heap.objs.size, upd H s.heap.objs.size _, I.laid (t' := tk) (fun b u e => hk b u e) (Nat.le_refl _) (setK_new hR), rfl, q _ (I.hok.fresh (Nat.le_refl _))⟩
/-- len(s), s a set of texts -/
theorem call_lenSetK : CallR X (.builtin "len") (fun xs H Q => ∃ (a : Addr) (S : Key → Bool) (n : Nat), xs = [.ref a] ∧ H a = some (SetK X.prog X.w a S n) ∧ Q (.int n) H) := by
  intro pins s σ H xs us Q I r h
  obtain ⟨a, S, n, rfl, ha, q⟩ := h
  rw [Vals.ref1 r]
  obtain ⟨o, es, ep, t, ho, hex, hd, _, _, hb, hf, hn⟩ := setK_get I ha
  have sb : scanBound ≤ 2 ^ 62 := by decide
  refine call_len_set ho hex hd hf (by omega) ?_
  rw [hn]
  exact ⟨.int n, H, I.kept (t' := s.toks + 1 + 1) fun _ _ e => e, ⟨_, rfl⟩, q⟩
end
section
variable {X : Cx} {k : Nat} {f a D : Addr} {cls : Value} {d : Option Addr} {oe : Obj} {fd : FuncData} {ps : List Str} {sp : Addr → Sp} {x : Str} {p pos : Pos} {e : Expr} {es : List Expr} {t : TA} {E : XK}
/-- a def called in the suite, the error's class told at the reading -/
theorem pe_callEc (F : FnE X.prog X.w X.K X.mg X.base D k f fd ps sp) (room : L2H.RoomH k X.A) (hp : (a, oe) ∈ X.pn) (z : Zc cls d oe) (fl : ∃ vs, oe.data = .fields vs) (hg : Gl X x) (hm : X.mg x = some (.ref f)) (hk : PySem.W.keepIn X.K (.ref f) = true) (hb : Binds X.K fd ps [])
    (ha : PA X (e :: es) t) (hdb : (x == ("__debug__" : Str)) = false := by decide) (he : starEach (e :: es) X.env = (false, eval e X.env) :: starEach es X.env := by rfl) (hpl : (backTo pos (starEach es X.env)).any (·.1) = false := by rfl) :
    PE X (.Call (.Name x p) (e :: es) [] pos) (fun σ H Q => cls = .ref D ∧ d = none ∧ t σ H fun vs H1 => sp a vs H1 Q E) := by
  refine ⟨fun pins s σ H Q I h => ?_⟩
  obtain ⟨rfl, rfl, h⟩ := h
  exact (pe_callE F room hp z fl hg hm hk hb ha hdb he hpl).run pins s σ H Q I h
end
end CB

set_option Elab.async false
set_option linter.all false
set_option maxRecDepth 100000
set_option maxHeartbeats 4000000
/-! comprehensions in general; programs between and beside, plain part -/
namespace CB
open PySem PySem.Spec PyProof.Rows L2
section
variable {K : PySem.W.Frag} {J : It} {n : Nat} {G : Hp → Prop} {Y : Nat → Hp → V → Hp → Prop} {g : TG} {tt : TT} {te : TE} {vs : List Nat} {σ : L2.St} {H1 : Hp} {D : Addr} {Qd : Hp → Prop}
/-- what a comprehension asks of a walk -/
abbrev LcOf (J : It) (g : TG) (tt : TT) (te : TE) (vs : List Nat) (σ : L2.St) (H1 : Hp) (D : Addr) (Qd : Hp → Prop) : Prop :=
  ∃ W : Nat → Nat → Hp → Prop, (∃ m, W 0 m (upd H1 D (.lst []))) ∧ ∀ i m H, W i m H →
    (J.stop i H ∧ Qd H) ∨ (J.go i H ∧ ∃ Nx : Hp → Prop, (∀ H', Nx H' → ∃ m', m' < m ∧ W (i + 1) m' H') ∧ ∀ x H', J.yld i H x H' → g x (wipe σ vs) H' fun σ2 H2 => wipe σ2 vs = wipe σ vs ∧ tt σ2 H2 fun b H3 =>
      if b = true then te σ2 H3 fun y H4 => ∃ acc, H4 D = some (.lst acc) ∧ acc.length < sizeLine ∧ Nx (upd H4 D (.lst (acc ++ [y]))) else Nx H3)
theorem range_snoc {α : Type} (f : Nat → α) (i : Nat) : (List.range (i + 1)).map f = (List.range i).map f ++ [f i] := by rw [List.range_succ, List.map_append]; rfl
/-- a comprehension whose items are data of tuples, one for each turn -/
theorem lc_data (w : Walk J n G Y) (fb : Nat → PyData) (nD : H1 D = none) (hn : n ≤ 1000) (hG : ∀ H', Ex H1 H' → G H') (safe : ∀ i, i < n → Safe (fb i))
    (hs : ∀ i x H' H'', i < n → Ex H1 H' → Y i H' x H'' → ∀ (R : V → Hp → Prop) (N : Hp → Prop), (∀ v' H3, Ex H' H3 → Dp K H3 v' (fb i) → R v' H3) →
      g x (wipe σ vs) H'' fun σ2 H2 => wipe σ2 vs = wipe σ vs ∧ tt σ2 H2 fun b H3 => if b = true then te σ2 H3 R else N H3)
    (q : ∀ H' ys, Ex H1 H' → H' D = some (.lst ys) → DpAll K H' ys ((List.range n).map fb) → Qd H') : LcOf J g tt te vs σ H1 D Qd := by
  refine lc_it w (fun i H' => ∃ ys, Ex H1 H' ∧ H' D = some (.lst ys) ∧ DpAll K H' ys ((List.range i).map fb)) ⟨[], Evl.Ex.new nD, upd_same, .nil⟩ (fun i H' _ h => by obtain ⟨_, x, _⟩ := h; exact hG H' x) (fun i x H' H'' hi h y => ?_) (fun H' h => ?_)
  · obtain ⟨ys, x1, hD, dy⟩ := h
    refine hs i x H' H'' hi x1 y _ _ fun v' H3 x3 dv => ⟨ys, x3 _ _ hD, ?_, ys ++ [v'], Evl.Ex.mut (x1.trans x3) nD, upd_same, ?_⟩
    · refine small1000 ?_
      rw [dy.length, List.length_map, List.length_range]
      omega
    · rw [range_snoc]
      have hD3 := x3 _ _ hD
      refine (safe_all hD3 (fun d hd => ?_) (dy.ex x3)).append (.cons (safe i hi _ _ _ _ _ _ hD3 dv) .nil)
      obtain ⟨j, hj, rfl⟩ := List.mem_map.mp hd
      exact safe j (Nat.lt_trans (List.mem_range.mp hj) hi)
  · obtain ⟨ys, x1, hD, dy⟩ := h
    exact q H' ys x1 hD dy
/-- a comprehension whose items stand by themselves (numbers, texts), some left out -/
theorem lc_flat (w : Walk J n G Y) (out : Nat → Option V) (nD : H1 D = none) (hn : n ≤ 1000) (hG : ∀ H', Ex H1 H' → G H')
    (hs : ∀ i x H' H'', i < n → Ex H1 H' → Y i H' x H'' → ∀ (R : V → Hp → Prop) (N : Hp → Prop), (∀ v H3, out i = some v → Ex H' H3 → R v H3) → (∀ H3, out i = none → Ex H' H3 → N H3) →
      g x (wipe σ vs) H'' fun σ2 H2 => wipe σ2 vs = wipe σ vs ∧ tt σ2 H2 fun b H3 => if b = true then te σ2 H3 R else N H3)
    (q : ∀ H', Ex H1 H' → H' D = some (.lst ((List.range n).filterMap out)) → Qd H') : LcOf J g tt te vs σ H1 D Qd := by
  have step : ∀ i, (List.range (i + 1)).filterMap out = (List.range i).filterMap out ++ (out i).toList := fun i => by
    rw [List.range_succ, List.filterMap_append]
    cases e : out i with
    | none => rw [List.filterMap_cons_none e]; rfl
    | some v => rw [List.filterMap_cons_some e]; rfl
  refine lc_it w (fun i H' => Ex H1 H' ∧ H' D = some (.lst ((List.range i).filterMap out))) ⟨Evl.Ex.new nD, upd_same⟩ (fun i H' _ h => hG H' h.1) (fun i x H' H'' hi h y => ?_) (fun H' h => q H' h.1 h.2)
  obtain ⟨x1, hD⟩ := h
  refine hs i x H' H'' hi x1 y _ _ (fun v H3 e x3 => ⟨_, x3 _ _ hD, ?_, Evl.Ex.mut (x1.trans x3) nD, ?_⟩) fun H3 e x3 => ⟨x1.trans x3, ?_⟩
  · refine small1000 (Nat.le_trans (List.length_filterMap_le _ _) ?_)
    rw [List.length_range]
    omega
  · rw [upd_same, step, e]; rfl
  · rw [step, e]
    show _ = some (HO.lst (_ ++ []))
    rw [List.append_nil]
    exact x3 _ _ hD
end
/-- what stays of a list, told by places -/
theorem filterMap_at {α β : Type} (l : List α) (h : α → Option β) : (List.range l.length).filterMap (fun i => l[i]?.bind h) = l.filterMap h := by
  have key : ∀ k, k ≤ l.length → (List.range k).filterMap (fun i => l[i]?.bind h) = (l.take k).filterMap h := by
    intro k
    induction k with
    | zero => intro _; rfl
    | succ k ih =>
      intro hk
      rw [List.range_succ, List.filterMap_append, ih (by omega), List.take_add_one, List.filterMap_append]
      have e : l[k]? = some l[k] := List.getElem?_eq_getElem (by omega)
      rw [e]
      show _ ++ List.filterMap (fun i => l[i]?.bind h) [k] = _ ++ List.filterMap h [l[k]]
      refine congrArg (fun z => List.filterMap h (List.take k l) ++ z) ?_
      have e2 : l[k]?.bind h = h l[k] := by rw [e]; rfl
      cases e3 : h l[k] with
      | none => rw [List.filterMap_cons_none (f := fun i => l[i]?.bind h) (e2.trans e3), List.filterMap_cons_none e3]; rfl
      | some v => rw [List.filterMap_cons_some (f := fun i => l[i]?.bind h) (e2.trans e3), List.filterMap_cons_some e3]; rfl
  rw [key l.length (Nat.le_refl _), List.take_of_length_le (Nat.le_refl _)]
theorem range_at {α β : Type} (l : List α) (d : α) (f : α → β) : (List.range l.length).map (fun i => f (l.getD i d)) = l.map f := by
  refine List.ext_getElem? fun i => ?_
  rw [List.getElem?_map, List.getElem?_map]
  by_cases h : i < l.length
  · rw [List.getElem?_range h, List.getElem?_eq_getElem h]
    show some (f (l.getD i d)) = some (f l[i])
    rw [List.getD_eq_getElem?_getD, List.getElem?_eq_getElem h]
    rfl
  · rw [List.getElem?_eq_none (by rw [List.length_range]; omega), List.getElem?_eq_none (by omega)]
    rfl
/-! ### programs moved -/
def mvB (at_ many b : Nat) : Nat := if at_ ≤ b then b + many else b
def movS (at_ many : Nat) (s : List Int) : List Int := s.take (at_ + 1) ++ List.replicate many 0 ++ s.drop (at_ + 1)
def movD (at_ many calls : Nat) : Deed → Deed
  | .call k => .call (k + calls)
  | .rest => .rest
  | .any b => .any (mvB at_ many b)
  | .set b s => .set (mvB at_ many b) (movS at_ many s)
def movR (at_ many calls : Nat) (r : Deed × List Int) : Deed × List Int := (movD at_ many calls r.1, r.2)
def movP (at_ many calls : Nat) (p : Part) : Part := ⟨p.name, p.own, p.rows.map (movR at_ many calls)⟩
def bxsOf (P : Prog) : List Str := P.shared ++ P.parts.flatMap Part.own
def inRow (ds : List Deed) : List (Deed × List Int) := (List.range ds.length).map fun i => (ds.getD i .rest, [(i : Int) + 1])
/-- a sum of so many boxes that is one of them -/
def oneS (many b : Nat) : List Int := (List.replicate (1 + 2 * many) 0).set (1 + b) 1
def btwD (many i : Nat) : List Deed := (List.range many).map .any ++ (List.range many).map (fun b => .set (many + b) (oneS many b)) ++ [.call (i + 1)]
def btwOk (P : Prog) (names : List Str) (name : Str) : Prop := names.length = P.shared.length ∧ (names.Nodup ∧ ∀ x ∈ names, x ∉ bxsOf P) ∧ name ∉ P.parts.map Part.name
instance {P : Prog} {names : List Str} {name : Str} : Decidable (btwOk P names name) := inferInstanceAs (Decidable (_ ∧ _))
def btw (P : Prog) (i : Nat) (names : List Str) (name : Str) : Option Prog :=
  if btwOk P names name then some ⟨P.shared ++ names, ⟨name, [], inRow (btwD P.shared.length i)⟩ :: P.parts.map (movP P.shared.length P.shared.length 1)⟩ else none
def bsdOk (P O : Prog) (name : Str) : Prop := (∀ x ∈ bxsOf P, x ∉ bxsOf O) ∧ name ∉ P.parts.map Part.name ++ O.parts.map Part.name ∧ (P.parts.map Part.name ++ O.parts.map Part.name).Nodup
instance {P O : Prog} {name : Str} : Decidable (bsdOk P O name) := inferInstanceAs (Decidable (_ ∧ _))
def bsd (P O : Prog) (name : Str) : Option Prog :=
  if bsdOk P O name then some ⟨P.shared ++ O.shared, ⟨name, [], inRow [.call 1, .call (1 + P.parts.length)]⟩ :: (P.parts.map (movP P.shared.length O.shared.length 1) ++ O.parts.map (movP 0 P.shared.length (1 + P.parts.length)))⟩ else none
/-- a part that may be moved -/
def MvOk (p : Part) : Prop := p.rows.length ≤ 20 ∧ ∀ r ∈ p.rows, ∀ b s, r.1 = .set b s → s.length ≤ 20
/-- how great a program is, whatever it is called -/
structure StOk (p : Prog) : Prop where
  p1 : 1 ≤ p.parts.length
  p3 : p.parts.length ≤ 3
  part : ∀ q ∈ p.parts, True ∧ p.shared.length + q.own.length ≤ 3 ∧ OkRows (p.shared.length + q.own.length) p.parts.length 5 q.rows
theorem LookOk.st {P : Prog} (L : LookOk P) : StOk P := ⟨L.p1, L.p3, fun q hq => ⟨trivial, (L.part q hq).2.1, (L.part q hq).2.2⟩⟩
theorem StOk.mv {P : Prog} (L : StOk P) : ∀ p ∈ P.parts, MvOk p := fun p hp => by
  obtain ⟨_, l2, _, l5, lr⟩ := L.part p hp
  refine ⟨by omega, fun r hr b s e => ?_⟩
  have h := (lr r hr).1
  rw [e] at h
  have := h.2.1
  omega
def sp_movD (K : PySem.W.Frag) : Sp := fun vs H Q _ => ∃ (v : V) (e : Deed) (at_ many calls : Nat), vs = [v, .int (at_ : Int), .int (many : Int), .int (calls : Int)] ∧ Dp K H v (dDeed e) ∧ at_ ≤ 20 ∧ many ≤ 20 ∧ (∀ b s, e = .set b s → s.length ≤ 20) ∧ RetE K H Q (dDeed (movD at_ many calls e))
def sp_movPs (K : PySem.W.Frag) : Sp := fun vs H Q _ => ∃ (v : V) (ps : List Part) (at_ many calls : Nat), vs = [v, .int (at_ : Int), .int (many : Int), .int (calls : Int)] ∧ Dp K H v (.tuple (ps.map dPart)) ∧ ps.length ≤ 20 ∧ at_ ≤ 20 ∧ many ≤ 20 ∧ (∀ p ∈ ps, MvOk p) ∧ RetE K H Q (.tuple ((ps.map (movP at_ many calls)).map dPart))
def sp_shPs (K : PySem.W.Frag) : Sp := fun vs H Q _ => ∃ (v : V) (P : Prog) (at_ many calls : Nat), vs = [v, .int (at_ : Int), .int (many : Int), .int (calls : Int)] ∧ Dp K H v (dProg P) ∧ P.parts.length ≤ 20 ∧ at_ ≤ 20 ∧ many ≤ 20 ∧ (∀ p ∈ P.parts, MvOk p) ∧
  ∀ (p : Addr) (xs : List V) H', Ex H H' → H' p = some (.lst xs) → DpAll K H' xs ((P.parts.map (movP at_ many calls)).map dPart) → Q (.ref p) H'
def sp_allB (K : PySem.W.Frag) : Sp := fun vs H Q _ => ∃ (v : V) (P : Prog), vs = [v] ∧ Dp K H v (dProg P) ∧ StOk P ∧ ∀ (p : Addr) H', Ex H H' → H' p = some (.lst ((bxsOf P).map V.str)) → Q (.ref p) H'
def sp_inRow (K : PySem.W.Frag) : Sp := fun vs H Q _ => ∃ (l : Addr) (xs : List V) (ds : List Deed), vs = [.ref l] ∧ SqL K H l xs ∧ DpAll K H xs (ds.map dDeed) ∧ ds.length ≤ 100 ∧ RetE K H Q (.tuple ((inRow ds).map dRow))
def sp_between (K : PySem.W.Frag) (C : Addr) : Sp := fun vs H Q E => ∃ (v : V) (P : Prog) (i : Nat) (an : Addr) (names : List Str) (name : Str), vs = [v, .int (i : Int), .ref an, .str name] ∧ Dp K H v (dProg P) ∧ LookOk P ∧ SqT K H an (names.map V.str) ∧ names.length ≤ 20 ∧
  (btw P i names name = none → ∀ H', Ex H H' → E (.ref C) none H') ∧ (∀ P', btw P i names name = some P' → ∀ v' H', Ex H H' → Dp K H' v' (dProg P') → Q v' H')
def sp_due51 (K : PySem.W.Frag) : Sp := fun vs H Q _ => ∃ (v : V) (P : Prog) (i : Nat) (an : Addr) (names : List Str) (name : Str), vs = [v, .int (i : Int), .ref an, .str name] ∧ Dp K H v (dProg P) ∧ LookOk P ∧ SqT K H an (names.map V.str) ∧ names.length ≤ 20 ∧ RetE K H Q (optP (btw P i names name))
def sp_heard51 (K : PySem.W.Frag) : Sp := fun vs H Q _ => ∃ (v : V) (P : Prog) (i : Nat) (an : Addr) (names : List Str) (name : Str), vs = [v, .int (i : Int), .ref an, .str name] ∧ Dp K H v (dProg P) ∧ LookOk P ∧ SqT K H an (names.map V.str) ∧ names.length ≤ 20 ∧
  ∀ (p : Addr) (v' : V) H', Ex H H' → H' p = some (.lst [v', .bl (btw P i names name).isNone]) → Dp K H' v' (optP (btw P i names name)) → Q (.ref p) H'
def sp_beside (K : PySem.W.Frag) (C : Addr) : Sp := fun vs H Q E => ∃ (v u : V) (P O : Prog) (name : Str), vs = [v, u, .str name] ∧ Dp K H v (dProg P) ∧ Dp K H u (dProg O) ∧ StOk P ∧ StOk O ∧
  (bsd P O name = none → ∀ H', Ex H H' → E (.ref C) none H') ∧ (∀ P', bsd P O name = some P' → ∀ v' H', Ex H H' → Dp K H' v' (dProg P') → Q v' H')
def sp_due52 (K : PySem.W.Frag) : Sp := fun vs H Q _ => ∃ (v u : V) (P O : Prog) (name : Str), vs = [v, u, .str name] ∧ Dp K H v (dProg P) ∧ Dp K H u (dProg O) ∧ StOk P ∧ StOk O ∧ ShP 20 P ∧ RetE K H Q (optP (bsd P O name))
def sp_heard52 (K : PySem.W.Frag) : Sp := fun vs H Q _ => ∃ (v u : V) (P O : Prog) (name : Str), vs = [v, u, .str name] ∧ Dp K H v (dProg P) ∧ Dp K H u (dProg O) ∧ StOk P ∧ StOk O ∧
  ∀ (p : Addr) (v' : V) H', Ex H H' → H' p = some (.lst [v', .bl (bsd P O name).isNone]) → Dp K H' v' (optP (bsd P O name)) → Q (.ref p) H'
def sp_called (K : PySem.W.Frag) : Sp := fun vs H Q _ => ∃ (v : V) (P : Prog) (pn : Addr) (nms : List Str), vs = [v, .ref pn] ∧ Dp K H v (dProg P) ∧ StOk P ∧ ShP 20 P ∧ P.parts.length ≤ 2 ∧ SqL K H pn (nms.map V.str) ∧ nms.length = 11 ∧ (∀ z ∈ nms, NmS z) ∧
  ∀ v' H' P', Ex H H' → Dp K H' v' (dProg P') → StOk P' → ShP 20 P' → Q v' H'
def sp_alone (a : Addr) : Sp := fun vs H Q _ => vs = [.ref a] ∧ ∀ H', Ex H H' → Q (.bl true) H'
theorem hotRoom {k : Nat} {A : Around} {h : Option Value} (r : Room k A) : L2H.RoomH k (A.mark h) := ⟨r.dp, r.un⟩
theorem allB_len {P : Prog} (L : StOk P) : (bxsOf P).length ≤ 20 := by
  have key : ∀ l : List Part, (∀ q ∈ l, q.own.length ≤ 3) → (l.flatMap Part.own).length ≤ 3 * l.length := by
    intro l
    induction l with
    | nil => intro _; exact Nat.le_refl _
    | cons p l ih =>
      intro h
      have h1 := h p List.mem_cons_self
      have h2 := ih fun q hq => h q (List.mem_cons_of_mem _ hq)
      rw [List.flatMap_cons, List.length_append, List.length_cons]
      omega
  have h1 := key P.parts fun q hq => by have := (L.part q hq).2.1; omega
  have h2 := L.p3
  have h3 := (L.part _ (List.getElem_mem L.p1)).2.1
  unfold bxsOf
  rw [List.length_append]
  omega
theorem mt_indexK {X : Cx} {K : PySem.W.Frag} (hK : X.K = K := by rfl) : MtR X "list.index" (rIndex K) := hK ▸ mt_index
end CB

set_option Elab.async false
set_option linter.all false
set_option maxRecDepth 100000
set_option maxHeartbeats 4000000
/-! errors that are caught and kept behind the suite -/
namespace CB
open PySem PySem.Spec PyProof.Rows L2
/-- at a: an error of the class cls, its dict at d -/
def xo (a : Addr) (cls : Value) (d : Option Addr) : HO := .ext fun h => ∃ (oe : Obj) (vs : Array Value), h.get? a = some oe ∧ Zc cls d oe ∧ oe.data = .fields vs
theorem xo_ok {P : Program} {w : World} {H : Hp} {h : Heap} {a : Addr} {cls : Value} {d : Option Addr} {oe : Obj} {vs : Array Value} (e : h.get? a = some oe) (z : Zc cls d oe) (f : oe.data = .fields vs) : ObjOk P w H h a (xo a cls d) :=
  ⟨⟨oe, vs, e, z, f⟩, ⟨_, e⟩, fun h1 h2 q k => by
    obtain ⟨o, us, e1, z1, f1⟩ := q
    exact ⟨o, us, k _ e1, z1, f1⟩⟩
theorem xo_at {P : Program} {w : World} {H : Hp} {h : Heap} {a : Addr} {cls : Value} {d : Option Addr} (hok : HOk P w H h) (e : H a = some (xo a cls d)) : ∃ (oe : Obj) (vs : Array Value), h.get? a = some oe ∧ Zc cls d oe ∧ oe.data = .fields vs := by
  have x : ObjOk P w H h a (.ext fun h => ∃ (oe : Obj) (vs : Array Value), h.get? a = some oe ∧ Zc cls d oe ∧ oe.data = .fields vs) := hok a _ e
  exact x.1
section
variable {X : Cx} {pins : List (Addr × Obj)} {σ : L2.St} {H : Hp} {s : Shared} {a : Addr} {oe : Obj} {o : HO}
/-- a pinned object that is new since the entry becomes a tracked one -/
theorem keepx (I : Inv X ((a, oe) :: pins) σ H s) (new0 : X.s_0.heap.get? a = none) (apart : ∀ p ∈ X.pn ++ pins, p.1 ≠ a) (good : ObjOk X.prog X.w (upd H a o) s.heap a o) : Inv X pins σ (upd H a o) s := by
  obtain ⟨got, free, nloc, nfs, ncell⟩ := I.pin (a, oe) (List.mem_append_right _ List.mem_cons_self)
  have B := I.base
  refine ⟨I.ok, I.os, I.bare, ⟨B.keep, B.slot, fun b ob e n x => ?_, B.there, fun b xs e => ?_, fun b ob u e => ?_, fun b ps e => ?_⟩, I.loc, I.cell, ?_, fun x c e => ?_, fun p hp => ?_, ?_, I.len⟩
  · have ne : b ≠ a := fun z => by rw [z, new0] at e; cases e
    rw [upd_ne ne]
    exact B.free b ob e n x
  · have q := B.tups b xs e
    have ne : b ≠ a := fun z => by rw [z, free] at q; cases q
    rw [upd_ne ne]
    exact q
  · have q := B.frzs b ob u e
    have ne : b ≠ a := fun z => by rw [z, free] at q; cases q
    rw [upd_ne ne]
    exact q
  · obtain ⟨more, q⟩ := B.tbls b ps e
    have ne : b ≠ a := fun z => by rw [z, free] at q; cases q
    exact ⟨more, by rw [upd_ne ne]; exact q⟩
  · rw [upd_ne nloc.symm]
    exact I.free
  · have ne : c ≠ a := fun z => by
      obtain ⟨v, ob, q, dd⟩ := I.cell x c e
      rw [z, got] at q
      rw [← Option.some.inj q] at dd
      exact ncell _ dd
    rw [upd_ne ne]
    exact I.freeC x c e
  · obtain ⟨q1, q2, q3⟩ := I.pin p (by
      rcases List.mem_append.mp hp with h | h
      · exact List.mem_append_left _ h
      · exact List.mem_append_right _ (List.mem_cons_of_mem _ h))
    exact ⟨q1, by rw [upd_ne (apart p hp)]; exact q2, q3⟩
  · exact I.hok.laidN (fun _ _ e => e) free good
end
/-- what 'except x as n' wishes where the error stays behind the suite: slot i is n's -/
def wKp (K : PySem.W.Frag) (c : Value) (i : Nat) (ts : Addr → Value → Option Addr → TS) (Wout : WX) (D : Ends) : WX := fun cls d σ H =>
  ∃ b, PySem.W.exmOne K cls c = some b ∧ (b = true → ∀ a, H a = none → ts a cls d { nx := fun σ' H' => D.nx (σ'.set i none) (upd H' a (xo a cls d)), rt := fun _ _ => False, bk := fun _ _ => False, ct := fun _ _ => False } (σ.set i (some (.ref a))) H) ∧ (b = false → Wout cls d σ H)
section
variable {X : Cx} {x n : Str} {c : Value} {i : Nat} {body suite : List Stmt} {b₀ : Stmt} {np pos pos' : Pos} {tb : WX → TS} {ts : Addr → Value → Option Addr → TS} {Wout : WX}
theorem ps_try_keep (stk : X.stack = X.env :: X.outer) (frm : X.env.frame = some X.env.locals) (hN : X.N.Nodup) (hi : X.N[i]? = some n) (lcl : X.env.kindOf n = some .local) (nms : Names X x c) (tk : Takes X Wout)
    (tryb : ∀ (W : WX) (pn : List (Addr × Obj)) (xe : Value → Shared → Prop), Takes (X.tr pn xe) W → PassesOwn (model X.prog X.w) X.A X.env xe → PSs (X.tr pn xe) body (tb W))
    (suit : ∀ (a : Addr) (oe : Obj) (cls : Value) (d : Option Addr) (pn : List (Addr × Obj)), Zc cls d oe → (∃ vs, oe.data = .fields vs) → PSs (X.suite a ((a, oe) :: pn)) (b₀ :: suite) (ts a cls d)) (noex : X.ex = [] := by rfl) :
    PS X (.Try body [.ExceptHandler (some (.Name x np)) (some n) (b₀ :: suite) pos'] [] [] pos) (fun D σ H => tb (wKp X.K c i ts Wout D) D σ H) := by
  refine ⟨fun pins s σ H D I h => ?_⟩
  have okX := I.ok
  have frames : X.A.frames = some (X.env :: X.outer) := by rw [okX.frames, stk]
  have isloc : Loc X.env.scope n := .inl lcl
  refine wpAny_Try_except ?_
  refine wpAny_mono ((tryb (wKp X.K c i ts Wout D) (X.pn ++ pins) (fun e s₁ => wpAny (model X.prog X.w) X.A (noteFrame e X.env) (fun _ s₂ => wpAny (model X.prog X.w) X.A (setFlight e none) (fun _ s₃ =>
    wpAny (model X.prog X.w) X.A (handleBy e X.env [.ExceptHandler (some (.Name x np)) (some n) (b₀ :: suite) pos']) (SP X pins D) X.xe s₃) X.xe s₂) X.xe s₁) (fun u s2 air => ?_) PassesOwn.looking).run [] s σ H D (I.toTry _) h) (fun fl s2 went => ?_) (fun e s2 he => he)
  · obtain ⟨a, B, sI, pins2, σ2, H2, cls, d, rfl, inAir, below, up, sky, free, os, ag, b, ans, yes, no⟩ := air
    have J : Inv X pins σ2 H2 sI := inAir.ofTry okX
    have sky2 : Sky B (X.env :: X.outer) a (Zc cls d) X.env.locals s2.heap := by rw [← stk]; exact sky
    show wpAny (model X.prog X.w) X.A (noteFrame (.ref a) X.env) _ _ _
    refine Sky.land Zc.steady frames frm sky2 fun h3 fl3 up3 => ?_
    have J3 : Inv X pins σ2 H2 { s2 with heap := h3 } := J.landed below fl3.1 (up.trans up3) os ag
    obtain ⟨oe3, vs3, at3, z3, f3⟩ := fl3.there
    have apartFr : ∀ {hh : Heap} {ob : Obj} {us : Array Value}, hh.FunFrames B (X.env :: X.outer) → hh.get? a = some ob → ob.data = .fields us → a ∉ frs (X.env :: X.outer) := fun {hh ob us} ff e dd there => by
      obtain ⟨_, o2, e2, nf⟩ := ff.mem there
      rw [e] at e2
      cases e2
      exact nf _ dd
    have nfr := apartFr fl3.2.2.1 at3 f3
    have nloc : a ≠ X.env.locals := fun z => nfr (List.mem_filterMap.mpr ⟨X.env, List.mem_cons_self, by rw [frm, z]⟩)
    have nfs : a ∉ X.fs := fun there => by
      obtain ⟨e, he, q⟩ := List.mem_filterMap.mp there
      exact nfr (List.mem_filterMap.mpr ⟨e, List.mem_cons_of_mem _ he, q⟩)
    have newI : sI.heap.get? a = none := by
      cases e : sI.heap.get? a with
      | none => rfl
      | some ob =>
        have q := below a ob e (by rw [stk]; exact nfr)
        have := fl3.2.1
        rw [this] at q
        cases q
    have new0 : X.s_0.heap.get? a = none := by
      cases e : X.s_0.heap.get? a with
      | none => rfl
      | some ob =>
        obtain ⟨o2, q⟩ := J.base.there a ob e (by rw [noex]; exact fun z => by cases z)
        rw [newI] at q
        cases q
    have apart : ∀ p ∈ X.pn ++ pins, p.1 ≠ a := fun p hp z => by
      have q := (J.pin p hp).1
      rw [z, newI] at q
      cases q
    have S3 := J3.suite at3 f3 free nloc nfs
    refine wpAny_handleBy_cons (codeAny_handlers_test ?_) (by intro q; cases q)
    have look : PySem.W.Looks (model X.prog X.w) h3 (typeOf (.ref a)) cls := fun A Q E s k q => wpAny_typeOf_ref (k _ _ at3) (by rw [z3.1]; exact q)
    have meets := PySem.W.exm_one (M := model X.prog X.w) (J3.kIn) look ans
    have asks : ∀ {Q : Value → Shared → Prop} {E : Value → Shared → Prop}, Q c { s2 with heap := h3 } → wpAny (model X.prog X.w) (X.A.mark (some (.ref a))) (eval (.Name x np) X.env) Q E { s2 with heap := h3 } := fun {Q E} q => by
      obtain ⟨hg, hdbg, hm | ⟨hm, hv, hnn⟩⟩ := nms
      · exact ld_glob (X := X.suite a ((a, oe3) :: (X.pn ++ pins))) S3 hg hm q hdbg
      · exact ld_blt (X := X.suite a ((a, oe3) :: (X.pn ++ pins))) S3 hg hm hv q hnn hdbg
    refine asks (meets.here ?_)
    cases b with
    | true =>
      refine codeAny_handlers_suite_as ?_
      refine HandSPX.lands_againZ fl3 fun h4 fl4 up4 => ?_
      have J4 : Inv X pins σ2 H2 { s2 with heap := h4 } := J.landed below fl4.1 ((up.trans up3).trans up4) os ag
      obtain ⟨oe4, vs4, at4, z4, f4⟩ := fl4.there
      have S4 := J4.suite at4 f4 free nloc nfs
      refine store_ok (X := X.suite a ((a, oe4) :: (X.pn ++ pins))) (v := .ref a) S4 hN hi isloc rfl (fun s5 S5 => ?_) (.inr lcl)
      refine wpAny_mono ((suit a oe4 cls d (X.pn ++ pins) z4 ⟨_, f4⟩).run [] s5 _ H2 _ S5 (yes rfl a free)) (fun fl6 s6 went6 => ?_) (fun _ _ q => False.elim q)
      cases fl6 with
      | next =>
        obtain ⟨σ6, H6, S6, q6⟩ := went6
        have J6 : Inv X ((a, oe4) :: pins) σ6 H6 s6 := ⟨okX, S6.os, S6.bare, S6.base, S6.loc, S6.cell, S6.free, S6.freeC, fun p hp => S6.pin p (by
          rw [List.append_nil]
          rcases List.mem_append.mp hp with k | k
          · exact List.mem_cons_of_mem _ (List.mem_append_left _ k)
          · rcases List.mem_cons.mp k with rfl | k
            · exact List.mem_cons_self
            · exact List.mem_cons_of_mem _ (List.mem_append_right _ k)), S6.hok, S6.len⟩
        refine gone_ok J6 hN hi lcl fun s7 J7 => ?_
        have got := (J7.pin (a, oe4) (List.mem_append_right _ List.mem_cons_self)).1
        exact ⟨_, _, keepx J7 new0 apart (xo_ok got z4 f4), q6⟩
      | brk => exact went6.elim fun _ q => q.elim fun _ q => (show False from q.2).elim
      | cont => exact went6.elim fun _ q => q.elim fun _ q => (show False from q.2).elim
      | ret u => exact went6.elim fun _ q => q.elim fun _ q => q.elim fun _ q => (show False from q.2.2).elim
    | false =>
      show wpAny _ X.A (handleBy (.ref a) X.env []) _ _ _
      refine wpAny_handleBy_nil ?_
      obtain ⟨k1, k2, k3, ob, us, tr, ot, more, at5, z5, f5, g5, r5⟩ := id fl3
      unfold PySem.passOn
      refine wpAny_bind (wpAny_field at5 f5 g5 ?_)
      rw [if_neg (show ¬ ((Value.ref tr == Value.none) = true) from by simp)]
      have last : wpAny (model X.prog X.w) X.A (setFlight (.ref a) X.env.frame) (fun _ s4 => wpAny (model X.prog X.w) X.A (throw (.ref a) : Sem Flow) (SP X pins D) X.xe s4) X.xe { s2 with heap := h3 } := by
        rw [frm]
        refine HandSPX.setFlight_upZ fl3 fun h4 held4 up4 => wpAny_throw (tk _ _ ?_)
        exact ⟨a, B, sI, pins, σ2, H2, cls, d, rfl, J, below, (up.trans up3).trans up4, .inr (.inr (by rw [stk]; exact held4)), free, os, ag, no rfl⟩
      first
        | exact wpAny_bind (wpAny_pure (wpAny_bind last))
        | exact wpAny_bind last
  · cases fl with
    | next =>
      obtain ⟨σ2, H2, J2, q⟩ := went
      exact wpAny_execs_nil ⟨σ2, H2, J2.ofTry okX, q⟩
    | brk =>
      obtain ⟨σ2, H2, J2, q⟩ := went
      exact ⟨σ2, H2, J2.ofTry okX, q⟩
    | cont =>
      obtain ⟨σ2, H2, J2, q⟩ := went
      exact ⟨σ2, H2, J2.ofTry okX, q⟩
    | ret u =>
      obtain ⟨v, σ2, H2, J2, r, q⟩ := went
      exact ⟨v, σ2, H2, J2.ofTry okX, r, q⟩
end
/-! ### the kept error asked -/
section
variable {X : Cx} {K : PySem.W.Frag}
theorem instX {P : Program} {w : World} {H : Hp} {h : Heap} {a D : Addr} {d : Option Addr} (hok : HOk P w H h) (e : H a = some (xo a (.ref D) d)) (dd : ∀ x, d = some x → ∃ fs, H x = some (.xd fs)) : ∃ (oe : Obj) (od : Option Obj), PySem.W.InstAt h a oe D od := by
  obtain ⟨oe, vs, at1, z, f⟩ := xo_at hok e
  cases d with
  | none =>
    refine ⟨oe, none, ?_⟩
    obtain ⟨oc, od, oda, osl⟩ := oe
    obtain ⟨h1, h2⟩ := z
    dsimp only at h1 h2 f
    subst h1 h2 f
    exact ⟨at1, rfl, rfl, trivial⟩
  | some x =>
    obtain ⟨fs, hx⟩ := dd x rfl
    have ox : ObjOk P w H h x (.xd fs) := hok x _ hx
    obtain ⟨mA, hns, hr⟩ := ox
    obtain ⟨od, ho, hl⟩ := lookIn_ns hns
    exact ⟨oe, some od, at1, z.1, by unfold PySem.W.notCls; rw [f] <;> rfl, by rw [z.2]; exact ho⟩
/-- what the class says, so that its instances may be asked -/
theorem kitK {D a : Addr} {oe : Obj} {od : Option Obj} (C : ExcC K D) : PySem.W.KitX K (.ref a) (.ref D) (fun h => PySem.W.InstAt h a oe D od) :=
  PySem.W.kitx_exc (by obtain ⟨cd, hc, _⟩ := PySem.W.any_some C.hd; rw [hc]; rfl) C.hg C.hk C.hs C.ha C.hn C.ht C.hm
def rIsX (K : PySem.W.Frag) : List V → Hp → VK → Prop := fun xs H Q => ∃ (a D : Addr) (d : Option Addr) (c : V) (cv : Value) (b : Bool), xs = [.ref a, c] ∧ H a = some (xo a (.ref D) d) ∧ (∀ x, d = some x → ∃ fs, H x = some (.xd fs)) ∧ ExcC K D ∧ (∀ u, RelV c u → u = cv) ∧ PySem.W.kitOne K (.ref D) cv = some b ∧ Q (.bl b) H
def rIsXT (K : PySem.W.Frag) : List V → Hp → VK → Prop := fun xs H Q => ∃ (a D : Addr) (d : Option Addr) (tp : Addr) (cs : List V) (us : List Value) (b : Bool), xs = [.ref a, .ref tp] ∧ H a = some (xo a (.ref D) d) ∧ (∀ x, d = some x → ∃ fs, H x = some (.xd fs)) ∧ ExcC K D ∧ H tp = some (.tup cs) ∧ Paired ClsV cs us ∧ PySem.W.kitAny K (.ref D) us = some b ∧ Q (.bl b) H
theorem isX (hK : X.K = K := by rfl) : CallR X (.builtin "isinstance") (rIsX K) := by
  subst hK
  intro pins s σ H xs us Q I r h
  obtain ⟨a, D, d, c, cv, b, rfl, ha, dd, C, hcv, ans, q⟩ := h
  obtain ⟨u1, u2, rfl, r1, r2⟩ := vals2 r
  cases (show u1 = Value.ref a from r1)
  have ec := hcv _ r2
  subst ec
  obtain ⟨oe, od, J⟩ := instX I.hok ha dd
  exact PySem.W.kia_one (kitK C) I.kIn J ans (fun no => nomatch no) fun tk => ⟨.bl b, H, I.kept (t' := tk) fun _ _ q => q, rfl, q⟩
theorem isXT (hK : X.K = K := by rfl) : CallR X (.builtin "isinstance") (rIsXT K) := by
  subst hK
  intro pins s σ H xs us Q I r h
  obtain ⟨a, D, d, tp, cs, ws, b, rfl, ha, dd, C, hT, k, ans, q⟩ := h
  obtain ⟨u1, u2, rfl, r1, r2⟩ := vals2 r
  cases (show u1 = Value.ref a from r1)
  cases (show u2 = Value.ref tp from r2)
  obtain ⟨oe, od, J⟩ := instX I.hok ha dd
  obtain ⟨_, its, rv, o, h1, h2, n, h3⟩ := (show ObjOk X.prog X.w H s.heap tp (.tup cs) from I.hok tp _ hT)
  have e3 := ClsV.all k rv
  subst e3
  obtain ⟨oc, od2, dt, sl⟩ := o
  simp only at h2 h3
  subst h2 h3
  exact PySem.W.kia_tup (kitK C) I.kIn J h1 ans (fun no => nomatch no) fun tk => ⟨.bl b, H, I.kept (t' := tk) fun _ _ q => q, rfl, q⟩
/-- err.f, err kept -/
theorem pe_xk {C : Addr} {e : Expr} {te : TE} {pos : Pos} {n : Str} (T : XfC X.K C) (hno : PySem.W.findIn X.K (.ref C) n = some none) (he : PE X e te) (hb : attributeBase e n X.env (eval e X.env) = eval e X.env := by rfl) :
    PE X (.Attribute e n pos) (fun σ H Q => te σ H fun x H1 => ∃ (a dd : Addr) (fs : List (Str × V)) (v : V), x = .ref a ∧ H1 a = some (xo a (.ref C) (some dd)) ∧ H1 dd = some (.xd fs) ∧ fs.lookup n = some v ∧ Q v H1) := by
  refine ⟨fun pins s σ H Q I h => ?_⟩
  refine attr_of hb (thn (he.run pins s σ H _ I h) fun u s1 there => ?_)
  obtain ⟨x, H1, I1, rx, a, dd, fs, v, rfl, ha, hd, l, q⟩ := there
  obtain rfl : u = Value.ref a := rx
  obtain ⟨oe, vs, at1, z, f⟩ := xo_at I1.hok ha
  have ox : ObjOk X.prog X.w H1 s1.heap dd (.xd fs) := I1.hok dd _ hd
  obtain ⟨mA, hns, hr⟩ := ox
  obtain ⟨od, ho, hl⟩ := lookIn_ns hns
  obtain ⟨u, hu, ru⟩ := RelO.some_of (v := v) (o := mA n) (by rw [← l]; exact hr n)
  have J : PySem.W.InstAt s1.heap a oe C (some od) := ⟨at1, z.1, by unfold PySem.W.notCls; rw [f] <;> rfl, by rw [z.2]; exact ho⟩
  exact HandSPX.exc_get I1.kIn J T.ga T.gg T.exC (PySem.W.findObj_own T.hdC hno rfl (by rw [hl, hu])) (handed_of ru) ⟨v, H1, I1.tok _, ru, q⟩
end
end CB

set_option Elab.async false
set_option linter.all false
set_option maxRecDepth 100000
set_option maxHeartbeats 4000000
/-! greatest and least of a tuple; programs of any numbers and their first fault -/
namespace CB
open PySem PySem.Spec PyProof.Rows L2
section
variable {X : Cx} {K : PySem.W.Frag}
def rMaxT (K : PySem.W.Frag) : List V → Hp → VK → Prop := fun vs H Q => ∃ (a : Addr) (ns : List Int), vs = [V.ref a] ∧ SqT K H a (ns.map V.int) ∧ 0 < ns.length ∧ ∀ m, m ∈ ns → (∀ y, y ∈ ns → y ≤ m) → Q (.int m) H
def rMinT (K : PySem.W.Frag) : List V → Hp → VK → Prop := fun vs H Q => ∃ (a : Addr) (ns : List Int), vs = [V.ref a] ∧ SqT K H a (ns.map V.int) ∧ 0 < ns.length ∧ ∀ m, m ∈ ns → (∀ y, y ∈ ns → m ≤ y) → Q (.int m) H
theorem tup_walk {pins : List (Addr × Obj)} {σ : L2.St} {H : Hp} {s : Shared} {a : Addr} {ns : List Int} (I : Inv X pins σ H s) (hs : SqT X.K H a (ns.map V.int)) : ∃ xs : Array (Int × Tok), (xs.toList.map Prod.fst) = ns ∧ s.heap.IsTuple a (intItems xs) := by
  obtain ⟨its, rv, hl, _⟩ := I.tuple hs
  have hi := rv.ints
  obtain ⟨xs, e⟩ := hi.allInts.items
  have hn : numsOf (intItems xs).toList = ns := by rw [← e]; exact hi.numsOf
  rw [nums_intItems] at hn
  rw [e] at hl
  exact ⟨xs, hn, hl⟩
theorem cr_maxT (hc : X.calm = true) (hK : X.K = K := by rfl) : CallR X (.builtin "max") (rMaxT K) := by
  subst hK
  intro pins s σ H vs us Q I r h
  obtain ⟨a, ns, rfl, hs, hne, q⟩ := h
  obtain ⟨xs, hn, hT⟩ := tup_walk I hs
  rw [Vals.ref1 r]
  subst hn
  have hlt : a < s.heap.objs.size := by obtain ⟨_, e, _⟩ := hT; exact Heap.lt_size e
  have hsz : 0 < xs.size := by simpa using hne
  refine call_max_walk (wpAny_pyIter_tuple hT ⟨_, [_, a], [_], _, _, _, _, rfl, Walks.tuple (A := X.A.in1) (I.ok.hd hc) _ a (Nat.ne_of_lt hlt) (intItems xs), ⟨⟨_, Heap.get?_push_size _ rfl, rfl, rfl⟩, hT.push _⟩, fun b hb => ?_, by simpa [intItems] using hsz, CmpOf.ints_gt (numAt xs) (fun _ _ => intItems_at), fun v h' tk hv hk => ?_⟩)
  · show b < (s.heap.push _).objs.size
    rw [Heap.size_push]
    rcases List.mem_cons.mp hb with rfl | hb
    · exact Nat.lt_succ_self _
    · rw [List.mem_singleton.mp hb]
      exact Nat.lt_succ_of_lt hlt
  · have hv : (intItems xs)[argBest (fun i j => decide (numAt xs i > numAt xs j)) (xs.size - 1)]? = some v := by simpa [intItems] using hv
    obtain ⟨t, rfl⟩ := intItems_at hv
    obtain ⟨h1, h2⟩ := argBest_gt (numAt xs) (xs.size - 1)
    refine ⟨.int _, H, I.kept (t' := tk) fun b o eb => hk b o (fun hm => ?_) (Heap.get?_push_of_some _ eb), ⟨_, rfl⟩, q _ ?_ fun y hy => ?_⟩
    · rw [List.mem_singleton.mp hm] at eb
      exact absurd (Heap.lt_size eb) (Nat.lt_irrefl _)
    · rw [numAt_eq]; exact PySem.getD_mem (by rw [List.length_map, Array.length_toList]; omega)
    · obtain ⟨j, hj, rfl⟩ := mem_getD hy
      rw [List.length_map, Array.length_toList] at hj
      rw [← numAt_eq]; exact h2 j (by omega)
theorem cr_minT (hc : X.calm = true) (hK : X.K = K := by rfl) : CallR X (.builtin "min") (rMinT K) := by
  subst hK
  intro pins s σ H vs us Q I r h
  obtain ⟨a, ns, rfl, hs, hne, q⟩ := h
  obtain ⟨xs, hn, hT⟩ := tup_walk I hs
  rw [Vals.ref1 r]
  subst hn
  have hlt : a < s.heap.objs.size := by obtain ⟨_, e, _⟩ := hT; exact Heap.lt_size e
  have hsz : 0 < xs.size := by simpa using hne
  refine call_min_walk (wpAny_pyIter_tuple hT ⟨_, [_, a], [_], _, _, _, _, rfl, Walks.tuple (A := X.A.in1) (I.ok.hd hc) _ a (Nat.ne_of_lt hlt) (intItems xs), ⟨⟨_, Heap.get?_push_size _ rfl, rfl, rfl⟩, hT.push _⟩, fun b hb => ?_, by simpa [intItems] using hsz, CmpOf.ints_lt (numAt xs) (fun _ _ => intItems_at), fun v h' tk hv hk => ?_⟩)
  · show b < (s.heap.push _).objs.size
    rw [Heap.size_push]
    rcases List.mem_cons.mp hb with rfl | hb
    · exact Nat.lt_succ_self _
    · rw [List.mem_singleton.mp hb]
      exact Nat.lt_succ_of_lt hlt
  · have hv : (intItems xs)[argBest (fun i j => decide (numAt xs i < numAt xs j)) (xs.size - 1)]? = some v := by simpa [intItems] using hv
    obtain ⟨t, rfl⟩ := intItems_at hv
    obtain ⟨h1, h2⟩ := argBest_lt (numAt xs) (xs.size - 1)
    refine ⟨.int _, H, I.kept (t' := tk) fun b o eb => hk b o (fun hm => ?_) (Heap.get?_push_of_some _ eb), ⟨_, rfl⟩, q _ ?_ fun y hy => ?_⟩
    · rw [List.mem_singleton.mp hm] at eb
      exact absurd (Heap.lt_size eb) (Nat.lt_irrefl _)
    · rw [numAt_eq]; exact PySem.getD_mem (by rw [List.length_map, Array.length_toList]; omega)
    · obtain ⟨j, hj, rfl⟩ := mem_getD hy
      rw [List.length_map, Array.length_toList] at hj
      rw [← numAt_eq]; exact h2 j (by omega)
end
/-! ### programs of any numbers -/
inductive GD where
  | call (k : Int)
  | rest
  | any (b : Int)
  | set (b : Int) (s : List Int)
structure GPart where
  name : Str
  own : List Str
  rows : List (GD × List Int)
structure GProg where
  shared : List Str
  parts : List GPart
def gDeed : GD → PyData
  | .call k => .tuple [.str "call", .int k]
  | .rest => .tuple [.str "rest"]
  | .any b => .tuple [.str "any", .int b]
  | .set b s => .tuple [.str "set", .int b, ti s]
def gRow (r : GD × List Int) : PyData := .tuple [gDeed r.1, ti r.2]
def gPart (p : GPart) : PyData := .tuple [.str p.name, ts p.own, .tuple (p.rows.map gRow)]
def gProg (p : GProg) : PyData := .tuple [ts p.shared, .tuple (p.parts.map gPart)]
def upD : Deed → GD
  | .call k => .call k
  | .rest => .rest
  | .any b => .any b
  | .set b s => .set b s
def upP (p : Part) : GPart := ⟨p.name, p.own, p.rows.map fun r => (upD r.1, r.2)⟩
def upG (P : Prog) : GProg := ⟨P.shared, P.parts.map upP⟩
theorem gDeed_up (d : Deed) : gDeed (upD d) = dDeed d := by cases d <;> rfl
theorem gPart_up (p : Part) : gPart (upP p) = dPart p := by
  unfold gPart dPart upP
  dsimp only
  rw [List.map_map]
  refine congrArg (fun l => PyData.tuple [.str p.name, ts p.own, .tuple l]) (List.map_congr_left fun r _ => ?_)
  show PyData.tuple [gDeed (upD r.1), ti r.2] = dRow r
  rw [gDeed_up]
  rfl
theorem gProg_up (P : Prog) : gProg (upG P) = dProg P := by
  unfold gProg dProg upG
  dsimp only
  rw [List.map_map]
  exact congrArg (fun l => PyData.tuple [ts P.shared, .tuple l]) (List.map_congr_left fun p _ => gPart_up p)
/-! ### the first fault -/
abbrev Flt := Str × Int × Int
def orE : Option Flt → Option Flt → Option Flt
  | some f, _ => some f
  | none, o => o
def firstF : Nat → (Nat → Option Flt) → Option Flt
  | 0, _ => none
  | n + 1, f => orE (firstF n f) (f n)
theorem firstF_none {n : Nat} {f : Nat → Option Flt} : firstF n f = none → ∀ i, i < n → f i = none := by
  induction n with
  | zero => intro _ i hi; omega
  | succ n ih =>
    intro h i hi
    have h : orE (firstF n f) (f n) = none := h
    cases e : firstF n f with
    | some x => rw [e] at h; cases h
    | none =>
      rw [e] at h
      by_cases hn : i = n
      · rw [hn]; exact h
      · exact ih e i (by omega)
theorem firstF_at {n : Nat} {f : Nat → Option Flt} {i : Nat} {x : Flt} (hi : i < n) (h0 : firstF i f = none) (hx : f i = some x) : firstF n f = some x := by
  induction n with
  | zero => omega
  | succ n ih =>
    show orE (firstF n f) (f n) = some x
    by_cases hn : i = n
    · rw [← hn, h0]; exact hx
    · rw [ih (by omega)]; rfl
def goOk (nr : Nat) (g : List Int) : Prop := (1 ≤ g.length ∧ g.length ≤ 3 ∧ g.Pairwise (· < ·)) ∧ ∀ x ∈ g, 0 ≤ x ∧ x ≤ nr
instance {nr : Nat} {g : List Int} : Decidable (goOk nr g) := inferInstanceAs (Decidable (_ ∧ _))
def fDeed (many np : Nat) (p k : Int) : GD → Option Flt
  | .call c => if 0 ≤ c ∧ c < np then none else some ("part", p, k)
  | .rest => none
  | .any b => if 0 ≤ b ∧ b < many then none else some ("box", p, k)
  | .set b s => if 0 ≤ b ∧ b < many then (if s.length = many + 1 ∧ ∀ x ∈ s, x.natAbs ≤ 9 then none else some ("sum", p, k)) else some ("box", p, k)
def fRow (many np nr : Nat) (p k : Int) (r : GD × List Int) : Option Flt := orE (fDeed many np p k r.1) (if goOk nr r.2 then none else some ("goings", p, k))
abbrev gpart0 : GPart := ⟨"", [], []⟩
abbrev grow0 : GD × List Int := (.rest, [])
def fTwice (ns : List Str) (p : Int) (b : Nat) : Option Flt := if ns.getD b "" ∈ ns.take b then some ("twice", p, b) else none
def fPart (P : GProg) (i : Nat) : Option Flt :=
  let q := P.parts.getD i gpart0
  orE (if q.name ∈ (P.parts.take i).map GPart.name then some ("twice", i, -1) else none)
    (orE (firstF q.own.length fun j => fTwice (P.shared ++ q.own) i (P.shared.length + j))
      (orE (if (1 ≤ q.rows.length ∧ q.rows.length ≤ 5) ∧ P.shared.length + q.own.length ≤ 3 then none else some ("sizes", i, -1))
        (firstF q.rows.length fun k => fRow (P.shared.length + q.own.length) P.parts.length q.rows.length i k (q.rows.getD k grow0))))
def fProg (P : GProg) : Option Flt :=
  orE (if 1 ≤ P.parts.length ∧ P.parts.length ≤ 3 then none else some ("sizes", 0, 0)) (orE (firstF P.shared.length fun b => fTwice P.shared 0 b) (firstF P.parts.length (fPart P)))
/-- how great they are -/
structure GOk (P : GProg) : Prop where
  sl : P.shared.length ≤ 100
  pl : P.parts.length ≤ 100
  pt : ∀ p ∈ P.parts, p.own.length ≤ 100 ∧ p.rows.length ≤ 100 ∧ ∀ r ∈ p.rows, r.2.length ≤ 20 ∧ ∀ b s, r.1 = .set b s → s.length ≤ 100
/-! ### what is promised -/
def Flds (fs : List (Str × V)) (f : Flt) : Prop := fs.lookup ("word" : Str) = some (.str f.1) ∧ fs.lookup ("part" : Str) = some (.int f.2.1) ∧ fs.lookup ("row" : Str) = some (.int f.2.2)
/-- the way out by a fault -/
def OutF (C : Addr) (H : Hp) (E : XK) (f : Flt) : Prop := ∀ (d : Addr) (fs : List (Str × V)) (H' : Hp), Ex H H' → H' d = some (.xd fs) → Flds fs f → E (.ref C) (some d) H'
def sp_needX (C : Addr) : Sp := fun vs H Q E => ∃ (g : Bool) (f : Flt), vs = [.bl g, .str f.1, .int f.2.1, .int f.2.2] ∧ (g = true → Q .non H) ∧ (g = false → OutF C H E f)
def sp_npinit (K : PySem.W.Frag) (C : Addr) : Sp := fun vs H Q _ => ∃ (a : Addr) (x y z : V), vs = [.ref a, x, y, z] ∧ H a = some (exo a C none) ∧
  ∀ d H', d ≠ a → H d = none → H' a = some (exo a C (some d)) → H' d = some (exd d [("row", z), ("part", y), ("word", x)]) → (∀ b, b ≠ a → b ≠ d → H' b = H b) → Q .non H'
def sp_risingX (K : PySem.W.Frag) : Sp := fun vs H Q _ => ∃ (a : Addr) (g : List Int), vs = [.ref a] ∧ SqT K H a (g.map V.int) ∧ g.length ≤ 100 ∧ ∀ H', Ex H H' → Q (.bl (decide (g.Pairwise (· < ·)))) H'
def sp_lrowX (K : PySem.W.Frag) (C : Addr) : Sp := fun vs H Q E => ∃ (v : V) (P : GProg) (i k : Nat) (q : GPart) (r : GD × List Int), vs = [v, .int (i : Int), .int (k : Int)] ∧ Dp K H v (gProg P) ∧ GOk P ∧ P.parts[i]? = some q ∧ q.rows[k]? = some r ∧
  (fRow (P.shared.length + q.own.length) P.parts.length q.rows.length i k r = none → ∀ H', Ex H H' → Q .non H') ∧ (∀ f, fRow (P.shared.length + q.own.length) P.parts.length q.rows.length i k r = some f → OutF C H E f)
def sp_lpartX (K : PySem.W.Frag) (C : Addr) : Sp := fun vs H Q E => ∃ (v : V) (P : GProg) (i : Nat), vs = [v, .int (i : Int)] ∧ Dp K H v (gProg P) ∧ GOk P ∧ i < P.parts.length ∧ (fPart P i = none → ∀ H', Ex H H' → Q .non H') ∧ (∀ f, fPart P i = some f → OutF C H E f)
def sp_lookX (K : PySem.W.Frag) (C : Addr) : Sp := fun vs H Q E => ∃ (v : V) (P : GProg), vs = [v] ∧ Dp K H v (gProg P) ∧ GOk P ∧ (fProg P = none → ∀ H', Ex H H' → Q (.bl true) H') ∧ (∀ f, fProg P = some f → OutF C H E f)
def dFlt (f : Flt) : PyData := .tuple [.str f.1, .int f.2.1, .int f.2.2]
def oFlt : Option Flt → PyData
  | none => .none
  | some f => dFlt f
def tFlt : Option Flt → PyData
  | none => .tuple [.str "told", .bool true]
  | some f => .tuple [.str "refused", .str f.1, .int f.2.1, .int f.2.2]
def sp_rdue (K : PySem.W.Frag) : Sp := fun vs H Q _ => ∃ (v : V) (P : GProg) (i k : Nat) (q : GPart) (r : GD × List Int), vs = [v, .int (i : Int), .int (k : Int)] ∧ Dp K H v (gProg P) ∧ GOk P ∧ P.parts[i]? = some q ∧ q.rows[k]? = some r ∧ RetE K H Q (oFlt (fRow (P.shared.length + q.own.length) P.parts.length q.rows.length i k r))
def sp_gdue (K : PySem.W.Frag) : Sp := fun vs H Q _ => ∃ (v : V) (P : GProg), vs = [v] ∧ Dp K H v (gProg P) ∧ GOk P ∧ RetE K H Q (oFlt (fProg P))
def sp_gtold (K : PySem.W.Frag) : Sp := fun vs H Q _ => ∃ (v : V) (P : GProg), vs = [v] ∧ Dp K H v (gProg P) ∧ GOk P ∧ RetE K H Q (tFlt (fProg P))
def sp_gright (K : PySem.W.Frag) : Sp := fun vs H Q _ => ∃ (v : V) (P : GProg), vs = [v] ∧ Dp K H v (gProg P) ∧ GOk P ∧ ∀ H', Ex H H' → Q (.bl true) H'
section
variable {K : PySem.W.Frag} {F : Hp} {v : V}
theorem gp_prog {p : GProg} (h : Dp K F v (gProg p)) : ∃ a as ap xp, v = .ref a ∧ SqT K F a [.ref as, .ref ap] ∧ SqT K F as (p.shared.map V.str) ∧ SqT K F ap xp ∧ DpAll K F xp (p.parts.map gPart) ∧ xp.length = p.parts.length := by
  obtain ⟨a, x, y, rfl, s, hx, hy⟩ := dp2 h
  obtain ⟨as, rfl, ss⟩ := dp_ts hx
  obtain ⟨ap, xp, rfl, sp, dx, lx⟩ := dp_map hy
  exact ⟨a, as, ap, xp, rfl, s, ss, sp, dx, lx⟩
theorem gp_part {p : GPart} (h : Dp K F v (gPart p)) : ∃ a ao ar xr, v = .ref a ∧ SqT K F a [.str p.name, .ref ao, .ref ar] ∧ SqT K F ao (p.own.map V.str) ∧ SqT K F ar xr ∧ DpAll K F xr (p.rows.map gRow) ∧ xr.length = p.rows.length := by
  obtain ⟨a, x, y, z, rfl, s, hx, hy, hz⟩ := dp3 h
  cases hx.str_inv
  obtain ⟨ao, rfl, so⟩ := dp_ts hy
  obtain ⟨ar, xr, rfl, sr, dx, lx⟩ := dp_map hz
  exact ⟨a, ao, ar, xr, rfl, s, so, sr, dx, lx⟩
theorem gp_row {r : GD × List Int} (h : Dp K F v (gRow r)) : ∃ a ad ag, v = .ref a ∧ SqT K F a [.ref ad, .ref ag] ∧ Dp K F (.ref ad) (gDeed r.1) ∧ SqT K F ag (r.2.map V.int) := by
  obtain ⟨a, x, y, rfl, s, hx, hy⟩ := dp2 h
  obtain ⟨ag, rfl, sg⟩ := hy.ti_inv
  have : ∃ ad, x = .ref ad := by
    cases e : r.1 with
    | call k => rw [e] at hx; obtain ⟨p, _, _, rfl, _⟩ := dp2 hx; exact ⟨p, rfl⟩
    | rest => rw [e] at hx; obtain ⟨p, _, rfl, _⟩ := dp1 hx; exact ⟨p, rfl⟩
    | any b => rw [e] at hx; obtain ⟨p, _, _, rfl, _⟩ := dp2 hx; exact ⟨p, rfl⟩
    | set b s => rw [e] at hx; obtain ⟨p, _, _, _, rfl, _⟩ := dp3 hx; exact ⟨p, rfl⟩
  obtain ⟨ad, rfl⟩ := this
  exact ⟨a, ad, ag, rfl, s, hx, sg⟩
end
end CB

set_option Elab.async false
set_option linter.all false
set_option maxRecDepth 100000
set_option maxHeartbeats 4000000
/-! tuple(reversed(a tuple)) -/
namespace CB
open PySem PySem.Spec PyProof.Rows L2 RT
theorem nolen_rt : typeLookup (.type "reversed") "__len__" = pure none := by rw [typeLookup_type, builtinLookup_eq_fast]; kernel_rfl
theorem hint_rt : typeLookup (.type "reversed") "__length_hint__" = pure (some (.builtin "reversed.__length_hint__")) := by rw [typeLookup_type, builtinLookup_eq_fast]; kernel_rfl
theorem slot_rt_hint : Slot "reversed" "__length_hint__" "reversed.__length_hint__" :=
  .of (owner := "reversed") (n := "__length_hint__") (by rw [typeLookup_type, builtinLookup_eq_fast]; kernel_rfl) (by decide +kernel) (by decide +kernel) (by decide +kernel)
    (by first | exact .inl (by decide +kernel) | exact .inr (by decide +kernel)) (by rw [isSubtype_type]; kernel_rfl)
theorem entry_rt_hint : entryFor table "reversed.__length_hint__" = some Builtin.«reversed.__length_hint__» := entryFor_of_tree (by kernel_rfl)
theorem args_rt_hint (a : Value) : argsOk "reversed.__length_hint__" ⟨[a], []⟩ := by
  unfold argsOk; rw [signature?_of (id := "reversed.__length_hint__") (n := "__length_hint__".toList.reverse) (o := ['d', 'e', 's', 'r', 'e', 'v', 'e', 'r']) (by kernel_rfl) owner_rt]; kernel_rfl
section
variable {prog : Program} {w : World} {A : Around} {E : Value → Shared → Prop} {s : Shared}
theorem walks_rt (hh : A.handled = none) (I t : Addr) (hne : t ≠ I) (items : Array Value) (hsz : items.size ≤ sizeLine) :
    Walks prog w A I [I, t] [I] items.size (fun i v => items[items.size - 1 - i]? = some v) (fun i h => i ≤ items.size ∧ IsRt h I t ((items.size : Int) - 1 - (i : Int)) ∧ IsTup h t items) where
  sub := fun b hb => by simp at hb; simp [hb]
  frame := fun _ _ _ x hk => ⟨x.1, x.2.1.at fun o e => hk I (by simp) o e, let ⟨o, ho, r⟩ := x.2.2; ⟨o, hk t (by simp) o ho, r⟩⟩
  item := fun i s Q E hi x hQ => by
    have e : (items.size : Int) - 1 - (i : Int) = ((items.size - 1 - i : Nat) : Int) := by omega
    have hit := x.2.1
    rw [e] at hit
    have hx : items[items.size - 1 - i]? = some (items[items.size - 1 - i]'(by omega)) := Array.getElem?_eq_getElem (by omega)
    refine next_rt_item hit x.2.2 hx hsz fun h' hit' hs' => ?_
    have e2 : ((items.size - 1 - i : Nat) : Int) - 1 = (items.size : Int) - 1 - ((i + 1 : Nat) : Int) := by omega
    rw [e2] at hit'
    exact hQ _ h' (s.toks + 1) hx ⟨hi, hit', let ⟨o, ho, r⟩ := x.2.2; ⟨o, (hs'.2 t hne).trans ho, r⟩⟩ fun b o hb eo => hs'.extBut b o (fun h => hb (by simp [h])) eo
  done := fun s Q E x hQ => by
    have e : (items.size : Int) - 1 - (items.size : Int) = -1 := by omega
    have hit := x.2.1
    rw [e] at hit
    exact next_rt_end hh hit fun h' he' => hQ h' s.toks fun b o hb eo => he' b o (fun h => hb (by simp [h])) eo
  self := fun _ _ _ _ x hQ => iter_rt x.2.1 hQ
theorem hint_run {it t : Addr} {items : Array Value} {Q : Bool → Shared → Prop} (hit : IsRt s.heap it t ((items.size : Int) - 1)) (ht : IsTup s.heap t items) (hn : items.size ≤ 1000)
    (hQ : ∀ b tk, Q b { s with toks := tk }) : wpAny (model prog w) A (Builtin.List.listLengthHint (.ref it)) Q E s := by
  have hT := hit.typeIs
  obtain ⟨o, ho, hc, hd⟩ := id hit
  unfold Builtin.List.listLengthHint
  refine wpAny_bind (wpAny_specialOf hT nolen_rt ?_)
  show wpAny _ A (specialOf (Value.ref it) (Str.ofString "__length_hint__") >>= _) _ _ _
  refine wpAny_bind (wpAny_specialOf hT hint_rt ?_)
  generalize hid : ("reversed.__length_hint__" : String) = id0
  wp_delta
  rw [show splitId id0 = some ("reversed", "__length_hint__") from by subst hid; decide +kernel]
  subst hid
  refine wpAny_bind (wpAny_isInstance (b := true) hT (by rw [isSubtype_type]; kernel_rfl) ?_)
  rw [if_neg (by decide)]
  dsimp only
  rw [if_neg (by decide +kernel)]
  refine wpAny_bind (wpAny_rule ?_)
  refine wpAny_bind (wpAny_of_eq (slot_rt_hint.bind _) ?_)
  dsimp only
  refine wpAny_bind (wpAny_attempt (wpAny_call_entry slot_rt_hint hT entry_rt_hint ?_ (args_rt_hint _)))
  unfold Builtin.«reversed.__length_hint__»
  refine wpAny_bind (wpAny_of_eq (a := Value.ref it) rfl ?_)
  try dsimp only
  refine wpAny_bind (wpAny_field ho hd (x := .ref t) rfl ?_)
  try dsimp only
  rw [if_neg (fun z => by cases z)]
  refine wpAny_bind (len_tuple ht (by omega) ?_)
  refine wpAny_bind (wpAny_of_eq (a := some (items.size : Int)) rfl ?_)
  try dsimp only
  refine wpAny_bind (wpAny_field (s := { s with toks := s.toks + 1 + 1 }) ho hd (x := rawInt ((items.size : Int) - 1)) rfl ?_)
  show wpAny _ _ (if (items.size : Int) < ((items.size : Int) - 1) + 1 then _ else _) _ _ _
  rw [if_neg (by omega), show (items.size : Int) - 1 + 1 = (items.size : Int) by omega]
  unfold retInt
  refine wpAny_bind (wpAny_mkInt ?_)
  refine wpAny_pure ⟨_, rfl, ?_⟩
  have f0 : ∀ (tk : Nat) (k : Option Int → Sem Bool) (s' : Shared), wpAny (model prog w) A (k (some (items.size : Int))) Q E s' → wpAny (model prog w) A (asInt? (Value.int (items.size : Int) tk) >>= k) Q E s' := fun tk k s' h => wpAny_bind (wpAny_pure h)
  refine f0 _ _ _ ?_
  dsimp only
  have f1 : Builtin.List.listFitsIndex (items.size : Int) = true := by
    unfold Builtin.List.listFitsIndex
    rw [Bool.and_eq_true]
    exact ⟨decide_eq_true (by omega), decide_eq_true (by omega)⟩
  have f2 : Builtin.List.listTooLong (items.size : Int).toNat = false := by
    unfold Builtin.List.listTooLong
    have := small1000 hn
    exact decide_eq_false (by omega)
  rw [f1, if_neg (fun z => by cases z), if_neg (by omega), f2, if_neg (fun z => by cases z)]
  exact wpAny_pure (hQ _ _)
theorem collect_rt {it t : Addr} {items : Array Value} {Q : List Value → Shared → Prop} (hh : A.handled = none) (hit : IsRt s.heap it t ((items.size : Int) - 1)) (ht : IsTup s.heap t items) (hne : t ≠ it) (hn : items.size ≤ 1000)
    (hQ : ∀ (h' : Heap) (tk : Nat) (acc : Array Value), (∀ b o, b ≠ it → s.heap.get? b = some o → h'.get? b = some o) → ItemsOf (fun i v => items[items.size - 1 - i]? = some v) acc items.size → Q acc.toList { s with heap := h', toks := tk }) :
    wpAny (model prog w) A (collect (.ref it)) Q E s := by
  have hn' : items.size ≤ sizeLine := Nat.le_of_lt (small1000 hn)
  have W := (walks_rt (prog := prog) (w := w) (A := A.in1) hh it t hne items hn').toS
  obtain ⟨oi, hoi, _⟩ := id hit
  obtain ⟨ol, hol, rt⟩ := id ht
  have hSi : s.heap.objs.size ≠ it := Nat.ne_of_gt (Heap.lt_size hoi)
  have hSl : s.heap.objs.size ≠ t := Nat.ne_of_gt (Heap.lt_size hol)
  have hSf : s.heap.objs.size ∉ [it, t] := by simp only [List.mem_cons, List.not_mem_nil, or_false, not_or]; exact ⟨hSi, hSl⟩
  unfold collect
  refine wpAny_bind (wpAny_runValue (codeAny_builtin F.entry_proto_collect ?_))
  rw [Around.under_plainId F.plain_proto_collect _]
  show wpAny _ A.in1 (newList [] >>= fun l' => again (.builtin "list.__iadd__" ⟨[l', .ref it], []⟩)) _ _ s
  refine wpAny_bind (wpAny_newObj_type ?_)
  refine wpAny_pure ⟨plainId_quiet F.plain_list_iadd _, codeAny_builtin F.entry_list_iadd ?_⟩
  rw [Around.under_plainId F.plain_list_iadd _]
  have hS₁ : (s.heap.push { cls := .type "list", data := .seq ([] : List Value).toArray }).get? s.heap.objs.size = some { cls := .type "list", data := .seq ([] : List Value).toArray } := Heap.get?_push_size _ rfl
  have hit1 : IsRt (s.heap.push { cls := .type "list", data := .seq ([] : List Value).toArray }) it t ((items.size : Int) - 1) := hit.at fun o e => Heap.get?_push_of_some _ e
  have hl1 : IsTup (s.heap.push { cls := .type "list", data := .seq ([] : List Value).toArray }) t items := ⟨ol, Heap.get?_push_of_some _ hol, rt⟩
  have hT : ({ s with heap := s.heap.push { cls := .type "list", data := .seq ([] : List Value).toArray } } : Shared).TypeIs (.ref it) "reversed" := IsRt.typeIs (s := { s with heap := s.heap.push { cls := .type "list", data := .seq ([] : List Value).toArray } }) hit1
  have h1 : Builtin.List.listSameRef (.ref s.heap.objs.size) (.ref it) = false := by simp [Builtin.List.listSameRef, hSi]
  show wpAny _ A.in1 (Builtin.List.listExtendWith (.ref s.heap.objs.size) (.ref it) (.ref s.heap.objs.size)) _ _ _
  unfold Builtin.List.listExtendWith
  refine wpAny_bind (wpAny_typeOf hT ?_)
  rw [if_neg (by rw [h1]; decide)]
  refine wpAny_bind (iter_rt (s := { s with heap := s.heap.push { cls := .type "list", data := .seq ([] : List Value).toArray } }) hit1 ?_)
  refine wpAny_bind (wpAny_holding (hint_run (s := { s with heap := s.heap.push { cls := .type "list", data := .seq ([] : List Value).toArray } }) hit1 hl1 hn fun b tk => ?_))
  have e0 : ((items.size : Nat) : Int) - 1 - ((0 : Nat) : Int) = (items.size : Int) - 1 := by omega
  cases b with
  | false =>
    rw [if_neg (by decide)]
    refine wpAny_pure ⟨plainId_quiet F.plain_extend_loop _, codeAny_extend_loopS W hn' _ hSf _ items.size 0 _ _ _ rfl (Nat.zero_le _) ⟨Nat.zero_le _, by rw [e0]; exact hit1, hl1⟩ hS₁ (ItemsOf.nil _) fun s' acc' c' hm hS' hacc => ?_⟩
    show wpAny _ A (load s.heap.objs.size >>= _) _ _ s'
    refine wpAny_bind (wpAny_load hS' ?_)
    refine wpAny_pure ?_
    rw [Moved.eq_with hm]
    refine hQ s'.heap s'.toks acc' (fun b o hb e => hm.heap b o (fun hmem => ?_) (Heap.get?_push_of_some _ e)) hacc
    rcases List.mem_cons.mp hmem with e' | hmem
    · exact absurd (Heap.lt_size e) (by rw [e']; exact Nat.lt_irrefl _)
    · exact hb (List.mem_singleton.mp hmem)
  | true =>
    show wpAny _ A.in1 (rule "list.extend.makes-room" >>= fun _ => Builtin.List.listTouch (.ref s.heap.objs.size) >>= fun _ =>
      again (.builtin "list.extend.loop" ⟨[.ref s.heap.objs.size, .ref it, .ref s.heap.objs.size], []⟩)) _ _ _
    refine wpAny_bind (wpAny_rule ?_)
    refine wpAny_bind ?_
    show wpAny _ A.in1 (updateSeq s.heap.objs.size (·.push .none) >>= fun _ => updateSeq s.heap.objs.size (·.pop)) _ _ _
    refine wpAny_bind (wpAny_updateSeq hS₁ rfl ?_)
    have hS₂ := Heap.get?_update_self (Obj.mapSeq (·.push Value.none)) hS₁ rfl
    refine wpAny_updateSeq hS₂ rfl ?_
    have hS₃ := Heap.get?_update_self (Obj.mapSeq (·.pop)) hS₂ rfl
    have oth : ∀ b o, b ≠ s.heap.objs.size → (s.heap.push { cls := .type "list", data := .seq ([] : List Value).toArray }).get? b = some o →
        (((s.heap.push { cls := .type "list", data := .seq ([] : List Value).toArray }).update s.heap.objs.size (Obj.mapSeq (·.push Value.none))).update s.heap.objs.size (Obj.mapSeq (·.pop))).get? b = some o :=
      fun b o hb e => (Heap.get?_update_other _ _ (Ne.symm hb)).trans ((Heap.get?_update_other _ _ (Ne.symm hb)).trans e)
    refine wpAny_pure ⟨plainId_quiet F.plain_extend_loop _, codeAny_extend_loopS W hn' _ hSf _ items.size 0 _ _ _ rfl (Nat.zero_le _) ⟨Nat.zero_le _, by rw [e0]; exact hit1.at fun o e => oth _ _ hSi.symm e, ol, oth _ _ hSl.symm (Heap.get?_push_of_some _ hol), rt⟩ hS₃ (ItemsOf.nil _) fun s' acc' c' hm hS' hacc => ?_⟩
    show wpAny _ A (load s.heap.objs.size >>= _) _ _ s'
    refine wpAny_bind (wpAny_load hS' ?_)
    refine wpAny_pure ?_
    rw [Moved.eq_with hm]
    refine hQ s'.heap s'.toks acc' (fun b o hb e => hm.heap b o (fun hmem => ?_) (oth b o (fun e' => absurd (Heap.lt_size e) (by rw [e']; exact Nat.lt_irrefl _)) (Heap.get?_push_of_some _ e))) hacc
    rcases List.mem_cons.mp hmem with e' | hmem
    · exact absurd (Heap.lt_size e) (by rw [e']; exact Nat.lt_irrefl _)
    · exact hb (List.mem_singleton.mp hmem)
theorem code_tuple_new_rt {it t : Addr} {items : Array Value} {Q₁ : Value → Shared → Prop} (hh : A.handled = none) (hit : IsRt s.heap it t ((items.size : Int) - 1)) (ht : IsTup s.heap t items) (hne : t ≠ it) (hn : items.size ≤ 1000)
    (h : ∀ (h' : Heap) (tk : Nat) (acc : Array Value), (∀ b o, b ≠ it → s.heap.get? b = some o → h'.get? b = some o) → ItemsOf (fun i v => items[items.size - 1 - i]? = some v) acc items.size →
      Q₁ (.ref h'.objs.size) { s with heap := h'.push { cls := .type "tuple", data := .seq acc }, toks := tk }) :
    codeAny (model prog w) A (.call (.builtin "tuple.__new__") ⟨[.type "tuple", .ref it], []⟩) (wants Q₁ E) s := by
  refine codeAny_of_tree ?_
  show wpAny _ A.in1 (do checkBuiltinCall "tuple.__new__" ⟨[.type "tuple", .ref it], []⟩; again (.builtin "tuple.__new__" ⟨[.type "tuple", .ref it], []⟩)) _ _ s
  refine wpAny_bind (wpAny_of_eq (F.newCall_tuple_1 _) (wpAny_pure ⟨plainId_quiet F.plain_tuple_new _, codeAny_builtin F.entry_tuple_new ?_⟩))
  rw [Around.under_plainId F.plain_tuple_new _]
  have hsub := sub_tuple_self
  have hinit := init_tuple_lookup
  have hmh := madeHere_tuple
  have hTI : s.TypeIs (.ref it) "reversed" := hit.typeIs
  have hh1 : A.in1.handled = none := hh
  wp_walk using wpAny_typeOf hTI, collect_rt (A := A.in1) hh1 hit ht hne hn
  intro h' tk acc hk hacc
  show wpAny _ _ (Builtin.Tuple.tupleExact acc.toList.toArray >>= fun v => ret v) _ _ _
  unfold Builtin.Tuple.tupleExact
  refine wpAny_bind (wpAny_newObj_type ?_ (by show acc.toList.toArray.size ≤ sizeLine; simp only [Array.toArray_toList]; rw [hacc.1]; exact Nat.le_of_lt (small1000 hn)))
  refine wpAny_pure ?_
  have e : acc.toList.toArray = acc := by simp
  rw [e]
  exact h h' tk acc hk hacc
theorem call_tuple_rt {it t : Addr} {items : Array Value} {Q : Value → Shared → Prop} (hh : A.handled = none) (hit : IsRt s.heap it t ((items.size : Int) - 1)) (ht : IsTup s.heap t items) (hne : t ≠ it) (hn : items.size ≤ 1000)
    (hQ : ∀ (h' : Heap) (tk : Nat) (acc : Array Value), (∀ b o, b ≠ it → s.heap.get? b = some o → h'.get? b = some o) → ItemsOf (fun i v => items[items.size - 1 - i]? = some v) acc items.size →
      Q (.ref h'.objs.size) { s with heap := h'.push { cls := .type "tuple", data := .seq acc }, toks := tk }) :
    wpAny (model prog w) A (call (.type "tuple") [.ref it]) Q E s := by
  refine callType_codes (Q₁ := fun obj s₁ => s₁.TypeIs obj "tuple" ∧ Q obj s₁) F.called_tuple (F.typeCall_tuple_1 _) F.entry_object_init
    (code_tuple_new_rt (A := A.in1) hh hit ht hne hn fun h' tk acc hk hacc => ⟨⟨_, Heap.get?_push_size _ rfl, rfl⟩, hQ h' tk acc hk hacc⟩) fun obj s₁ h₁ => ?_
  exact ⟨h₁.1, F.args_object_init_2 obj _, object_init_meets F.called_tuple.init.lookup F.called_tuple.made (by decide) prog w A.in1 _ s₁ ⟨h₁.1, rfl, h₁.2⟩⟩
end
/-- tuple(reversed(x)), x a tuple: a new tuple -/
def tTupRevT (K : PySem.W.Frag) (te : TE) : TE := fun σ H Q => te σ H fun v H1 => ∃ (a : Addr) (xs : List V), v = .ref a ∧ SqT K H1 a xs ∧ xs.length ≤ 1000 ∧ ∀ q, H1 q = none → Q (.ref q) (upd H1 q (.tup xs.reverse))
section
variable {X : Cx}
theorem pe_tupRevT {K : PySem.W.Frag} {e : Expr} {te : TE} {p p2 pos pos2 : Pos} (hc : X.calm = true) (hg : Gl X "tuple") (hm : X.mg "tuple" = none) (hg2 : Gl X "reversed") (hm2 : X.mg "reversed" = none) (he : PE X e te)
    (hs : starEach [e] X.env = (false, eval e X.env) :: starEach [] X.env := by rfl)
    (hs2 : starEach [.Call (.Name "reversed" p2) [e] [] pos2] X.env = (false, eval (.Call (.Name "reversed" p2) [e] [] pos2) X.env) :: starEach [] X.env := by rfl) (hK : X.K = K := by rfl) :
    PE X (.Call (.Name "tuple" p) [.Call (.Name "reversed" p2) [e] [] pos2] [] pos) (tTupRevT K te) := by
  subst hK
  refine ⟨fun pins s σ H Q I h => ?_⟩
  refine Call_ (ld_blt I hg hm boot_tuple (PyProof.Rows.callWith_type1 (args_cons (Call_ (ld_blt I hg2 hm2 PyProof.Rows.boot_reversed (PyProof.Rows.callWith_type1 (args_cons (thn (he.run pins s σ H _ I h) fun u s1 ⟨v, H1, I1, r1, q1⟩ => args_nil ?_) hs) hs rfl))) hs2) hs2 rfl))
  obtain ⟨a, xs, ev, hq, hl1, q⟩ := q1
  subst ev
  obtain rfl : u = Value.ref a := r1
  obtain ⟨its, rv, p', hz⟩ := I1.tuple hq
  have hl := rv.length
  have hn : its.toArray.size ≤ 1000 := by rw [List.size_toArray, ← hl]; exact hl1
  refine call_reversed_tup p' (fun A E Q k => PyProof.Rows.len_tuple p' (by omega) k) (args_nil ?_)
  have k0 : ∀ b o, s1.heap.get? b = some o → (s1.heap.push (rtObj a ((its.toArray.size : Int) - 1))).get? b = some o := fun b o e => Heap.get?_push_of_some _ e
  have I2 : Inv X pins σ H1 { s1 with heap := s1.heap.push (rtObj a ((its.toArray.size : Int) - 1)), toks := s1.toks + 1 + 1 } := I1.kept (t' := s1.toks + 1 + 1) k0
  obtain ⟨f0, f1, f2, f3, f4, f5⟩ := I1.fpOk (H' := H1) (b := s1.heap.objs.size) (Nat.le_refl _) (I1.hok.fresh (Nat.le_refl _))
  obtain ⟨ol, hol, rt⟩ := id p'
  have hne : a ≠ s1.heap.objs.size := Nat.ne_of_lt (Heap.lt_size hol)
  refine call_tuple_rt (s := { s1 with heap := s1.heap.push (rtObj a ((its.toArray.size : Int) - 1)), toks := s1.toks + 1 + 1 }) (I1.ok.hd hc) ⟨_, Heap.get?_push_size _ rfl, rfl, rfl⟩ ⟨ol, k0 _ _ hol, rt⟩ hne hn fun h' tk acc hk hi => ?_
  have I3 : Inv X pins σ H1 { s1 with heap := h', toks := tk } := I2.turned (t' := tk) (fun b o hb e => hk b o hb e) f0 f1 f3 f4 f5
  refine ⟨.ref h'.objs.size, upd H1 h'.objs.size (.tup xs.reverse), I3.laid (t' := tk) (fun c o e => Heap.get?_push_of_some _ e) (Nat.le_refl _) (show ObjOk X.prog X.w _ _ _ (.tup xs.reverse) from ⟨by rw [List.length_reverse]; exact hz, acc.toList, vals_rev rv hi, ?_⟩), rfl, q _ (I3.hok.fresh (Nat.le_refl _))⟩
  rw [Array.toArray_toList]
  exact IsTup.new _ _
end
end CB

set_option Elab.async false
set_option linter.all false
set_option maxRecDepth 100000
set_option maxHeartbeats 4000000
/-! dicts whose keys are tuples: displays, dict(list of pairs), walks over d.items(); a lock for good -/
namespace CB
open PySem PySem.Spec PyProof.Rows L2
section
variable {X : Cx}
/-- behind e its object is locked for good -/
def tLk (te : TE) : TE := fun σ H Q => te σ H fun v H1 => ∃ a u, v = .ref a ∧ H1 a = some u ∧ Mut (some u) ∧ ∀ od, Q v (upd H1 a (.frz od u))
theorem pe_lk {e : Expr} {te : TE} (h : PE X e te) : PE X e (tLk te) := by
  refine ⟨fun pins s σ H Q I hw => ?_⟩
  refine thn (h.run pins s σ H _ I hw) fun v s1 ⟨x, H1, I1, r, a, u, e1, e2, mu, q⟩ => ?_
  obtain ⟨od, I2⟩ := I1.lock e2 mu
  exact ⟨x, _, I2, r, q od⟩
/-- {k: v}, the key a tuple -/
def tDispT (tk tv : TE) : TE := fun σ H Q => ∀ p, H p = none → tk σ (upd H p (.dT [])) fun x H1 => tv σ H1 fun y H2 => H2 p = some (.dT []) ∧ ∃ (b : Addr) (ks : List L2.Key), x = .ref b ∧ H2 b = some (.tup (ks.map kV)) ∧ Q (.ref p) (upd H2 p (.dT [(ks, y)]))
theorem pe_dispT {k v : Expr} {tk tv : TE} {pos : Pos} (hu : X.A.units + 1 < cLine) (hk : PE X k tk) (hv : PE X v tv) : PE X (.Dict [some k] [v] pos) (tDispT tk tv) := by
  refine ⟨fun pins s σ H Q I q => ?_⟩
  have hn := I.hok.fresh (Nat.le_refl s.heap.objs.size)
  have I1 := I.laid (a := s.heap.objs.size) (o := .dT []) (h' := s.heap.push { cls := .type "dict", data := .dict #[] }) (t' := s.toks) (fun _ _ q => Heap.get?_push_of_some _ q) (Nat.le_refl _) (dt_empty s.heap I.big)
  have hp := pps_cons (pos := pos) hk hv (pps_nil (X := X) (pos := pos))
  have hm : (s.heap.objs.size == sysModules) = false := beq_eq_false_iff_ne.mpr (Nat.ne_of_gt I.big)
  have hlen : (pairTrees [some k] [v] X.env pos).length = 1 := rfl
  rw [arm_eval_Dict, zip_pairTrees [some k] [v] X.env pos rfl rfl, dictDisplay_pairs _ (by rw [pairTrees]; exact List.cons_ne_nil _ _) (by rw [hlen]; decide)]
  refine wpAny_bind (wpAny_standAt (wpAny_bind (wpAny_subDictH (knd := tupleKind (mixKind X.prog X.w)) (Q := fun d s' => wpAny (model X.prog X.w) X.A (pure (Value.ref d)) _ X.xe s') (show X.A.units < cLine by omega) (by rw [hlen]; decide) ?_)))
  refine thn (hp.run pins _ σ _ (fun ps H2 => match ps with
    | [(x, y)] => H2 s.heap.objs.size = some (.dT []) ∧ ∃ (b : Addr) (ks : List L2.Key), x = .ref b ∧ H2 b = some (.tup (ks.map kV)) ∧ Q (.ref s.heap.objs.size) (upd H2 s.heap.objs.size (.dT [(ks, y)]))
    | _ => False) I1 (q _ hn)) fun ws s2 ⟨ps, H2, I2, rel, q2⟩ => ?_
  cases rel with
  | nil => exact q2.elim
  | @cons pa pb _ _ h1 t =>
    cases t with
    | cons _ _ => exact q2.elim
    | nil =>
      obtain ⟨a1, a2⟩ := pa
      obtain ⟨e, b, ks, ea, eb, q2⟩ := q2
      subst ea
      obtain ⟨b1, b2⟩ := pb
      obtain ⟨hb1, hb2⟩ := h1
      cases (show b1 = Value.ref b from hb1)
      obtain ⟨z, _, xs0, r0, dd⟩ := dt_of I2.hok e
      cases r0
      refine ⟨[(ks, b, b2)], ⟨rfl, rfl, key_of I2.hok eb, trivial⟩, dd, fun h' tk dd' hs => wpAny_pure ⟨.ref s.heap.objs.size, _, ?_, rfl, q2⟩⟩
      obtain ⟨o', es', ep', ho', hc', hd', he', _, hn'⟩ := id dd'
      refine d_write I2 (by rw [e]; exact True.intro) hs ⟨o', ho'⟩ ?_
      have ne : b ≠ s.heap.objs.size := fun z => by rw [z, e] at eb; cases eb
      exact ⟨by show 1 ≤ sizeLine; decide, hm, [(ks, b, b2)], .cons ⟨rfl, by show upd H2 s.heap.objs.size _ b = _; rw [upd_ne ne]; exact eb, hb2⟩ .nil, o', es', ep', ho', hc', hd', he', hn'⟩
end
/-! ### dict(list of pairs), keys tuples -/
def mergeT (kvs more : List (List L2.Key × V)) : List (List L2.Key × V) := more.foldl (fun acc kv => putK acc kv.1 kv.2) kvs
def mergedH (acc more : List (List L2.Key × Addr × Value)) : List (List L2.Key × Addr × Value) := more.foldl (fun acc q => storedH acc q.1 q.2.1 q.2.2) acc
theorem KT.merge {H : Hp} : ∀ {more : List (List L2.Key × V)} {rs : List (List L2.Key × Addr × Value)} {kvs : List (List L2.Key × V)} {vs : List (List L2.Key × Addr × Value)}, KT H more rs → KT H kvs vs → KT H (mergeT kvs more) (mergedH vs rs) := by
  intro more rs kvs vs r
  induction r generalizing kvs vs with
  | nil => intro q; exact q
  | @cons p q ps qs h t ih =>
    intro r0
    have e : KT H (putK kvs p.1 p.2) (storedH vs q.1 q.2.1 q.2.2) := by
      have := r0.put p.1 (b := q.2.1) h.2.1 h.2.2
      rw [← h.1]; exact this
    exact ih e
theorem length_mergeT : ∀ (more kvs : List (List L2.Key × V)), (mergeT kvs more).length ≤ kvs.length + more.length
  | [], kvs => by show kvs.length ≤ kvs.length + 0; omega
  | p :: r, kvs => by
    have h1 := length_mergeT r (putK kvs p.1 p.2)
    have h2 := length_putK kvs p.1 p.2
    show (mergeT (putK kvs p.1 p.2) r).length ≤ _
    rw [List.length_cons]; omega
section
variable {prog : Program} {w : World} {A : Around} {E : Value → Shared → Prop}
theorem upd_loopT {R : Result → Shared → Prop} {S I l : Addr} {items : Array Value} {res : Value} (hu : A.units + 2 < cLine) (hh : A.handled = none) (hlI : l ≠ I) (hSI : S ≠ I) (hSl : S ≠ l) :
    ∀ (rest : List (List L2.Key × Addr × Value)) (i : Nat) (acc : List (List L2.Key × Addr × Value)) (ix : Int) (t : Tok) (s : Shared), items.size = i + rest.length → acc.length + rest.length ≤ sizeLine →
      (∀ (j : Nat) (q : List L2.Key × Addr × Value), rest[j]? = some q → ∃ (b : Addr), items[i + j]? = some (.ref b) ∧ b ≠ S ∧ b ≠ I ∧ q.2.1 ≠ S ∧ q.2.1 ≠ I ∧ IsTup s.heap b #[.ref q.2.1, q.2.2] ∧ (tupleKind (mixKind prog w)).is s.heap q.1 q.2.1) →
      s.heap.IsListIter I l i → s.heap.IsList l items → s.heap.DictOfH (tupleKind (mixKind prog w)) S acc →
      (∀ x ∈ acc, x.2.1 ≠ I) →
      (∀ h' tk, h'.DictOfH (tupleKind (mixKind prog w)) S (mergedH acc rest) → (∀ b o, b ≠ S → b ≠ I → s.heap.get? b = some o → h'.get? b = some o) → R (.ok (.ret res)) { s with heap := h', toks := tk }) →
      codeAny (model prog w) A (.builtin "dict.update.loop" ⟨[.ref S, .ref I, .int ix t, res], []⟩) R s
  | [], i, acc, ix, t, s, hsz, hln, ht, hit, hl, hm, hai, hR => by
    refine codeAny_builtin ud_entry ?_
    rw [Around.under_plainId ud_plain _]
    show wpAny _ A.in1 (pyNext (.ref I) >>= _) _ _ s
    refine wpAny_bind (wpAny_pyNext_list_end (A := A.in1) hh hit hl (by first | exact Array.getElem?_eq_none (Nat.le_of_eq hsz) | (simp at hsz; simp; omega)) fun h' he => ?_)
    show wpAny _ A.in1 (Builtin.Dict.addKeywords S [] >>= _) _ _ _
    refine wpAny_bind (wpAny_pure (wpAny_pure ?_))
    refine hR h' s.toks ?_ fun b o _ hb e => he b o hb e
    obtain ⟨o, es, ep, ho, hc, hd, he', his, hn⟩ := hm
    exact ⟨o, es, ep, he S o hSI ho, hc, hd, he', fun x hx => by
      obtain ⟨ox, its, n, e1, e2, e3, e4⟩ := his x hx
      exact ⟨ox, its, n, he _ _ (hai x hx) e1, e2, e3, e4⟩, hn⟩
  | q :: rest, i, acc, ix, t, s, hsz, hln, ht, hit, hl, hm, hai, hR => by
    obtain ⟨b, hb, hbS, hbI, hqS, hqI, htup, hk⟩ := ht 0 q rfl
    rw [List.length_cons] at hsz hln
    refine codeAny_builtin ud_entry ?_
    rw [Around.under_plainId ud_plain _]
    show wpAny _ A.in1 (pyNext (.ref I) >>= _) _ _ s
    refine wpAny_bind (wpAny_pyNext_list_item (x := .ref b) hit hl (by simpa using hb) fun h1 hit1 hs1 => ?_)
    have keepK : ∀ {ks : List L2.Key} {a : Addr}, a ≠ I → (tupleKind (mixKind prog w)).is s.heap ks a → (tupleKind (mixKind prog w)).is h1 ks a := fun ha h => by
      obtain ⟨ox, its, n, e1, e2, e3, e4⟩ := h
      exact ⟨ox, its, n, hs1.extBut _ _ ha e1, e2, e3, e4⟩
    have ht1 : IsTup h1 b #[.ref q.2.1, q.2.2] := htup.extBut hs1.extBut hbI
    have hl1 : h1.IsList l items := hl.extBut hs1.extBut hlI
    have hm1 : h1.DictOfH (tupleKind (mixKind prog w)) S acc := by
      obtain ⟨o, es, ep, ho, hc, hd, he', his, hn⟩ := hm
      exact ⟨o, es, ep, hs1.extBut S o hSI ho, hc, hd, he', fun x hx => keepK (hai x hx) (his x hx), hn⟩
    obtain ⟨o, ho, hc, n, hd⟩ := id ht1
    show wpAny _ A.in1 (holding [Value.ref b] _ >>= _) _ _ _
    refine wpAny_bind (wpAny_holding ?_)
    refine wpAny_bind (wpAny_tryCatch ?_)
    unfold Builtin.Dict.pairItems
    refine wpAny_bind (wpAny_typeOf (T := "tuple") ⟨o, ho, hc⟩ ?_)
    rw [if_pos (by first | decide | rfl | simp)]
    refine wpAny_bind (wpAny_seqItems ho hd (wpAny_pure ?_))
    show wpAny _ A.in1 (holding [Value.ref q.2.1, q.2.2] (dictSet S (.ref q.2.1) q.2.2)) _ _ _
    refine wpAny_holding (wpAny_dictSet_heap (knd := tupleKind (mixKind prog w)) (k := q.1) (hsz := by omega) (tupleKind_room_in1 (by omega)) (keepK hqI hk) hm1 (fun h2 hm2 hs2 => ?_))
    obtain ⟨od, esd, epd, hod, hcd, hdd, _⟩ := id hm1
    refine wpAny_pure ⟨plainId_quiet ud_plain _, upd_loopT (items := items) hu hh hlI hSI hSl rest (i + 1) (storedH acc q.1 q.2.1 q.2.2) (ix + 1) 0 _ (show items.size = i + 1 + rest.length by omega) ?_ (fun j q' e => ?_) ?_ ?_ hm2 ?_ fun h' tk hd' k => ?_⟩
    · have z := storedH_length acc q.1 q.2.1 q.2.2
      omega
    · obtain ⟨b', hb', hbS', hbI', hqS', hqI', htup', hk'⟩ := ht (j + 1) q' (by simpa using e)
      refine ⟨b', ?_, hbS', hbI', hqS', hqI', (htup'.extBut hs1.extBut hbI').extBut hs2.extBut hbS', (tupleKind (mixKind prog w)).keeps (keepK hqI' hk') hod hdd hs2⟩
      rw [show i + 1 + j = i + (j + 1) by omega]
      exact hb'
    · exact hit1.at fun o' e => hs2.extBut I o' (Ne.symm hSI) e
    · exact hl1.extBut hs2.extBut (Ne.symm hSl)
    · intro x hx
      rcases mem_storedH hx with ⟨y, hy, e1, e2⟩ | ⟨e1, e2⟩
      · rw [e2]; exact hai y hy
      · rw [e2]; exact hqI
    · exact hR h' tk hd' fun c oc h3 h4 e => k c oc h3 h4 (hs2.extBut c oc h3 (hs1.extBut c oc h4 e))
end
section
variable {prog : Program} {w : World} {A : Around} {E : Value → Shared → Prop}
theorem call_dict_pairsT {s : Shared} {l : Addr} {ol : Obj} {items : Array Value} {n : Nat} {prs : List (List L2.Key × Addr × Value)} {Q : Value → Shared → Prop} (hu : A.units + 3 < cLine) (hh : A.handled = none) (hl : s.heap.get? l = some ol) (hc : ol.cls = .type "list") (hd : ol.dict = none)
    (hdat : ol.data = .seq items n) (hsz : items.size = prs.length) (hln : prs.length ≤ sizeLine)
    (ht : ∀ (j : Nat) (q : List L2.Key × Addr × Value), prs[j]? = some q → ∃ (b : Addr), items[j]? = some (.ref b) ∧ IsTup s.heap b #[.ref q.2.1, q.2.2] ∧ (tupleKind (mixKind prog w)).is s.heap q.1 q.2.1)
    (h : ∀ h' tk, h'.DictOfH (tupleKind (mixKind prog w)) s.heap.objs.size (mergedH [] prs) → (∀ b o, s.heap.get? b = some o → h'.get? b = some o) → Q (.ref s.heap.objs.size) { s with heap := h', toks := tk }) :
    wpAny (model prog w) A (call (.type "dict") [.ref l]) Q E s := by
  refine callType_codes (Q₁ := fun obj s₁ => obj = .ref s.heap.objs.size ∧ s₁ = { s with heap := s.heap.push { cls := .type "dict", data := .dict #[] } }) PySem.F.kt_called_dict (PySem.F.kt_typeCall_dict_1 _) PySem.F.entry_dict_init (kt_code_dict_new _ ⟨rfl, rfl⟩) ?_
  rintro obj s₁ ⟨rfl, rfl⟩
  have hnew : (s.heap.push { cls := .type "dict", data := .dict #[] }).DictOfH (tupleKind (mixKind prog w)) s.heap.objs.size [] := Heap.DictOfH.new s.heap
  have hnewK : (s.heap.push { cls := .type "dict", data := .dict #[] }).DictOf (mixKind prog w) s.heap.objs.size [] := Heap.DictOf.new s.heap
  have k0 : ∀ b o, s.heap.get? b = some o → (s.heap.push { cls := .type "dict", data := .dict #[] }).get? b = some o := fun b o e => Heap.get?_push_of_some _ e
  refine ⟨hnewK.typeIs, PySem.F.args_dict_init_2 _ _, ?_⟩
  unfold Builtin.«dict.__init__»
  refine wpAny_bind ?_
  unfold Builtin.Dict.selfAndRest
  refine wpAny_bind (wpAny_notOrdered_dict hnewK.typeIs ?_)
  show wpAny _ _ (pure (s.heap.objs.size, [Value.ref l])) _ _ _
  refine wpAny_pure ?_
  show wpAny _ _ (Builtin.Dict.updateFrom "dict.__init__" s.heap.objs.size (.ref l) [] .none) _ _ _
  unfold Builtin.Dict.updateFrom
  refine wpAny_bind (wpAny_typeOf (T := "list") ⟨ol, k0 _ _ hl, hc⟩ ?_)
  rw [if_pos (by first | decide | rfl | simp)]
  refine wpAny_bind (miss_list (k0 _ _ hl) hc hdat hd hh fun h1 tk1 hk1 => ?_)
  rw [if_pos (show (none : Option Value).isNone = true from rfl)]
  refine wpAny_bind (wpAny_rule ?_)
  have hl1 : h1.IsList l items := ⟨ol, hk1 _ _ (k0 _ _ hl), hc, n, hdat⟩
  have hS1 : s.heap.objs.size < h1.objs.size := by
    have e : (s.heap.push { cls := .type "dict", data := .dict #[] }).get? s.heap.objs.size = some { cls := .type "dict", data := .dict #[] } := Heap.get?_push_size _ rfl
    exact Heap.lt_size (hk1 _ _ e)
  refine wpAny_bind (wpAny_pyIter_list hl1 ?_)
  have k2 : ∀ b o, h1.get? b = some o → (h1.push { cls := .type "list_iterator", data := .fields #[.ref l, .int 0 0] }).get? b = some o := fun b o e => Heap.get?_push_of_some _ e
  have hlt : l < s.heap.objs.size := Heap.lt_size hl
  have key := upd_loopT (prog := prog) (w := w) (A := A.in1) (R := wants (fun r s₂ => r = .none ∧ Q (.ref s.heap.objs.size) s₂) E) (S := s.heap.objs.size) (I := h1.objs.size) (l := l) (items := items) (res := Value.none) (by simp only [Around.in1_units]; omega) hh
    (Nat.ne_of_lt (Nat.lt_trans hlt hS1)) (Nat.ne_of_lt hS1) (Nat.ne_of_gt hlt) prs 0 [] 0 0
    { s with heap := h1.push { cls := .type "list_iterator", data := .fields #[.ref l, .int 0 0] }, toks := tk1 } (by rw [hsz, Nat.zero_add]) (by rw [List.length_nil, Nat.zero_add]; exact hln)
    (fun j q e => by
      obtain ⟨b, e1, e2, e3⟩ := ht j q e
      have hb : b < s.heap.objs.size := e2.lt
      obtain ⟨ox, its, nn, x1, x2, x3, x4⟩ := e3
      have hq : q.2.1 < s.heap.objs.size := Heap.lt_size x1
      exact ⟨b, by rw [Nat.zero_add]; exact e1, Nat.ne_of_lt hb, Nat.ne_of_lt (Nat.lt_trans hb hS1), Nat.ne_of_lt hq, Nat.ne_of_lt (Nat.lt_trans hq hS1), e2.keeps fun c o z => k2 _ _ (hk1 _ _ (k0 _ _ z)), ⟨ox, its, nn, k2 _ _ (hk1 _ _ (k0 _ _ x1)), x2, x3, x4⟩⟩)
    ⟨_, Heap.get?_push_size _ rfl, rfl, rfl⟩ (hl1.at fun o e => k2 _ _ e) (by
      obtain ⟨o, es, ep, ho, hc', hd', he', his, hn⟩ := hnew
      exact ⟨o, es, ep, k2 _ _ (hk1 _ _ ho), hc', hd', he', (fun x hx => absurd hx List.not_mem_nil), hn⟩) (fun x hx => absurd hx List.not_mem_nil)
    (fun h' tk hd' k => ⟨rfl, h h' tk hd' fun b o e => k b o (Nat.ne_of_lt (Heap.lt_size e)) (Nat.ne_of_lt (Nat.lt_trans (Heap.lt_size e) hS1)) (k2 _ _ (hk1 _ _ (k0 _ _ e)))⟩)
  first
    | exact wpAny_pure ⟨plainId_quiet ud_plain _, key⟩
    | exact wpAny_bind (wpAny_pure (wpAny_pure ⟨plainId_quiet ud_plain _, key⟩))
end
section
variable {X : Cx} {K : PySem.W.Frag}
/-- a pair (key, value) at p -/
def PrT (K : PySem.W.Frag) (H : Hp) (p : Addr) (kv : List L2.Key × V) : Prop := ∃ b, SqT K H p [.ref b, kv.2] ∧ H b = some (.tup (kv.1.map kV))
theorem pairs_ofT {pins : List (Addr × Obj)} {σ : L2.St} {H : Hp} {s : Shared} (I : L2.Inv X pins σ H s) : ∀ {ps : List Addr} {kvs : List (List L2.Key × V)}, Paired (PrT X.K H) ps kvs →
    ∃ prs : List (List L2.Key × Addr × Value), KT H kvs prs ∧ prs.length = ps.length ∧ ∀ (j : Nat) (q : List L2.Key × Addr × Value), prs[j]? = some q → ∃ (b : Addr), ps[j]? = some b ∧ IsTup s.heap b #[.ref q.2.1, q.2.2] ∧ (tupleKind (mixKind X.prog X.w)).is s.heap q.1 q.2.1
  | _, _, .nil => ⟨[], .nil, rfl, fun j q e => by simp at e⟩
  | _, _, .cons (a := p) (b := kv) h t => by
    obtain ⟨prs, r, hl, hp⟩ := pairs_ofT I t
    obtain ⟨b, hs, hb⟩ := h
    obtain ⟨its, rv, ht, _⟩ := I.tuple hs
    obtain ⟨u, y, ei, ru, ry⟩ := vals2 rv
    subst ei
    cases (show u = Value.ref b from ru)
    refine ⟨(kv.1, b, y) :: prs, .cons ⟨rfl, hb, ry⟩ r, by rw [List.length_cons, List.length_cons, hl], fun j q e => ?_⟩
    cases j with
    | zero =>
      have e' : (kv.1, b, y) = q := Option.some.inj e
      subst e'
      exact ⟨p, rfl, ht, key_of I.hok hb⟩
    | succ j =>
      obtain ⟨b, e1, e2, e3⟩ := hp j q (by simpa using e)
      exact ⟨b, by simpa using e1, e2, e3⟩
def rDictT (K : PySem.W.Frag) : List V → Hp → VK → Prop := fun xs H Q => ∃ (a : Addr) (ps : List Addr) (kvs : List (List L2.Key × V)), xs = [.ref a] ∧ SqL K H a (ps.map V.ref) ∧ Paired (PrT K H) ps kvs ∧
    ∀ p, H p = none → Q (.ref p) (upd H p (.dT (mergeT [] kvs)))
theorem call_dictT (hu : X.A.units + 3 < cLine) (hcalm : X.calm = true) (hK : X.K = K := by rfl) : CallR X (.type "dict") (rDictT K) := by
  subst hK
  intro pins s σ H xs us Q I r q
  obtain ⟨a, ps, kvs, ex, hq, hp, q⟩ := q
  subst ex
  obtain ⟨u, eu, rx⟩ := vals1 r
  subst eu
  cases rx
  obtain ⟨its, rv, pl, hz⟩ := I.list hq
  have ei := refs_at rv
  subst ei
  rw [List.length_map] at hz
  obtain ⟨prs, rel, hl, hpr⟩ := pairs_ofT I hp
  obtain ⟨o, n, ho, hc, hd, hdat⟩ := pl
  refine call_dict_pairsT (prs := prs) hu (I.ok.hd hcalm) ho hc hd hdat (by simp [hl]) (by rw [hl]; exact hz) (fun j q' e => ?_) fun h' tk hd' k => ?_
  · obtain ⟨b, e1, e2, e3⟩ := hpr j q' e
    exact ⟨b, by simp [e1], e2, e3⟩
  · have hm : (s.heap.objs.size == sysModules) = false := beq_eq_false_iff_ne.mpr (Nat.ne_of_gt I.big)
    have hlen : (mergeT [] kvs).length ≤ sizeLine := by
      refine Nat.le_trans (length_mergeT kvs []) ?_
      rw [List.length_nil, Nat.zero_add, Paired.length rel, hl]
      exact hz
    have hn := I.hok.fresh (Nat.le_refl s.heap.objs.size)
    obtain ⟨o', es', ep', ho', hc', hd'', he', _, hn'⟩ := id hd'
    have km : KT (upd H s.heap.objs.size (.dT (mergeT [] kvs))) (mergeT [] kvs) (mergedH [] prs) := (KT.merge rel .nil).keeps fun b ys e => by rw [upd_ne (ne_of_none e hn)]; exact e
    exact ⟨.ref s.heap.objs.size, upd H s.heap.objs.size (.dT (mergeT [] kvs)), I.laid (t' := tk) k (Nat.le_refl _) (show ObjOk X.prog X.w _ _ _ (.dT (mergeT [] kvs)) from ⟨hlen, hm, mergedH [] prs, km, o', es', ep', ho', hc', hd'', he', hn'⟩), rfl, q _ hn⟩
/-! ### d.items(), keys tuples -/
def ItiT (d : Addr) (o : Obj) (kvs : List (List L2.Key × V)) : It :=
  ⟨fun i H => H d = some (.frz o (.dT kvs)) ∧ i < kvs.length, fun i H x H' => ∃ (T : Addr) (k : List L2.Key) (v : V) (q : Addr), kvs[i]? = some (k, v) ∧ x = .ref T ∧ H T = none ∧ H q = some (.tup (k.map kV)) ∧ H' = upd H T (.tup [.ref q, v]), fun i H => H d = some (.frz o (.dT kvs)) ∧ kvs.length ≤ i⟩
theorem frzT' {pins : List (Addr × Obj)} {σ : L2.St} {H : Hp} {s : Shared} {d : Addr} {o : Obj} {kvs : List (List L2.Key × V)} (I : L2.Inv X pins σ H s) (h : H d = some (.frz o (.dT kvs))) :
    (d == sysModules) = false ∧ s.heap.get? d = some o ∧ o.ExactDict ∧ ∃ (es : Array DictEntry) (ep : Nat), o.data = .dict es ep ∧ es.size = kvs.length ∧
      ∀ (i : Nat) (k : List L2.Key) (v : V), kvs[i]? = some (k, v) → ∃ (en : DictEntry) (q : Addr), es[i]? = some en ∧ en.key = .ref q ∧ H q = some (.tup (k.map kV)) ∧ RelV v en.val := by
  obtain ⟨hd, z, hs, xs, pr, o', es, ep, ho, hx, hdt, he, _⟩ := I.hok d _ h
  rw [hd] at ho
  cases ho
  refine ⟨hs, hd, hx, es, ep, hdt, ?_, fun i k v e => ?_⟩
  · have l1 : es.size = xs.length := size_of_entries he
    have l2 : kvs.length = xs.length := Paired.length pr
    omega
  · obtain ⟨b, hb, e1, e2, e3⟩ := paired_get pr e
    have q := entry_at he i
    rw [hb] at q
    exact ⟨_, b.2.1, q, rfl, e2, e3⟩
theorem turn_itemsT {P : Program} {w : World} {d : Addr} {o : Obj} {es : Array DictEntry} {ep : Nat} {kvs : List (List L2.Key × V)} {elts : List Expr} {kk : Nat} {tpos : Pos} (it : Addr) (hod : o.data = .dict es ep) :
    Turn P w K (.Tuple elts kk tpos) (ItiT d o kvs) [it] it (fun i h => ∃ ok ov, IsItemIter h it d i es.size ep ok ov) where
  mem := by simp
  obj := fun i h st b hb => by
    have e : b = it := by simpa using hb
    subst e
    obtain ⟨ok, ov, e⟩ := st
    exact ⟨_, e, fun v z => nomatch z⟩
  keep := fun i h h' st k => let ⟨ok, ov, e⟩ := st; ⟨ok, ov, k it (by simp) _ e⟩
  item := by
    intro X hP hw hK hc i pins s σ H E I hf st hg
    subst hP hw hK
    obtain ⟨hd, hi⟩ := hg
    obtain ⟨hs, hgd, hx, es', ep', hdt, hsz, ent⟩ := frzT' I hd
    obtain ⟨rfl, rfl⟩ := dict_ep hod hdt
    obtain ⟨⟨k, v⟩, hkv⟩ : ∃ p, kvs[i]? = some p := ⟨kvs[i], List.getElem?_eq_getElem hi⟩
    obtain ⟨en, q, hen, hkey, hq, hval⟩ := ent i k v hkv
    obtain ⟨ok, ov, he⟩ := st
    have hlt : it < s.heap.objs.size := Heap.lt_size he
    have hi' : i < es'.size := by omega
    have een : es'[i] = en := by
      rw [Array.getElem?_eq_getElem hi'] at hen
      exact Option.some.inj hen
    refine wpAny_pyNext_items_item_raw he ⟨o, hgd, hx, hod⟩ hi' fun h' ho hT hz hk => ?_
    rw [een] at ho hT
    refine ⟨_, rfl, wpAny_letOwnedTupleGo_items (s := { s with heap := h' }) ho fun h'' he' sb => ?_⟩
    have hT2 : h''.get? s.heap.objs.size = some { cls := .type "tuple", data := .seq #[en.key, en.val] } := (sb.2 _ (Nat.ne_of_gt hlt)).trans hT
    have new : ObjOk X.prog X.w (upd H s.heap.objs.size (.tup [.ref q, v])) h'' s.heap.objs.size (.tup [.ref q, v]) :=
      ⟨by show 2 ≤ sizeLine; decide, [en.key, en.val], .cons hkey (.cons hval .nil), ⟨_, hT2, rfl, _, rfl⟩⟩
    have I1 : L2.Inv X pins σ (upd H s.heap.objs.size (.tup [.ref q, v])) { s with heap := h'' } :=
      I.turnedNew (t' := s.toks) (ch := [it]) (fun b ob hb e => (sb.2 b (by simpa using hb)).trans (hk b ob (by simpa using hb) e)) hf (Nat.le_refl _) new
    refine ⟨.ref s.heap.objs.size, _, I1, rfl, ⟨_, k, v, q, hkv, rfl, I.hok.fresh (Nat.le_refl _), hq, rfl⟩, ⟨en.key, en.val, he'⟩, fun b hb => ?_⟩
    have e : b = it := by simpa using hb
    rw [e, upd_ne (Nat.ne_of_lt hlt)]
    exact (hf it (by simp)).1
  done := by
    intro X hP hw hK hc i pins s σ H E I hf st hg
    subst hP hw hK
    obtain ⟨hd, hi⟩ := hg
    obtain ⟨f0, f1, f2, f3, f4, f5⟩ := hf it (by simp)
    obtain ⟨hs, hgd, hx, es', ep', hdt, hsz, ent⟩ := frzT' I hd
    obtain ⟨rfl, rfl⟩ := dict_ep hod hdt
    obtain ⟨ok, ov, he⟩ := st
    exact wpAny_pyNext_items_end_raw (I.ok.hd hc) he ⟨o, hgd, hx, hod⟩ (by omega) fun h' eb => ⟨rfl, I.turned (t' := s.toks) (fun b ob hb e => eb b ob hb e) f0 f1 f3 f4 f5⟩
  self := fun A i s Q E st h => let ⟨_, _, e⟩ := st; PySem.W.kcp_self e h
def iItemsT (td : TE) : TI := fun σ H R => td σ H fun x H1 => ∃ d o kvs, x = .ref d ∧ H1 d = some (.frz o (.dT kvs)) ∧ R (ItiT d o kvs) H1
theorem pi_itemsT {e : Expr} {td : TE} {apos cpos : Pos} {elts : List Expr} {kk : Nat} {tpos : Pos} (he : PE X e td) (hbase : attributeBase e "items" X.env (eval e X.env) = eval e X.env := by rfl) (hline : (apos.endLine == cpos.line) = true := by rfl) :
    PI X (.Tuple elts kk tpos) (.Call (.Attribute e "items" apos) [] [] cpos) (iItemsT td) := by
  refine ⟨fun pins s σ H R I h => ?_⟩
  refine wpAny_Call_method (T := "dict") (id := "dict.items") hbase rfl hline F.plainAttrs_dict F.slot_dict_items F.type_dict_items (thn (he.run pins s σ H _ I h) fun u s1 ⟨x, H1, I1, rx, d, o, kvs, ex, hd, q⟩ => ?_)
  subst ex
  obtain rfl : u = Value.ref d := rx
  obtain ⟨hs, hgd, hx, es, ep, hdt, hsz, ent⟩ := frzT' I1 hd
  have raw : s1.heap.DictRaw d es ep := ⟨o, hgd, hx, hdt⟩
  refine ⟨raw.typeIs, fun b eb => ⟨o, by cases eb; exact hgd, hx.2.1⟩, ?_⟩
  have I2 : L2.Inv X pins σ H1 { s1 with heap := s1.heap.push { cls := .type "dict_items", data := .fields #[.ref d] } } := I1.kept (t' := s1.toks) fun b ob q => Heap.get?_push_of_some _ q
  have fin : wpAny (model X.prog X.w) X.A (pyIter (.ref s1.heap.objs.size)) (PIE X pins σ (.Tuple elts kk tpos) R) X.xe { s1 with heap := s1.heap.push { cls := .type "dict_items", data := .fields #[.ref d] } } := by
    refine wpAny_pyIter_items_raw (d := d) ⟨_, Heap.get?_push_size _ rfl, rfl, rfl⟩ (raw.at fun o e => Heap.get?_push_of_some _ e) (pi_one (tk := s1.toks) I2 _ (turn_itemsT _ hdt) ⟨.none, .none, ?_⟩ q)
    exact Heap.get?_push_size _ rfl
  show wpAny _ _ (callWith cpos (.builtin "dict.items") [.ref d] [] []) _ X.xe s1
  exact method_meetsIn F.slot_dict_items F.entry_dict_items rfl (PySem.evalArgs_none ⟨rfl, raw.typeIs, F.args_dict_items_1 _, _, meets_dict_items_raw d hs, ⟨es, ep, raw⟩, fin⟩)
end
end CB

set_option Elab.async false
set_option linter.all false
set_option maxRecDepth 100000
set_option maxHeartbeats 4000000
/-! errors as values: made without being raised; raised with no context; defs with comprehensions called in an except suite -/
namespace CB
open PySem PySem.Spec PyProof.Rows L2
section
variable {X : Cx} {pins : List (Addr × Obj)} {σ : L2.St} {H : Hp} {s : Shared} {a : Addr} {o : HO}
/-- an object that stands in the greater heap is tracked -/
theorem back {g' : Array GenState} {t' : Nat} {d' : Drawn} {h' : Heap} (I : Inv X pins σ H s) (k : ∀ b u, s.heap.get? b = some u → h'.get? b = some u) (newI : s.heap.get? a = none) (na : H a = none) (hg : AllBare g')
    (good : ObjOk X.prog X.w (upd H a o) h' a o) : Inv X pins σ (upd H a o) { s with heap := h', gens := g', drawn := d', toks := t' } := by
  refine I.step (ch := []) (fun _ z => nomatch z) (fun b u _ _ _ e n => k b u e) (fun b u _ _ _ e n => ⟨u.slots, k b u e⟩) (fun b u _ e n => ?_) (fun b u _ e => ⟨u, k b u e⟩) (fun b xs e => ?_) (fun b u v e => ?_) (fun b ps e => ⟨#[], ?_⟩) (fun m hm => ?_) (I.hok.laidN k na good) hg
  · rw [upd_ne (fun z => by rw [z, newI] at e; cases e)]
    exact n
  · rw [upd_ne (fun z => by rw [z, na] at e; cases e)]
    exact e
  · rw [upd_ne (fun z => by rw [z, na] at e; cases e)]
    exact e
  · rw [upd_ne (fun z => by rw [z, na] at e; cases e), e]
    simp
  · obtain ⟨ob, es, ep, ho, r⟩ := hm
    exact ⟨ob, es, ep, k _ _ ho, r⟩
/-- an error made, as a value -/
theorem pe_mkx {e : Expr} {t : L2.St → Hp → XK → Prop} (h : L2N.PMk X e t) : PE X e (fun σ H Q => t σ H fun cls d H1 => ∀ a, H1 a = none → Q (.ref a) (upd H1 a (xo a cls d))) := by
  refine ⟨fun pins s σ H Q I q => wpAny_mono (h pins s σ H _ I q) (fun u s1 there => ?_) fun _ _ z => z⟩
  obtain ⟨a, oe, vs, sI, H1, cls, d, rfl, J, k, ne, ha, hz, hd, h1, na, os, ag, r, q⟩ := there
  obtain ⟨h', g', d', t', os'⟩ := s1
  cases (show os' = sI.os from os)
  exact ⟨.ref a, _, back (g' := g') (t' := t') (d' := d') J k ne na ag (xo_ok ha hz.zc hd), rfl, q a na⟩
end
section
variable {X : Cx} {x : Str} {e : Expr} {es : List Expr} {ta : TA} {p pos : Pos}
/-- C(e, ..), C's own __init__ keeping sp: the error has no context -/
theorem pmkN_oex {CX : CXT} {C fI : Addr} {k : Nat} {fd : FuncData} {ps : List Str} {sp : Sp} {ds : List Value} {dvs : List V} (T : OexC X.K C) (iC : PySem.W.findIn X.K (.ref C) "__init__" = some (some (.ref fI))) (tI : PySem.W.typeIn X.K (.ref fI) = some (.type "function"))
    (F1 : FnOk X.prog X.w X.K X.mg X.base CX k fI fd ps sp) (hr : Room (k + 1) X.A) (hb : Binds X.K fd ps ds) (hd : Vals dvs ds) (hx : Passes CX X (fun _ _ _ => False)) (hg : Gl X x) (hm : X.mg x = some (.ref C)) (ha : PA X (e :: es) ta)
    (hdb : (x == ("__debug__" : Str)) = false := by decide) (he : starEach (e :: es) X.env = (false, eval e X.env) :: starEach es X.env := by rfl) (hpl : (backTo pos (starEach es X.env)).any (·.1) = false := by rfl) :
    L2N.PMk X (.Call (.Name x p) (e :: es) [] pos) (tMkO C sp dvs ta) := by
  intro pins s σ H Q I h
  obtain ⟨nm, q, N, bs, bm, sn, sub, ab, col, dd, k0, k1, k2, k3, k5, hC, hbm⟩ := T.cls
  refine wpAny_Call_Name_kw (ld_glob I hg hm ?_ hdb)
  refine PySem.W.callWith_K (h₀ := X.base) I.ok.mod.kin T.kC (thn (ha.run pos pins s σ H _ I h) fun us s1 ⟨vs, H1, I1, r1, hz, q1⟩ => ⟨I1.kIn, ?_⟩) he hpl
  show wpAny _ _ (call (.ref C) us) _ _ _
  obtain ⟨hp, g, dr, tk, os⟩ := s1
  have hsz : hp.objs.size ≤ hp.objs.size + 1 := Nat.le_succ _
  have hn : H1 (hp.objs.size + 1) = none := I1.hok.fresh hsz
  have hq := q1 (hp.objs.size + 1) hn
  have kk : ∀ b o, hp.get? b = some o → ((hp.push (PySem.W.kdv_tup us)).push (PySem.HandSPX.excO C hp.objs.size)).get? b = some o := fun b o e => Heap.get?_push_of_some _ (Heap.get?_push_of_some _ e)
  have hget : ((hp.push (PySem.W.kdv_tup us)).push (PySem.HandSPX.excO C hp.objs.size)).get? (hp.objs.size + 1) = some (PySem.HandSPX.excO C hp.objs.size) := by heap_get
  have I2 : Inv X pins σ (upd H1 (hp.objs.size + 1) (exo (hp.objs.size + 1) C none)) ⟨(hp.push (PySem.W.kdv_tup us)).push (PySem.HandSPX.excO C hp.objs.size), g, dr, tk, os⟩ :=
    I1.laid (t' := tk) (a := hp.objs.size + 1) (o := exo (hp.objs.size + 1) C none) (h' := (hp.push (PySem.W.kdv_tup us)).push (PySem.HandSPX.excO C hp.objs.size)) kk hsz (exo_ok hget)
  have r2 : Vals (V.ref (hp.objs.size + 1) :: (vs ++ dvs)) (Value.ref (hp.objs.size + 1) :: (us ++ ds)) := .cons rfl (r1.append hd)
  have hl : (Value.ref (hp.objs.size + 1) :: us ++ ds).length = ps.length := by
    have e := r2.length
    rw [F1.len _ _ _ _ hq] at e
    exact e.symm
  have hus : us.length ≤ sizeLine := by
    rw [← Paired.length r1, sizeLine_eq]
    omega
  refine wpAny_call (PySem.HandSPX.call_own F.excBase_ValueError (fun Y => PySem.HandSPX.refsVE_contains Y bm hbm) (I1.kIn _ _ hC) (PySem.W.looks_findIn I1.kIn iC) (fun self => PySem.W.bind_fn I1.kIn self tI) hus
    (codeAny_mono (F1.run _ X.stack _ _ ⟨Value.ref (hp.objs.size + 1) :: us, []⟩ (Value.ref (hp.objs.size + 1) :: (us ++ ds)) _ _ (fun _ _ _ => False) (hr.make C us []) (I2.env0.make C us []) (hb _ (Value.ref (hp.objs.size + 1) :: us) I2.kIn hl) r2 hq) fun r s' hq' => ?_))
  cases r with
  | error er => exact hx pins σ _ _ er s' I2 hq'
  | ok fl =>
    cases fl with
    | ret u =>
      obtain ⟨v, H2, os2, bare2, un2, hok2, rv, ev, d, fs, ea, ed, hd1, q2⟩ := hq'
      subst ev
      obtain ⟨h2, g2, d2, t2, os'⟩ := s'
      obtain ⟨t0, G, J, kG, ge, hoe, na⟩ := mk_end0 (d2 := d2) (t2 := t2) I1 hsz kk un2 hok2 os2 bare2 ea ed hd1
      exact ⟨rv, hp.objs.size + 1, _, _, ⟨G, g2, d2, t2, os'⟩, _, .ref C, some d, rfl, J, kG, ge, hoe, ⟨rfl, rfl, fun vs hv => by cases hv; rfl⟩, rfl, rfl, na, rfl, bare2, raises_own T.exC T.tyC, q2⟩
    | next => exact False.elim hq'
    | brk => exact False.elim hq'
    | cont => exact False.elim hq'
/-- C(), C an own exception class without own __init__ -/
theorem pmkN_own0 {C : Addr} {bmB : List Value} {B newId initId : String} (F : ExcBaseFacts B newId initId bmB) (q : PySem.W.excIn X.K C bmB newId = true) (gC : X.mg x = some (.ref C))
    (kC : PySem.W.keepIn X.K (.ref C) = true) (r : Raises X (.ref C)) (hg : Gl X x) (hdb : (x == ("__debug__" : Str)) = false := by decide) :
    L2N.PMk X (.Call (.Name x p) [] [] pos) (fun _ H Q => Q (.ref C) none H) := by
  intro pins s σ H Q I h
  refine wpAny_Call_Name_kw (ld_glob I hg gC ?_ hdb)
  refine PySem.W.callWith_K0 I.kIn kC ?_
  show wpAny _ _ (call (.ref C) []) _ _ _
  obtain ⟨bm, N, nm, qn, bs, hdct, sn, sub, ab, col, dd, k0, k1, k2, k3, k5, mN, hC, hN, hni, T⟩ := exc_obj I.kIn q
  refine wpAny_call_exc_subT F T hC hN hni (fun h' e hm => ?_) (Nat.zero_le _)
  exact L2N.mk_of I hm r h (I.hok.gone hm.new)
end
section
variable {P : Program} {w : World} {K : PySem.W.Frag} {mg : Str → Option Value} {base : Heap}
/-- as Fun.okX, what is raised has no context -/
theorem okXN {x qual : Str} {st : Stmt} {f : Addr} {fd : FuncData} {N ps : List Str} {k : Nat} {sp : Sp} (F : Fun K x qual st f fd) (S : FnScope N ps (defScope st)) (len : ∀ vs H Q E, sp vs H Q E → vs.length = ps.length)
    (hbody : ∀ (cdv : Value) (A : Around) (outer : List Env) (s : Shared) (H : Hp) (vs : List V) (Q : VK) (E : XK), Room k (A.deeper (envOfC qual (defScope st) s.heap.objs.size f cdv)) → sp vs H Q E →
      ∃ t, PSs (cxOf (L2N.CX P w) P w K mg base N qual (defScope st) f cdv A outer s H E) (defBody st) t ∧ t { nx := fun _ H' => Q .non H', rt := Q } (start N vs) H) : FnOk P w K mg base (L2N.CX P w) (k + 1) f fd ps sp := by
  obtain ⟨oc, od, kV, doc, pm, an, cdv, ct, osl, rfl, lk, hcd⟩ := F.ex
  exact fn_of lk hcd S len fun A outer s H vs Q E hr hsp => hbody cdv A outer s H vs Q E hr hsp
theorem takesN0 {X : Cx} : L2N.Takes X (fun _ _ _ _ => False) := fun _ _ x => by
  obtain ⟨_, _, _, _, _, _, _, _, _, _, _, _, _, _, _, _, z⟩ := x
  exact z.elim
end
/-! ### a def called in the suite -/
/-- what such a def promises: a the error's place, cls its class, d its dict -/
structure FnN (P : Program) (w : World) (K : PySem.W.Frag) (mg : Str → Option Value) (base : Heap) (k : Nat) (f : Addr) (fd : FuncData) (ps : List Str) (sp : Addr → Value → Option Addr → Sp) : Prop where
  len : ∀ a cls d vs H Q E, sp a cls d vs H Q E → vs.length = ps.length
  run : ∀ (A : Around) (outer : List Env) (s : Shared) (H : Hp) (args : Args) (us : List Value) (vs : List V) (Q : VK) (E : XK) (a : Addr) (oe : Obj) (cls : Value) (d : Option Addr), L2H.RoomH k A → L2H.Hot1 A (a, oe) → L2H.PinOk outer H s (a, oe) → Zc cls d oe → (∃ vs, oe.data = .fields vs) →
    Env0 P w K mg base A outer s H → BindsTo s fd args (ps.zip us) → Vals vs us → sp a cls d vs H Q E → codeAny (model P w) A (.call (.ref f) args) (CR CX0 outer P w H s Q E) s
section
variable {P : Program} {w : World} {K : PySem.W.Frag} {mg : Str → Option Value} {base : Heap}
theorem okN {x qual : Str} {st : Stmt} {f : Addr} {fd : FuncData} {N ps : List Str} {k : Nat} {sp : Addr → Value → Option Addr → Sp} (F : Fun K x qual st f fd) (S : FnScope N ps (defScope st)) (len : ∀ a cls d vs H Q E, sp a cls d vs H Q E → vs.length = ps.length)
    (body : ∀ (cdv : Value) (A : Around) (outer : List Env) (s : Shared) (H : Hp) (vs : List V) (Q : VK) (E : XK) (a : Addr) (oe : Obj) (cls : Value) (d : Option Addr), L2H.Hot1 A (a, oe) → Zc cls d oe → (∃ vs, oe.data = .fields vs) → L2H.RoomH k (A.deeper (envOfC qual (defScope st) s.heap.objs.size f cdv)) → sp a cls d vs H Q E →
      ∃ t, PSs (L2H.cxH CX0 P w K mg base N qual (defScope st) f cdv A outer s H E (a, oe)) (defBody st) t ∧ t { nx := fun _ H' => Q .non H', rt := Q } (start N vs) H) : FnN P w K mg base (k + 1) f fd ps sp := by
  obtain ⟨oc, od, kV, doc, pm, an, cdv, ct, osl, rfl, lk, hcd⟩ := F.ex
  refine ⟨len, fun A outer s H args us vs Q E a oe cls d room hot pin z fl e0 bnd rel say => ?_⟩
  have still : ∀ b o, base.get? b = some o → s.heap.get? b = some o := fun b o q => (e0.bs b o q).1
  have inK := e0.mod.kin.keeps still
  have kinds : ∀ y ∈ ps.zip us, (defScope st).names.lookup y.1 = some .local ∨ ((defScope st).names.lookup y.1 = some .cell ∧ ((cellsFrom (s.heap.objs.size + 1) (defScope st).names []).lookup y.1).isSome = true) := by
    rintro ⟨nm, v⟩ hy
    exact (S.par nm (List.of_mem_zip hy).1).elim .inl fun q => .inr ⟨q, PySem.W.cellsFrom_some _ _ _ (.inl q)⟩
  refine codeAny_call_function room.depth (inK _ _ lk) rfl S.co S.gen rfl (PySem.W.codeRec_of inK hcd) (bnd _ _ _ _ (wpAny_newFunctionEnv_cells S.kind kinds ?_))
  rintro env rfl s1 made
  obtain ⟨t, ht, hq⟩ := body cdv A outer s H vs Q E a oe cls d hot z fl (room.deeper _) say
  have I0 := L2H.inv_startH (CX := CX0) (E := E) S pin e0 (len _ _ _ _ _ _ _ say) rel made
  refine ⟨(e0.mod.nolimit.keeps still).keeps made.toInCall.keep, codeAny_func (wpAny_mono (ht.run [] s1 (start N vs) H _ I0 hq) (fun fl2 s2 done => ?_) fun e s2 done => done)⟩
  cases fl2 with
  | ret u =>
    obtain ⟨v, σ2, H2, J, rv, q⟩ := done
    exact ⟨v, H2, J.os, J.bare, J.base, J.hok, rv, q⟩
  | next =>
    obtain ⟨σ2, H2, J, q⟩ := done
    exact ⟨V.non, H2, J.os, J.bare, J.base, J.hok, rfl, q⟩
  | brk => exact done.elim fun _ h => h.elim fun _ h => (show False from h.2).elim
  | cont => exact done.elim fun _ h => h.elim fun _ h => (show False from h.2).elim
end
section
variable {X : Cx} {k : Nat} {f a : Addr} {cls : Value} {d : Option Addr} {oe : Obj} {fd : FuncData} {ps : List Str} {sp : Addr → Value → Option Addr → Sp} {x : Str} {p pos : Pos} {e : Expr} {es : List Expr} {t : TA} {E : XK}
theorem pe_callN (F : FnN X.prog X.w X.K X.mg X.base k f fd ps sp) (room : L2H.RoomH k X.A) (hot : L2H.Hot1 X.A (a, oe)) (hp : (a, oe) ∈ X.pn) (z : Zc cls d oe) (fl : ∃ vs, oe.data = .fields vs) (hg : Gl X x) (hm : X.mg x = some (.ref f)) (hk : PySem.W.keepIn X.K (.ref f) = true) (hb : Binds X.K fd ps [])
    (ha : PA X (e :: es) t) (hdb : (x == ("__debug__" : Str)) = false := by decide) (he : starEach (e :: es) X.env = (false, eval e X.env) :: starEach es X.env := by rfl) (hpl : (backTo pos (starEach es X.env)).any (·.1) = false := by rfl) :
    PE X (.Call (.Name x p) (e :: es) [] pos) (fun σ H Q => t σ H fun vs H1 => sp a cls d vs H1 Q E) := by
  refine ⟨fun pins s σ H Q I h => wpAny_Call_Name_kw (ld_glob I hg hm (PySem.W.callWith_K (h₀ := X.base) I.ok.mod.kin hk (thn (ha.run pos pins s σ H _ I h) fun us s1 hus => ?_) he hpl) hdb)⟩
  obtain ⟨vs, H1, I1, r, q⟩ := hus
  refine ⟨I1.kIn, ?_⟩
  have hl : (us ++ []).length = ps.length := by rw [List.append_nil, ← r.length]; exact F.len _ _ _ _ _ _ _ q
  have bnd := hb s1 us I1.kIn hl
  rw [List.append_nil] at bnd
  have pinned := I1.pin (a, oe) (List.mem_append_left _ hp)
  have pin : L2H.PinOk X.stack H1 s1 (a, oe) := ⟨pinned.1, pinned.2.1, fun there => (List.mem_cons.mp (I1.stkSub a there)).elim pinned.2.2.1 pinned.2.2.2.1, pinned.2.2.2.2⟩
  refine wpAny_call (codeAny_mono (F.run X.A X.stack s1 H1 ⟨us, []⟩ us vs Q E a oe cls d room hot pin z fl I1.env0 bnd r q) fun r s' hq => ?_)
  cases r with
  | error e => exact False.elim hq
  | ok fl2 =>
    cases fl2 with
    | ret u => exact I1.after hq
    | next => exact False.elim hq
    | brk => exact False.elim hq
    | cont => exact False.elim hq
theorem instPin {P : Program} {w : World} {H : Hp} {h : Heap} {D : Addr} (hok : HOk P w H h) (get : h.get? a = some oe) (z : Zc (.ref D) d oe) (fl : ∃ vs, oe.data = .fields vs) (dd : ∀ x, d = some x → ∃ fs, H x = some (.xd fs)) : ∃ od, PySem.W.InstAt h a oe D od := by
  obtain ⟨vs, f⟩ := fl
  cases d with
  | none =>
    refine ⟨none, ?_⟩
    obtain ⟨oc, od, oda, osl⟩ := oe
    obtain ⟨h1, h2⟩ := z
    dsimp only at h1 h2 f
    subst h1 h2 f
    exact ⟨get, rfl, rfl, trivial⟩
  | some x =>
    obtain ⟨fs, hx⟩ := dd x rfl
    have ox : ObjOk P w H h x (.xd fs) := hok x _ hx
    obtain ⟨mA, hns, hr⟩ := ox
    obtain ⟨od, ho, hl⟩ := lookIn_ns hns
    exact ⟨some od, get, z.1, by unfold PySem.W.notCls; rw [f] <;> rfl, by rw [z.2]; exact ho⟩
/-- isinstance(e, c), e an error that the context bears -/
def rIsP (K : PySem.W.Frag) (a : Addr) (cls : Value) (d : Option Addr) : List V → Hp → VK → Prop := fun xs H Q => ∃ (D : Addr) (c : V) (cv : Value) (b : Bool), xs = [.ref a, c] ∧ cls = .ref D ∧ (∀ x, d = some x → ∃ fs, H x = some (.xd fs)) ∧ ExcC K D ∧ (∀ u, RelV c u → u = cv) ∧ PySem.W.kitOne K (.ref D) cv = some b ∧ Q (.bl b) H
theorem isP {K : PySem.W.Frag} (hp : (a, oe) ∈ X.pn) (z : Zc cls d oe) (fl : ∃ vs, oe.data = .fields vs) (hK : X.K = K := by rfl) : CallR X (.builtin "isinstance") (rIsP K a cls d) := by
  subst hK
  intro pins s σ H xs us Q I r h
  obtain ⟨D, c, cv, b, rfl, rfl, dd, C, hcv, ans, q⟩ := h
  obtain ⟨u1, u2, rfl, r1, r2⟩ := vals2 r
  cases (show u1 = Value.ref a from r1)
  have ec := hcv _ r2
  subst ec
  obtain ⟨od, J⟩ := instPin I.hok (I.pin (a, oe) (List.mem_append_left _ hp)).1 z fl dd
  exact PySem.W.kia_one (kitK C) I.kIn J ans (fun no => nomatch no) fun tk => ⟨.bl b, H, I.kept (t' := tk) fun _ _ q => q, rfl, q⟩
end
/-! ### a comprehension while an error is handled -/
abbrev blkH (X : Cx) (s : Shared) (H : Hp) (scope : Scope) (cenv : Env) (fp : List Addr) (p : Addr × Obj) : Cx := { X.blk s H scope cenv fp with pn := [p] }
theorem okBear {X : Cx} {pn : List (Addr × Obj)} (k : X.Ok) : Cx.Ok { X with pn := pn } :=
  ⟨k.mod, k.kind, k.glob, k.blt, k.above, k.inj, k.has, k.cab, k.hd, k.frames, k.stk, k.exf, k.bs, k.bsz, k.noex, k.exfs, k.funs, k.frf⟩
theorem invBear {X : Cx} {σ : L2.St} {H : Hp} {s : Shared} {p : Addr × Obj} (I : Inv X [] σ H s) (h : s.heap.get? p.1 = some p.2 ∧ H p.1 = none ∧ p.1 ≠ X.env.locals ∧ p.1 ∉ X.fs ∧ ∀ v, p.2.data ≠ .cell v) : Inv { X with pn := [p] } [] σ H s :=
  ⟨okBear I.ok, I.os, I.bare, I.base, I.loc, I.cell, I.free, I.freeC, fun q hq => by
    have e : q = p := by simpa using hq
    rw [e]
    exact h, I.hok, I.len⟩
section
variable {X : Cx}
theorem lc_coreH {pins : List (Addr × Obj)} {s : Shared} {σ : L2.St} {H : Hp} {Q : VK} {elt tg iter : Expr} {ifs : List Expr} {scope : Scope} {own : List (Str × Nat)} {pos pos' : Pos} {wi : TI} {g : TG} {tt : TT} {te : TE} {use : Option (Value → Sem Unit)} {Qf : Value → Shared → Prop} {p0 : Addr × Obj}
    (hot : L2H.Hot1 X.A p0) (hp0 : p0 ∈ X.pn) (hN : X.N.Nodup) (I : Inv X pins σ H s) (hi : L2H.PIH X tg iter wi) (ok : BlkOk X.N X.env.scope scope own)
    (hg : ∀ (s : Shared) (H : Hp) (C : Addr) (cl : List (Str × Addr)) (fp : List Addr), PG (blkH X s H scope (compEnvC scope cl C X.env) fp p0) tg g) (ht : ∀ (s : Shared) (H : Hp) (C : Addr) (cl : List (Str × Addr)) (fp : List Addr), PTs (blkH X s H scope (compEnvC scope cl C X.env) fp p0) ifs tt)
    (he : ∀ (s : Shared) (H : Hp) (C : Addr) (cl : List (Str × Addr)) (fp : List Addr), PE (blkH X s H scope (compEnvC scope cl C X.env) fp p0) elt te) (hs : ∀ x, foldedSetIterable iter X.env x = pure x)
    (h : tLc wi g tt te (own.map (·.2)) σ H Q)
    (hRR : ∀ D C s' m H', Inv X pins σ H' s' → Q (.ref D) H' → s'.heap.Ns C m → FpOk X pins H' C → compPost (model X.prog X.w) X.A X.xe use Qf (.ref D) C (.ok .next) s') :
    wpAny (model X.prog X.w) X.A (comprehension (.ListComp elt [⟨tg, iter, ifs, 0⟩] scope pos) scope X.env pos' (newList []) false (eval iter X.env) use) Qf X.xe s := by
  have hfree : ∀ y ∈ scope.names, y.2 = .free → ∃ c, X.env.cells.lookup y.1 = some c := fun y hy e => by
    rcases ok.free y hy e with k | k
    · exact I.ok.has _ (.inl k)
    · exact I.ok.has _ (.inr k)
  refine wpAny_comprehension_free (use := use) rfl hs (closure_ok hfree) ok.kind (fun y hy e => by rw [ok.uniq y hy, e])
    (thn (hi.run pins s σ H _ I h) fun xv s1 hx => thn hx fun itv s2 h2 => ?_)
  obtain ⟨it, fp, tn, J, H2, e, I2, T, st2, f2, q⟩ := h2
  subst e
  refine wpAny_newObj_type (newEnv_comp ?_) (by show 0 ≤ sizeLine; decide)
  generalize hD : s2.heap.objs.size = D
  have hDn : H2 D = none := I2.hok.fresh (Nat.le_of_eq hD)
  obtain ⟨W, ⟨m0, w0⟩, turn⟩ := q D hDn
  -- the new list
  generalize hs3 : ({ s2 with heap := s2.heap.push { cls := .type "list", data := .seq ([] : List Value).toArray } } : Shared) = s3
  have I3 : Inv X pins σ (upd H2 D (.lst [])) s3 := by
    rw [← hs3]
    refine I2.laid (t' := s2.toks) (fun b o e => Heap.get?_push_of_some _ e) (Nat.le_of_eq hD) ⟨Nat.zero_le _, [], 0, .nil, ?_⟩
    rw [← hD]
    exact Heap.get?_push_size _ rfl
  have h3 : s3.heap = s2.heap.push { cls := .type "list", data := .seq ([] : List Value).toArray } := by rw [← hs3]
  have sz : ∀ b ∈ fp, b < s2.heap.objs.size := fun b hb => by
    obtain ⟨o, e, _⟩ := T.obj _ _ st2 b hb
    exact Heap.lt_size e
  have f3 : ∀ b ∈ fp, FpOk X pins (upd H2 D (.lst [])) b ∧ b < s3.heap.objs.size := fun b hb => by
    have hlt := sz b hb
    refine ⟨⟨?_, (f2 b hb).2⟩, by rw [h3, Heap.size_push]; exact Nat.lt_succ_of_lt hlt⟩
    rw [upd_ne (by rw [← hD]; exact Nat.ne_of_lt hlt)]
    exact (f2 b hb).1
  have st3 : tn 0 s3.heap := T.keep _ _ _ st2 fun b _ o e => by rw [h3]; exact Heap.get?_push_of_some _ e
  have I4' := block_start I3 ok hN f3
  have pin3 := I3.pin p0 (List.mem_append_left _ hp0)
  have I4 := invBear (p := p0) I4' ⟨pushCells_keeps _ _ _ _ (Heap.get?_push_of_some _ pin3.1), pin3.2.1, Nat.ne_of_lt (Heap.lt_size pin3.1), fun there => (List.mem_cons.mp (I3.stkSub p0.1 there)).elim pin3.2.2.1 pin3.2.2.2.1, pin3.2.2.2.2⟩
  have pg := hg s3 (upd H2 D (.lst [])) s3.heap.objs.size (cellsFrom (s3.heap.objs.size + 1) scope.names (cloFrom X.env.cells scope.names [])) fp
  have pt := ht s3 (upd H2 D (.lst [])) s3.heap.objs.size (cellsFrom (s3.heap.objs.size + 1) scope.names (cloFrom X.env.cells scope.names [])) fp
  have pe := he s3 (upd H2 D (.lst [])) s3.heap.objs.size (cellsFrom (s3.heap.objs.size + 1) scope.names (cloFrom X.env.cells scope.names [])) fp
  show codeAny _ _ (.compStart (.ListComp elt [⟨tg, iter, ifs, 0⟩] scope pos) 0 (.ref it) (.ref D) (compEnvC scope (cellsFrom (s3.heap.objs.size + 1) scope.names (cloFrom X.env.cells scope.names [])) s3.heap.objs.size X.env)) (compPost (model X.prog X.w) X.A X.xe use Qf (.ref D) s3.heap.objs.size) { s3 with heap := pushCells (s3.heap.push { cls := .type "dict", data := .dict #[] }) scope.names }
  have nfp : ∀ b ∈ fp, (upd H2 D (.lst [])) b = none := fun b hb => (f3 b hb).1.1
  generalize hce : compEnvC scope (cellsFrom (s3.heap.objs.size + 1) scope.names (cloFrom X.env.cells scope.names [])) s3.heap.objs.size X.env = ce at I4 pg pt pe ⊢
  have cL : ce.locals = s3.heap.objs.size := by subst hce; rfl
  generalize hH3 : upd H2 D (.lst []) = H3 at I3 I4 pg pt pe w0 nfp f3
  generalize hs4 : ({ s3 with heap := pushCells (s3.heap.push { cls := .type "dict", data := .dict #[] }) scope.names } : Shared) = s4 at I4 ⊢
  have st4 : tn 0 s4.heap := T.keep _ _ _ st3 fun b _ o e => by rw [← hs4]; exact pushCells_keeps _ _ _ _ (Heap.get?_push_of_some _ e)
  have stat : ∀ {σ' : L2.St} {H' : Hp} {s' : Shared}, Inv (blkH X s3 H3 scope ce fp p0) [] σ' H' s' → (∀ b ∈ fp, H' b = none) → ∀ b ∈ fp, FpOk (blkH X s3 H3 scope ce fp p0) [] H' b := fun {σ' H' s'} I' hn b hb =>
    ⟨hn b hb, (I'.ok.exf b hb).1, I'.ok.exfs b hb, .inl hb, fun x c e => (I'.ok.exf b hb).2 x c e, fun p hp => by
      have e : p = p0 := by simpa using hp
      rw [e]
      exact (f2 b hb).2.2.2.2.2 p0 (List.mem_append_left _ hp0)⟩
  have hotB : L2H.HotC (blkH X s3 H3 scope ce fp p0) := ⟨p0, hot, List.mem_cons_self⟩
  have loop : codeAny (model X.prog X.w) X.A (.compLoop (.ListComp elt [⟨tg, iter, ifs, 0⟩] scope pos) 0 (.ref it) (.ref D) ce) (compPost (model X.prog X.w) X.A X.xe use Qf (.ref D) s3.heap.objs.size) s4 := by
    refine compLoop_any (fun n s' => ∃ i H', Inv (blkH X s3 H3 scope ce fp p0) [] (wipe σ (own.map (·.2))) H' s' ∧ tn i s'.heap ∧ (∀ b ∈ fp, H' b = none) ∧ W i n H') ?_ m0 ⟨0, H3, I4, st4, nfp, w0⟩
    rintro n s5 ⟨i, H5, I5, st5, n5, w5⟩
    rcases turn i n H5 w5 with ⟨stop, qq⟩ | ⟨go, Nx, hNx, step⟩
    · have td := T.done (blkH X s3 H3 scope ce fp p0) rfl rfl rfl hotB i [] s5 _ H5 (fun _ _ => False) I5 (stat I5 n5) st5 stop
      refine thnF td fun r s6 ⟨hr, I6⟩ => ?_
      subst hr
      -- back in the def's context
      have I7 : Inv X pins σ H5 s6 := I3.call' (ch := fp) I6.os I6.base I6.hok I6.bare fun b hb => ⟨(f3 b hb).1.2.2.2.1, (f3 b hb).1.2.1, (f3 b hb).1.2.2.2.2.1, (f3 b hb).1.2.2.2.2.2⟩
      have nC : H5 s3.heap.objs.size = none := by
        have z : H5 ce.locals = none := I6.free
        rw [cL] at z
        exact z
      obtain ⟨m, hn, _⟩ := I6.loc
      have hn : s6.heap.Ns ce.locals m := hn
      rw [cL] at hn
      exact hRR D s3.heap.objs.size s6 m H5 I7 qq hn (I3.fpOk (Nat.le_refl _) nC)
    · have ti := T.item (blkH X s3 H3 scope ce fp p0) rfl rfl rfl hotB i [] s5 _ H5 (fun _ _ => False) I5 (stat I5 n5) st5 go
      refine thnF ti fun r s6 ⟨u, hr, h6⟩ => ?_
      subst hr
      refine thnF h6 fun _ s7 ⟨x, H7, I7, r7, y7, st7, n7⟩ => ?_
      have I7' := I7.pinned (stat I7 n7) (T.obj _ _ st7)
      refine thnF (pg.run _ s7 _ H7 x u _ I7' r7 (step x H7 y7)) fun _ s8 ⟨σ8, H8, I8, hw8, q8⟩ => ?_
      refine thnF (pt.run _ s8 σ8 H8 _ I8 q8) fun b s9 ⟨H9, I9, q9⟩ => ?_
      -- the turn's end
      have fin : ∀ {s' : Shared} {H' : Hp}, Inv (blkH X s3 H3 scope ce fp p0) ([] ++ pinsAt fp s7.heap) σ8 H' s' → Nx H' → ∃ m, m < n ∧ ∃ i H', Inv (blkH X s3 H3 scope ce fp p0) [] (wipe σ (own.map (·.2))) H' s' ∧ tn i s'.heap ∧ (∀ b ∈ fp, H' b = none) ∧ W i m H' := fun {s' H'} I' nx => by
        obtain ⟨m', hm, w'⟩ := hNx H' nx
        have pin' : ∀ b ∈ fp, ∀ o, s7.heap.get? b = some o → s'.heap.get? b = some o ∧ H' b = none := fun b hb o e =>
          let z := I'.pin (b, o) (List.mem_append_right _ (List.mem_append_right _ (mem_pinsAt hb e)))
          ⟨z.1, z.2.1⟩
        have hl : (wipe σ (own.map (·.2))).length = σ8.length := by rw [← hw8, wipe_length]
        refine ⟨m', hm, i + 1, H', (I'.unpinned (pins := [])).weak hl (fun j v e => ?_), T.keep _ _ _ st7 fun b hb o e => (pin' b hb o e).1, fun b hb => ?_, w'⟩
        · rw [← hw8] at e
          exact (wipe_some e).1
        · obtain ⟨o, e, _⟩ := T.obj _ _ st7 b hb
          exact (pin' b hb o e).2
      cases b with
      | false =>
        simp only [Bool.false_eq_true, if_false] at q9 ⊢
        exact fin I9 q9
      | true =>
        simp only [if_true] at q9 ⊢
        refine thnF (pe.run _ s9 σ8 H9 _ I9 q9) fun z s10 ⟨yv, H10, I10, r10, acc, hD10, hz10, nx⟩ => ?_
        exact app_ok (X := blkH X s3 H3 scope ce fp p0) I10 hD10 hz10 r10 fun s11 I11 => fin I11 nx
  exact codeAny_compStart_list loop (T.self X.A 0 _ _ _ st4 loop)
/-- as a value -/
theorem pe_lcH {elt tg iter : Expr} {ifs : List Expr} {scope : Scope} {own : List (Str × Nat)} {pos : Pos} {wi : TI} {g : TG} {tt : TT} {te : TE} {p0 : Addr × Obj} (hot : L2H.Hot1 X.A p0) (hp0 : p0 ∈ X.pn) (hN : X.N.Nodup) (hi : L2H.PIH X tg iter wi) (ok : BlkOk X.N X.env.scope scope own)
    (hg : ∀ (s : Shared) (H : Hp) (C : Addr) (cl : List (Str × Addr)) (fp : List Addr), PG (blkH X s H scope (compEnvC scope cl C X.env) fp p0) tg g) (ht : ∀ (s : Shared) (H : Hp) (C : Addr) (cl : List (Str × Addr)) (fp : List Addr), PTs (blkH X s H scope (compEnvC scope cl C X.env) fp p0) ifs tt)
    (he : ∀ (s : Shared) (H : Hp) (C : Addr) (cl : List (Str × Addr)) (fp : List Addr), PE (blkH X s H scope (compEnvC scope cl C X.env) fp p0) elt te) (hs : ∀ x, foldedSetIterable iter X.env x = pure x := by intro _; rfl) :
    PE X (.ListComp elt [⟨tg, iter, ifs, 0⟩] scope pos) (tLc wi g tt te (own.map (·.2))) := by
  refine ⟨fun pins s σ H Q I h => ?_⟩
  rw [eval_ListComp]
  refine lc_coreH hot hp0 hN I hi ok hg ht he hs h fun D C s' m H' I' q hn f => ⟨m, hn, fun h'' sb => ?_⟩
  obtain ⟨f0, f1, f2, f3, f4, f5⟩ := f
  exact ⟨.ref D, H', I'.turned (t' := s'.toks) (fun b o hb e => (sb.2 b hb).trans e) f0 f1 f3 f4 f5, rfl, q⟩
end
section
variable {X : Cx}
/-- err.f, err a value of some own class -/
theorem pe_xkE {e : Expr} {te : TE} {pos : Pos} {n : Str} (he : PE X e te) (hb : attributeBase e n X.env (eval e X.env) = eval e X.env := by rfl) :
    PE X (.Attribute e n pos) (fun σ H Q => te σ H fun x H1 => ∃ (C a dd : Addr) (fs : List (Str × V)) (v : V), XfC X.K C ∧ PySem.W.findIn X.K (.ref C) n = some none ∧ x = .ref a ∧ H1 a = some (xo a (.ref C) (some dd)) ∧ H1 dd = some (.xd fs) ∧ fs.lookup n = some v ∧ Q v H1) := by
  refine ⟨fun pins s σ H Q I h => ?_⟩
  refine attr_of hb (thn (he.run pins s σ H _ I h) fun u s1 there => ?_)
  obtain ⟨x, H1, I1, rx, C, a, dd, fs, v, T, hno, rfl, ha, hd, l, q⟩ := there
  obtain rfl : u = Value.ref a := rx
  obtain ⟨oe, vs, at1, z, f⟩ := xo_at I1.hok ha
  have ox : ObjOk X.prog X.w H1 s1.heap dd (.xd fs) := I1.hok dd _ hd
  obtain ⟨mA, hns, hr⟩ := ox
  obtain ⟨od, ho, hl⟩ := lookIn_ns hns
  obtain ⟨u, hu, ru⟩ := RelO.some_of (v := v) (o := mA n) (by rw [← l]; exact hr n)
  have J : PySem.W.InstAt s1.heap a oe C (some od) := ⟨at1, z.1, by unfold PySem.W.notCls; rw [f] <;> rfl, by rw [z.2]; exact ho⟩
  exact HandSPX.exc_get I1.kIn J T.ga T.gg T.exC (PySem.W.findObj_own T.hdC hno rfl (by rw [hl, hu])) (handed_of ru) ⟨v, H1, I1.tok _, ru, q⟩
/-- repr of a whole number or of a text -/
theorem repr_txt : CallR X (.builtin "repr") (fun xs H Q => ∃ a, xs = [.str a] ∧ (PySem.reprText a).length ≤ sizeLine ∧ Q (.str (PySem.reprText a)) H) := by
  intro pins s σ H xs us Q I r h
  obtain ⟨a, rfl, hz, q⟩ := h
  obtain ⟨u, rfl, t, rfl⟩ := vals1 r
  exact PySem.P.repr_of_str ⟨.str _, H, I.tok _, ⟨_, rfl⟩, q⟩ hz
theorem repr_is : CallR X (.builtin "repr") (fun xs H Q => (∃ i, xs = [.int i] ∧ i.natAbs.log2 < 1920 ∧ Q (.str (toString i)) H) ∨ ∃ a, xs = [.str a] ∧ (PySem.reprText a).length ≤ sizeLine ∧ Q (.str (PySem.reprText a)) H) := CallR.or SkE.call_repr_int repr_txt
end
end CB

set_option Elab.async false
set_option linter.all false
set_option maxRecDepth 100000
set_option maxHeartbeats 4000000
namespace LW
open PySem PySem.Spec PyProof.Rows L2 CB
def topS (i : Nat) : Stmt := PySem.Challenge.pw_curvekept_k02_refusals.main.body.getD i (.Pass ⟨0, 0, 0, 0⟩)
abbrev nm__law_deal : List Str := ["_law_script", "_law_base", "_law_some", "_law_one", "_law_number"]
abbrev st__law_deal : Stmt := topS 8
theorem sc__law_deal : FnScope ["_law_script", "_law_base", "_law_some", "_law_one", "_law_number"] ["_law_script", "_law_base"] (defScope st__law_deal) := ⟨rfl, rfl, rfl, by decide +kernel, rfl, by decide +kernel, by decide +kernel⟩

abbrev nm__law_draw : List Str := ["_law_deal_here", "_law_many", "_law_number", "_law_one", "_law_other"]
abbrev st__law_draw : Stmt := topS 9
theorem sc__law_draw : FnScope ["_law_deal_here", "_law_many", "_law_number", "_law_one", "_law_other"] ["_law_deal_here", "_law_many"] (defScope st__law_draw) := ⟨rfl, rfl, rfl, by decide +kernel, rfl, by decide +kernel, by decide +kernel⟩

abbrev nm__law_made : List Str := ["_law_deal_here", "_law_a", "_law_b", "_law_word", "_law_some"]
abbrev st__law_made : Stmt := topS 10
theorem sc__law_made : FnScope ["_law_deal_here", "_law_a", "_law_b", "_law_word", "_law_some"] ["_law_deal_here"] (defScope st__law_made) := ⟨rfl, rfl, rfl, by decide +kernel, rfl, by decide +kernel, by decide +kernel⟩

abbrev nm__law_field : List Str := ["_law_one", "_law_key"]
abbrev st__law_field : Stmt := topS 11
theorem sc__law_field : FnScope ["_law_one", "_law_key"] ["_law_one", "_law_key"] (defScope st__law_field) := ⟨rfl, rfl, rfl, by decide +kernel, rfl, by decide +kernel, by decide +kernel⟩

abbrev nm__law_sort : List Str := ["_law_one", "_law_found", "_law_k"]
abbrev st__law_sort : Stmt := topS 12
theorem sc__law_sort : FnScope ["_law_one", "_law_found", "_law_k"] ["_law_one"] (defScope st__law_sort) := ⟨rfl, rfl, rfl, by decide +kernel, rfl, by decide +kernel, by decide +kernel⟩

abbrev nm__law_raised : List Str := ["_law_k", "_law_one"]
abbrev st__law_raised : Stmt := topS 13
theorem sc__law_raised : FnScope ["_law_k", "_law_one"] ["_law_k", "_law_one"] (defScope st__law_raised) := ⟨rfl, rfl, rfl, by decide +kernel, rfl, by decide +kernel, by decide +kernel⟩

abbrev nm__law_caught : List Str := ["_law_k", "_law_one", "_law_found", "e"]
abbrev st__law_caught : Stmt := topS 14
theorem sc__law_caught : FnScope ["_law_k", "_law_one", "_law_found", "e"] ["_law_k", "_law_one"] (defScope st__law_caught) := ⟨rfl, rfl, rfl, by decide +kernel, rfl, by decide +kernel, by decide +kernel⟩

abbrev nm_law : List Str := ["_law_script", "_law_deal_here", "_law_both", "_law_some", "_law_k", "_law_one", "_law_fields", "_law_key"]
abbrev st_law : Stmt := topS 15
theorem sc_law : FnScope ["_law_script", "_law_deal_here", "_law_both", "_law_some", "_law_k", "_law_one", "_law_fields", "_law_key"] ["_law_script"] (defScope st_law) := ⟨rfl, rfl, rfl, by decide +kernel, rfl, by decide +kernel, by decide +kernel⟩

abbrev nm_BadText__init__ : List Str := ["self", "row"]
abbrev st_BadText__init__ : Stmt := inClass (topS 2) 0
theorem sc_BadText__init__ : FnScope ["self", "row"] ["self", "row"] (defScope st_BadText__init__) := ⟨rfl, rfl, rfl, by decide +kernel, rfl, by decide +kernel, by decide +kernel⟩

abbrev nm_NoProgram__init__ : List Str := ["self", "word", "part", "row"]
abbrev st_NoProgram__init__ : Stmt := inClass (topS 3) 0
theorem sc_NoProgram__init__ : FnScope ["self", "word", "part", "row"] ["self", "word", "part", "row"] (defScope st_NoProgram__init__) := ⟨rfl, rfl, rfl, by decide +kernel, rfl, by decide +kernel, by decide +kernel⟩

abbrev nm_NoPaper__init__ : List Str := ["self", "part", "row"]
abbrev st_NoPaper__init__ : Stmt := inClass (topS 4) 0
theorem sc_NoPaper__init__ : FnScope ["self", "part", "row"] ["self", "part", "row"] (defScope st_NoPaper__init__) := ⟨rfl, rfl, rfl, by decide +kernel, rfl, by decide +kernel, by decide +kernel⟩

/-! ### what the top leaves -/
structure Txt (K : PySem.W.Frag) (mg : Str → Option Value) where
  c_CurveError : Addr
  gC_CurveError : mg "CurveError" = some (.ref c_CurveError)
  c_BadText : Addr
  gC_BadText : mg "BadText" = some (.ref c_BadText)
  c_NoProgram : Addr
  gC_NoProgram : mg "NoProgram" = some (.ref c_NoProgram)
  c_NoPaper : Addr
  gC_NoPaper : mg "NoPaper" = some (.ref c_NoPaper)
  c_NoFit : Addr
  gC_NoFit : mg "NoFit" = some (.ref c_NoFit)
  c_NoRow : Addr
  gC_NoRow : mg "NoRow" = some (.ref c_NoRow)
  eC_BadText : PySem.W.subIn K (.ref c_BadText) (.type "BaseException") = some true
  tC_BadText : PySem.W.typeIn K (.ref c_BadText) = some (.type "type")
  kC_BadText : PySem.W.keepIn K (.ref c_BadText) = true
  ki_ve_BadText : PySem.W.kitOne K (.ref c_BadText) (.type "ValueError") = some true
  ki_BadText_BadText : PySem.W.kitOne K (.ref c_BadText) (.ref c_BadText) = some true
  ki_NoProgram_BadText : PySem.W.kitOne K (.ref c_BadText) (.ref c_NoProgram) = some false
  ki_NoPaper_BadText : PySem.W.kitOne K (.ref c_BadText) (.ref c_NoPaper) = some false
  ki_NoFit_BadText : PySem.W.kitOne K (.ref c_BadText) (.ref c_NoFit) = some false
  ki_NoRow_BadText : PySem.W.kitOne K (.ref c_BadText) (.ref c_NoRow) = some false
  x_BadText : ExcC K c_BadText
  te_BadText : PySem.W.exmOne K (.ref c_BadText) (.ref c_CurveError) = some true
  no_BadText_row : PySem.W.findIn K (.ref c_BadText) "row" = some none
  ox_BadText : OexC K c_BadText
  xf_BadText : XfC K c_BadText
  eC_NoProgram : PySem.W.subIn K (.ref c_NoProgram) (.type "BaseException") = some true
  tC_NoProgram : PySem.W.typeIn K (.ref c_NoProgram) = some (.type "type")
  kC_NoProgram : PySem.W.keepIn K (.ref c_NoProgram) = true
  ki_ve_NoProgram : PySem.W.kitOne K (.ref c_NoProgram) (.type "ValueError") = some true
  ki_BadText_NoProgram : PySem.W.kitOne K (.ref c_NoProgram) (.ref c_BadText) = some false
  ki_NoProgram_NoProgram : PySem.W.kitOne K (.ref c_NoProgram) (.ref c_NoProgram) = some true
  ki_NoPaper_NoProgram : PySem.W.kitOne K (.ref c_NoProgram) (.ref c_NoPaper) = some false
  ki_NoFit_NoProgram : PySem.W.kitOne K (.ref c_NoProgram) (.ref c_NoFit) = some false
  ki_NoRow_NoProgram : PySem.W.kitOne K (.ref c_NoProgram) (.ref c_NoRow) = some false
  x_NoProgram : ExcC K c_NoProgram
  te_NoProgram : PySem.W.exmOne K (.ref c_NoProgram) (.ref c_CurveError) = some true
  no_NoProgram_word : PySem.W.findIn K (.ref c_NoProgram) "word" = some none
  no_NoProgram_part : PySem.W.findIn K (.ref c_NoProgram) "part" = some none
  no_NoProgram_row : PySem.W.findIn K (.ref c_NoProgram) "row" = some none
  ox_NoProgram : OexC K c_NoProgram
  xf_NoProgram : XfC K c_NoProgram
  eC_NoPaper : PySem.W.subIn K (.ref c_NoPaper) (.type "BaseException") = some true
  tC_NoPaper : PySem.W.typeIn K (.ref c_NoPaper) = some (.type "type")
  kC_NoPaper : PySem.W.keepIn K (.ref c_NoPaper) = true
  ki_ve_NoPaper : PySem.W.kitOne K (.ref c_NoPaper) (.type "ValueError") = some true
  ki_BadText_NoPaper : PySem.W.kitOne K (.ref c_NoPaper) (.ref c_BadText) = some false
  ki_NoProgram_NoPaper : PySem.W.kitOne K (.ref c_NoPaper) (.ref c_NoProgram) = some false
  ki_NoPaper_NoPaper : PySem.W.kitOne K (.ref c_NoPaper) (.ref c_NoPaper) = some true
  ki_NoFit_NoPaper : PySem.W.kitOne K (.ref c_NoPaper) (.ref c_NoFit) = some false
  ki_NoRow_NoPaper : PySem.W.kitOne K (.ref c_NoPaper) (.ref c_NoRow) = some false
  x_NoPaper : ExcC K c_NoPaper
  te_NoPaper : PySem.W.exmOne K (.ref c_NoPaper) (.ref c_CurveError) = some true
  no_NoPaper_part : PySem.W.findIn K (.ref c_NoPaper) "part" = some none
  no_NoPaper_row : PySem.W.findIn K (.ref c_NoPaper) "row" = some none
  ox_NoPaper : OexC K c_NoPaper
  xf_NoPaper : XfC K c_NoPaper
  eC_NoFit : PySem.W.subIn K (.ref c_NoFit) (.type "BaseException") = some true
  tC_NoFit : PySem.W.typeIn K (.ref c_NoFit) = some (.type "type")
  kC_NoFit : PySem.W.keepIn K (.ref c_NoFit) = true
  ki_ve_NoFit : PySem.W.kitOne K (.ref c_NoFit) (.type "ValueError") = some true
  ki_BadText_NoFit : PySem.W.kitOne K (.ref c_NoFit) (.ref c_BadText) = some false
  ki_NoProgram_NoFit : PySem.W.kitOne K (.ref c_NoFit) (.ref c_NoProgram) = some false
  ki_NoPaper_NoFit : PySem.W.kitOne K (.ref c_NoFit) (.ref c_NoPaper) = some false
  ki_NoFit_NoFit : PySem.W.kitOne K (.ref c_NoFit) (.ref c_NoFit) = some true
  ki_NoRow_NoFit : PySem.W.kitOne K (.ref c_NoFit) (.ref c_NoRow) = some false
  x_NoFit : ExcC K c_NoFit
  te_NoFit : PySem.W.exmOne K (.ref c_NoFit) (.ref c_CurveError) = some true
  q_NoFit : PySem.W.excIn K c_NoFit [.type "ValueError", .type "Exception", .type "BaseException", .type "object"] "ValueError.__new__" = true
  eC_NoRow : PySem.W.subIn K (.ref c_NoRow) (.type "BaseException") = some true
  tC_NoRow : PySem.W.typeIn K (.ref c_NoRow) = some (.type "type")
  kC_NoRow : PySem.W.keepIn K (.ref c_NoRow) = true
  ki_ve_NoRow : PySem.W.kitOne K (.ref c_NoRow) (.type "ValueError") = some true
  ki_BadText_NoRow : PySem.W.kitOne K (.ref c_NoRow) (.ref c_BadText) = some false
  ki_NoProgram_NoRow : PySem.W.kitOne K (.ref c_NoRow) (.ref c_NoProgram) = some false
  ki_NoPaper_NoRow : PySem.W.kitOne K (.ref c_NoRow) (.ref c_NoPaper) = some false
  ki_NoFit_NoRow : PySem.W.kitOne K (.ref c_NoRow) (.ref c_NoFit) = some false
  ki_NoRow_NoRow : PySem.W.kitOne K (.ref c_NoRow) (.ref c_NoRow) = some true
  x_NoRow : ExcC K c_NoRow
  te_NoRow : PySem.W.exmOne K (.ref c_NoRow) (.ref c_CurveError) = some true
  q_NoRow : PySem.W.excIn K c_NoRow [.type "ValueError", .type "Exception", .type "BaseException", .type "object"] "ValueError.__new__" = true
  f__law_deal : Addr
  fd__law_deal : FuncData
  F__law_deal : Fun K "_law_deal" "_law_deal" st__law_deal f__law_deal fd__law_deal
  b__law_deal : Binds K fd__law_deal ["_law_script", "_law_base"] []
  g__law_deal : mg "_law_deal" = some (.ref f__law_deal)
  f__law_draw : Addr
  fd__law_draw : FuncData
  F__law_draw : Fun K "_law_draw" "_law_draw" st__law_draw f__law_draw fd__law_draw
  b__law_draw : Binds K fd__law_draw ["_law_deal_here", "_law_many"] []
  g__law_draw : mg "_law_draw" = some (.ref f__law_draw)
  f__law_made : Addr
  fd__law_made : FuncData
  F__law_made : Fun K "_law_made" "_law_made" st__law_made f__law_made fd__law_made
  b__law_made : Binds K fd__law_made ["_law_deal_here"] []
  g__law_made : mg "_law_made" = some (.ref f__law_made)
  f__law_field : Addr
  fd__law_field : FuncData
  F__law_field : Fun K "_law_field" "_law_field" st__law_field f__law_field fd__law_field
  b__law_field : Binds K fd__law_field ["_law_one", "_law_key"] []
  g__law_field : mg "_law_field" = some (.ref f__law_field)
  f__law_sort : Addr
  fd__law_sort : FuncData
  F__law_sort : Fun K "_law_sort" "_law_sort" st__law_sort f__law_sort fd__law_sort
  b__law_sort : Binds K fd__law_sort ["_law_one"] []
  g__law_sort : mg "_law_sort" = some (.ref f__law_sort)
  f__law_raised : Addr
  fd__law_raised : FuncData
  F__law_raised : Fun K "_law_raised" "_law_raised" st__law_raised f__law_raised fd__law_raised
  b__law_raised : Binds K fd__law_raised ["_law_k", "_law_one"] []
  g__law_raised : mg "_law_raised" = some (.ref f__law_raised)
  f__law_caught : Addr
  fd__law_caught : FuncData
  F__law_caught : Fun K "_law_caught" "_law_caught" st__law_caught f__law_caught fd__law_caught
  b__law_caught : Binds K fd__law_caught ["_law_k", "_law_one"] []
  g__law_caught : mg "_law_caught" = some (.ref f__law_caught)
  f_law : Addr
  fd_law : FuncData
  F_law : Fun K "law" "law" st_law f_law fd_law
  b_law : Binds K fd_law ["_law_script"] []
  g_law : mg "law" = some (.ref f_law)
  f_BadText__init__ : Addr
  fd_BadText__init__ : FuncData
  F_BadText__init__ : Fun K "__init__" "BadText.__init__" st_BadText__init__ f_BadText__init__ fd_BadText__init__
  b_BadText__init__ : Binds K fd_BadText__init__ ["self", "row"] []
  i_BadText__init__ : PySem.W.findIn K (.ref c_BadText) "__init__" = some (some (.ref f_BadText__init__))
  t_BadText__init__ : PySem.W.typeIn K (.ref f_BadText__init__) = some (.type "function")
  f_NoProgram__init__ : Addr
  fd_NoProgram__init__ : FuncData
  F_NoProgram__init__ : Fun K "__init__" "NoProgram.__init__" st_NoProgram__init__ f_NoProgram__init__ fd_NoProgram__init__
  b_NoProgram__init__ : Binds K fd_NoProgram__init__ ["self", "word", "part", "row"] []
  i_NoProgram__init__ : PySem.W.findIn K (.ref c_NoProgram) "__init__" = some (some (.ref f_NoProgram__init__))
  t_NoProgram__init__ : PySem.W.typeIn K (.ref f_NoProgram__init__) = some (.type "function")
  f_NoPaper__init__ : Addr
  fd_NoPaper__init__ : FuncData
  F_NoPaper__init__ : Fun K "__init__" "NoPaper.__init__" st_NoPaper__init__ f_NoPaper__init__ fd_NoPaper__init__
  b_NoPaper__init__ : Binds K fd_NoPaper__init__ ["self", "part", "row"] []
  i_NoPaper__init__ : PySem.W.findIn K (.ref c_NoPaper) "__init__" = some (some (.ref f_NoPaper__init__))
  t_NoPaper__init__ : PySem.W.typeIn K (.ref f_NoPaper__init__) = some (.type "function")
  z_ValueError : mg "ValueError" = none
  z_isinstance : mg "isinstance" = none
  z_len : mg "len" = none
  z_list : mg "list" = none
  z_max : mg "max" = none
  z_range : mg "range" = none
  z_repr : mg "repr" = none
  z_reversed : mg "reversed" = none
section
variable {P : Program} {w : World} {K : PySem.W.Frag} {mg : Str → Option Value} {base : Heap}
/-! ### a draw -/
theorem ok_draw {k : Nat} (T : Txt K mg) : FnOk P w K mg base CX0 (k + 1) T.f__law_draw T.fd__law_draw ["_law_deal_here", "_law_many"] sp_draw := by
  refine T.F__law_draw.ok sc__law_draw (fun vs H Q E h => ?_) (fun cdv A outer s H vs Q E hr h => ?_)
  · obtain ⟨d, l, m, rfl, _⟩ := h
    rfl
  · obtain ⟨d, l, m, rfl, hD, m0, m1, q⟩ := h
    have hu := hu_of hr
    refine ⟨_, (Evl.pss_cut (ps_while PassesOwn.never (PW.pt (pw_and (pt_cmpR op_eq (pe_dget hu (pv 0) pe_str (fun _ _ => rfl)) pe_int (nomark _)) (pw_and1 (pt_cmpR op_gt (pe_callB (call_lenK (K := K)) (by rfl) T.z_len bt_len (pa_cons (pe_dget hu (pv 0) pe_str (fun _ _ => rfl)) pa_nil)) pe_int (nomark _)))))
        (pss_one (ps_dput hu (pv 0) pe_str (pe_bm0 PySem.F.plainAttrs_list PySem.F.slot_list_pop PySem.F.type_list_pop mt_pop (pe_dget hu (pv 0) pe_str (fun _ _ => rfl))) rfl)))
      (pss_cons (ps_set (i := 2) sc__law_draw.nd rfl (Or.inl rfl) (pe_dget hu (pv 0) pe_str (fun _ _ => rfl)))
      (pss_cons (ps_if (pt_cmpR op_gt (pv 2) pe_int (nomark _)) (pss_cons (ps_dput hu (pv 0) pe_str (pe_op op_fdivN (pv 2) (pv 1)) rfl)
        (pss_one (ps_ret (pe_op op_modN (pv 2) (pv 1))))) pss_nil)
      (pss_cons (ps_set (i := 3) sc__law_draw.nd rfl (Or.inl rfl) (pe_op op_modN (pe_op op_add (pe_op op_mul (pe_dget hu (pv 0) pe_str (fun _ _ => rfl)) pe_int) pe_int) pe_int))
      (pss_cons (ps_dput hu (pv 0) pe_str (pe_op op_modN (pe_op op_add (pe_op op_mul (pv 3) pe_int) pe_int) pe_int) rfl)
      (pss_cons (ps_set (i := 4) sc__law_draw.nd rfl (Or.inl rfl) (pe_op op_modN (pe_op op_mul (pe_dget hu (pv 0) pe_str (fun _ _ => rfl)) (pe_dget hu (pv 0) pe_str (fun _ _ => rfl))) pe_int))
      (pss_one (ps_ret (pe_op op_modN (pe_op op_add (pe_op op_mul (pe_op op_modN (pe_op op_mul (pv 3) (pv 3)) pe_int) pe_int) (pv 4)) (pv 1)))))))))), ?_⟩
    refine ⟨fun σ H1 => ∃ s n ls, σ = [some (.ref d), some (.int m), none, none, none] ∧ Deal H1 d l s n ls ∧ (∀ b, b ≠ d → b ≠ l → H1 b = H b), ?_, ?_⟩
    · refine ⟨fun mm σ H1 => ∃ s n ls, σ = [some (.ref d), some (.int m), none, none, none] ∧ Deal H1 d l s n ls ∧ ls.length = mm ∧ (∀ b, b ≠ d → b ≠ l → H1 b = H b), ?_, ?_⟩
      · obtain ⟨s, n, ls, h⟩ := hD
        exact ⟨_, s, n, ls, rfl, h, rfl, fun _ _ _ => rfl⟩
      · rintro mm σ H1 ⟨s, n, ls, rfl, D, el, fr⟩
        refine ⟨.ref d, rfl, d, .int n, rfl, D.g_number, rfl, _, rfl, ite2 (fun e => ?_) (fun e => ⟨s, n, ls, rfl, D, fr⟩)⟩
        refine ⟨.ref d, rfl, d, .ref l, rfl, D.g_left, l, ls.map V.int, rfl, .inl (SqL.of D.hl), _, _, rfl, rfl, _, rfl, ite2 (fun e2 => ?_) (fun e2 => ⟨s, n, ls, rfl, D, fr⟩)⟩
        refine ⟨_, fun σ' H' h => h, ?_⟩
        have hls : ls ≠ [] := fun z => by
          subst z
          exact absurd (of_decide_eq_true e2) (by simp)
        obtain ⟨y, y0, hy⟩ := D.last hls
        refine ⟨.ref d, rfl, d, .ref l, rfl, D.g_left, .inl ⟨rfl, _, SqL.of D.hl⟩, l, _, _, rfl, rfl, D.hl, hy, .ref d, rfl, d, _, rfl, (D.pop hls).p_number _, ls.length - 1, ?_, s, y, ls.dropLast, rfl, (D.pop hls).with_number (by omega), List.length_dropLast, fun b h1 h2 => ?_⟩
        · have : 0 < ls.length := List.length_pos_iff.mpr hls
          omega
        · rw [upd_ne h1, upd_ne h2]
          exact fr b h1 h2
    · rintro σ H1 ⟨s, n, ls, rfl, D, fr⟩
      refine ⟨.ref d, rfl, d, .int n, rfl, D.g_number, ?_⟩
      refine ⟨.int n, rfl, n, 0, rfl, rfl, _, rfl, ite2 (fun e => ?_) (fun e => ?_)⟩
      · have hn : 0 < n := of_decide_eq_true e
        refine ⟨.int n, rfl, .int m, rfl, n, m, rfl, rfl, ⟨by omega, by omega⟩, .ref d, rfl, d, _, rfl, D.p_number _, ?_⟩
        refine ⟨.int n, rfl, .int m, rfl, n, m, rfl, rfl, by omega, ?_⟩
        have e1 : n.fmod m = n % m := Int.fmod_eq_emod_of_nonneg n (by omega)
        have e2 : n.fdiv m = n / m := Int.fdiv_eq_ediv_of_nonneg n (by omega)
        show Q (.int (n.fmod m)) (upd H1 d (.dK (dealD s (n.fdiv m) l)))
        rw [e1, e2]
        exact q _ _ (Int.emod_nonneg _ (by omega)) (Int.emod_lt_of_pos _ m0) ⟨_, _, _, D.with_number (Int.ediv_nonneg (by omega) (by omega))⟩ (Kp.of_draw fun b h1 h2 => by rw [upd_ne h1]; exact fr b h1 h2)
      · have fm : ∀ x k : Int, 0 < k → 0 ≤ x.fmod k ∧ x.fmod k < k := fun x k hk => by
          rw [Int.fmod_eq_emod_of_nonneg x (by omega)]
          exact ⟨Int.emod_nonneg _ (by omega), Int.emod_lt_of_pos _ hk⟩
        have z0 := D.s0
        have z1 := D.s1
        have b1 := fm (s * 48271 + 7919) 2147483647 (by omega)
        obtain ⟨one, hone⟩ : ∃ x, x = (s * 48271 + 7919).fmod 2147483647 := ⟨_, rfl⟩
        rw [← hone] at b1
        refine ⟨.ref d, rfl, d, .int s, rfl, D.g_seed, _, _, rfl, rfl, .inl ⟨by omega, by omega⟩, _, _, rfl, rfl, _, _, rfl, rfl, by dsimp only; decide, ?_⟩
        have b2 := fm (one * 40692 + 104729) 2147483399 (by omega)
        refine ⟨.int one, by rw [hone]; rfl, _, _, rfl, rfl, .inl ⟨by omega, by omega⟩, _, _, rfl, rfl, _, _, rfl, rfl, by dsimp only; decide, .ref d, rfl, d, _, rfl, D.p_seed _, ?_⟩
        have D2 := D.with_seed (m := (one * 40692 + 104729).fmod 2147483399) b2.1 (by omega)
        have b4 := fm (one * one) 2147483629 (by omega)
        refine ⟨.ref d, rfl, d, _, rfl, D2.g_seed, .ref d, rfl, d, _, rfl, D2.g_seed, _, _, rfl, rfl, .inl ⟨by omega, by omega⟩, _, _, rfl, rfl, by dsimp only; decide, ?_⟩
        refine ⟨.int one, by rw [hone]; rfl, .int one, by rw [hone]; rfl, _, _, rfl, rfl, .inl ⟨by omega, by omega⟩, _, _, rfl, rfl, by dsimp only; decide, _, _, rfl, rfl, .inl ⟨by omega, by omega⟩, _, rfl, _, _, rfl, rfl, .int m, rfl, _, _, rfl, rfl, by dsimp only; omega, ?_⟩
        exact q _ _ (fm _ m m0).1 (fm _ m m0).2 ⟨_, _, _, D2⟩ (Kp.of_draw fun b h1 h2 => by rw [upd_ne h1]; exact fr b h1 h2)

/-! ### the deal -/
theorem ok_deal {k : Nat} (T : Txt K mg) : FnOk P w K mg base CX0 (k + 1) T.f__law_deal T.fd__law_deal ["_law_script", "_law_base"] (sp_deal K) := by
  refine T.F__law_deal.ok sc__law_deal (fun vs H Q E h => ?_) (fun cdv A outer s H vs Q E hr h => ?_)
  · obtain ⟨a, ns, b, rfl, _⟩ := h
    rfl
  · obtain ⟨a, ns, b, rfl, hS, hlen, b0, b1, q⟩ := h
    refine ⟨_, (pss_cons (ps_setLc (i := 2) (own := [("_law_one", 3)]) (g := gName 3) (tt := tYes) rfl sc__law_deal.nd rfl rfl (sw_true rfl rfl rfl (by decide +kernel)) (pi_listK (K := K) (pe_slice (sl_listK (K := K)) (pv 0) (po_some (pv 1)) (po_some pe_int))) (blkOk_by (own := [("_law_one", 3)]) (N := nm__law_deal) (sc := defScope st__law_deal) (by decide +kernel)) (fun _ _ _ _ _ => (pg_name (i := 3) sc__law_deal.nd rfl (Or.inl rfl))) (fun _ _ _ _ _ => pts_nil) (fun _ _ _ _ _ => (pe_callB (call_max2 rfl) (by rfl) T.z_max bt_max (pa_cons (pv 3) (pa_cons (pe_op op_sub pe_int (pv 3)) pa_nil)))))
      (pss_cons (ps_set (i := 4) sc__law_deal.nd rfl (Or.inl rfl) (pe_op op_add pe_int (pv 1)))
      (Evl.pss_cut (ps_for PassesOwn.never rfl (pi_listK (K := K) (pv 2)) (pg_name (i := 3) sc__law_deal.nd rfl (Or.inl rfl))
        (pss_one (ps_set (i := 4) sc__law_deal.nd rfl (Or.inl rfl) (pe_op op_modN (pe_op op_add (pe_op op_mul (pv 4) pe_int) (pe_op op_modN (pv 3) pe_int)) pe_int))))
      (pss_one (ps_ret (pe_disp (pps_cons pe_str (pv 4) (pps_cons pe_str pe_int (pps_cons pe_str (pe_listRev (K := K) rfl (by rfl) T.z_list (by rfl) T.z_reversed (pe_lc (own := [("_law_one", 3)]) (g := gName 3) rfl sc__law_deal.nd (pi_listK (K := K) (pv 2)) (blkOk_by (own := [("_law_one", 3)]) (N := nm__law_deal) (sc := defScope st__law_deal) (by decide +kernel)) (fun _ _ _ _ _ => (pg_name (i := 3) sc__law_deal.nd rfl (Or.inl rfl))) (fun _ _ _ _ _ => (pts_one (pt_cmpR op_ge (pv 3) (pe_op op_pow pe_int pe_int) (nomark _)))) (fun _ _ _ _ _ => (pv 3)))) pps_nil))) (by rfl) (by rfl) (fun z => by cases z) (by decide))))))), ?_⟩
    refine ⟨.ref a, rfl, .int b, rfl, b, rfl, 63, rfl, a, _, rfl, hS, fun p np => ⟨p, rfl, ⟨_, SqL.of upd_same⟩, fun D nD => ?_⟩⟩
    obtain ⟨ms, ems, lms⟩ := cut_ints ns (some b) (some 63)
    rw [ems] at nD ⊢
    have x0 : Ex H (upd H p (.lst (ms.map V.int))) := Evl.Ex.new np
    have hDp : D ≠ p := fun e => by rw [e, upd_same] at nD; cases nD
    have nDH : H D = none := Evl.fresh_back x0 nD
    refine lc_list (K := K) (a := p) (xs := ms.map V.int) (fun i H' => Ex H H' ∧ H' p = some (.lst (ms.map V.int)) ∧ ∃ bs : List Int, bs.length = i ∧ H' D = some (.lst (bs.map V.int))) ⟨x0.trans (Evl.Ex.new nD), by rw [upd_ne hDp.symm, upd_same], [], rfl, upd_same⟩ (fun i H' _ h => SqL.of h.2.1) (fun i x H' hx h => ?_) (fun H' h => ?_)
    · obtain ⟨x1, hp, bs, el, hb⟩ := h
      obtain ⟨z, rfl⟩ : ∃ z, x = .int z := by
        rw [List.getElem?_map] at hx
        obtain ⟨z, _, e⟩ := Option.map_eq_some_iff.mp hx
        exact ⟨z, e.symm⟩
      have hi : i < ms.length := by
        have := (List.getElem?_eq_some_iff.mp hx).1
        rw [List.length_map] at this
        exact this
      refine ⟨rfl, .int z, rfl, _, rfl, _, _, rfl, rfl, _, _, rfl, bs.map V.int, hb, small1000 (by rw [List.length_map]; omega), Evl.Ex.mut x1 nDH, by rw [upd_ne hDp.symm]; exact hp, bs ++ [_], by rw [List.length_append, el]; rfl, by rw [upd_same, List.map_append]; rfl⟩
    · obtain ⟨x1, hp, bs, el, hb⟩ := h
      rw [List.length_map] at el
      refine ⟨.int b, rfl, _, _, rfl, rfl, ?_⟩
      refine ⟨fun σ H3 => ∃ n, σ = [some (.ref a), some (.int b), some (.ref D), σ.getD 3 none, some (.int n)] ∧ 0 ≤ n ∧ n < 2147483648 ∧ H3 = H', ?_, ?_⟩
      · refine ⟨.ref D, rfl, D, rfl, ⟨_, SqL.of hb⟩, for_list (K := K) (a := D) (xs := bs.map V.int) (fun i σ H3 => ∃ n, σ = [some (.ref a), some (.int b), some (.ref D), σ.getD 3 none, some (.int n)] ∧ 0 ≤ n ∧ n < 2147483648 ∧ H3 = H') ⟨7919 + b, rfl, by omega, by omega, rfl⟩ (fun i σ H3 _ h => ?_) (fun i x σ H3 hx h => ?_) (fun σ H3 h => h)⟩
        · obtain ⟨n, _, _, _, rfl⟩ := h
          exact SqL.of hb
        · obtain ⟨n, e, n0, n1, rfl⟩ := h
          generalize σ.getD 3 none = y at e
          subst e
          obtain ⟨z, rfl⟩ : ∃ z, x = .int z := by
            rw [List.getElem?_map] at hx
            obtain ⟨z, _, e⟩ := Option.map_eq_some_iff.mp hx
            exact ⟨z, e.symm⟩
          refine ⟨.int n, rfl, _, _, rfl, rfl, .inl ⟨by omega, by omega⟩, .int z, rfl, _, _, rfl, rfl, by dsimp only; decide, _, _, rfl, rfl, _, _, rfl, rfl, by dsimp only; decide, ?_⟩
          exact ⟨_, rfl, (fmod_in _ _ (by decide)).1, Int.lt_trans (fmod_in _ 2147483647 (by decide)).2 (by decide), rfl⟩
      · rintro σ H3 ⟨n, e, n0, n1, rfl⟩
        generalize σ.getD 3 none = y at e
        subst e
        -- the dict
        intro d nd
        have ndH : H d = none := Evl.fresh_back x1 nd
        have hdD : D ≠ d := ne_of_none hb nd
        refine ⟨.int n, rfl, ?_⟩
        refine ⟨.ref D, rfl, D, rfl, ⟨_, SqL.of (by rw [upd_ne hdD]; exact hb)⟩, fun D2 nD2 => ?_⟩
        have hdD2 : D2 ≠ d := fun e => by rw [e, upd_same] at nD2; cases nD2
        have nD2H : H3 D2 = none := by rw [upd_ne hdD2] at nD2; exact nD2
        have hDD2 : D ≠ D2 := ne_of_none hb nD2H
        refine lc_list (K := K) (a := D) (xs := bs.map V.int) (fun i H' => Ex H H' ∧ H' D = some (.lst (bs.map V.int)) ∧ H' d = some (.dK []) ∧ ∃ cs : List Int, cs.length ≤ i ∧ (∀ x ∈ cs, 0 < x) ∧ H' D2 = some (.lst (cs.map V.int))) ⟨Evl.Ex.mut (Evl.Ex.mut x1 ndH) (Evl.fresh_back x1 nD2H), by rw [upd_ne hDD2, upd_ne hdD]; exact hb, by rw [upd_ne hdD2.symm, upd_same], [], by simp, fun x hx => by simp at hx, upd_same⟩ (fun i H' _ h => SqL.of h.2.1) (fun i x H' hx h => ?_) (fun H' h => ?_)
        · obtain ⟨x2, hb2, hd2, cs, lc, pc, hc⟩ := h
          obtain ⟨z, rfl⟩ : ∃ z, x = .int z := by
            rw [List.getElem?_map] at hx
            obtain ⟨z, _, e⟩ := Option.map_eq_some_iff.mp hx
            exact ⟨z, e.symm⟩
          have hi : i < bs.length := by
            have := (List.getElem?_eq_some_iff.mp hx).1
            rw [List.length_map] at this
            exact this
          refine ⟨rfl, .int z, rfl, _, _, rfl, rfl, ⟨by decide, by decide, by decide⟩, _, _, rfl, rfl, _, rfl, ite2 (fun e => ?_) (fun e => ?_)⟩
          · have hz : (10 : Int) ^ (18 : Int).toNat ≤ z := of_decide_eq_true e
            have hz0 : 0 < z := Int.lt_of_lt_of_le (by decide) hz
            refine ⟨.int z, rfl, cs.map V.int, hc, small1000 (by rw [List.length_map]; omega), Evl.Ex.mut x2 (Evl.fresh_back x1 nD2H), by rw [upd_ne hDD2]; exact hb2, by rw [upd_ne hdD2.symm]; exact hd2, cs ++ [z], by rw [List.length_append]; show cs.length + 1 ≤ i + 1; omega, fun x hx => ?_, by rw [upd_same, List.map_append]; rfl⟩
            rcases List.mem_append.mp hx with h | h
            · exact pc x h
            · rw [List.mem_singleton.mp h]; exact hz0
          · exact ⟨x2, hb2, hd2, cs, by omega, pc, hc⟩
        · obtain ⟨x2, hb2, hd2, cs, lc, pc, hc⟩ := h
          rw [List.length_map] at lc
          refine ⟨D2, _, rfl, SqL.of hc, fun l nl => ?_⟩
          have hdl : d ≠ l := ne_of_none hd2 nl
          refine ⟨by rw [upd_ne hdl]; exact hd2, dealD n 0 l, rfl, by show 3 ≤ 15; decide, ?_⟩
          rw [merge_deal]
          refine q d l _ (Evl.Ex.mut (Evl.Ex.mut x2 (Evl.fresh_back x2 nl)) ndH) ndH (Evl.fresh_back x2 nl) ⟨n, 0, cs.reverse, upd_same, ?_, n0, n1, by omega, fun x hx => pc x (List.mem_reverse.mp hx), by rw [List.length_reverse]; omega⟩
          rw [upd_ne hdl.symm, upd_same, List.map_reverse]

/-! ### the five classes -/
def clsOf (T : Txt K mg) : Nat → Addr
  | 0 => T.c_BadText
  | 1 => T.c_NoProgram
  | 2 => T.c_NoPaper
  | 3 => T.c_NoFit
  | _ => T.c_NoRow
theorem cls_x (T : Txt K mg) : ∀ k, ExcC K (clsOf T k)
  | 0 => T.x_BadText
  | 1 => T.x_NoProgram
  | 2 => T.x_NoPaper
  | 3 => T.x_NoFit
  | _ + 4 => T.x_NoRow
theorem cls_te (T : Txt K mg) : ∀ k, PySem.W.exmOne K (.ref (clsOf T k)) (.ref T.c_CurveError) = some true
  | 0 => T.te_BadText
  | 1 => T.te_NoProgram
  | 2 => T.te_NoPaper
  | 3 => T.te_NoFit
  | _ + 4 => T.te_NoRow
theorem cls_ve (T : Txt K mg) : ∀ k, PySem.W.kitOne K (.ref (clsOf T k)) (.type "ValueError") = some true
  | 0 => T.ki_ve_BadText
  | 1 => T.ki_ve_NoProgram
  | 2 => T.ki_ve_NoPaper
  | 3 => T.ki_ve_NoFit
  | _ + 4 => T.ki_ve_NoRow
theorem cls_k0 (T : Txt K mg) : ∀ k, k < 5 → PySem.W.kitOne K (.ref (clsOf T k)) (.ref T.c_BadText) = some (decide (k = 0))
  | 0, _ => T.ki_BadText_BadText
  | 1, _ => T.ki_BadText_NoProgram
  | 2, _ => T.ki_BadText_NoPaper
  | 3, _ => T.ki_BadText_NoFit
  | 4, _ => T.ki_BadText_NoRow
  | _ + 5, h => absurd h (by omega)
theorem cls_k1 (T : Txt K mg) : ∀ k, k < 5 → PySem.W.kitOne K (.ref (clsOf T k)) (.ref T.c_NoProgram) = some (decide (k = 1))
  | 0, _ => T.ki_NoProgram_BadText
  | 1, _ => T.ki_NoProgram_NoProgram
  | 2, _ => T.ki_NoProgram_NoPaper
  | 3, _ => T.ki_NoProgram_NoFit
  | 4, _ => T.ki_NoProgram_NoRow
  | _ + 5, h => absurd h (by omega)
theorem cls_k2 (T : Txt K mg) : ∀ k, k < 5 → PySem.W.kitOne K (.ref (clsOf T k)) (.ref T.c_NoPaper) = some (decide (k = 2))
  | 0, _ => T.ki_NoPaper_BadText
  | 1, _ => T.ki_NoPaper_NoProgram
  | 2, _ => T.ki_NoPaper_NoPaper
  | 3, _ => T.ki_NoPaper_NoFit
  | 4, _ => T.ki_NoPaper_NoRow
  | _ + 5, h => absurd h (by omega)
theorem cls_k3 (T : Txt K mg) : ∀ k, k < 5 → PySem.W.kitOne K (.ref (clsOf T k)) (.ref T.c_NoFit) = some (decide (k = 3))
  | 0, _ => T.ki_NoFit_BadText
  | 1, _ => T.ki_NoFit_NoProgram
  | 2, _ => T.ki_NoFit_NoPaper
  | 3, _ => T.ki_NoFit_NoFit
  | 4, _ => T.ki_NoFit_NoRow
  | _ + 5, h => absurd h (by omega)
theorem cls_k4 (T : Txt K mg) : ∀ k, k < 5 → PySem.W.kitOne K (.ref (clsOf T k)) (.ref T.c_NoRow) = some (decide (k = 4))
  | 0, _ => T.ki_NoRow_BadText
  | 1, _ => T.ki_NoRow_NoProgram
  | 2, _ => T.ki_NoRow_NoPaper
  | 3, _ => T.ki_NoRow_NoFit
  | 4, _ => T.ki_NoRow_NoRow
  | _ + 5, h => absurd h (by omega)
/-- the fields of the k-th class -/
def hasF (k : Nat) (z : Str) : Prop := (k < 3 ∧ z = "row") ∨ (k = 1 ∧ z = "word") ∨ (k = 1 ∧ z = "part") ∨ (k = 2 ∧ z = "part")
theorem cls_no (T : Txt K mg) {k : Nat} {z : Str} (h : hasF k z) : XfC K (clsOf T k) ∧ PySem.W.findIn K (.ref (clsOf T k)) z = some none := by
  rcases h with ⟨hk, rfl⟩ | ⟨rfl, rfl⟩ | ⟨rfl, rfl⟩ | ⟨rfl, rfl⟩
  · rcases (show k = 0 ∨ k = 1 ∨ k = 2 by omega) with rfl | rfl | rfl
    · exact ⟨T.xf_BadText, T.no_BadText_row⟩
    · exact ⟨T.xf_NoProgram, T.no_NoProgram_row⟩
    · exact ⟨T.xf_NoPaper, T.no_NoPaper_row⟩
  · exact ⟨T.xf_NoProgram, T.no_NoProgram_word⟩
  · exact ⟨T.xf_NoProgram, T.no_NoProgram_part⟩
  · exact ⟨T.xf_NoPaper, T.no_NoPaper_part⟩
/-- at x: an error of the k-th class with its fields fs -/
def RefP (T : Txt K mg) (H : Hp) (k : Nat) (x : Addr) (fs : List (Str × V)) : Prop :=
  ∃ d, H x = some (xo x (.ref (clsOf T k)) d) ∧ (k < 3 → ∃ dd, d = some dd ∧ H dd = some (.xd fs)) ∧ (3 ≤ k → d = none)
theorem RefP.dd {T : Txt K mg} {H : Hp} {k : Nat} {x : Addr} {fs : List (Str × V)} (r : RefP T H k x fs) : ∃ d, H x = some (xo x (.ref (clsOf T k)) d) ∧ ∀ y, d = some y → ∃ fs, H y = some (.xd fs) := by
  obtain ⟨d, h, h1, h2⟩ := r
  refine ⟨d, h, fun y e => ?_⟩
  by_cases hk : k < 3
  · obtain ⟨dd, e1, e2⟩ := h1 hk
    rw [e] at e1
    cases e1
    exact ⟨_, e2⟩
  · rw [h2 (by omega)] at e
    cases e
theorem RefP.kp {T : Txt K mg} {H H' : Hp} {k : Nat} {x : Addr} {fs : List (Str × V)} (r : RefP T H k x fs) (q : ∀ b o, (∀ kvs, o ≠ .dK kvs) → (∀ xs, o ≠ .lst xs) → H b = some o → H' b = some o) : RefP T H' k x fs := by
  obtain ⟨d, h, h1, h2⟩ := r
  refine ⟨d, q _ _ (fun _ z => by cases z) (fun _ z => by cases z) h, fun hk => ?_, h2⟩
  obtain ⟨dd, e1, e2⟩ := h1 hk
  exact ⟨dd, e1, q _ _ (fun _ z => by cases z) (fun _ z => by cases z) e2⟩
def spBt (C : Addr) : Sp := fun vs H Q _ => ∃ (a : Addr) (x : V), vs = [.ref a, x] ∧ H a = some (exo a C none) ∧
    ∀ d H', d ≠ a → H d = none → H' a = some (exo a C (some d)) → H' d = some (exd d [("row", x)]) → (∀ b, b ≠ a → b ≠ d → H' b = H b) → Q .non H'
def spPp (C : Addr) : Sp := fun vs H Q _ => ∃ (a : Addr) (x y : V), vs = [.ref a, x, y] ∧ H a = some (exo a C none) ∧
    ∀ d H', d ≠ a → H d = none → H' a = some (exo a C (some d)) → H' d = some (exd d [("row", y), ("part", x)]) → (∀ b, b ≠ a → b ≠ d → H' b = H b) → Q .non H'
theorem ok_btinit {k : Nat} (T : Txt K mg) : FnOk P w K mg base CX0 (k + 1) T.f_BadText__init__ T.fd_BadText__init__ ["self", "row"] (spBt T.c_BadText) := by
  refine T.F_BadText__init__.ok sc_BadText__init__ (fun vs H Q E h => ?_) (fun cdv A outer s H vs Q E hr h => ?_)
  · obtain ⟨a, x, rfl, _⟩ := h
    rfl
  · obtain ⟨a, x, rfl, ha, q⟩ := h
    refine ⟨_, (pss_one (ps_ost (pv 0) (pv 1))), ?_⟩
    refine ⟨x, rfl, .ref a, rfl, a, T.c_BadText, rfl, T.ox_BadText, T.no_BadText_row, .inl ⟨ha, fun d nd nda => ?_⟩⟩
    refine q d _ nda nd upd_same (by rw [upd_ne nda, upd_same]) fun b hba hbd => ?_
    rw [upd_ne hba, upd_ne hbd]
theorem ok_npinit {k : Nat} (T : Txt K mg) : FnOk P w K mg base CX0 (k + 1) T.f_NoProgram__init__ T.fd_NoProgram__init__ ["self", "word", "part", "row"] (sp_npinit K T.c_NoProgram) := by
  refine T.F_NoProgram__init__.ok sc_NoProgram__init__ (fun vs H Q E h => ?_) (fun cdv A outer s H vs Q E hr h => ?_)
  · obtain ⟨a, x, y, z, rfl, _⟩ := h
    rfl
  · obtain ⟨a, x, y, z, rfl, ha, q⟩ := h
    refine ⟨_, (pss_cons (ps_ost (pv 0) (pv 1))
      (pss_cons (ps_ost (pv 0) (pv 2))
      (pss_one (ps_ost (pv 0) (pv 3))))), ?_⟩
    refine ⟨x, rfl, .ref a, rfl, a, T.c_NoProgram, rfl, T.ox_NoProgram, T.no_NoProgram_word, .inl ⟨ha, fun d nd nda => ?_⟩⟩
    refine ⟨y, rfl, .ref a, rfl, a, T.c_NoProgram, rfl, T.ox_NoProgram, T.no_NoProgram_part, .inr ⟨d, _, upd_same, by rw [upd_ne nda, upd_same], by show 1 ≤ 900; decide, ?_⟩⟩
    refine ⟨z, rfl, .ref a, rfl, a, T.c_NoProgram, rfl, T.ox_NoProgram, T.no_NoProgram_row, .inr ⟨d, _, by rw [upd_ne nda.symm, upd_same], upd_same, by show 2 ≤ 900; decide, ?_⟩⟩
    refine q d _ nda nd (by rw [upd_ne nda.symm, upd_ne nda.symm, upd_same]) upd_same fun b hba hbd => ?_
    rw [upd_ne hbd, upd_ne hbd, upd_ne hba, upd_ne hbd]
theorem ok_ppinit {k : Nat} (T : Txt K mg) : FnOk P w K mg base CX0 (k + 1) T.f_NoPaper__init__ T.fd_NoPaper__init__ ["self", "part", "row"] (spPp T.c_NoPaper) := by
  refine T.F_NoPaper__init__.ok sc_NoPaper__init__ (fun vs H Q E h => ?_) (fun cdv A outer s H vs Q E hr h => ?_)
  · obtain ⟨a, x, y, rfl, _⟩ := h
    rfl
  · obtain ⟨a, x, y, rfl, ha, q⟩ := h
    refine ⟨_, (pss_cons (ps_ost (pv 0) (pv 1))
      (pss_one (ps_ost (pv 0) (pv 2)))), ?_⟩
    refine ⟨x, rfl, .ref a, rfl, a, T.c_NoPaper, rfl, T.ox_NoPaper, T.no_NoPaper_part, .inl ⟨ha, fun d nd nda => ?_⟩⟩
    refine ⟨y, rfl, .ref a, rfl, a, T.c_NoPaper, rfl, T.ox_NoPaper, T.no_NoPaper_row, .inr ⟨d, _, upd_same, by rw [upd_ne nda, upd_same], by show 1 ≤ 900; decide, ?_⟩⟩
    refine q d _ nda nd (by rw [upd_ne nda.symm, upd_same]) upd_same fun b hba hbd => ?_
    rw [upd_ne hbd, upd_ne hba, upd_ne hbd]
/-- what an error's making leaves: its dict beside what there was -/
theorem made_ex {H : Hp} {a d C : Addr} {H' : Hp} {fs : List (Str × V)} (na : H a = none) (nd : H d = none) (hrest : ∀ b, b ≠ a → b ≠ d → H' b = (upd H a (exo a C none)) b) : Evl.Ex H (upd (del H' a) d (.xd fs)) := fun b o e => by
  have hba : b ≠ a := fun z => by rw [z, na] at e; cases e
  have hbd : b ≠ d := fun z => by rw [z, nd] at e; cases e
  rw [upd_ne hbd, del_ne hba, hrest b hba hbd, upd_ne hba]
  exact e
def sp_field (T : Txt K mg) : Sp := fun vs H Q _ => ∃ (x : Addr) (z : Str) (k : Nat) (fs : List (Str × V)) (v : V), vs = [.ref x, .str z] ∧ hasF k z ∧ k < 3 ∧ RefP T H k x fs ∧ fs.lookup z = some v ∧ Q v H
theorem ok_field {k : Nat} (T : Txt K mg) : FnOk P w K mg base CX0 (k + 1) T.f__law_field T.fd__law_field ["_law_one", "_law_key"] (sp_field T) := by
  refine T.F__law_field.ok sc__law_field (fun vs H Q E h => ?_) (fun cdv A outer s H vs Q E hr h => ?_)
  · obtain ⟨x, z, k, fs, v, rfl, _⟩ := h
    rfl
  · obtain ⟨x, z, k, fs, v, rfl, hz, hk, ⟨d, hx, h1, h2⟩, lk, q⟩ := h
    obtain ⟨xf, no⟩ := cls_no T hz
    obtain ⟨dd, rfl, hd⟩ := h1 hk
    refine ⟨_, (pss_cons (ps_if (pt_cmpR op_eq (pv 1) pe_str (nomark _)) (pss_one (ps_ret (pe_xkE (pv 0)))) pss_nil)
      (pss_cons (ps_if (pt_cmpR op_eq (pv 1) pe_str (nomark _)) (pss_one (ps_ret (pe_xkE (pv 0)))) pss_nil)
      (pss_one (ps_ret (pe_xkE (pv 0)))))), ?_⟩
    have hzz : z = "row" ∨ z = "word" ∨ z = "part" := by
      rcases hz with ⟨_, e⟩ | ⟨_, e⟩ | ⟨_, e⟩ | ⟨_, e⟩ <;> simp [e]
    rcases hzz with rfl | rfl | rfl
    · refine ⟨.str "row", rfl, rfl, true, by decide +kernel, iteT' rfl ?_⟩
      exact ⟨.ref x, rfl, clsOf T k, x, dd, fs, v, xf, no, rfl, hx, hd, lk, q⟩
    · refine ⟨.str "word", rfl, rfl, false, by decide +kernel, iteF' rfl ?_⟩
      refine ⟨.str "word", rfl, rfl, true, by decide +kernel, iteT' rfl ?_⟩
      exact ⟨.ref x, rfl, clsOf T k, x, dd, fs, v, xf, no, rfl, hx, hd, lk, q⟩
    · refine ⟨.str "part", rfl, rfl, false, by decide +kernel, iteF' rfl ?_⟩
      refine ⟨.str "part", rfl, rfl, false, by decide +kernel, iteF' rfl ?_⟩
      exact ⟨.ref x, rfl, clsOf T k, x, dd, fs, v, xf, no, rfl, hx, hd, lk, q⟩

/-! ### the classes that an error is under -/
def wk (k i : Nat) : List V := (List.range i).filterMap fun j => if k = j then some (V.int (j : Nat)) else none
theorem wk_succ (k i : Nat) : wk k (i + 1) = if k = i then wk k i ++ [V.int (i : Nat)] else wk k i := by
  unfold wk
  rw [List.range_succ, List.filterMap_append]
  by_cases h : k = i
  · simp [h]
  · simp [h]
theorem wk_five (k : Nat) (h : k < 5) : wk k 5 = [V.int (k : Nat)] := by
  rcases (show k = 0 ∨ k = 1 ∨ k = 2 ∨ k = 3 ∨ k = 4 by omega) with rfl | rfl | rfl | rfl | rfl <;> rfl
theorem wk_len (k i : Nat) : (wk k i).length ≤ i := by
  unfold wk
  exact Nat.le_trans (List.length_filterMap_le _ _) (by rw [List.length_range]; exact Nat.le_refl _)
theorem five_at (k i : Nat) (h : i < 5) : ([V.bl (decide (k = 0)), V.bl (decide (k = 1)), V.bl (decide (k = 2)), V.bl (decide (k = 3))] ++ [V.bl (decide (k = 4))])[i]? = some (.bl (decide (k = i))) := by
  rcases (show i = 0 ∨ i = 1 ∨ i = 2 ∨ i = 3 ∨ i = 4 by omega) with rfl | rfl | rfl | rfl | rfl <;> rfl
theorem _root_.L2.Evl.Ex.mut' {H H1 : Hp} {p : Addr} {o : HO} (a : Ex H H1) (h : H p = none) : Ex H (upd H1 p o) := fun x u e => by
  rw [upd_ne (ne_of_none e h)]
  exact a x u e
def sp_sort (T : Txt K mg) : Sp := fun vs H Q _ => ∃ (x : Addr) (k : Nat) (fs : List (Str × V)), vs = [.ref x] ∧ k < 5 ∧ RefP T H k x fs ∧ ∀ l H', Ex H H' → H' l = some (.lst [.int (k : Nat)]) → Q (.ref l) H'
theorem ok_sort {k : Nat} (T : Txt K mg) : FnOk P w K mg base CX0 (k + 1) T.f__law_sort T.fd__law_sort ["_law_one"] (sp_sort T) := by
  refine T.F__law_sort.ok sc__law_sort (fun vs H Q E h => ?_) (fun cdv A outer s H vs Q E hr h => ?_)
  · obtain ⟨x, k, fs, rfl, _⟩ := h
    rfl
  · obtain ⟨x, k, fs, rfl, hk, r, q⟩ := h
    refine ⟨_, (pss_cons (ps_set (i := 1) sc__law_sort.nd rfl (Or.inr rfl) (pe_lst (pa_cons (pe_callB (isX (K := K)) (by rfl) T.z_isinstance bt_isinstance (pa_cons (pv 0) (pa_cons (pe_glob (v := .ref T.c_BadText) (by rfl) T.gC_BadText rfl) pa_nil))) (pa_cons (pe_callB (isX (K := K)) (by rfl) T.z_isinstance bt_isinstance (pa_cons (pv 0) (pa_cons (pe_glob (v := .ref T.c_NoProgram) (by rfl) T.gC_NoProgram rfl) pa_nil))) (pa_cons (pe_callB (isX (K := K)) (by rfl) T.z_isinstance bt_isinstance (pa_cons (pv 0) (pa_cons (pe_glob (v := .ref T.c_NoPaper) (by rfl) T.gC_NoPaper rfl) pa_nil))) (pa_cons (pe_callB (isX (K := K)) (by rfl) T.z_isinstance bt_isinstance (pa_cons (pv 0) (pa_cons (pe_glob (v := .ref T.c_NoFit) (by rfl) T.gC_NoFit rfl) pa_nil))) pa_nil))))))
      (pss_cons (ps_expr (pe_bmK (K := K) PySem.F.plainAttrs_list PySem.F.slot_list_append PySem.F.type_list_append mt_append (pv 1) (pa_cons (pe_callB (isX (K := K)) (by rfl) T.z_isinstance bt_isinstance (pa_cons (pv 0) (pa_cons (pe_glob (v := .ref T.c_NoRow) (by rfl) T.gC_NoRow rfl) pa_nil))) pa_nil)))
      (pss_one (ps_ret (pe_lc (own := [("_law_k", 2)]) (g := gName 2) rfl sc__law_sort.nd (pi_range1 (by rfl) T.z_range (pa_cons pe_int pa_nil)) (blkOk_by (own := [("_law_k", 2)]) (N := nm__law_sort) (sc := defScope st__law_sort) (by decide +kernel)) (fun _ _ _ _ _ => (pg_name (i := 2) sc__law_sort.nd rfl (Or.inl rfl))) (fun _ _ _ _ _ => (pts_one (pt_val (pe_ix (ix_listK (K := K)) (pv 1) (pv 2) (fun _ _ => rfl))))) (fun _ _ _ _ _ => (pv 2))))))), ?_⟩
    obtain ⟨d, hx, hd⟩ := r.dd
    refine ⟨.ref x, rfl, x, clsOf T k, d, _, _, _, rfl, hx, hd, cls_x T k, fun u r => r, cls_k0 T k hk, ?_⟩
    refine ⟨.ref x, rfl, x, clsOf T k, d, _, _, _, rfl, hx, hd, cls_x T k, fun u r => r, cls_k1 T k hk, ?_⟩
    refine ⟨.ref x, rfl, x, clsOf T k, d, _, _, _, rfl, hx, hd, cls_x T k, fun u r => r, cls_k2 T k hk, ?_⟩
    refine ⟨.ref x, rfl, x, clsOf T k, d, _, _, _, rfl, hx, hd, cls_x T k, fun u r => r, cls_k3 T k hk, ?_⟩
    refine ⟨by show 4 ≤ sizeLine; decide, fun L nL => ?_⟩
    have x1 := Evl.Ex.new (o := .lst [.bl (decide (k = 0)), .bl (decide (k = 1)), .bl (decide (k = 2)), .bl (decide (k = 3))]) nL
    refine ⟨.ref L, rfl, .inl ⟨rfl, _, SqL.of upd_same⟩, .ref x, rfl, x, clsOf T k, d, _, _, _, rfl, x1 _ _ hx, fun y e => (hd y e).imp fun _ h => x1 _ _ h, cls_x T k, fun u r => r, cls_k4 T k hk, ?_⟩
    refine ⟨L, _, _, rfl, rfl, upd_same, by show 4 < sizeLine; decide, ?_⟩
    refine ⟨5, rfl, by decide, by decide, fun D nD => ?_⟩
    have xL : Ex H (upd (upd H L (HO.lst [V.bl (decide (k = 0)), V.bl (decide (k = 1)), V.bl (decide (k = 2)), V.bl (decide (k = 3))])) L (HO.lst ([V.bl (decide (k = 0)), V.bl (decide (k = 1)), V.bl (decide (k = 2)), V.bl (decide (k = 3))] ++ [V.bl (decide (k = 4))]))) := x1.mut' nL
    have hL : (upd (upd H L (HO.lst [V.bl (decide (k = 0)), V.bl (decide (k = 1)), V.bl (decide (k = 2)), V.bl (decide (k = 3))])) L (HO.lst ([V.bl (decide (k = 0)), V.bl (decide (k = 1)), V.bl (decide (k = 2)), V.bl (decide (k = 3))] ++ [V.bl (decide (k = 4))]))) L = _ := upd_same
    generalize (upd (upd H L (HO.lst [V.bl (decide (k = 0)), V.bl (decide (k = 1)), V.bl (decide (k = 2)), V.bl (decide (k = 3))])) L (HO.lst ([V.bl (decide (k = 0)), V.bl (decide (k = 1)), V.bl (decide (k = 2)), V.bl (decide (k = 3))] ++ [V.bl (decide (k = 4))]))) = HL at xL hL nD ⊢
    have hDL : L ≠ D := fun z => by rw [z, nD] at hL; cases hL
    refine lc_range (lo := 0) (n := 5) (fun i H' => Ex HL H' ∧ H' D = some (.lst (wk k i))) ⟨Evl.Ex.new nD, upd_same⟩ (fun i H' hi h => ?_) (fun H' h => ?_)
    · obtain ⟨x2, hD⟩ := h
      refine ⟨rfl, .ref L, rfl, .int (0 + (i : Nat)), rfl, L, _, _, _, rfl, rfl, SqL.of (x2 _ _ hL), (by rw [Int.zero_add]; exact atI_nat (five_at k i hi)), decide (k = i), rfl, ?_⟩
      by_cases e : k = i
      · refine iteD e ?_
        have hl := wk_len k i
        refine ⟨.int (0 + (i : Nat)), rfl, _, hD, ?_, x2.mut' nD, ?_⟩
        · have : sizeLine = sizeLine := rfl
          exact Nat.lt_of_le_of_lt hl (Nat.lt_of_lt_of_le hi (by decide))
        · rw [upd_same, wk_succ, if_pos e, Int.zero_add]
      · exact iteN e ⟨x2, by rw [hD, wk_succ, if_neg e]⟩
    · exact q _ _ (xL.trans h.1) (by rw [h.2, wk_five k hk])
def sp_sortH (T : Txt K mg) : Addr → Value → Option Addr → Sp := fun x cls d vs H Q _ => ∃ (k : Nat), vs = [.ref x] ∧ k < 5 ∧ cls = .ref (clsOf T k) ∧ (∀ y, d = some y → ∃ fs, H y = some (.xd fs)) ∧ ∀ l H', Ex H H' → H' l = some (.lst [.int (k : Nat)]) → Q (.ref l) H'
theorem ok_sort_hot {k : Nat} (T : Txt K mg) : FnN P w K mg base (k + 1) T.f__law_sort T.fd__law_sort ["_law_one"] (sp_sortH T) := by
  refine okN T.F__law_sort sc__law_sort (fun a cls d vs H Q E h => ?_) (fun cdv A outer s H vs Q E x oe cls d hot hz hf hr h => ?_)
  · obtain ⟨k, rfl, _⟩ := h
    rfl
  · obtain ⟨k, rfl, hk, rfl, hd, q⟩ := h
    refine ⟨_, (pss_cons (ps_set (i := 1) sc__law_sort.nd rfl (Or.inr rfl) (pe_lst (pa_cons (pe_callB (isP (K := K) List.mem_cons_self hz hf) (by rfl) T.z_isinstance bt_isinstance (pa_cons (pv 0) (pa_cons (pe_glob (v := .ref T.c_BadText) (by rfl) T.gC_BadText rfl) pa_nil))) (pa_cons (pe_callB (isP (K := K) List.mem_cons_self hz hf) (by rfl) T.z_isinstance bt_isinstance (pa_cons (pv 0) (pa_cons (pe_glob (v := .ref T.c_NoProgram) (by rfl) T.gC_NoProgram rfl) pa_nil))) (pa_cons (pe_callB (isP (K := K) List.mem_cons_self hz hf) (by rfl) T.z_isinstance bt_isinstance (pa_cons (pv 0) (pa_cons (pe_glob (v := .ref T.c_NoPaper) (by rfl) T.gC_NoPaper rfl) pa_nil))) (pa_cons (pe_callB (isP (K := K) List.mem_cons_self hz hf) (by rfl) T.z_isinstance bt_isinstance (pa_cons (pv 0) (pa_cons (pe_glob (v := .ref T.c_NoFit) (by rfl) T.gC_NoFit rfl) pa_nil))) pa_nil))))))
      (pss_cons (ps_expr (pe_bmK (K := K) PySem.F.plainAttrs_list PySem.F.slot_list_append PySem.F.type_list_append mt_append (pv 1) (pa_cons (pe_callB (isP (K := K) List.mem_cons_self hz hf) (by rfl) T.z_isinstance bt_isinstance (pa_cons (pv 0) (pa_cons (pe_glob (v := .ref T.c_NoRow) (by rfl) T.gC_NoRow rfl) pa_nil))) pa_nil)))
      (pss_one (ps_ret (pe_lcH (own := [("_law_k", 2)]) (g := gName 2) hot List.mem_cons_self sc__law_sort.nd (L2H.pi_range1H (by rfl) T.z_range (pa_cons pe_int pa_nil)) (blkOk_by (own := [("_law_k", 2)]) (N := nm__law_sort) (sc := defScope st__law_sort) (by decide +kernel)) (fun _ _ _ _ _ => (pg_name (i := 2) sc__law_sort.nd rfl (Or.inl rfl))) (fun _ _ _ _ _ => (pts_one (pt_val (pe_ix (ix_listK (K := K)) (pv 1) (pv 2) (fun _ _ => rfl))))) (fun _ _ _ _ _ => (pv 2))))))), ?_⟩
    refine ⟨.ref x, rfl, clsOf T k, _, _, _, rfl, rfl, hd, cls_x T k, fun u r => r, cls_k0 T k hk, ?_⟩
    refine ⟨.ref x, rfl, clsOf T k, _, _, _, rfl, rfl, hd, cls_x T k, fun u r => r, cls_k1 T k hk, ?_⟩
    refine ⟨.ref x, rfl, clsOf T k, _, _, _, rfl, rfl, hd, cls_x T k, fun u r => r, cls_k2 T k hk, ?_⟩
    refine ⟨.ref x, rfl, clsOf T k, _, _, _, rfl, rfl, hd, cls_x T k, fun u r => r, cls_k3 T k hk, ?_⟩
    refine ⟨by show 4 ≤ sizeLine; decide, fun L nL => ?_⟩
    have x1 := Evl.Ex.new (o := .lst [.bl (decide (k = 0)), .bl (decide (k = 1)), .bl (decide (k = 2)), .bl (decide (k = 3))]) nL
    refine ⟨.ref L, rfl, .inl ⟨rfl, _, SqL.of upd_same⟩, .ref x, rfl, clsOf T k, _, _, _, rfl, rfl, fun y e => (hd y e).imp fun _ h => x1 _ _ h, cls_x T k, fun u r => r, cls_k4 T k hk, ?_⟩
    refine ⟨L, _, _, rfl, rfl, upd_same, by show 4 < sizeLine; decide, ?_⟩
    refine ⟨5, rfl, by decide, by decide, fun D nD => ?_⟩
    have xL : Ex H (upd (upd H L (HO.lst [V.bl (decide (k = 0)), V.bl (decide (k = 1)), V.bl (decide (k = 2)), V.bl (decide (k = 3))])) L (HO.lst ([V.bl (decide (k = 0)), V.bl (decide (k = 1)), V.bl (decide (k = 2)), V.bl (decide (k = 3))] ++ [V.bl (decide (k = 4))]))) := x1.mut' nL
    have hL : (upd (upd H L (HO.lst [V.bl (decide (k = 0)), V.bl (decide (k = 1)), V.bl (decide (k = 2)), V.bl (decide (k = 3))])) L (HO.lst ([V.bl (decide (k = 0)), V.bl (decide (k = 1)), V.bl (decide (k = 2)), V.bl (decide (k = 3))] ++ [V.bl (decide (k = 4))]))) L = _ := upd_same
    generalize (upd (upd H L (HO.lst [V.bl (decide (k = 0)), V.bl (decide (k = 1)), V.bl (decide (k = 2)), V.bl (decide (k = 3))])) L (HO.lst ([V.bl (decide (k = 0)), V.bl (decide (k = 1)), V.bl (decide (k = 2)), V.bl (decide (k = 3))] ++ [V.bl (decide (k = 4))]))) = HL at xL hL nD ⊢
    have hDL : L ≠ D := fun z => by rw [z, nD] at hL; cases hL
    refine lc_range (lo := 0) (n := 5) (fun i H' => Ex HL H' ∧ H' D = some (.lst (wk k i))) ⟨Evl.Ex.new nD, upd_same⟩ (fun i H' hi h => ?_) (fun H' h => ?_)
    · obtain ⟨x2, hD⟩ := h
      refine ⟨rfl, .ref L, rfl, .int (0 + (i : Nat)), rfl, L, _, _, _, rfl, rfl, SqL.of (x2 _ _ hL), (by rw [Int.zero_add]; exact atI_nat (five_at k i hi)), decide (k = i), rfl, ?_⟩
      by_cases e : k = i
      · refine iteD e ?_
        have hl := wk_len k i
        refine ⟨.int (0 + (i : Nat)), rfl, _, hD, ?_, x2.mut' nD, ?_⟩
        · have : sizeLine = sizeLine := rfl
          exact Nat.lt_of_le_of_lt hl (Nat.lt_of_lt_of_le hi (by decide))
        · rw [upd_same, wk_succ, if_pos e, Int.zero_add]
      · exact iteN e ⟨x2, by rw [hD, wk_succ, if_neg e]⟩
    · exact q _ _ (xL.trans h.1) (by rw [h.2, wk_five k hk])

/-! ### raised and caught -/
def AllF (k : Nat) (fs : List (Str × V)) : Prop := ∀ z, hasF k z → ∃ v, fs.lookup z = some v
def sp_raised (T : Txt K mg) : Sp := fun vs H _ E => ∃ (k : Nat) (x : Addr) (fs : List (Str × V)), vs = [.int (k : Nat), .ref x] ∧ k < 5 ∧ RefP T H k x fs ∧ AllF k fs ∧ ∀ d H', Ex H H' → (∀ y, d = some y → ∃ fs, H' y = some (.xd fs)) → E (.ref (clsOf T k)) d H'
theorem ok_raised {k : Nat} (T : Txt K mg) : FnOk P w K mg base (L2N.CX P w) (k + 3) T.f__law_raised T.fd__law_raised ["_law_k", "_law_one"] (sp_raised T) := by
  have G_BadText__init__ := ok_btinit (P := P) (w := w) (base := base) (k := 0) T
  have G_NoProgram__init__ := ok_npinit (P := P) (w := w) (base := base) (k := 0) T
  have G_NoPaper__init__ := ok_ppinit (P := P) (w := w) (base := base) (k := 0) T
  refine okXN T.F__law_raised sc__law_raised (fun vs H Q E h => ?_) (fun cdv A outer s H vs Q E hr h => ?_)
  · obtain ⟨k, x, fs, rfl, _⟩ := h
    rfl
  · obtain ⟨k, x, fs, rfl, hk, r, lk, q⟩ := h
    refine ⟨_, (pss_cons (ps_if (pt_cmpR op_eq (pv 0) pe_int (nomark _)) (pss_one (L2N.ps_raise rfl (L2N.takes_of rfl rfl rfl rfl) (pmkN_oex T.ox_BadText T.i_BadText__init__ T.t_BadText__init__ G_BadText__init__ (hr.mono (by omega)) T.b_BadText__init__ .nil pass0 (by rfl) T.gC_BadText (pa_cons (pe_xkE (pv 1)) pa_nil)))) pss_nil)
      (pss_cons (ps_if (pt_cmpR op_eq (pv 0) pe_int (nomark _)) (pss_one (L2N.ps_raise rfl (L2N.takes_of rfl rfl rfl rfl) (pmkN_oex T.ox_NoProgram T.i_NoProgram__init__ T.t_NoProgram__init__ G_NoProgram__init__ (hr.mono (by omega)) T.b_NoProgram__init__ .nil pass0 (by rfl) T.gC_NoProgram (pa_cons (pe_xkE (pv 1)) (pa_cons (pe_xkE (pv 1)) (pa_cons (pe_xkE (pv 1)) pa_nil)))))) pss_nil)
      (pss_cons (ps_if (pt_cmpR op_eq (pv 0) pe_int (nomark _)) (pss_one (L2N.ps_raise rfl (L2N.takes_of rfl rfl rfl rfl) (pmkN_oex T.ox_NoPaper T.i_NoPaper__init__ T.t_NoPaper__init__ G_NoPaper__init__ (hr.mono (by omega)) T.b_NoPaper__init__ .nil pass0 (by rfl) T.gC_NoPaper (pa_cons (pe_xkE (pv 1)) (pa_cons (pe_xkE (pv 1)) pa_nil))))) pss_nil)
      (pss_cons (ps_if (pt_cmpR op_eq (pv 0) pe_int (nomark _)) (pss_one (L2N.ps_raise rfl (L2N.takes_of rfl rfl rfl rfl) (pmkN_own0 PySem.F.excBase_ValueError T.q_NoFit T.gC_NoFit T.kC_NoFit (raises_own T.eC_NoFit T.tC_NoFit) (by rfl)))) pss_nil)
      (pss_one (L2N.ps_raise rfl (L2N.takes_of rfl rfl rfl rfl) (pmkN_own0 PySem.F.excBase_ValueError T.q_NoRow T.gC_NoRow T.kC_NoRow (raises_own T.eC_NoRow T.tC_NoRow) (by rfl)))))))), ?_⟩
    have rd : ∀ z, hasF k z → k < 3 → ∃ (C a dd : Addr) (fs : List (Str × V)) (v : V), XfC K C ∧ PySem.W.findIn K (.ref C) z = some none ∧ V.ref x = .ref a ∧ H a = some (xo a (.ref C) (some dd)) ∧ H dd = some (.xd fs) ∧ fs.lookup z = some v := fun z hz h3 => by
      obtain ⟨d, hx, h1, _⟩ := r
      obtain ⟨dd, rfl, hd⟩ := h1 h3
      obtain ⟨v, hv⟩ := lk z hz
      exact ⟨_, _, dd, fs, v, (cls_no T hz).1, (cls_no T hz).2, rfl, hx, hd, hv⟩
    rcases (show k = 0 ∨ k = 1 ∨ k = 2 ∨ k = 3 ∨ k = 4 by omega) with rfl | rfl | rfl | rfl | rfl
    · refine ⟨.int ((0 : Nat) : Int), rfl, rfl, true, by decide, iteT' rfl ?_⟩
      obtain ⟨C1, a1, d1, f1, v1, g1, g2, g3, g4, g5, g6⟩ := rd "row" (.inl ⟨by decide, rfl⟩) (by decide)
      refine ⟨.ref x, rfl, C1, a1, d1, f1, v1, g1, g2, g3, g4, g5, g6, by show 1 ≤ 1000; decide, fun a na => ?_⟩
      refine ⟨a, v1, rfl, upd_same, fun d H' nda nd h1 h2 hrest => ?_⟩
      rw [upd_ne nda] at nd
      refine ⟨rfl, d, _, h1, h2, nd, q _ _ (made_ex na nd hrest) fun y e => by cases e; exact ⟨_, upd_same⟩⟩
    · refine ⟨.int ((1 : Nat) : Int), rfl, rfl, false, by decide, iteF' rfl ?_⟩
      refine ⟨.int ((1 : Nat) : Int), rfl, rfl, true, by decide, iteT' rfl ?_⟩
      obtain ⟨C1, a1, d1, f1, v1, g1, g2, g3, g4, g5, g6⟩ := rd "word" (.inr (.inl ⟨rfl, rfl⟩)) (by decide)
      obtain ⟨C2, a2, d2, f2, v2, p1, p2, p3, p4, p5, p6⟩ := rd "part" (.inr (.inr (.inl ⟨rfl, rfl⟩))) (by decide)
      obtain ⟨C3, a3, d3, f3, v3, r1, r2, r3, r4, r5, r6⟩ := rd "row" (.inl ⟨by decide, rfl⟩) (by decide)
      refine ⟨.ref x, rfl, C1, a1, d1, f1, v1, g1, g2, g3, g4, g5, g6, .ref x, rfl, C2, a2, d2, f2, v2, p1, p2, p3, p4, p5, p6, .ref x, rfl, C3, a3, d3, f3, v3, r1, r2, r3, r4, r5, r6, by show 3 ≤ 1000; decide, fun a na => ?_⟩
      refine ⟨a, v1, v2, v3, rfl, upd_same, fun d H' nda nd h1 h2 hrest => ?_⟩
      rw [upd_ne nda] at nd
      refine ⟨rfl, d, _, h1, h2, nd, q _ _ (made_ex na nd hrest) fun y e => by cases e; exact ⟨_, upd_same⟩⟩
    · refine ⟨.int ((2 : Nat) : Int), rfl, rfl, false, by decide, iteF' rfl ?_⟩
      refine ⟨.int ((2 : Nat) : Int), rfl, rfl, false, by decide, iteF' rfl ?_⟩
      refine ⟨.int ((2 : Nat) : Int), rfl, rfl, true, by decide, iteT' rfl ?_⟩
      obtain ⟨C2, a2, d2, f2, v2, p1, p2, p3, p4, p5, p6⟩ := rd "part" (.inr (.inr (.inr ⟨rfl, rfl⟩))) (by decide)
      obtain ⟨C3, a3, d3, f3, v3, r1, r2, r3, r4, r5, r6⟩ := rd "row" (.inl ⟨by decide, rfl⟩) (by decide)
      refine ⟨.ref x, rfl, C2, a2, d2, f2, v2, p1, p2, p3, p4, p5, p6, .ref x, rfl, C3, a3, d3, f3, v3, r1, r2, r3, r4, r5, r6, by show 2 ≤ 1000; decide, fun a na => ?_⟩
      refine ⟨a, v2, v3, rfl, upd_same, fun d H' nda nd h1 h2 hrest => ?_⟩
      rw [upd_ne nda] at nd
      refine ⟨rfl, d, _, h1, h2, nd, q _ _ (made_ex na nd hrest) fun y e => by cases e; exact ⟨_, upd_same⟩⟩
    · refine ⟨.int ((3 : Nat) : Int), rfl, rfl, false, by decide, iteF' rfl ?_⟩
      refine ⟨.int ((3 : Nat) : Int), rfl, rfl, false, by decide, iteF' rfl ?_⟩
      refine ⟨.int ((3 : Nat) : Int), rfl, rfl, false, by decide, iteF' rfl ?_⟩
      refine ⟨.int ((3 : Nat) : Int), rfl, rfl, true, by decide, iteT' rfl ?_⟩
      exact q none H (Evl.Ex.refl _) fun y e => by cases e
    · refine ⟨.int ((4 : Nat) : Int), rfl, rfl, false, by decide, iteF' rfl ?_⟩
      refine ⟨.int ((4 : Nat) : Int), rfl, rfl, false, by decide, iteF' rfl ?_⟩
      refine ⟨.int ((4 : Nat) : Int), rfl, rfl, false, by decide, iteF' rfl ?_⟩
      refine ⟨.int ((4 : Nat) : Int), rfl, rfl, false, by decide, iteF' rfl ?_⟩
      exact q none H (Evl.Ex.refl _) fun y e => by cases e
def sp_caught (T : Txt K mg) : Sp := fun vs H Q _ => ∃ (k : Nat) (x : Addr) (fs : List (Str × V)), vs = [.int (k : Nat), .ref x] ∧ k < 5 ∧ RefP T H k x fs ∧ AllF k fs ∧ ∀ H', Ex H H' → Q (.bl true) H'
theorem ok_caught {k : Nat} (T : Txt K mg) : FnOk P w K mg base CX0 (k + 5) T.f__law_caught T.fd__law_caught ["_law_k", "_law_one"] (sp_caught T) := by
  have G__law_raised : FnOk P w K mg base (L2N.CX P w) 3 T.f__law_raised T.fd__law_raised ["_law_k", "_law_one"] (sp_raised T) := ok_raised T
  have G__law_sort_hot : FnN P w K mg base 1 T.f__law_sort T.fd__law_sort ["_law_one"] (sp_sortH T) := ok_sort_hot T
  refine T.F__law_caught.ok sc__law_caught (fun vs H Q E h => ?_) (fun cdv A outer s H vs Q E hr h => ?_)
  · obtain ⟨k, x, fs, rfl, _⟩ := h
    rfl
  · obtain ⟨k, x, fs, rfl, hk, r, lk, q⟩ := h
    refine ⟨_, (pss_cons (ps_set (i := 2) sc__law_caught.nd rfl (Or.inl rfl) pe_bl)
      (pss_cons (L2N.ps_try_as (i := 3) (Wout := fun _ _ _ _ => False) rfl rfl sc__law_caught.nd rfl rfl ⟨rfl, by decide, Or.inl T.gC_CurveError⟩ takesN0
        (fun W pn xe tk _ => (pss_one (ps_expr (pe_callS G__law_raised (hr.mono (by omega)) (by rfl) T.g__law_raised T.F__law_raised.kp T.b__law_raised (fun σ => L2N.passAt tk σ) (pa_cons (pv 0) (pa_cons (pv 1) pa_nil))))))
        (fun a oe cls d pn hz hf => (pss_one (ps_set (i := 2) sc__law_caught.nd rfl (Or.inl rfl) (pe_and (pe_callB (isP (K := K) List.mem_cons_self hz.zc hf) (by rfl) T.z_isinstance bt_isinstance (pa_cons (pv 3) (pa_cons (pe_bltn (v := .ty "ValueError") (by rfl) T.z_ValueError (by decide +kernel) rfl) pa_nil))) (pe_one (pe_cmpR (op_eqDK (K := K) hr.units) (pe_callN G__law_sort_hot (L2H.roomH_mark (hr.mono (by omega)) _) ⟨rfl, hf.imp fun _ e => ⟨e, hz.2.2 _ e⟩⟩ List.mem_cons_self hz.zc hf (by rfl) T.g__law_sort T.F__law_sort.kp T.b__law_sort (pa_cons (pv 3) pa_nil) (E := fun _ _ _ => False)) (pe_lst (pa_cons (pv 0) pa_nil)) (nomark _))))))))
      (pss_one (ps_ret (pv 2))))), ?_⟩
    refine ⟨.int (k : Nat), rfl, .ref x, rfl, k, x, fs, rfl, hk, r, lk, fun d H1 x1 hd => ?_⟩
    refine ⟨true, cls_te T k, fun _ a na => ?_, fun z => Bool.noConfusion z⟩
    refine ⟨.ref a, rfl, clsOf T k, .ty "ValueError", .type "ValueError", true, rfl, rfl, hd, cls_x T k, fun u r => r, cls_ve T k, ?_⟩
    refine ⟨true, rfl, iteT' rfl ?_⟩
    refine ⟨.ref a, rfl, k, rfl, hk, rfl, hd, fun l H2 x2 hl => ?_⟩
    refine ⟨.int (k : Nat), rfl, by show 1 ≤ sizeLine; decide, fun l2 n2 => ?_⟩
    have x3 := Evl.Ex.new (o := .lst [.int (k : Nat)]) n2
    refine ⟨li [(k : Int)], li [(k : Int)], Dp.of_li (SqL.of (x3 _ _ hl)), Dp.of_li (SqL.of upd_same), li_shaped _, li_shaped _, ?_⟩
    show (fun x _ => _) _ _
    rw [eqv_refl _ (li_shaped _)]
    exact ⟨.bl true, rfl, q _ ((x1.trans x2).trans x3)⟩

/-! ### five refusals made -/
def ShwV (v : V) : Prop := (∃ i, v = .int i ∧ i.natAbs.log2 < 1920) ∨ ∃ a, v = .str a ∧ (PySem.reprText a).length ≤ sizeLine
/-- the k-th of them, with the dict that tells its fields -/
def MadeK (T : Txt K mg) (H : Hp) (k : Nat) (v : V) : Prop := ∃ (t x f : Addr) (o : Obj) (fs : List (Str × V)) (kvs : List (L2.Key × V)), v = .ref t ∧ H t = some (.tup [.ref x, .ref f]) ∧ RefP T H k x fs ∧ AllF k fs ∧ H f = some (.frz o (.dK kvs)) ∧ kvs.length ≤ 3 ∧
  ∀ (i : Nat) (key : L2.Key) (v : V), kvs[i]? = some (key, v) → ∃ z, key = .inr z ∧ hasF k z ∧ k < 3 ∧ fs.lookup z = some v ∧ valV kvs key = some v ∧ ShwV v
theorem MadeK.kp {T : Txt K mg} {H H' : Hp} {k : Nat} {v : V} (m : MadeK T H k v) (q : ∀ b o, (∀ kvs, o ≠ .dK kvs) → (∀ xs, o ≠ .lst xs) → H b = some o → H' b = some o) : MadeK T H' k v := by
  obtain ⟨t, x, f, o, fs, kvs, e, ht, hr, af, hf, h3, h⟩ := m
  exact ⟨t, x, f, o, fs, kvs, e, q _ _ (fun _ z => by cases z) (fun _ z => by cases z) ht, hr.kp q, af, q _ _ (fun _ z => by cases z) (fun _ z => by cases z) hf, h3, h⟩
theorem MadeK.ex {T : Txt K mg} {H H' : Hp} {k : Nat} {v : V} (m : MadeK T H k v) (x : Ex H H') : MadeK T H' k v := m.kp fun b o _ _ e => x b o e
/-- draws leave them -/
theorem MadeK.draw {T : Txt K mg} {H H' : Hp} {d l k : Nat} {v : V} (m : MadeK T H k v) (D : IsDeal H d l) (x : Kp d l H H') : MadeK T H' k v := m.kp fun b o h1 h2 e => by
  obtain ⟨s, n, ls, D⟩ := D
  refine x b o (fun z => ?_) (fun z => ?_) e
  · rw [z, D.hd] at e
    exact h1 _ (Option.some.inj e).symm
  · rw [z, D.hl] at e
    exact h2 _ (Option.some.inj e).symm
abbrev tMkx (C : Addr) (sp : Sp) (ta : TA) : TE := fun σ H Q => tMkO C sp [] ta σ H fun cls d H1 => ∀ a, H1 a = none → Q (.ref a) (upd H1 a (xo a cls d))
theorem shw_int {a : Int} (h1 : -1 ≤ a) (h2 : a < 2000) : ShwV (.int a) := .inl ⟨a, rfl, by
  have h : a.natAbs < 2 ^ 11 := by omega
  by_cases z : a.natAbs = 0
  · rw [z]; decide
  · exact Nat.lt_trans ((Nat.log2_lt z).mpr h) (by decide)⟩
section
variable {σ : L2.St} {H : Hp} {Q : VK} {a b : Int} {z : Str}
/-- behind the dict: the tuple of both -/
theorem fin_k (T : Txt K mg) {k : Nat} {H0 H3 H4 : Hp} {y p : Addr} {fs : List (Str × V)} {kvs : List (L2.Key × V)} {od : Obj} (x : Ex H0 H3) (r : RefP T H3 k y fs) (af : AllF k fs) (x4 : Ex H3 H4) (hp : H4 p = some (.frz od (.dK kvs))) (h3 : kvs.length ≤ 3)
    (hkv : ∀ (i : Nat) (key : L2.Key) (v : V), kvs[i]? = some (key, v) → ∃ z, key = .inr z ∧ hasF k z ∧ k < 3 ∧ fs.lookup z = some v ∧ valV kvs key = some v ∧ ShwV v)
    (q : ∀ t H', Ex H0 H' → MadeK T H' k (.ref t) → Q (.ref t) H') : 2 ≤ sizeLine ∧ ∀ t, H4 t = none → Q (.ref t) (upd H4 t (.tup [.ref y, .ref p])) := by
  refine ⟨by decide, fun t nt => ?_⟩
  have x5 := Evl.Ex.new (o := .tup [.ref y, .ref p]) nt
  exact q t _ ((x.trans x4).trans x5) ⟨t, y, p, od, fs, kvs, rfl, upd_same, (r.kp fun b o _ _ e => x4 b o e).kp fun b o _ _ e => x5 b o e, af, x5 _ _ hp, h3, hkv⟩
theorem lk_ex {H : Hp} {p : Addr} {o1 o2 o3 : HO} (n : H p = none) : Ex H (upd (upd (upd H p o1) p o2) p o3) := (((Evl.Ex.refl H).mut' n).mut' n).mut' n
theorem ref_of {T : Txt K mg} {k : Nat} {H1 : Hp} {x d : Addr} {fs : List (Str × V)} {y : Addr} (hk : k < 3) (hd : (upd (del H1 x) d (.xd fs)) d = some (.xd fs)) (ny : (upd (del H1 x) d (.xd fs)) y = none) :
    RefP T (upd (upd (del H1 x) d (.xd fs)) y (xo y (.ref (clsOf T k)) (some d))) k y fs := ⟨some d, upd_same, fun _ => ⟨d, rfl, by rw [upd_ne (ne_of_none hd ny)]; exact hd⟩, fun h => absurd h (by omega)⟩
theorem tLst_two {A B : TE} : tLst (tCons A (tCons B tNil)) σ H Q = A σ H fun v1 H1 => B σ H1 fun v2 H2 => 2 ≤ sizeLine ∧ ∀ p, H2 p = none → Q (.ref p) (upd H2 p (.lst [v1, v2])) := rfl
theorem tLst_three {A B C : TE} : tLst (tCons A (tCons B (tCons C tNil))) σ H Q = A σ H fun v1 H1 => B σ H1 fun v2 H2 => C σ H2 fun v3 H3 => 3 ≤ sizeLine ∧ ∀ p, H3 p = none → Q (.ref p) (upd H3 p (.lst [v1, v2, v3])) := rfl
theorem tup_bt (T : Txt K mg) (h1 : σ[1]? = some (some (.int a))) (a0 : -1 ≤ a) (a1 : a < 2000) (q : ∀ t H', Ex H H' → MadeK T H' 0 (.ref t) → Q (.ref t) H') :
    tTup (tCons (tMkx T.c_BadText (spBt T.c_BadText) (tCons (tVar 1) tNil)) (tCons (tLk (tDisp [(tC (.str "row"), tVar 1)])) tNil)) σ H Q := by
  refine ⟨.int a, h1, by show 1 ≤ 1000; decide, fun x nx => ⟨x, .int a, rfl, upd_same, fun d H1 nda nd g1 g2 hrest => ⟨rfl, d, _, g1, g2, by rw [upd_ne nda] at nd; exact nd, fun y ny => ?_⟩⟩⟩
  rw [upd_ne nda] at nd
  have x1 := made_ex (fs := [("row", .int a)]) nx nd hrest
  have x2 := x1.trans (Evl.Ex.new (o := xo y (.ref T.c_BadText) (some d)) ny)
  have rr : RefP T (upd (upd (del H1 x) d (.xd [("row", .int a)])) y (xo y (.ref T.c_BadText) (some d))) 0 y _ := ref_of (k := 0) (by decide) upd_same ny
  refine fun p np => ⟨.int a, h1, upd_same, [(.inr "row", .int a)], rfl, by show 1 ≤ 15; decide, p, _, rfl, upd_same, True.intro, fun od => ?_⟩
  refine fin_k T x2 rr (fun z hz => ?_) (lk_ex np) upd_same (by show 1 ≤ 3; decide) (fun i key v e => ?_) q
  · rcases hz with ⟨_, rfl⟩ | ⟨h, _⟩ | ⟨h, _⟩ | ⟨h, _⟩
    · exact ⟨_, rfl⟩
    all_goals exact absurd h (by decide)
  · match i, e with
    | 0, e => cases e; exact ⟨"row", rfl, .inl ⟨by decide, rfl⟩, by decide, rfl, rfl, shw_int a0 a1⟩
theorem tup_np (T : Txt K mg) (h1 : σ[1]? = some (some (.int a))) (h2 : σ[2]? = some (some (.int b))) (h3 : σ[3]? = some (some (.str z))) (a0 : -1 ≤ a) (a1 : a < 2000) (b0 : -1 ≤ b) (b1 : b < 2000) (hz : (PySem.reprText z).length ≤ sizeLine) (q : ∀ t H', Ex H H' → MadeK T H' 1 (.ref t) → Q (.ref t) H') :
    tTup (tCons (tMkx T.c_NoProgram (sp_npinit K T.c_NoProgram) (tCons (tVar 3) (tCons (tVar 1) (tCons (tVar 2) tNil)))) (tCons (tLk (tDisp [(tC (.str "word"), tVar 3), (tC (.str "part"), tVar 1), (tC (.str "row"), tVar 2)])) tNil)) σ H Q := by
  refine ⟨.str z, h3, .int a, h1, .int b, h2, by show 3 ≤ 1000; decide, fun x nx => ⟨x, .str z, .int a, .int b, rfl, upd_same, fun d H1 nda nd g1 g2 hrest => ⟨rfl, d, _, g1, g2, by rw [upd_ne nda] at nd; exact nd, fun y ny => ?_⟩⟩⟩
  rw [upd_ne nda] at nd
  have x1 := made_ex (fs := [("row", .int b), ("part", .int a), ("word", .str z)]) nx nd hrest
  have x2 := x1.trans (Evl.Ex.new (o := xo y (.ref T.c_NoProgram) (some d)) ny)
  have rr : RefP T (upd (upd (del H1 x) d (.xd [("row", .int b), ("part", .int a), ("word", .str z)])) y (xo y (.ref T.c_NoProgram) (some d))) 1 y _ := ref_of (k := 1) (by decide) upd_same ny
  refine fun p np => ⟨.str z, h3, .int a, h1, .int b, h2, upd_same, [(.inr "word", .str z), (.inr "part", .int a), (.inr "row", .int b)], rfl, by show 3 ≤ 15; decide, p, _, rfl, upd_same, True.intro, fun od => ?_⟩
  refine fin_k T x2 rr (fun z hz => ?_) (lk_ex np) (by rw [upd_same]) (by show 3 ≤ 3; decide) (fun i key v e => ?_) q
  · rcases hz with ⟨_, rfl⟩ | ⟨h, rfl⟩ | ⟨h, rfl⟩ | ⟨h, _⟩
    · exact ⟨_, rfl⟩
    · exact ⟨_, rfl⟩
    · exact ⟨_, rfl⟩
    · exact absurd h (by decide)
  · match i, e with
    | 0, e => cases e; exact ⟨"word", rfl, .inr (.inl ⟨rfl, rfl⟩), by decide, rfl, rfl, .inr ⟨_, rfl, hz⟩⟩
    | 1, e => cases e; exact ⟨"part", rfl, .inr (.inr (.inl ⟨rfl, rfl⟩)), by decide, rfl, rfl, shw_int a0 a1⟩
    | 2, e => cases e; exact ⟨"row", rfl, .inl ⟨by decide, rfl⟩, by decide, rfl, rfl, shw_int b0 b1⟩
theorem tup_pp (T : Txt K mg) (h1 : σ[1]? = some (some (.int a))) (h2 : σ[2]? = some (some (.int b))) (a0 : -1 ≤ a) (a1 : a < 2000) (b0 : -1 ≤ b) (b1 : b < 2000) (q : ∀ t H', Ex H H' → MadeK T H' 2 (.ref t) → Q (.ref t) H') :
    tTup (tCons (tMkx T.c_NoPaper (spPp T.c_NoPaper) (tCons (tVar 1) (tCons (tVar 2) tNil))) (tCons (tLk (tDisp [(tC (.str "part"), tVar 1), (tC (.str "row"), tVar 2)])) tNil)) σ H Q := by
  refine ⟨.int a, h1, .int b, h2, by show 2 ≤ 1000; decide, fun x nx => ⟨x, .int a, .int b, rfl, upd_same, fun d H1 nda nd g1 g2 hrest => ⟨rfl, d, _, g1, g2, by rw [upd_ne nda] at nd; exact nd, fun y ny => ?_⟩⟩⟩
  rw [upd_ne nda] at nd
  have x1 := made_ex (fs := [("row", .int b), ("part", .int a)]) nx nd hrest
  have x2 := x1.trans (Evl.Ex.new (o := xo y (.ref T.c_NoPaper) (some d)) ny)
  have rr : RefP T (upd (upd (del H1 x) d (.xd [("row", .int b), ("part", .int a)])) y (xo y (.ref T.c_NoPaper) (some d))) 2 y _ := ref_of (k := 2) (by decide) upd_same ny
  refine fun p np => ⟨.int a, h1, .int b, h2, upd_same, [(.inr "part", .int a), (.inr "row", .int b)], rfl, by show 2 ≤ 15; decide, p, _, rfl, upd_same, True.intro, fun od => ?_⟩
  refine fin_k T x2 rr (fun z hz => ?_) (lk_ex np) (by rw [upd_same]) (by show 2 ≤ 3; decide) (fun i key v e => ?_) q
  · rcases hz with ⟨_, rfl⟩ | ⟨h, rfl⟩ | ⟨h, rfl⟩ | ⟨h, rfl⟩
    · exact ⟨_, rfl⟩
    · exact absurd h (by decide)
    · exact ⟨_, rfl⟩
    · exact ⟨_, rfl⟩
  · match i, e with
    | 0, e => cases e; exact ⟨"part", rfl, .inr (.inr (.inr ⟨rfl, rfl⟩)), by decide, rfl, rfl, shw_int a0 a1⟩
    | 1, e => cases e; exact ⟨"row", rfl, .inl ⟨by decide, rfl⟩, by decide, rfl, rfl, shw_int b0 b1⟩
theorem tup_0 (T : Txt K mg) {k : Nat} (hk : 3 ≤ k) (q : ∀ t H', Ex H H' → MadeK T H' k (.ref t) → Q (.ref t) H') :
    tTup (tCons (fun σ H Q => (fun cls d H1 => ∀ a, H1 a = none → Q (.ref a) (upd H1 a (xo a cls d))) (Value.ref (clsOf T k)) none H) (tCons (tLk tDNewK) tNil)) σ H Q := by
  refine fun y ny => fun p np => ⟨p, _, rfl, upd_same, True.intro, fun od => ?_⟩
  have x2 := Evl.Ex.new (o := xo y (.ref (clsOf T k)) none) ny
  refine fin_k (fs := []) T x2 ⟨none, upd_same, fun h => absurd h (by omega), fun _ => rfl⟩ (fun z hz => ?_) (((Evl.Ex.refl _).mut' np).mut' np) upd_same (by show 0 ≤ 3; decide) (fun i key v e => by cases e) q
  rcases hz with ⟨h, _⟩ | ⟨h, _⟩ | ⟨h, _⟩ | ⟨h, _⟩ <;> omega
end
def MadeL (T : Txt K mg) (H : Hp) (xs : List V) : Prop := xs.length = 5 ∧ ∀ (k : Nat) (v : V), xs[k]? = some v → MadeK T H k v
def sp_made (T : Txt K mg) : Sp := fun vs H Q _ => ∃ (d l : Addr), vs = [.ref d] ∧ IsDeal H d l ∧ ∀ (L : Addr) (xs : List V) (H' : Hp), IsDeal H' d l → Kp d l H H' → H' L = some (.lst xs) → L ≠ d → L ≠ l → MadeL T H' xs → Q (.ref L) H'
theorem ok_made {k : Nat} (T : Txt K mg) : FnOk P w K mg base CX0 (k + 4) T.f__law_made T.fd__law_made ["_law_deal_here"] (sp_made T) := by
  have G__law_draw : FnOk P w K mg base CX0 1 T.f__law_draw T.fd__law_draw ["_law_deal_here", "_law_many"] sp_draw := ok_draw T
  have G_BadText__init__ := ok_btinit (P := P) (w := w) (base := base) (k := 0) T
  have G_NoProgram__init__ := ok_npinit (P := P) (w := w) (base := base) (k := 0) T
  have G_NoPaper__init__ := ok_ppinit (P := P) (w := w) (base := base) (k := 0) T
  refine T.F__law_made.ok sc__law_made (fun vs H Q E h => ?_) (fun cdv A outer s H vs Q E hr h => ?_)
  · obtain ⟨d, l, rfl, _⟩ := h
    rfl
  · obtain ⟨d, l, rfl, D0, q⟩ := h
    refine ⟨_, (pss_cons (ps_par (i := 1) (j := 2) (by rfl) sc__law_made.nd rfl rfl (by decide) rfl rfl (pa_cons (pe_op op_sub (pe_call G__law_draw (hr.mono (by omega)) (by rfl) T.g__law_draw T.F__law_draw.kp T.b__law_draw .nil pass0 (pa_cons (pv 0) (pa_cons pe_int pa_nil))) pe_int) (pa_cons (pe_op op_sub (pe_call G__law_draw (hr.mono (by omega)) (by rfl) T.g__law_draw T.F__law_draw.kp T.b__law_draw .nil pass0 (pa_cons (pv 0) (pa_cons pe_int pa_nil))) pe_int) pa_nil)) (by rfl))
      (pss_cons (ps_set (i := 3) sc__law_made.nd rfl (Or.inl rfl) (pe_ix (ix_listK (K := K)) (pe_lst (pa_cons pe_str (pa_cons pe_str (pa_cons pe_str (pa_cons pe_str (pa_cons pe_str (pa_cons pe_str pa_nil))))))) (pe_call G__law_draw (hr.mono (by omega)) (by rfl) T.g__law_draw T.F__law_draw.kp T.b__law_draw .nil pass0 (pa_cons (pv 0) (pa_cons pe_int pa_nil))) (fun _ _ => rfl)))
      (pss_cons (ps_set (i := 4) sc__law_made.nd rfl (Or.inl rfl) (pe_lst (pa_cons (pe_tup (pa_cons (pe_mkx (pmkN_oex T.ox_BadText T.i_BadText__init__ T.t_BadText__init__ G_BadText__init__ (hr.mono (by omega)) T.b_BadText__init__ .nil pass0 (by rfl) T.gC_BadText (pa_cons (pv 1) pa_nil))) (pa_cons (pe_lk (pe_disp (pps_cons pe_str (pv 1) pps_nil) (by rfl) (by rfl) (fun z => by cases z) (by decide))) pa_nil))) (pa_cons (pe_tup (pa_cons (pe_mkx (pmkN_oex T.ox_NoProgram T.i_NoProgram__init__ T.t_NoProgram__init__ G_NoProgram__init__ (hr.mono (by omega)) T.b_NoProgram__init__ .nil pass0 (by rfl) T.gC_NoProgram (pa_cons (pv 3) (pa_cons (pv 1) (pa_cons (pv 2) pa_nil))))) (pa_cons (pe_lk (pe_disp (pps_cons pe_str (pv 3) (pps_cons pe_str (pv 1) (pps_cons pe_str (pv 2) pps_nil))) (by rfl) (by rfl) (fun z => by cases z) (by decide))) pa_nil))) pa_nil))))
      (pss_one (ps_ret (pe_op op_cat (pv 4) (pe_lst (pa_cons (pe_tup (pa_cons (pe_mkx (pmkN_oex T.ox_NoPaper T.i_NoPaper__init__ T.t_NoPaper__init__ G_NoPaper__init__ (hr.mono (by omega)) T.b_NoPaper__init__ .nil pass0 (by rfl) T.gC_NoPaper (pa_cons (pv 1) (pa_cons (pv 2) pa_nil)))) (pa_cons (pe_lk (pe_disp (pps_cons pe_str (pv 1) (pps_cons pe_str (pv 2) pps_nil)) (by rfl) (by rfl) (fun z => by cases z) (by decide))) pa_nil))) (pa_cons (pe_tup (pa_cons (pe_mkx (pmkN_own0 PySem.F.excBase_ValueError T.q_NoFit T.gC_NoFit T.kC_NoFit (raises_own T.eC_NoFit T.tC_NoFit) (by rfl))) (pa_cons (pe_lk pe_dnewK) pa_nil))) (pa_cons (pe_tup (pa_cons (pe_mkx (pmkN_own0 PySem.F.excBase_ValueError T.q_NoRow T.gC_NoRow T.kC_NoRow (raises_own T.eC_NoRow T.tC_NoRow) (by rfl))) (pa_cons (pe_lk pe_dnewK) pa_nil))) pa_nil)))))))))), ?_⟩
    refine ⟨.ref d, rfl, d, l, 2000, rfl, D0, by decide, by decide, fun r1 H1 r10 r11 D1 k1 => ?_⟩
    refine ⟨r1, 1, rfl, rfl, ?_⟩
    refine ⟨.ref d, rfl, d, l, 2000, rfl, D1, by decide, by decide, fun r2 H2 r20 r21 D2 k2 => ?_⟩
    refine ⟨r2, 1, rfl, rfl, ?_⟩
    refine ⟨.int (r1 - 1), .int (r2 - 1), rfl, ?_⟩
    refine ⟨by show 6 ≤ sizeLine; decide, fun L0 n0 => ?_⟩
    have D2' := D2.ex (Evl.Ex.new (o := .lst [.str "sizes", .str "twice", .str "box", .str "sum", .str "part", .str "goings"]) n0)
    have L0d := D2.nd n0
    refine ⟨.ref d, rfl, d, l, 6, rfl, D2', by decide, by decide, fun r3 H3 r30 r31 D3 k3 => ?_⟩
    have hL0 := k3 L0 _ L0d.1 L0d.2 upd_same
    have K3 : Kp d l H H3 := (k1.trans (k2.trans (Kp.of_ex (Evl.Ex.new n0)))).trans k3
    obtain ⟨wd, hwd, hws⟩ : ∃ z : Str, atI [V.str "sizes", V.str "twice", V.str "box", V.str "sum", V.str "part", V.str "goings"] r3 = some (.str z) ∧ (PySem.reprText z).length ≤ sizeLine := by
      rcases (show r3 = 0 ∨ r3 = 1 ∨ r3 = 2 ∨ r3 = 3 ∨ r3 = 4 ∨ r3 = 5 by omega) with rfl | rfl | rfl | rfl | rfl | rfl
      · exact ⟨_, rfl, by decide +kernel⟩
      · exact ⟨_, rfl, by decide +kernel⟩
      · exact ⟨_, rfl, by decide +kernel⟩
      · exact ⟨_, rfl, by decide +kernel⟩
      · exact ⟨_, rfl, by decide +kernel⟩
      · exact ⟨_, rfl, by decide +kernel⟩
    refine ⟨L0, _, r3, .str wd, rfl, rfl, SqL.of hL0, hwd, ?_⟩
    dsimp only [gName, tSeq, tAsg]
    rw [tLst_two]
    refine tup_bt (σ := [some (.ref d), some (.int (r1 - 1)), some (.int (r2 - 1)), some (.str wd), none]) (a := r1 - 1) T rfl (by omega) (by omega) fun t0 H4 x4 m0 => ?_
    refine tup_np (σ := [some (.ref d), some (.int (r1 - 1)), some (.int (r2 - 1)), some (.str wd), none]) (a := r1 - 1) (b := r2 - 1) T rfl rfl rfl (by omega) (by omega) (by omega) (by omega) hws fun t1 H5 x5 m1 => ?_
    refine ⟨by show 2 ≤ sizeLine; decide, fun L1 n1 => ?_⟩
    refine ⟨.ref L1, rfl, ?_⟩
    dsimp only
    rw [tLst_three]
    refine tup_pp (σ := [some (.ref d), some (.int (r1 - 1)), some (.int (r2 - 1)), some (.str wd), some (.ref L1)]) (a := r1 - 1) (b := r2 - 1) T rfl rfl (by omega) (by omega) (by omega) (by omega) fun t2 H6 x6 m2 => ?_
    refine tup_0 (k := 3) T (by decide) fun t3 H7 x7 m3 => ?_
    refine tup_0 (k := 4) T (by decide) fun t4 H8 x8 m4 => ?_
    refine ⟨by show 3 ≤ sizeLine; decide, fun L2 n2 => ?_⟩
    have h1 : H8 L1 = _ := x8 _ _ (x7 _ _ (x6 _ _ upd_same))
    have x9 := Evl.Ex.new (o := .lst [.ref t2, .ref t3, .ref t4]) n2
    have e58 := (x6.trans x7).trans x8
    refine ⟨L1, L2, _, _, rfl, rfl, x9 _ _ h1, upd_same, by show 5 ≤ sizeLine; decide, fun L nL => ?_⟩
    have xA := Evl.Ex.new (o := .lst ([.ref t0, .ref t1] ++ [.ref t2, .ref t3, .ref t4])) nL
    have xB := Evl.Ex.new (o := .lst [.ref t0, .ref t1]) n1
    have xH := ((((x4.trans x5).trans xB).trans e58).trans x9).trans xA
    have Dn := D3.ex ((((x4.trans x5).trans xB).trans e58).trans x9)
    refine q L _ _ (D3.ex xH) (K3.trans (Kp.of_ex xH)) upd_same (Dn.nd nL).1 (Dn.nd nL).2 ⟨rfl, fun k v e => ?_⟩
    have y9 := x9.trans xA
    match k, e with
    | 0, e => cases e; exact m0.ex (((x5.trans xB).trans e58).trans y9)
    | 1, e => cases e; exact m1.ex ((xB.trans e58).trans y9)
    | 2, e => cases e; exact m2.ex ((x7.trans x8).trans y9)
    | 3, e => cases e; exact m3.ex (x8.trans y9)
    | 4, e => cases e; exact m4.ex y9

/-! ### the law -/
def sp_law (K : PySem.W.Frag) : Sp := fun vs H Q _ => ∃ (a : Addr) (ns : List Int), vs = [.ref a] ∧ SqL K H a (ns.map V.int) ∧ ns.length ≤ 63 ∧ ∀ H', Q (.bl true) H'
theorem sp_kl {T : Txt K mg} {H H' : Hp} {xs : List V} (m : MadeL T H xs) (x : Ex H H') : MadeL T H' xs := ⟨m.1, fun k v e => (m.2 k v e).ex x⟩
theorem ok_law {k : Nat} (T : Txt K mg) : FnOk P w K mg base CX0 (k + 8) T.f_law T.fd_law ["_law_script"] (sp_law K) := by
  have G__law_deal : FnOk P w K mg base CX0 1 T.f__law_deal T.fd__law_deal ["_law_script", "_law_base"] (sp_deal K) := ok_deal T
  have G__law_made : FnOk P w K mg base CX0 4 T.f__law_made T.fd__law_made ["_law_deal_here"] (sp_made T) := ok_made T
  have G__law_sort : FnOk P w K mg base CX0 1 T.f__law_sort T.fd__law_sort ["_law_one"] (sp_sort T) := ok_sort T
  have G__law_caught : FnOk P w K mg base CX0 5 T.f__law_caught T.fd__law_caught ["_law_k", "_law_one"] (sp_caught T) := ok_caught T
  have G__law_field : FnOk P w K mg base CX0 1 T.f__law_field T.fd__law_field ["_law_one", "_law_key"] (sp_field T) := ok_field T
  refine T.F_law.ok sc_law (fun vs H Q E h => ?_) (fun cdv A outer s H vs Q E hr h => ?_)
  · obtain ⟨a, ns, rfl, _⟩ := h
    rfl
  · obtain ⟨a, ns, rfl, hS, hlen, fin⟩ := h
    have hu := hu_of hr
    refine ⟨_, (pss_cons (ps_set (i := 1) sc_law.nd rfl (Or.inl rfl) (pe_call G__law_deal (hr.mono (by omega)) (by rfl) T.g__law_deal T.F__law_deal.kp T.b__law_deal .nil pass0 (pa_cons (pv 0) (pa_cons pe_int pa_nil))))
      (pss_cons (ps_set (i := 2) sc_law.nd rfl (Or.inl rfl) (pe_lst (pa_cons (pe_call G__law_made (hr.mono (by omega)) (by rfl) T.g__law_made T.F__law_made.kp T.b__law_made .nil pass0 (pa_cons (pv 1) pa_nil)) (pa_cons (pe_call G__law_made (hr.mono (by omega)) (by rfl) T.g__law_made T.F__law_made.kp T.b__law_made .nil pass0 (pa_cons (pv 1) pa_nil)) pa_nil))))
      (Evl.pss_cut (ps_for PassesOwn.never rfl (pi_listK (K := K) (pe_op op_cat (pv 2) (pe_slice (sl_listK (K := K)) (pv 2) po_none (po_some pe_int)))) (pg_name (i := 3) sc_law.nd rfl (Or.inl rfl))
        (pss_one (ps_for PassesOwn.never rfl (pi_range1 (by rfl) T.z_range (pa_cons pe_int pa_nil)) (pg_name (i := 4) sc_law.nd rfl (Or.inl rfl))
          (pss_cons (ps_asg (pe_ix (ix_listK (K := K)) (pv 3) (pv 4) (fun _ _ => rfl)) (pg_tupK (K := K) rfl (pgs_cons (pg_name (i := 5) sc_law.nd rfl (Or.inl rfl)) (pgs_cons (pg_name (i := 6) sc_law.nd rfl (Or.inl rfl)) pgs_nil))))
          (pss_cons (ps_if (PW.pt (pw_or (pt_cmpR (op_neDK (K := K) hr.units) (pe_call G__law_sort (hr.mono (by omega)) (by rfl) T.g__law_sort T.F__law_sort.kp T.b__law_sort .nil pass0 (pa_cons (pv 5) pa_nil)) (pe_lst (pa_cons (pv 4) pa_nil)) (nomark _)) (pw_or1 (pt_not (pt_val (pe_call G__law_caught (hr.mono (by omega)) (by rfl) T.g__law_caught T.F__law_caught.kp T.b__law_caught .nil pass0 (pa_cons (pv 4) (pa_cons (pv 5) pa_nil)))))))) (pss_one (ps_ret pe_bl)) pss_nil)
          (pss_one (ps_for PassesOwn.never rfl (pi_keys (pv 6)) (pg_name (i := 7) sc_law.nd rfl (Or.inl rfl))
            (pss_one (ps_if (pt_cmpR op_ne (pe_callB repr_is (by rfl) T.z_repr bt_repr (pa_cons (pe_call G__law_field (hr.mono (by omega)) (by rfl) T.g__law_field T.F__law_field.kp T.b__law_field .nil pass0 (pa_cons (pv 5) (pa_cons (pv 7) pa_nil))) pa_nil)) (pe_callB repr_is (by rfl) T.z_repr bt_repr (pa_cons (pe_dget hu (pv 6) (pv 7) (fun _ _ => rfl)) pa_nil)) (nomark _)) (pss_one (ps_ret pe_bl)) pss_nil)))))))))
      (pss_one (ps_ret pe_bl))))), ?_⟩
    refine ⟨.ref a, rfl, a, ns, 0, rfl, hS, hlen, by decide, by decide, fun d l H1 x1 nd nl D1 => ?_⟩
    refine ⟨.ref d, rfl, d, l, rfl, D1, fun L1 xs1 H2 D2 k2 h1 nd1 nl1 m1 => ?_⟩
    refine ⟨.ref d, rfl, d, l, rfl, D2, fun M2 xs2 H3 D3 k3 h2 nd2 nl2 m2 => ?_⟩
    have h1' := k3 _ _ nd1 nl1 h1
    have m1' : MadeL T H3 xs1 := ⟨m1.1, fun k v e => (m1.2 k v e).draw D2 k3⟩
    refine ⟨by show 2 ≤ sizeLine; decide, fun Lb nb => ?_⟩
    have xb := Evl.Ex.new (o := .lst [.ref L1, .ref M2]) nb
    refine ⟨fun σ H' => True, ?_, fun σ H' _ => fin H'⟩
    refine ⟨.ref Lb, rfl, .ref Lb, rfl, 1, rfl, Lb, _, rfl, SqL.of upd_same, fun Ls ns => ?_⟩
    have xs' := Evl.Ex.new (o := .lst (cutV [.ref L1, .ref M2] none (some 1))) ns
    refine ⟨Lb, Ls, _, _, rfl, rfl, xs' _ _ upd_same, upd_same, by show 3 ≤ sizeLine; decide, fun Lc nc => ?_⟩
    have xc := Evl.Ex.new (o := .lst ([.ref L1, .ref M2] ++ cutV [.ref L1, .ref M2] none (some 1))) nc
    have e3 := (xb.trans xs').trans xc
    have hLc : upd (upd (upd H3 Lb (.lst [.ref L1, .ref M2])) Ls (.lst (cutV [.ref L1, .ref M2] none (some 1)))) Lc (.lst ([.ref L1, .ref M2] ++ cutV [.ref L1, .ref M2] none (some 1))) Lc = some (.lst [.ref L1, .ref M2, .ref L1]) := upd_same
    have g1 := e3 _ _ h1'
    have g2 := e3 _ _ h2
    replace m1' := sp_kl m1' e3
    replace m2 := sp_kl m2 e3
    generalize upd (upd (upd H3 Lb (.lst [.ref L1, .ref M2])) Ls (.lst (cutV [.ref L1, .ref M2] none (some 1)))) Lc (.lst ([.ref L1, .ref M2] ++ cutV [.ref L1, .ref M2] none (some 1))) = Hc at hLc g1 g2 m1' m2 ⊢
    refine ⟨Lc, rfl, ⟨_, SqL.of hLc⟩, for_it walk_list (fun i σ H' => (∃ y3 y4 y5 y6 y7, σ = [some (.ref a), some (.ref d), some (.ref Lb), y3, y4, y5, y6, y7]) ∧ Ex Hc H') ⟨⟨_, _, _, _, _, rfl⟩, Evl.Ex.refl _⟩ (fun i σ H' _ h => SqL.of (h.2 _ _ hLc)) (fun i x σ H' H'' hi h y => ?_) (fun σ H' h => trivial)⟩
    obtain ⟨⟨y3, y4, y5, y6, y7, rfl⟩, x4⟩ := h
    obtain ⟨rfl, ex⟩ := y
    obtain ⟨L, xs, rfl, hL, mL⟩ : ∃ L xs, x = .ref L ∧ Hc L = some (.lst xs) ∧ MadeL T Hc xs := by
      match i, ex with
      | 0, e => cases e; exact ⟨_, _, rfl, g1, m1'⟩
      | 1, e => cases e; exact ⟨_, _, rfl, g2, m2⟩
      | 2, e => cases e; exact ⟨_, _, rfl, g1, m1'⟩
    refine ⟨5, rfl, by decide, by decide, for_range (fun k σ H' => (∃ y4 y5 y6 y7, σ = [some (.ref a), some (.ref d), some (.ref Lb), some (.ref L), y4, y5, y6, y7]) ∧ Ex Hc H') ⟨⟨_, _, _, _, rfl⟩, x4⟩ (fun k σ H' hk h => ?_) (fun σ H' h => ⟨⟨_, _, _, _, _, h.1.choose_spec.choose_spec.choose_spec.choose_spec⟩, h.2⟩)⟩
    obtain ⟨⟨z4, z5, z6, z7, rfl⟩, x5⟩ := h
    replace hk : k < 5 := hk
    have hkx : k < xs.length := by rw [mL.1]; exact hk
    have ek : xs[k]? = some xs[k] := List.getElem?_eq_getElem hkx
    obtain ⟨t, x, f, o, fs, kvs, et, ht, rp, af, hf, h3, hkv⟩ := (mL.2 k _ ek).ex x5
    rw [et] at ek
    rw [Int.zero_add]
    refine ⟨.ref L, rfl, .int (k : Nat), rfl, L, _, _, _, rfl, rfl, SqL.of (x5 _ _ hL), atI_nat ek, ?_⟩
    refine ⟨t, _, rfl, SqT.of ht, rfl, ?_⟩
    refine ⟨_, _, rfl, _, _, rfl, rfl, ?_⟩
    refine ⟨.ref x, rfl, x, k, fs, rfl, hk, rp, fun l1 H6 x6 hl1 => ?_⟩
    refine ⟨.int (k : Nat), rfl, by show 1 ≤ sizeLine; decide, fun l2 n2 => ?_⟩
    have x7 := Evl.Ex.new (o := .lst [.int (k : Nat)]) n2
    refine ⟨li [(k : Int)], li [(k : Int)], Dp.of_li (SqL.of (x7 _ _ hl1)), Dp.of_li (SqL.of upd_same), li_shaped _, li_shaped _, ?_⟩
    rw [eqv_refl _ (li_shaped _)]
    refine ⟨false, rfl, iteF' rfl ?_⟩
    have x67 := x6.trans x7
    refine ⟨.int (k : Nat), rfl, .ref x, rfl, k, x, fs, rfl, hk, rp.kp (fun b o _ _ e => x67 b o e), af, fun H8 x8' => ⟨true, rfl, ?_⟩⟩
    have x8 := x67.trans x8'
    refine iteF' rfl ?_
    have hf8 := x8 _ _ hf
    refine ⟨.ref f, rfl, f, o, rfl, .inl ⟨kvs, hf8, for_it walk_keys (fun i σ H' => (∃ y7, σ = [some (.ref a), some (.ref d), some (.ref Lb), some (.ref L), some (.int (k : Nat)), some (.ref x), some (.ref f), y7]) ∧ Ex H8 H') ⟨⟨_, rfl⟩, Evl.Ex.refl _⟩ (fun i σ H' _ h => h.2 _ _ hf8) (fun i y σ H' H'' hi h yy => ?_) (fun σ H' h => ⟨⟨_, _, _, _, h.1.choose_spec⟩, x5.trans (x8.trans h.2)⟩)⟩⟩
    obtain ⟨⟨y7, rfl⟩, x9⟩ := h
    obtain ⟨rfl, key, v, ekv, rfl⟩ := yy
    obtain ⟨z, rfl, hz, hk3, lk, hv, shw⟩ := hkv i key v ekv
    have hf9 := x9 _ _ hf8
    have rp9 := rp.kp (fun b o _ _ e => x9 _ _ (x8 b o e))
    have dg : DGet H'' f (.str z) (some v) := by rw [← hv]; exact .inl ⟨kvs, .inr z, .inr ⟨_, hf9⟩, rfl, rfl⟩
    refine ⟨.ref x, rfl, .str z, rfl, x, z, k, fs, v, rfl, hz, hk3, rp9, lk, ?_⟩
    rcases shw with ⟨n, rfl, hn⟩ | ⟨w', rfl, hw⟩
    · refine .inl ⟨n, rfl, hn, .ref f, rfl, .str z, rfl, f, .int n, rfl, dg, .inl ⟨n, rfl, hn, ?_⟩⟩
      exact ⟨rfl, false, by show V.bl (!_) = _; simp, iteF' rfl ⟨⟨_, rfl⟩, x9⟩⟩
    · refine .inr ⟨w', rfl, hw, .ref f, rfl, .str z, rfl, f, .str w', rfl, dg, .inr ⟨w', rfl, hw, ?_⟩⟩
      exact ⟨rfl, false, by show V.bl (!_) = _; simp, iteF' rfl ⟨⟨_, rfl⟩, x9⟩⟩
abbrev level : Nat := 8
theorem law_starts {K : PySem.W.Frag} {H : Hp} {a : Addr} {ns : List Int} (hl : ns.length ≤ 63) (hS : SqL K H a (ns.map V.int)) : sp_law K [.ref a] H (fun v _ => v = .bl true) fun _ _ _ => False := ⟨a, ns, rfl, hS, hl, fun _ => rfl⟩
theorem law_ok {fa : Addr} (hmg : mg "law" = some (.ref fa)) (T : Txt K mg) :
    ∃ fd : FuncData, (∀ (s : Shared) (v : Value), BindsTo s fd ⟨[v], []⟩ [("_law_script", v)]) ∧ ∀ base : Heap, K.In base → base.Ns mainGlobals mg → FnOk P w K mg base CX0 level fa fd ["_law_script"] (sp_law K) := by
  have e := hmg.symm.trans T.g_law
  cases e
  refine ⟨T.fd_law, fun s v => ?_, fun base _ _ => ok_law (k := 0) T⟩
  obtain ⟨oc, od, kV, doc, pm, an, cdv, ct, osl, e, lk, hcd⟩ := T.F_law.ex
  rw [e]
  exact .of_eq rfl

end
def txt_mk {K : PySem.W.Frag} {h : Heap} {mg : Str → Option Value} (X : K.In h) (G : h.Ns mainGlobals mg) {c_CurveError : Addr} {c_BadText : Addr} {c_NoProgram : Addr} {c_NoPaper : Addr} {c_NoFit : Addr} {c_NoRow : Addr} {nm_BadText q_BadText : Str} {N_BadText : Addr} {bs_BadText : List Value} {sn_BadText : List Str} {sub_BadText : List Value} {ab_BadText : Bool} {col_BadText : Option Bool} {dd_BadText : Option Addr} {m0_BadText m1_BadText m2_BadText m3_BadText m5_BadText : Option Value} {nm_NoProgram q_NoProgram : Str} {N_NoProgram : Addr} {bs_NoProgram : List Value} {sn_NoProgram : List Str} {sub_NoProgram : List Value} {ab_NoProgram : Bool} {col_NoProgram : Option Bool} {dd_NoProgram : Option Addr} {m0_NoProgram m1_NoProgram m2_NoProgram m3_NoProgram m5_NoProgram : Option Value} {nm_NoPaper q_NoPaper : Str} {N_NoPaper : Addr} {bs_NoPaper : List Value} {sn_NoPaper : List Str} {sub_NoPaper : List Value} {ab_NoPaper : Bool} {col_NoPaper : Option Bool} {dd_NoPaper : Option Addr} {m0_NoPaper m1_NoPaper m2_NoPaper m3_NoPaper m5_NoPaper : Option Value}
    {f__law_deal : Addr} {od__law_deal an__law_deal : Option Addr} {sl__law_deal : Array (Option Value)} {oc__law_deal kV__law_deal dc__law_deal pm__law_deal cd__law_deal ct__law_deal : Value}
    (a__law_deal : PySem.W.nsIn K mainGlobals "_law_deal" = some (some (.ref f__law_deal))) (l__law_deal : K.lookup f__law_deal = some ⟨oc__law_deal, od__law_deal, .func (PySem.W.fnOf "_law_deal" "_law_deal" (defArgs st__law_deal) (defBody st__law_deal) (defScope st__law_deal) .none kV__law_deal dc__law_deal pm__law_deal an__law_deal cd__law_deal ct__law_deal), sl__law_deal⟩) (c__law_deal : PySem.W.codeIn K cd__law_deal "_law_deal" = true) (k__law_deal : PySem.W.keepIn K (.ref f__law_deal) = true)
    {f__law_draw : Addr} {od__law_draw an__law_draw : Option Addr} {sl__law_draw : Array (Option Value)} {oc__law_draw kV__law_draw dc__law_draw pm__law_draw cd__law_draw ct__law_draw : Value}
    (a__law_draw : PySem.W.nsIn K mainGlobals "_law_draw" = some (some (.ref f__law_draw))) (l__law_draw : K.lookup f__law_draw = some ⟨oc__law_draw, od__law_draw, .func (PySem.W.fnOf "_law_draw" "_law_draw" (defArgs st__law_draw) (defBody st__law_draw) (defScope st__law_draw) .none kV__law_draw dc__law_draw pm__law_draw an__law_draw cd__law_draw ct__law_draw), sl__law_draw⟩) (c__law_draw : PySem.W.codeIn K cd__law_draw "_law_draw" = true) (k__law_draw : PySem.W.keepIn K (.ref f__law_draw) = true)
    {f__law_made : Addr} {od__law_made an__law_made : Option Addr} {sl__law_made : Array (Option Value)} {oc__law_made kV__law_made dc__law_made pm__law_made cd__law_made ct__law_made : Value}
    (a__law_made : PySem.W.nsIn K mainGlobals "_law_made" = some (some (.ref f__law_made))) (l__law_made : K.lookup f__law_made = some ⟨oc__law_made, od__law_made, .func (PySem.W.fnOf "_law_made" "_law_made" (defArgs st__law_made) (defBody st__law_made) (defScope st__law_made) .none kV__law_made dc__law_made pm__law_made an__law_made cd__law_made ct__law_made), sl__law_made⟩) (c__law_made : PySem.W.codeIn K cd__law_made "_law_made" = true) (k__law_made : PySem.W.keepIn K (.ref f__law_made) = true)
    {f__law_field : Addr} {od__law_field an__law_field : Option Addr} {sl__law_field : Array (Option Value)} {oc__law_field kV__law_field dc__law_field pm__law_field cd__law_field ct__law_field : Value}
    (a__law_field : PySem.W.nsIn K mainGlobals "_law_field" = some (some (.ref f__law_field))) (l__law_field : K.lookup f__law_field = some ⟨oc__law_field, od__law_field, .func (PySem.W.fnOf "_law_field" "_law_field" (defArgs st__law_field) (defBody st__law_field) (defScope st__law_field) .none kV__law_field dc__law_field pm__law_field an__law_field cd__law_field ct__law_field), sl__law_field⟩) (c__law_field : PySem.W.codeIn K cd__law_field "_law_field" = true) (k__law_field : PySem.W.keepIn K (.ref f__law_field) = true)
    {f__law_sort : Addr} {od__law_sort an__law_sort : Option Addr} {sl__law_sort : Array (Option Value)} {oc__law_sort kV__law_sort dc__law_sort pm__law_sort cd__law_sort ct__law_sort : Value}
    (a__law_sort : PySem.W.nsIn K mainGlobals "_law_sort" = some (some (.ref f__law_sort))) (l__law_sort : K.lookup f__law_sort = some ⟨oc__law_sort, od__law_sort, .func (PySem.W.fnOf "_law_sort" "_law_sort" (defArgs st__law_sort) (defBody st__law_sort) (defScope st__law_sort) .none kV__law_sort dc__law_sort pm__law_sort an__law_sort cd__law_sort ct__law_sort), sl__law_sort⟩) (c__law_sort : PySem.W.codeIn K cd__law_sort "_law_sort" = true) (k__law_sort : PySem.W.keepIn K (.ref f__law_sort) = true)
    {f__law_raised : Addr} {od__law_raised an__law_raised : Option Addr} {sl__law_raised : Array (Option Value)} {oc__law_raised kV__law_raised dc__law_raised pm__law_raised cd__law_raised ct__law_raised : Value}
    (a__law_raised : PySem.W.nsIn K mainGlobals "_law_raised" = some (some (.ref f__law_raised))) (l__law_raised : K.lookup f__law_raised = some ⟨oc__law_raised, od__law_raised, .func (PySem.W.fnOf "_law_raised" "_law_raised" (defArgs st__law_raised) (defBody st__law_raised) (defScope st__law_raised) .none kV__law_raised dc__law_raised pm__law_raised an__law_raised cd__law_raised ct__law_raised), sl__law_raised⟩) (c__law_raised : PySem.W.codeIn K cd__law_raised "_law_raised" = true) (k__law_raised : PySem.W.keepIn K (.ref f__law_raised) = true)
    {f__law_caught : Addr} {od__law_caught an__law_caught : Option Addr} {sl__law_caught : Array (Option Value)} {oc__law_caught kV__law_caught dc__law_caught pm__law_caught cd__law_caught ct__law_caught : Value}
    (a__law_caught : PySem.W.nsIn K mainGlobals "_law_caught" = some (some (.ref f__law_caught))) (l__law_caught : K.lookup f__law_caught = some ⟨oc__law_caught, od__law_caught, .func (PySem.W.fnOf "_law_caught" "_law_caught" (defArgs st__law_caught) (defBody st__law_caught) (defScope st__law_caught) .none kV__law_caught dc__law_caught pm__law_caught an__law_caught cd__law_caught ct__law_caught), sl__law_caught⟩) (c__law_caught : PySem.W.codeIn K cd__law_caught "_law_caught" = true) (k__law_caught : PySem.W.keepIn K (.ref f__law_caught) = true)
    {f_law : Addr} {od_law an_law : Option Addr} {sl_law : Array (Option Value)} {oc_law kV_law dc_law pm_law cd_law ct_law : Value}
    (a_law : PySem.W.nsIn K mainGlobals "law" = some (some (.ref f_law))) (l_law : K.lookup f_law = some ⟨oc_law, od_law, .func (PySem.W.fnOf "law" "law" (defArgs st_law) (defBody st_law) (defScope st_law) .none kV_law dc_law pm_law an_law cd_law ct_law), sl_law⟩) (c_law : PySem.W.codeIn K cd_law "law" = true) (k_law : PySem.W.keepIn K (.ref f_law) = true)
    {f_BadText__init__ : Addr} {od_BadText__init__ an_BadText__init__ : Option Addr} {sl_BadText__init__ : Array (Option Value)} {oc_BadText__init__ kV_BadText__init__ dc_BadText__init__ pm_BadText__init__ cd_BadText__init__ ct_BadText__init__ : Value}
    {f_NoProgram__init__ : Addr} {od_NoProgram__init__ an_NoProgram__init__ : Option Addr} {sl_NoProgram__init__ : Array (Option Value)} {oc_NoProgram__init__ kV_NoProgram__init__ dc_NoProgram__init__ pm_NoProgram__init__ cd_NoProgram__init__ ct_NoProgram__init__ : Value}
    {f_NoPaper__init__ : Addr} {od_NoPaper__init__ an_NoPaper__init__ : Option Addr} {sl_NoPaper__init__ : Array (Option Value)} {oc_NoPaper__init__ kV_NoPaper__init__ dc_NoPaper__init__ pm_NoPaper__init__ cd_NoPaper__init__ ct_NoPaper__init__ : Value}
    (z_ValueError : PySem.W.nsIn K mainGlobals "ValueError" = some none)
    (z_isinstance : PySem.W.nsIn K mainGlobals "isinstance" = some none)
    (z_len : PySem.W.nsIn K mainGlobals "len" = some none)
    (z_list : PySem.W.nsIn K mainGlobals "list" = some none)
    (z_max : PySem.W.nsIn K mainGlobals "max" = some none)
    (z_range : PySem.W.nsIn K mainGlobals "range" = some none)
    (z_repr : PySem.W.nsIn K mainGlobals "repr" = some none)
    (z_reversed : PySem.W.nsIn K mainGlobals "reversed" = some none)
    (aC_CurveError : PySem.W.nsIn K mainGlobals "CurveError" = some (some (.ref c_CurveError)))
    (aC_BadText : PySem.W.nsIn K mainGlobals "BadText" = some (some (.ref c_BadText)))
    (aC_NoProgram : PySem.W.nsIn K mainGlobals "NoProgram" = some (some (.ref c_NoProgram)))
    (aC_NoPaper : PySem.W.nsIn K mainGlobals "NoPaper" = some (some (.ref c_NoPaper)))
    (aC_NoFit : PySem.W.nsIn K mainGlobals "NoFit" = some (some (.ref c_NoFit)))
    (aC_NoRow : PySem.W.nsIn K mainGlobals "NoRow" = some (some (.ref c_NoRow)))
    (hOv : PySem.W.hasDictIn K c_CurveError = true)
    (tOv : PySem.W.typeIn K (.ref c_CurveError) = some (.type "type"))
    (eOv : PySem.W.subIn K (.ref c_CurveError) (.type "BaseException") = some true)
    (hnCls : PySem.W.specialIn K (.builtin "object.__class__") "__get__" = some (some (.builtin "getset_descriptor.__get__")))
    (htCls : PySem.W.takesIn K (.builtin "object.__class__") = some true)
    (eC_BadText : PySem.W.subIn K (.ref c_BadText) (.type "BaseException") = some true)
    (tC_BadText : PySem.W.typeIn K (.ref c_BadText) = some (.type "type"))
    (kC_BadText : PySem.W.keepIn K (.ref c_BadText) = true)
    (hg_BadText : PySem.W.findIn K (.ref c_BadText) "__getattribute__" = some (some (.builtin "BaseException.__getattribute__")))
    (hk_BadText : PySem.W.findIn K (.ref c_BadText) "__getattr__" = some none)
    (hd_BadText : PySem.W.hasDictIn K c_BadText = true)
    (ha_BadText : PySem.W.findIn K (.ref c_BadText) "__class__" = some (some (.builtin "object.__class__")))
    (hm_BadText : PySem.W.mroIn K c_BadText (.type "object") = some true)
    (sO_BadText : PySem.W.subIn K (.ref c_BadText) (.ref c_CurveError) = some true)
    (ki_ve_BadText : PySem.W.kitOne K (.ref c_BadText) (.type "ValueError") = some true)
    (ki_BadText_BadText : PySem.W.kitOne K (.ref c_BadText) (.ref c_BadText) = some true)
    (ki_NoProgram_BadText : PySem.W.kitOne K (.ref c_BadText) (.ref c_NoProgram) = some false)
    (ki_NoPaper_BadText : PySem.W.kitOne K (.ref c_BadText) (.ref c_NoPaper) = some false)
    (ki_NoFit_BadText : PySem.W.kitOne K (.ref c_BadText) (.ref c_NoFit) = some false)
    (ki_NoRow_BadText : PySem.W.kitOne K (.ref c_BadText) (.ref c_NoRow) = some false)
    (xL_BadText : K.lookup c_BadText = some (excClassObj nm_BadText q_BadText c_BadText N_BadText bs_BadText [.ref c_CurveError, .type "ValueError", .type "Exception", .type "BaseException", .type "object"] true sn_BadText sub_BadText ab_BadText col_BadText dd_BadText m0_BadText m1_BadText m2_BadText m3_BadText m5_BadText "ValueError.__new__"))
    (sa_BadText : PySem.W.findIn K (.ref c_BadText) "__setattr__" = some (some (.builtin "object.__setattr__")))
    (no_BadText_row : PySem.W.findIn K (.ref c_BadText) "row" = some none)
    (eC_NoProgram : PySem.W.subIn K (.ref c_NoProgram) (.type "BaseException") = some true)
    (tC_NoProgram : PySem.W.typeIn K (.ref c_NoProgram) = some (.type "type"))
    (kC_NoProgram : PySem.W.keepIn K (.ref c_NoProgram) = true)
    (hg_NoProgram : PySem.W.findIn K (.ref c_NoProgram) "__getattribute__" = some (some (.builtin "BaseException.__getattribute__")))
    (hk_NoProgram : PySem.W.findIn K (.ref c_NoProgram) "__getattr__" = some none)
    (hd_NoProgram : PySem.W.hasDictIn K c_NoProgram = true)
    (ha_NoProgram : PySem.W.findIn K (.ref c_NoProgram) "__class__" = some (some (.builtin "object.__class__")))
    (hm_NoProgram : PySem.W.mroIn K c_NoProgram (.type "object") = some true)
    (sO_NoProgram : PySem.W.subIn K (.ref c_NoProgram) (.ref c_CurveError) = some true)
    (ki_ve_NoProgram : PySem.W.kitOne K (.ref c_NoProgram) (.type "ValueError") = some true)
    (ki_BadText_NoProgram : PySem.W.kitOne K (.ref c_NoProgram) (.ref c_BadText) = some false)
    (ki_NoProgram_NoProgram : PySem.W.kitOne K (.ref c_NoProgram) (.ref c_NoProgram) = some true)
    (ki_NoPaper_NoProgram : PySem.W.kitOne K (.ref c_NoProgram) (.ref c_NoPaper) = some false)
    (ki_NoFit_NoProgram : PySem.W.kitOne K (.ref c_NoProgram) (.ref c_NoFit) = some false)
    (ki_NoRow_NoProgram : PySem.W.kitOne K (.ref c_NoProgram) (.ref c_NoRow) = some false)
    (xL_NoProgram : K.lookup c_NoProgram = some (excClassObj nm_NoProgram q_NoProgram c_NoProgram N_NoProgram bs_NoProgram [.ref c_CurveError, .type "ValueError", .type "Exception", .type "BaseException", .type "object"] true sn_NoProgram sub_NoProgram ab_NoProgram col_NoProgram dd_NoProgram m0_NoProgram m1_NoProgram m2_NoProgram m3_NoProgram m5_NoProgram "ValueError.__new__"))
    (sa_NoProgram : PySem.W.findIn K (.ref c_NoProgram) "__setattr__" = some (some (.builtin "object.__setattr__")))
    (no_NoProgram_word : PySem.W.findIn K (.ref c_NoProgram) "word" = some none)
    (no_NoProgram_part : PySem.W.findIn K (.ref c_NoProgram) "part" = some none)
    (no_NoProgram_row : PySem.W.findIn K (.ref c_NoProgram) "row" = some none)
    (eC_NoPaper : PySem.W.subIn K (.ref c_NoPaper) (.type "BaseException") = some true)
    (tC_NoPaper : PySem.W.typeIn K (.ref c_NoPaper) = some (.type "type"))
    (kC_NoPaper : PySem.W.keepIn K (.ref c_NoPaper) = true)
    (hg_NoPaper : PySem.W.findIn K (.ref c_NoPaper) "__getattribute__" = some (some (.builtin "BaseException.__getattribute__")))
    (hk_NoPaper : PySem.W.findIn K (.ref c_NoPaper) "__getattr__" = some none)
    (hd_NoPaper : PySem.W.hasDictIn K c_NoPaper = true)
    (ha_NoPaper : PySem.W.findIn K (.ref c_NoPaper) "__class__" = some (some (.builtin "object.__class__")))
    (hm_NoPaper : PySem.W.mroIn K c_NoPaper (.type "object") = some true)
    (sO_NoPaper : PySem.W.subIn K (.ref c_NoPaper) (.ref c_CurveError) = some true)
    (ki_ve_NoPaper : PySem.W.kitOne K (.ref c_NoPaper) (.type "ValueError") = some true)
    (ki_BadText_NoPaper : PySem.W.kitOne K (.ref c_NoPaper) (.ref c_BadText) = some false)
    (ki_NoProgram_NoPaper : PySem.W.kitOne K (.ref c_NoPaper) (.ref c_NoProgram) = some false)
    (ki_NoPaper_NoPaper : PySem.W.kitOne K (.ref c_NoPaper) (.ref c_NoPaper) = some true)
    (ki_NoFit_NoPaper : PySem.W.kitOne K (.ref c_NoPaper) (.ref c_NoFit) = some false)
    (ki_NoRow_NoPaper : PySem.W.kitOne K (.ref c_NoPaper) (.ref c_NoRow) = some false)
    (xL_NoPaper : K.lookup c_NoPaper = some (excClassObj nm_NoPaper q_NoPaper c_NoPaper N_NoPaper bs_NoPaper [.ref c_CurveError, .type "ValueError", .type "Exception", .type "BaseException", .type "object"] true sn_NoPaper sub_NoPaper ab_NoPaper col_NoPaper dd_NoPaper m0_NoPaper m1_NoPaper m2_NoPaper m3_NoPaper m5_NoPaper "ValueError.__new__"))
    (sa_NoPaper : PySem.W.findIn K (.ref c_NoPaper) "__setattr__" = some (some (.builtin "object.__setattr__")))
    (no_NoPaper_part : PySem.W.findIn K (.ref c_NoPaper) "part" = some none)
    (no_NoPaper_row : PySem.W.findIn K (.ref c_NoPaper) "row" = some none)
    (eC_NoFit : PySem.W.subIn K (.ref c_NoFit) (.type "BaseException") = some true)
    (tC_NoFit : PySem.W.typeIn K (.ref c_NoFit) = some (.type "type"))
    (kC_NoFit : PySem.W.keepIn K (.ref c_NoFit) = true)
    (hg_NoFit : PySem.W.findIn K (.ref c_NoFit) "__getattribute__" = some (some (.builtin "BaseException.__getattribute__")))
    (hk_NoFit : PySem.W.findIn K (.ref c_NoFit) "__getattr__" = some none)
    (hd_NoFit : PySem.W.hasDictIn K c_NoFit = true)
    (ha_NoFit : PySem.W.findIn K (.ref c_NoFit) "__class__" = some (some (.builtin "object.__class__")))
    (hm_NoFit : PySem.W.mroIn K c_NoFit (.type "object") = some true)
    (sO_NoFit : PySem.W.subIn K (.ref c_NoFit) (.ref c_CurveError) = some true)
    (ki_ve_NoFit : PySem.W.kitOne K (.ref c_NoFit) (.type "ValueError") = some true)
    (ki_BadText_NoFit : PySem.W.kitOne K (.ref c_NoFit) (.ref c_BadText) = some false)
    (ki_NoProgram_NoFit : PySem.W.kitOne K (.ref c_NoFit) (.ref c_NoProgram) = some false)
    (ki_NoPaper_NoFit : PySem.W.kitOne K (.ref c_NoFit) (.ref c_NoPaper) = some false)
    (ki_NoFit_NoFit : PySem.W.kitOne K (.ref c_NoFit) (.ref c_NoFit) = some true)
    (ki_NoRow_NoFit : PySem.W.kitOne K (.ref c_NoFit) (.ref c_NoRow) = some false)
    (q_NoFit : PySem.W.excIn K c_NoFit [.type "ValueError", .type "Exception", .type "BaseException", .type "object"] "ValueError.__new__" = true)
    (eC_NoRow : PySem.W.subIn K (.ref c_NoRow) (.type "BaseException") = some true)
    (tC_NoRow : PySem.W.typeIn K (.ref c_NoRow) = some (.type "type"))
    (kC_NoRow : PySem.W.keepIn K (.ref c_NoRow) = true)
    (hg_NoRow : PySem.W.findIn K (.ref c_NoRow) "__getattribute__" = some (some (.builtin "BaseException.__getattribute__")))
    (hk_NoRow : PySem.W.findIn K (.ref c_NoRow) "__getattr__" = some none)
    (hd_NoRow : PySem.W.hasDictIn K c_NoRow = true)
    (ha_NoRow : PySem.W.findIn K (.ref c_NoRow) "__class__" = some (some (.builtin "object.__class__")))
    (hm_NoRow : PySem.W.mroIn K c_NoRow (.type "object") = some true)
    (sO_NoRow : PySem.W.subIn K (.ref c_NoRow) (.ref c_CurveError) = some true)
    (ki_ve_NoRow : PySem.W.kitOne K (.ref c_NoRow) (.type "ValueError") = some true)
    (ki_BadText_NoRow : PySem.W.kitOne K (.ref c_NoRow) (.ref c_BadText) = some false)
    (ki_NoProgram_NoRow : PySem.W.kitOne K (.ref c_NoRow) (.ref c_NoProgram) = some false)
    (ki_NoPaper_NoRow : PySem.W.kitOne K (.ref c_NoRow) (.ref c_NoPaper) = some false)
    (ki_NoFit_NoRow : PySem.W.kitOne K (.ref c_NoRow) (.ref c_NoFit) = some false)
    (ki_NoRow_NoRow : PySem.W.kitOne K (.ref c_NoRow) (.ref c_NoRow) = some true)
    (q_NoRow : PySem.W.excIn K c_NoRow [.type "ValueError", .type "Exception", .type "BaseException", .type "object"] "ValueError.__new__" = true)
    (a_BadText__init__ : PySem.W.findIn K (.ref c_BadText) "__init__" = some (some (.ref f_BadText__init__))) (l_BadText__init__ : K.lookup f_BadText__init__ = some ⟨oc_BadText__init__, od_BadText__init__, .func (PySem.W.fnOf "__init__" "BadText.__init__" (defArgs st_BadText__init__) (defBody st_BadText__init__) (defScope st_BadText__init__) .none kV_BadText__init__ dc_BadText__init__ pm_BadText__init__ an_BadText__init__ cd_BadText__init__ ct_BadText__init__), sl_BadText__init__⟩) (c_BadText__init__ : PySem.W.codeIn K cd_BadText__init__ "BadText.__init__" = true) (k_BadText__init__ : PySem.W.keepIn K (.ref f_BadText__init__) = true) (t_BadText__init__ : PySem.W.typeIn K (.ref f_BadText__init__) = some (.type "function"))
    (a_NoProgram__init__ : PySem.W.findIn K (.ref c_NoProgram) "__init__" = some (some (.ref f_NoProgram__init__))) (l_NoProgram__init__ : K.lookup f_NoProgram__init__ = some ⟨oc_NoProgram__init__, od_NoProgram__init__, .func (PySem.W.fnOf "__init__" "NoProgram.__init__" (defArgs st_NoProgram__init__) (defBody st_NoProgram__init__) (defScope st_NoProgram__init__) .none kV_NoProgram__init__ dc_NoProgram__init__ pm_NoProgram__init__ an_NoProgram__init__ cd_NoProgram__init__ ct_NoProgram__init__), sl_NoProgram__init__⟩) (c_NoProgram__init__ : PySem.W.codeIn K cd_NoProgram__init__ "NoProgram.__init__" = true) (k_NoProgram__init__ : PySem.W.keepIn K (.ref f_NoProgram__init__) = true) (t_NoProgram__init__ : PySem.W.typeIn K (.ref f_NoProgram__init__) = some (.type "function"))
    (a_NoPaper__init__ : PySem.W.findIn K (.ref c_NoPaper) "__init__" = some (some (.ref f_NoPaper__init__))) (l_NoPaper__init__ : K.lookup f_NoPaper__init__ = some ⟨oc_NoPaper__init__, od_NoPaper__init__, .func (PySem.W.fnOf "__init__" "NoPaper.__init__" (defArgs st_NoPaper__init__) (defBody st_NoPaper__init__) (defScope st_NoPaper__init__) .none kV_NoPaper__init__ dc_NoPaper__init__ pm_NoPaper__init__ an_NoPaper__init__ cd_NoPaper__init__ ct_NoPaper__init__), sl_NoPaper__init__⟩) (c_NoPaper__init__ : PySem.W.codeIn K cd_NoPaper__init__ "NoPaper.__init__" = true) (k_NoPaper__init__ : PySem.W.keepIn K (.ref f_NoPaper__init__) = true) (t_NoPaper__init__ : PySem.W.typeIn K (.ref f_NoPaper__init__) = some (.type "function")) : Txt K mg :=
  {
    f__law_deal := f__law_deal, fd__law_deal := _, F__law_deal := fun_mk (st := st__law_deal) l__law_deal c__law_deal k__law_deal, b__law_deal := (fun_mk (st := st__law_deal) l__law_deal c__law_deal k__law_deal).binds (ps := ["_law_script", "_law_base"]) fun _ _ _ _ _ _ us hl => match us, hl with | [_, _], _ => rfl, g__law_deal := PySem.W.mg_of X G a__law_deal,
    f__law_draw := f__law_draw, fd__law_draw := _, F__law_draw := fun_mk (st := st__law_draw) l__law_draw c__law_draw k__law_draw, b__law_draw := (fun_mk (st := st__law_draw) l__law_draw c__law_draw k__law_draw).binds (ps := ["_law_deal_here", "_law_many"]) fun _ _ _ _ _ _ us hl => match us, hl with | [_, _], _ => rfl, g__law_draw := PySem.W.mg_of X G a__law_draw,
    f__law_made := f__law_made, fd__law_made := _, F__law_made := fun_mk (st := st__law_made) l__law_made c__law_made k__law_made, b__law_made := (fun_mk (st := st__law_made) l__law_made c__law_made k__law_made).binds (ps := ["_law_deal_here"]) fun _ _ _ _ _ _ us hl => match us, hl with | [_], _ => rfl, g__law_made := PySem.W.mg_of X G a__law_made,
    f__law_field := f__law_field, fd__law_field := _, F__law_field := fun_mk (st := st__law_field) l__law_field c__law_field k__law_field, b__law_field := (fun_mk (st := st__law_field) l__law_field c__law_field k__law_field).binds (ps := ["_law_one", "_law_key"]) fun _ _ _ _ _ _ us hl => match us, hl with | [_, _], _ => rfl, g__law_field := PySem.W.mg_of X G a__law_field,
    f__law_sort := f__law_sort, fd__law_sort := _, F__law_sort := fun_mk (st := st__law_sort) l__law_sort c__law_sort k__law_sort, b__law_sort := (fun_mk (st := st__law_sort) l__law_sort c__law_sort k__law_sort).binds (ps := ["_law_one"]) fun _ _ _ _ _ _ us hl => match us, hl with | [_], _ => rfl, g__law_sort := PySem.W.mg_of X G a__law_sort,
    f__law_raised := f__law_raised, fd__law_raised := _, F__law_raised := fun_mk (st := st__law_raised) l__law_raised c__law_raised k__law_raised, b__law_raised := (fun_mk (st := st__law_raised) l__law_raised c__law_raised k__law_raised).binds (ps := ["_law_k", "_law_one"]) fun _ _ _ _ _ _ us hl => match us, hl with | [_, _], _ => rfl, g__law_raised := PySem.W.mg_of X G a__law_raised,
    f__law_caught := f__law_caught, fd__law_caught := _, F__law_caught := fun_mk (st := st__law_caught) l__law_caught c__law_caught k__law_caught, b__law_caught := (fun_mk (st := st__law_caught) l__law_caught c__law_caught k__law_caught).binds (ps := ["_law_k", "_law_one"]) fun _ _ _ _ _ _ us hl => match us, hl with | [_, _], _ => rfl, g__law_caught := PySem.W.mg_of X G a__law_caught,
    f_law := f_law, fd_law := _, F_law := fun_mk (st := st_law) l_law c_law k_law, b_law := (fun_mk (st := st_law) l_law c_law k_law).binds (ps := ["_law_script"]) fun _ _ _ _ _ _ us hl => match us, hl with | [_], _ => rfl, g_law := PySem.W.mg_of X G a_law,
    f_BadText__init__ := f_BadText__init__, fd_BadText__init__ := _, F_BadText__init__ := fun_mk (st := st_BadText__init__) l_BadText__init__ c_BadText__init__ k_BadText__init__, b_BadText__init__ := (fun_mk (st := st_BadText__init__) l_BadText__init__ c_BadText__init__ k_BadText__init__).binds (ps := ["self", "row"]) fun _ _ _ _ _ _ us hl => match us, hl with | [_, _], _ => rfl, i_BadText__init__ := a_BadText__init__, t_BadText__init__ := t_BadText__init__,
    f_NoProgram__init__ := f_NoProgram__init__, fd_NoProgram__init__ := _, F_NoProgram__init__ := fun_mk (st := st_NoProgram__init__) l_NoProgram__init__ c_NoProgram__init__ k_NoProgram__init__, b_NoProgram__init__ := (fun_mk (st := st_NoProgram__init__) l_NoProgram__init__ c_NoProgram__init__ k_NoProgram__init__).binds (ps := ["self", "word", "part", "row"]) fun _ _ _ _ _ _ us hl => match us, hl with | [_, _, _, _], _ => rfl, i_NoProgram__init__ := a_NoProgram__init__, t_NoProgram__init__ := t_NoProgram__init__,
    f_NoPaper__init__ := f_NoPaper__init__, fd_NoPaper__init__ := _, F_NoPaper__init__ := fun_mk (st := st_NoPaper__init__) l_NoPaper__init__ c_NoPaper__init__ k_NoPaper__init__, b_NoPaper__init__ := (fun_mk (st := st_NoPaper__init__) l_NoPaper__init__ c_NoPaper__init__ k_NoPaper__init__).binds (ps := ["self", "part", "row"]) fun _ _ _ _ _ _ us hl => match us, hl with | [_, _, _], _ => rfl, i_NoPaper__init__ := a_NoPaper__init__, t_NoPaper__init__ := t_NoPaper__init__,
    z_ValueError := PySem.W.mg_none_of X G z_ValueError,
    z_isinstance := PySem.W.mg_none_of X G z_isinstance,
    z_len := PySem.W.mg_none_of X G z_len,
    z_list := PySem.W.mg_none_of X G z_list,
    z_max := PySem.W.mg_none_of X G z_max,
    z_range := PySem.W.mg_none_of X G z_range,
    z_repr := PySem.W.mg_none_of X G z_repr,
    z_reversed := PySem.W.mg_none_of X G z_reversed,
    c_CurveError := c_CurveError,
    gC_CurveError := PySem.W.mg_of X G aC_CurveError,
    c_BadText := c_BadText,
    gC_BadText := PySem.W.mg_of X G aC_BadText,
    c_NoProgram := c_NoProgram,
    gC_NoProgram := PySem.W.mg_of X G aC_NoProgram,
    c_NoPaper := c_NoPaper,
    gC_NoPaper := PySem.W.mg_of X G aC_NoPaper,
    c_NoFit := c_NoFit,
    gC_NoFit := PySem.W.mg_of X G aC_NoFit,
    c_NoRow := c_NoRow,
    gC_NoRow := PySem.W.mg_of X G aC_NoRow,
    eC_BadText := eC_BadText,
    tC_BadText := tC_BadText,
    kC_BadText := kC_BadText,
    ki_ve_BadText := ki_ve_BadText,
    ki_BadText_BadText := ki_BadText_BadText,
    ki_NoProgram_BadText := ki_NoProgram_BadText,
    ki_NoPaper_BadText := ki_NoPaper_BadText,
    ki_NoFit_BadText := ki_NoFit_BadText,
    ki_NoRow_BadText := ki_NoRow_BadText,
    x_BadText := ⟨hg_BadText, hk_BadText, eC_BadText, hd_BadText, ha_BadText, hnCls, htCls, hm_BadText⟩,
    te_BadText := PySem.W.exm_ref eOv hOv tOv sO_BadText,
    no_BadText_row := no_BadText_row,
    ox_BadText := ⟨⟨nm_BadText, q_BadText, N_BadText, bs_BadText, _, sn_BadText, sub_BadText, ab_BadText, col_BadText, dd_BadText, m0_BadText, m1_BadText, m2_BadText, m3_BadText, m5_BadText, xL_BadText, by rfl⟩, sa_BadText, eC_BadText, tC_BadText, kC_BadText⟩,
    xf_BadText := ⟨hg_BadText, hk_BadText, eC_BadText, hd_BadText⟩,
    eC_NoProgram := eC_NoProgram,
    tC_NoProgram := tC_NoProgram,
    kC_NoProgram := kC_NoProgram,
    ki_ve_NoProgram := ki_ve_NoProgram,
    ki_BadText_NoProgram := ki_BadText_NoProgram,
    ki_NoProgram_NoProgram := ki_NoProgram_NoProgram,
    ki_NoPaper_NoProgram := ki_NoPaper_NoProgram,
    ki_NoFit_NoProgram := ki_NoFit_NoProgram,
    ki_NoRow_NoProgram := ki_NoRow_NoProgram,
    x_NoProgram := ⟨hg_NoProgram, hk_NoProgram, eC_NoProgram, hd_NoProgram, ha_NoProgram, hnCls, htCls, hm_NoProgram⟩,
    te_NoProgram := PySem.W.exm_ref eOv hOv tOv sO_NoProgram,
    no_NoProgram_word := no_NoProgram_word,
    no_NoProgram_part := no_NoProgram_part,
    no_NoProgram_row := no_NoProgram_row,
    ox_NoProgram := ⟨⟨nm_NoProgram, q_NoProgram, N_NoProgram, bs_NoProgram, _, sn_NoProgram, sub_NoProgram, ab_NoProgram, col_NoProgram, dd_NoProgram, m0_NoProgram, m1_NoProgram, m2_NoProgram, m3_NoProgram, m5_NoProgram, xL_NoProgram, by rfl⟩, sa_NoProgram, eC_NoProgram, tC_NoProgram, kC_NoProgram⟩,
    xf_NoProgram := ⟨hg_NoProgram, hk_NoProgram, eC_NoProgram, hd_NoProgram⟩,
    eC_NoPaper := eC_NoPaper,
    tC_NoPaper := tC_NoPaper,
    kC_NoPaper := kC_NoPaper,
    ki_ve_NoPaper := ki_ve_NoPaper,
    ki_BadText_NoPaper := ki_BadText_NoPaper,
    ki_NoProgram_NoPaper := ki_NoProgram_NoPaper,
    ki_NoPaper_NoPaper := ki_NoPaper_NoPaper,
    ki_NoFit_NoPaper := ki_NoFit_NoPaper,
    ki_NoRow_NoPaper := ki_NoRow_NoPaper,
    x_NoPaper := ⟨hg_NoPaper, hk_NoPaper, eC_NoPaper, hd_NoPaper, ha_NoPaper, hnCls, htCls, hm_NoPaper⟩,
    te_NoPaper := PySem.W.exm_ref eOv hOv tOv sO_NoPaper,
    no_NoPaper_part := no_NoPaper_part,
    no_NoPaper_row := no_NoPaper_row,
    ox_NoPaper := ⟨⟨nm_NoPaper, q_NoPaper, N_NoPaper, bs_NoPaper, _, sn_NoPaper, sub_NoPaper, ab_NoPaper, col_NoPaper, dd_NoPaper, m0_NoPaper, m1_NoPaper, m2_NoPaper, m3_NoPaper, m5_NoPaper, xL_NoPaper, by rfl⟩, sa_NoPaper, eC_NoPaper, tC_NoPaper, kC_NoPaper⟩,
    xf_NoPaper := ⟨hg_NoPaper, hk_NoPaper, eC_NoPaper, hd_NoPaper⟩,
    eC_NoFit := eC_NoFit,
    tC_NoFit := tC_NoFit,
    kC_NoFit := kC_NoFit,
    ki_ve_NoFit := ki_ve_NoFit,
    ki_BadText_NoFit := ki_BadText_NoFit,
    ki_NoProgram_NoFit := ki_NoProgram_NoFit,
    ki_NoPaper_NoFit := ki_NoPaper_NoFit,
    ki_NoFit_NoFit := ki_NoFit_NoFit,
    ki_NoRow_NoFit := ki_NoRow_NoFit,
    x_NoFit := ⟨hg_NoFit, hk_NoFit, eC_NoFit, hd_NoFit, ha_NoFit, hnCls, htCls, hm_NoFit⟩,
    te_NoFit := PySem.W.exm_ref eOv hOv tOv sO_NoFit,
    q_NoFit := q_NoFit,
    eC_NoRow := eC_NoRow,
    tC_NoRow := tC_NoRow,
    kC_NoRow := kC_NoRow,
    ki_ve_NoRow := ki_ve_NoRow,
    ki_BadText_NoRow := ki_BadText_NoRow,
    ki_NoProgram_NoRow := ki_NoProgram_NoRow,
    ki_NoPaper_NoRow := ki_NoPaper_NoRow,
    ki_NoFit_NoRow := ki_NoFit_NoRow,
    ki_NoRow_NoRow := ki_NoRow_NoRow,
    x_NoRow := ⟨hg_NoRow, hk_NoRow, eC_NoRow, hd_NoRow, ha_NoRow, hnCls, htCls, hm_NoRow⟩,
    te_NoRow := PySem.W.exm_ref eOv hOv tOv sO_NoRow,
    q_NoRow := q_NoRow }
end LW
open PySem PySem.W PyProof.Rows
set_option maxHeartbeats 0 in
theorem PySem.Challenge.cw_curvekept_k02_refusals_holds : PySem.Challenge.rw_curvekept_k02_refusals.Holds := by
  w_on; o_law; k_head; (case hw => w_witness2)
  k_fill
  refine L2.walk_of (l := PySem.Challenge.rw_curvekept_k02_refusals) (n := 63) (k := LW.level) (x := "_law_script") (CX := fun _ => L2.CX0) (sp := fun w => LW.sp_law _) rfl (by decide) rfl ⟨rfl, by decide, by decide⟩ (fun w h Y => PySem.W.kIn_of Y) ?F (fun _ _ a ns hl _ hS => LW.law_starts hl hS) (fun _ _ _ _ _ h => h)
  case F =>
    intro w mg fa h KX G hmg
    refine' LW.law_ok hmg (LW.txt_mk KX G ?a__law_deal ?l__law_deal ?c__law_deal ?k__law_deal ?a__law_draw ?l__law_draw ?c__law_draw ?k__law_draw ?a__law_made ?l__law_made ?c__law_made ?k__law_made ?a__law_field ?l__law_field ?c__law_field ?k__law_field ?a__law_sort ?l__law_sort ?c__law_sort ?k__law_sort ?a__law_raised ?l__law_raised ?c__law_raised ?k__law_raised ?a__law_caught ?l__law_caught ?c__law_caught ?k__law_caught ?a_law ?l_law ?c_law ?k_law ?z_ValueError ?z_isinstance ?z_len ?z_list ?z_max ?z_range ?z_repr ?z_reversed ?aC_CurveError ?aC_BadText ?aC_NoProgram ?aC_NoPaper ?aC_NoFit ?aC_NoRow ?hOv ?tOv ?eOv ?hnCls ?htCls ?eC_BadText ?tC_BadText ?kC_BadText ?hg_BadText ?hk_BadText ?hd_BadText ?ha_BadText ?hm_BadText ?sO_BadText ?ki_ve_BadText ?ki_BadText_BadText ?ki_NoProgram_BadText ?ki_NoPaper_BadText ?ki_NoFit_BadText ?ki_NoRow_BadText ?xL_BadText ?sa_BadText ?no_BadText_row ?eC_NoProgram ?tC_NoProgram ?kC_NoProgram ?hg_NoProgram ?hk_NoProgram ?hd_NoProgram ?ha_NoProgram ?hm_NoProgram ?sO_NoProgram ?ki_ve_NoProgram ?ki_BadText_NoProgram ?ki_NoProgram_NoProgram ?ki_NoPaper_NoProgram ?ki_NoFit_NoProgram ?ki_NoRow_NoProgram ?xL_NoProgram ?sa_NoProgram ?no_NoProgram_word ?no_NoProgram_part ?no_NoProgram_row ?eC_NoPaper ?tC_NoPaper ?kC_NoPaper ?hg_NoPaper ?hk_NoPaper ?hd_NoPaper ?ha_NoPaper ?hm_NoPaper ?sO_NoPaper ?ki_ve_NoPaper ?ki_BadText_NoPaper ?ki_NoProgram_NoPaper ?ki_NoPaper_NoPaper ?ki_NoFit_NoPaper ?ki_NoRow_NoPaper ?xL_NoPaper ?sa_NoPaper ?no_NoPaper_part ?no_NoPaper_row ?eC_NoFit ?tC_NoFit ?kC_NoFit ?hg_NoFit ?hk_NoFit ?hd_NoFit ?ha_NoFit ?hm_NoFit ?sO_NoFit ?ki_ve_NoFit ?ki_BadText_NoFit ?ki_NoProgram_NoFit ?ki_NoPaper_NoFit ?ki_NoFit_NoFit ?ki_NoRow_NoFit ?q_NoFit ?eC_NoRow ?tC_NoRow ?kC_NoRow ?hg_NoRow ?hk_NoRow ?hd_NoRow ?ha_NoRow ?hm_NoRow ?sO_NoRow ?ki_ve_NoRow ?ki_BadText_NoRow ?ki_NoProgram_NoRow ?ki_NoPaper_NoRow ?ki_NoFit_NoRow ?ki_NoRow_NoRow ?q_NoRow ?a_BadText__init__ ?l_BadText__init__ ?c_BadText__init__ ?k_BadText__init__ ?t_BadText__init__ ?a_NoProgram__init__ ?l_NoProgram__init__ ?c_NoProgram__init__ ?k_NoProgram__init__ ?t_NoProgram__init__ ?a_NoPaper__init__ ?l_NoPaper__init__ ?c_NoPaper__init__ ?k_NoPaper__init__ ?t_NoPaper__init__)
    (case a__law_deal => k_is); (case l__law_deal => k_is); (case c__law_deal => k_is); (case k__law_deal => k_is); (case a__law_draw => k_is); (case l__law_draw => k_is); (case c__law_draw => k_is); (case k__law_draw => k_is); (case a__law_made => k_is); (case l__law_made => k_is); (case c__law_made => k_is); (case k__law_made => k_is); (case a__law_field => k_is); (case l__law_field => k_is); (case c__law_field => k_is); (case k__law_field => k_is); (case a__law_sort => k_is); (case l__law_sort => k_is); (case c__law_sort => k_is); (case k__law_sort => k_is); (case a__law_raised => k_is); (case l__law_raised => k_is); (case c__law_raised => k_is); (case k__law_raised => k_is); (case a__law_caught => k_is); (case l__law_caught => k_is); (case c__law_caught => k_is); (case k__law_caught => k_is); (case a_law => k_is); (case l_law => k_is); (case c_law => k_is); (case k_law => k_is); (case z_ValueError => k_is); (case z_isinstance => k_is); (case z_len => k_is); (case z_list => k_is); (case z_max => k_is); (case z_range => k_is); (case z_repr => k_is); (case z_reversed => k_is); (case aC_CurveError => k_is); (case aC_BadText => k_is); (case aC_NoProgram => k_is); (case aC_NoPaper => k_is); (case aC_NoFit => k_is); (case aC_NoRow => k_is); (case hOv => k_is); (case tOv => k_is); (case eOv => k_is); (case hnCls => k_is); (case htCls => k_is); (case eC_BadText => k_is); (case tC_BadText => k_is); (case kC_BadText => k_is); (case hg_BadText => k_is); (case hk_BadText => k_is); (case hd_BadText => k_is); (case ha_BadText => k_is); (case hm_BadText => k_is); (case sO_BadText => k_is); (case ki_ve_BadText => first | k_is | kit_is); (case ki_BadText_BadText => first | k_is | kit_is); (case ki_NoProgram_BadText => first | k_is | kit_is); (case ki_NoPaper_BadText => first | k_is | kit_is); (case ki_NoFit_BadText => first | k_is | kit_is); (case ki_NoRow_BadText => first | k_is | kit_is); (case xL_BadText => k_is); (case sa_BadText => k_is); (case no_BadText_row => k_is); (case eC_NoProgram => k_is); (case tC_NoProgram => k_is); (case kC_NoProgram => k_is); (case hg_NoProgram => k_is); (case hk_NoProgram => k_is); (case hd_NoProgram => k_is); (case ha_NoProgram => k_is); (case hm_NoProgram => k_is); (case sO_NoProgram => k_is); (case ki_ve_NoProgram => first | k_is | kit_is); (case ki_BadText_NoProgram => first | k_is | kit_is); (case ki_NoProgram_NoProgram => first | k_is | kit_is); (case ki_NoPaper_NoProgram => first | k_is | kit_is); (case ki_NoFit_NoProgram => first | k_is | kit_is); (case ki_NoRow_NoProgram => first | k_is | kit_is); (case xL_NoProgram => k_is); (case sa_NoProgram => k_is); (case no_NoProgram_word => k_is); (case no_NoProgram_part => k_is); (case no_NoProgram_row => k_is); (case eC_NoPaper => k_is); (case tC_NoPaper => k_is); (case kC_NoPaper => k_is); (case hg_NoPaper => k_is); (case hk_NoPaper => k_is); (case hd_NoPaper => k_is); (case ha_NoPaper => k_is); (case hm_NoPaper => k_is); (case sO_NoPaper => k_is); (case ki_ve_NoPaper => first | k_is | kit_is); (case ki_BadText_NoPaper => first | k_is | kit_is); (case ki_NoProgram_NoPaper => first | k_is | kit_is); (case ki_NoPaper_NoPaper => first | k_is | kit_is); (case ki_NoFit_NoPaper => first | k_is | kit_is); (case ki_NoRow_NoPaper => first | k_is | kit_is); (case xL_NoPaper => k_is); (case sa_NoPaper => k_is); (case no_NoPaper_part => k_is); (case no_NoPaper_row => k_is); (case eC_NoFit => k_is); (case tC_NoFit => k_is); (case kC_NoFit => k_is); (case hg_NoFit => k_is); (case hk_NoFit => k_is); (case hd_NoFit => k_is); (case ha_NoFit => k_is); (case hm_NoFit => k_is); (case sO_NoFit => k_is); (case ki_ve_NoFit => first | k_is | kit_is); (case ki_BadText_NoFit => first | k_is | kit_is); (case ki_NoProgram_NoFit => first | k_is | kit_is); (case ki_NoPaper_NoFit => first | k_is | kit_is); (case ki_NoFit_NoFit => first | k_is | kit_is); (case ki_NoRow_NoFit => first | k_is | kit_is); (case q_NoFit => first | k_is | k_exc | kit_is); (case eC_NoRow => k_is); (case tC_NoRow => k_is); (case kC_NoRow => k_is); (case hg_NoRow => k_is); (case hk_NoRow => k_is); (case hd_NoRow => k_is); (case ha_NoRow => k_is); (case hm_NoRow => k_is); (case sO_NoRow => k_is); (case ki_ve_NoRow => first | k_is | kit_is); (case ki_BadText_NoRow => first | k_is | kit_is); (case ki_NoProgram_NoRow => first | k_is | kit_is); (case ki_NoPaper_NoRow => first | k_is | kit_is); (case ki_NoFit_NoRow => first | k_is | kit_is); (case ki_NoRow_NoRow => first | k_is | kit_is); (case q_NoRow => first | k_is | k_exc | kit_is); (case a_BadText__init__ => k_is); (case l_BadText__init__ => k_is); (case c_BadText__init__ => k_is); (case k_BadText__init__ => k_is); (case t_BadText__init__ => k_is); (case a_NoProgram__init__ => k_is); (case l_NoProgram__init__ => k_is); (case c_NoProgram__init__ => k_is); (case k_NoProgram__init__ => k_is); (case t_NoProgram__init__ => k_is); (case a_NoPaper__init__ => k_is); (case l_NoPaper__init__ => k_is); (case c_NoPaper__init__ => k_is); (case k_NoPaper__init__ => k_is); (case t_NoPaper__init__ => k_is)
