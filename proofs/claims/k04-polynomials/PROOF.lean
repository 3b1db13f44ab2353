import PyProof.Rows.All
import Wide.All
import OpenK.AllK
import Wide.FinOn
import HandS.ForMost
import HandS.IsInst
import HandS.Rev
import HandS.Style
import HandS.Conv
import HandS.TupAny
import HandS.Evl
import HandS.Walk
import HandS.Deep
import HandS.Zip
import PyProof.ListStr
import KE.SortData
import KE.SortKeyHeap
import PyProof.ReprRoads
import KE.GoesEnum
import HandS.RaiseMore
import PyProof.ReprLen
import PyProof.Rows.RegStrFacts
import HandS.TryOnly
import PyProof.Rows.CallKwBuiltin
import HandS.TupMul
import HandS.DictTup
import HandS.TupLen
import HandS.Strs
import HandS.Replace
import HandS.SetFor
import PyProof.EnumMake
import HandS.Small
import HandS.Exc
import HandS.ExcIs
import HandS.ExcOwn
import HandS.Sort
import HandS.WordsExc
import PyProof.StrLawsRepr
import HandS.HotCalls
import HandS.SetKeys
import PyProof.SetRoads
import KE.KExcIs
import HandS.ExcField
import HandS.ExcInit
import HandS.ExcValue
import PyProof.WalkInts
import KE.KDictWalk
import KE.KDictDisplayH
import HandS.Wide
import KE.KDictZip
import PySem.Challenge.RW_curvekept_k04_polynomials_reckoned
set_option Elab.async false
set_option linter.all false
set_option maxRecDepth 100000
set_option maxHeartbeats 2000000
/-! Rules of the layer with the written part as a letter of its own, so that they serve within comprehensions. -/
namespace CB
open PySem PySem.Spec PyProof.Rows L2
section
variable {X : Cx} {K : PySem.W.Frag} {tg e e2 : Expr} {es : List Expr} {ta : TA} {te tl : TE}
abbrev rLenQ (K : PySem.W.Frag) : List V → Hp → VK → Prop := fun xs H Q => ∃ p ys, xs = [.ref p] ∧ (SqL K H p ys ∨ SqT K H p ys) ∧ Q (.int ys.length) H
abbrev rListQ (K : PySem.W.Frag) : List V → Hp → VK → Prop := fun xs H Q => ∃ p ys, xs = [.ref p] ∧ (SqL K H p ys ∨ SqT K H p ys) ∧ ∀ l, H l = none → Q (.ref l) (upd H l (.lst ys))
abbrev rTupleQ (K : PySem.W.Frag) : List V → Hp → VK → Prop := fun xs H Q => ∃ p ys, xs = [.ref p] ∧ ((SqL K H p ys ∧ ∀ l, H l = none → Q (.ref l) (upd H l (.tup ys))) ∨ (SqT K H p ys ∧ Q (.ref p) H))
theorem call_lenK (hK : X.K = K := by rfl) : CallR X (.builtin "len") (rLenQ K) := hK ▸ call_len_seq
theorem call_listK (hK : X.K = K := by rfl) : CallR X (.type "list") (rListQ K) := hK ▸ call_list_of
theorem call_tupleK (hK : X.K = K := by rfl) : CallR X (.type "tuple") (rTupleQ K) := hK ▸ call_tuple_of
theorem cr_sumK (hc : X.calm = true) (hK : X.K = K := by rfl) : CallR X (.builtin "sum") (rSum K) := hK ▸ cr_sum hc
theorem cr_allK (hc : X.calm = true) (hK : X.K = K := by rfl) : CallR X (.builtin "all") (rAll K) := hK ▸ cr_all hc
theorem cr_anyK (hc : X.calm = true) (hK : X.K = K := by rfl) : CallR X (.builtin "any") (rAny K) := hK ▸ cr_any hc
theorem call_isiK' (hK : X.K = K := by rfl) : CallR X (.builtin "isinstance") (rIsi K) := hK ▸ call_isi
theorem ix_listK (hK : X.K = K := by rfl) : IxR X (rIxL K) := hK ▸ ix_list
theorem ix_tupK (hK : X.K = K := by rfl) : IxR X (rIxT K) := hK ▸ ix_tup
theorem sl_listK (hK : X.K = K := by rfl) : SlR X (rSlL K) := hK ▸ sl_list
theorem sl_tupK (hK : X.K = K := by rfl) : SlR X (rSlA K) := hK ▸ sl_tupA
theorem op_inK (hK : X.K = K := by rfl) : OpR X (compareOp .In) (rIn K false) := hK ▸ op_in_seq
theorem op_notInK (hK : X.K = K := by rfl) : OpR X (compareOp .NotIn) (rIn K true) := hK ▸ op_notIn_seq
theorem op_eqDK (hu : X.A.units + 64 < cLine) (hK : X.K = K := by rfl) : OpR X (compareOp .Eq) (rEqD K) := hK ▸ op_eqD hu
theorem op_neDK (hu : X.A.units + 64 < cLine) (hK : X.K = K := by rfl) : OpR X (compareOp .NotEq) (rNeD K) := hK ▸ op_neD hu
theorem op_catK (hK : X.K = K := by rfl) : OpR X (binaryOp .Add) (rCatA K) := hK ▸ op_catA
theorem pi_listK (hl : PE X e tl) (hK : X.K = K := by rfl) : PI X tg e (iList K tl) := hK ▸ pi_list hl
theorem pi_tupK (hl : PE X e tl) (hK : X.K = K := by rfl) : PI X tg e (iTup K tl) := hK ▸ pi_tup hl
theorem pi_enumK {p pos tpos : Pos} {elts : List Expr} {kk : Nat} (hg : Gl X "enumerate") (hm : X.mg "enumerate" = none) (ha : PA X [e] ta) (hs : starEach [e] X.env = [(false, eval e X.env)] := by rfl) (hK : X.K = K := by rfl) :
    PI X (.Tuple elts kk tpos) (.Call (.Name "enumerate" p) [e] [] pos) (iEnum K ta) := hK ▸ pi_enum hg hm ha hs
theorem pi_zipK {p pos tpos : Pos} {elts : List Expr} {kk : Nat} (hg : Gl X "zip") (hm : X.mg "zip" = none) (ha : PA X [e, e2] ta)
    (hs : starEach [e, e2] X.env = (false, eval e X.env) :: starEach [e2] X.env := by rfl) (hpl : (backTo pos (starEach [e2] X.env)).any (·.1) = false := by rfl) (hK : X.K = K := by rfl) :
    PI X (.Tuple elts kk tpos) (.Call (.Name "zip" p) [e, e2] [] pos) (iZip K ta) := hK ▸ pi_zip hg hm ha hs hpl
theorem pg_tupK {es : List Expr} {k n : Nat} {t : TGs} {pos : Pos} (hc : X.calm = true) (h : PGs X es t)
    (hn : (assignEach es X.env).length = n := by rfl) (hst : (assignEach es X.env).findIdx? (·.1) = none := by rfl) (hK : X.K = K := by rfl) : PG X (.Tuple es k pos) (gTup K n t) := hK ▸ pg_tup hc h hn hst
theorem pe_revK {k : Nat} {p1 p2 p3 pos : Pos} (he : PE X e te) (hK : X.K = K := by rfl) : PE X (.Subscript e (.Slice none none (some (.UnaryOp .USub (.Constant (.int 1) k p1) p2)) p3) pos) (tRevL K te) := hK ▸ pe_revL he
theorem pe_bmK {o : Expr} {to : TE} {T id : String} {name : Str} {r : V → List V → Hp → VK → Prop} {apos cpos : Pos} (pa : PlainAttrs T) (slot : Slot T name id) (hty : typeOf (.builtin id) = pure (.type "method_descriptor")) (hm : MtR X id r) (ho : PE X o to) (ha : PA X (e :: es) ta)
    (hbase : attributeBase o name X.env (eval o X.env) = eval o X.env := by rfl)
    (hfew : ((backTo cpos (starEach (e :: es) X.env)).all (fun x => !x.1) && (backToKw cpos (keywordEach [] X.env)).all (fun x => x.1.isSome)
      && decide ((e :: es).length + ([] : List Keyword).length + (if ([] : List Keyword).isEmpty then 0 else 1) < 30)) = true := by rfl)
    (hline : (apos.endLine == cpos.line) = true := by rfl) (hs : starEach (e :: es) X.env = (false, eval e X.env) :: starEach es X.env := by rfl) (hplain : (backTo cpos (starEach es X.env)).any (·.1) = false := by rfl) (hK : X.K = K := by rfl) :
    PE X (.Call (.Attribute o name apos) (e :: es) [] cpos) (tBM K T r to ta) := hK ▸ pe_bm pa slot hty hm ho ha hbase hfew hline hs hplain
end
end CB

set_option Elab.async false
set_option linter.all false
set_option maxRecDepth 100000
set_option maxHeartbeats 2000000
namespace CB
open PySem PySem.Spec PyProof.Rows L2

/-! ### the built-ins -/
theorem bt_abs : bootBuiltins "abs" = some (.builtin "abs") := by decide +kernel
theorem bt_all : bootBuiltins "all" = some (.builtin "all") := by decide +kernel
theorem bt_any : bootBuiltins "any" = some (.builtin "any") := by decide +kernel
theorem bt_isinstance : bootBuiltins "isinstance" = some (.builtin "isinstance") := by decide +kernel
theorem bt_len : bootBuiltins "len" = some (.builtin "len") := by decide +kernel
theorem bt_max : bootBuiltins "max" = some (.builtin "max") := by decide +kernel
theorem bt_min : bootBuiltins "min" = some (.builtin "min") := by decide +kernel
theorem bt_repr : bootBuiltins "repr" = some (.builtin "repr") := by decide +kernel
theorem bt_sorted : bootBuiltins "sorted" = some (.builtin "sorted") := by decide +kernel
theorem bt_sum : bootBuiltins "sum" = some (.builtin "sum") := by decide +kernel
theorem bt_ord : bootBuiltins "ord" = some (.builtin "ord") := by decide +kernel
theorem bt_chr : bootBuiltins "chr" = some (.builtin "chr") := by decide +kernel
theorem bt_bool : bootBuiltins "bool" = some (.type "bool") := by decide +kernel
theorem bt_dict : bootBuiltins "dict" = some (.type "dict") := by decide +kernel
theorem bt_int : bootBuiltins "int" = some (.type "int") := by decide +kernel
theorem bt_list : bootBuiltins "list" = some (.type "list") := by decide +kernel
theorem bt_set : bootBuiltins "set" = some (.type "set") := by decide +kernel
theorem bt_str : bootBuiltins "str" = some (.type "str") := by decide +kernel
theorem bt_tuple : bootBuiltins "tuple" = some (.type "tuple") := by decide +kernel
/-! ### list(reversed(l)) -/
section
variable {prog : Program} {w : World} {A : Around} {E : Value → Shared → Prop} {s : Shared}
theorem extend_rev {it l S : Addr} {items : Array Value} {c0 : Nat} {R : Result → Shared → Prop} (hh : A.handled = none) (hit : s.heap.IsRevIter it l ((items.size : Int) - 1)) (hl : s.heap.IsList l items) (hne : l ≠ it) (hn : items.size ≤ sizeLine)
    (hS : s.heap.get? S = some { cls := .type "list", data := .seq #[] c0 }) (hSi : S ≠ it) (hSl : S ≠ l)
    (hR : ∀ s' acc c', (∀ b o, b ≠ S → b ≠ it → s.heap.get? b = some o → s'.heap.get? b = some o) → (∃ h' tk, s' = { s with heap := h', toks := tk }) →
      s'.heap.get? S = some { cls := .type "list", dict := none, data := .seq acc c', slots := #[] } → ItemsOf (fun i v => items[items.size - 1 - i]? = some v) acc items.size → R (.ok (.ret .none)) s') :
    wpAny (model prog w) A.in1 (Builtin.List.listExtendWith (.ref S) (.ref it) .none)
      (fun fin s' => match fin with | .done f => R (.ok f) s' | .again c' => c'.quiet = true ∧ codeAny (model prog w) A c' R s') (fun e s' => R (.error e) s') s := by
  have W := (Walks.listRev (prog := prog) (w := w) (A := A.in1) hh it l hne items).toS
  have hSf : S ∉ [it, l] := by simp only [List.mem_cons, List.not_mem_nil, or_false, not_or]; exact ⟨hSi, hSl⟩
  have hT := hit.typeIs
  have h1 : Builtin.List.listSameRef (.ref S) (.ref it) = false := by simp [Builtin.List.listSameRef, hSi]
  unfold Builtin.List.listExtendWith
  refine wpAny_bind (wpAny_typeOf hT ?_)
  rw [if_neg (by rw [h1]; decide)]
  refine wpAny_bind (wpAny_pyIter_revIter hit ?_)
  refine wpAny_bind (wpAny_holding ?_)
  unfold Builtin.List.listLengthHint
  refine wpAny_bind (wpAny_specialOf hT RT.nolen_lri ?_)
  show wpAny _ A.in1 (specialOf (Value.ref it) (Str.ofString "__length_hint__") >>= _) _ _ _
  refine wpAny_bind (wpAny_specialOf hT RT.hint_lri ?_)
  generalize hid : ("list_reverseiterator.__length_hint__" : String) = id0
  wp_delta
  rw [show splitId id0 = some ("list_reverseiterator", "__length_hint__") from by subst hid; decide +kernel]
  subst hid
  refine wpAny_bind (wpAny_isInstance (b := true) hT (by rw [isSubtype_type]; kernel_rfl) ?_)
  refine wpAny_pure ?_
  rw [if_neg (by decide)]
  have e0 : ((items.size : Nat) : Int) - 1 - ((0 : Nat) : Int) = (items.size : Int) - 1 := by omega
  refine wpAny_pure ⟨plainId_quiet F.plain_extend_loop _, codeAny_extend_loopS W hn _ hSf _ items.size 0 _ _ _ rfl (Nat.zero_le _) ⟨Nat.zero_le _, by rw [e0]; exact hit, hl⟩ hS (ItemsOf.nil _) fun s' acc' c' hm hS' hacc => ?_⟩
  refine hR s' acc' c' (fun b o hb hb2 e => hm.heap b o (fun hmem => ?_) e) ⟨_, _, Moved.eq_with hm⟩ hS' hacc
  rcases List.mem_cons.mp hmem with e' | hmem
  · exact hb e'
  · exact hb2 (List.mem_singleton.mp hmem)
theorem call_list_rev {it l : Addr} {items : Array Value} {Q : Value → Shared → Prop} (hh : A.handled = none) (hit : s.heap.IsRevIter it l ((items.size : Int) - 1)) (hl : s.heap.IsList l items) (hne : l ≠ it) (hn : items.size ≤ sizeLine)
    (hQ : ∀ h' tk acc c', (∀ b o, b ≠ it → s.heap.get? b = some o → h'.get? b = some o) → h'.get? s.heap.objs.size = some { cls := .type "list", dict := none, data := .seq acc c', slots := #[] } →
      ItemsOf (fun i v => items[items.size - 1 - i]? = some v) acc items.size → Q (.ref s.heap.objs.size) { s with heap := h', toks := tk }) :
    wpAny (model prog w) A (call (.type "list") [.ref it]) Q E s := by
  obtain ⟨oi, hoi, _⟩ := id hit
  obtain ⟨ol, hol, _⟩ := id hl
  have hSi : s.heap.objs.size ≠ it := Nat.ne_of_gt (Heap.lt_size hoi)
  have hSl : s.heap.objs.size ≠ l := Nat.ne_of_gt (Heap.lt_size hol)
  refine callType_codes (Q₁ := fun obj s₁ => obj = .ref s.heap.objs.size ∧ s₁ = { s with heap := s.heap.push { cls := .type "list", data := .seq #[] } }) F.called_list (F.typeCall_list_1 _) F.entry_list_init
    (code_list_new _ ⟨rfl, rfl⟩) fun obj s₁ h₁ => ?_
  obtain ⟨rfl, rfl⟩ := h₁
  have hS : (s.heap.push { cls := .type "list", data := .seq #[] }).get? s.heap.objs.size = some { cls := .type "list", data := .seq #[] } := Heap.get?_push_size _ rfl
  refine ⟨⟨_, hS, rfl⟩, F.args_list_init_2 _ _, ?_⟩
  show wpAny _ A.in1.in1 (do let old ← Builtin.List.listItems (.ref s.heap.objs.size); Builtin.List.listUpdate (.ref s.heap.objs.size) (fun _ => #[]); letGo old.toList.reverse; Builtin.List.listExtendWith (.ref s.heap.objs.size) (.ref it) .none) _ _ _
  refine wpAny_bind ?_
  unfold Builtin.List.listItems
  refine wpAny_bind (wpAny_seqItems hS rfl (wpAny_pure ?_))
  show wpAny _ _ (updateSeq s.heap.objs.size (fun _ => #[]) >>= fun _ => letGo (#[] : Array Value).toList.reverse >>= fun _ => Builtin.List.listExtendWith (.ref s.heap.objs.size) (.ref it) .none) _ _ _
  refine wpAny_bind (wpAny_updateSeq hS rfl ?_)
  have hS2 := Heap.get?_update_self (Obj.mapSeq (fun _ => (#[] : Array Value))) hS rfl
  have oth : ∀ b o, s.heap.get? b = some o → ((s.heap.push { cls := .type "list", data := .seq #[] }).update s.heap.objs.size (Obj.mapSeq (fun _ => (#[] : Array Value)))).get? b = some o :=
    fun b o e => (Heap.get?_update_other _ _ (Nat.ne_of_gt (Heap.lt_size e))).trans (Heap.get?_push_of_some _ e)
  refine wpAny_bind (wpAny_letGo ?_)
  refine extend_rev (A := A.in1) hh (hit.at fun o e => oth _ o e) (Heap.IsList.at hl fun o e => oth _ o e) hne hn hS2 hSi hSl fun s' acc c' hk he hS' hi => ?_
  obtain ⟨h', tk, rfl⟩ := he
  exact ⟨rfl, hQ h' tk acc c' (fun b o hb e => hk b o (Nat.ne_of_lt (Heap.lt_size e)) hb (oth b o e)) hS' hi⟩
end
/-- list(reversed(x)), x a list: a new list -/
def tListRev (K : PySem.W.Frag) (te : TE) : TE := fun σ H Q => te σ H fun v H1 => ∃ (a : Addr) (xs : List V), v = .ref a ∧ SqL K H1 a xs ∧ ∀ q, H1 q = none → Q (.ref q) (upd H1 q (.lst xs.reverse))
section
variable {X : Cx}
theorem pe_listRev0 {e : Expr} {te : TE} {p p2 pos pos2 : Pos} (hc : X.calm = true) (hg : Gl X "list") (hm : X.mg "list" = none) (hg2 : Gl X "reversed") (hm2 : X.mg "reversed" = none) (he : PE X e te)
    (hs : starEach [e] X.env = (false, eval e X.env) :: starEach [] X.env := by rfl)
    (hs2 : starEach [.Call (.Name "reversed" p2) [e] [] pos2] X.env = (false, eval (.Call (.Name "reversed" p2) [e] [] pos2) X.env) :: starEach [] X.env := by rfl) :
    PE X (.Call (.Name "list" p) [.Call (.Name "reversed" p2) [e] [] pos2] [] pos) (tListRev X.K te) := by
  refine ⟨fun pins s σ H Q I h => ?_⟩
  refine Call_ (ld_blt I hg hm boot_list (PyProof.Rows.callWith_type1 (args_cons (Call_ (ld_blt I hg2 hm2 PyProof.Rows.boot_reversed (PyProof.Rows.callWith_type1 (args_cons (thn (he.run pins s σ H _ I h) fun u s1 ⟨v, H1, I1, r1, q1⟩ => args_nil ?_) hs) hs rfl))) hs2) hs2 rfl))
  obtain ⟨a, xs, ev, hq, q⟩ := q1
  subst ev
  obtain rfl : u = Value.ref a := r1
  obtain ⟨its, rv, p', hz⟩ := I1.list hq
  refine call_reversed_list p'.isList (args_nil ?_)
  have k0 : ∀ b o, s1.heap.get? b = some o → (s1.heap.push (revObj a ((its.toArray.size : Int) - 1))).get? b = some o := fun b o e => Heap.get?_push_of_some _ e
  have I2 : Inv X pins σ H1 { s1 with heap := s1.heap.push (revObj a ((its.toArray.size : Int) - 1)) } := I1.kept (t' := s1.toks) k0
  obtain ⟨f0, f1, f2, f3, f4, f5⟩ := I1.fpOk (H' := H1) (b := s1.heap.objs.size) (Nat.le_refl _) (I1.hok.fresh (Nat.le_refl _))
  have hl := p'.isList
  obtain ⟨ol, hol, _⟩ := id hl
  have hne : a ≠ s1.heap.objs.size := Nat.ne_of_lt (Heap.lt_size hol)
  have hn : its.toArray.size ≤ sizeLine := by rw [List.size_toArray, ← rv.length]; exact hz
  refine call_list_rev (s := { s1 with heap := s1.heap.push (revObj a ((its.toArray.size : Int) - 1)) }) (I1.ok.hd hc) ⟨_, Heap.get?_push_size _ rfl, rfl, rfl⟩ (hl.push _) hne hn fun h' tk acc c' hk hS' hi => ?_
  refine ⟨.ref _, upd H1 _ (.lst xs.reverse), I1.laid (t' := tk) (fun b u e => hk b u (Nat.ne_of_lt (Heap.lt_size e)) (k0 b u e)) (by rw [Heap.size_push]; omega) (show ObjOk X.prog X.w _ _ _ (.lst xs.reverse) from ⟨by rw [List.length_reverse]; exact hz, acc.toList, c', RT.vals_rev rv hi, ?_⟩), rfl, q _ (I2.hok.fresh (Nat.le_refl _))⟩
  rw [Array.toArray_toList]
  exact hS'
theorem pe_listRev {K : PySem.W.Frag} {e : Expr} {te : TE} {p p2 pos pos2 : Pos} (hc : X.calm = true) (hg : Gl X "list") (hm : X.mg "list" = none) (hg2 : Gl X "reversed") (hm2 : X.mg "reversed" = none) (he : PE X e te)
    (hs : starEach [e] X.env = (false, eval e X.env) :: starEach [] X.env := by rfl)
    (hs2 : starEach [.Call (.Name "reversed" p2) [e] [] pos2] X.env = (false, eval (.Call (.Name "reversed" p2) [e] [] pos2) X.env) :: starEach [] X.env := by rfl) (hK : X.K = K := by rfl) :
    PE X (.Call (.Name "list" p) [.Call (.Name "reversed" p2) [e] [] pos2] [] pos) (tListRev K te) := hK ▸ pe_listRev0 hc hg hm hg2 hm2 he hs hs2
/-! ### list(a text) -/
theorem call_listS (hc : X.calm = true) : CallR X (.type "list") (fun xs H Q => ∃ z : Str, xs = [.str z] ∧ z.length ≤ sizeLine ∧ ∀ l, H l = none → Q (.ref l) (upd H l (.lst (z.cps.toList.map fun c => V.str ⟨#[c]⟩)))) := by
  intro pins s σ H xs us Q I r h
  obtain ⟨z, rfl, hz, q⟩ := h
  obtain ⟨u, rfl, t, rfl⟩ := vals1 r
  refine PySem.call_list_str (I.ok.hd hc) z t (fun h' tk acc' c' hk hS hi => ?_) hz
  refine ⟨.ref s.heap.objs.size, upd H s.heap.objs.size _, I.laid hk (Nat.le_refl _) (show ObjOk X.prog X.w _ _ _ (.lst (z.cps.toList.map fun c => V.str ⟨#[c]⟩)) from ⟨?_, acc'.toList, c', ?_, ?_⟩), rfl, q _ (I.hok.fresh (Nat.le_refl _))⟩
  · rw [List.length_map, Array.length_toList]; exact hz
  · have el : acc'.toList.length = acc'.size := by simp
    refine vals_of_at (by rw [List.length_map, Array.length_toList, el, hi.1]) fun j x w h1 h2 => ?_
    have h3 := hi.2 j w (by rw [← Array.getElem?_toList]; exact h2)
    rw [List.getElem?_map] at h1
    obtain ⟨c, hc1, rfl⟩ := Option.map_eq_some_iff.mp h1
    obtain ⟨c2, u, e1, rfl⟩ := h3
    rw [Array.getElem?_toList] at hc1
    rw [hc1] at e1
    cases e1
    exact ⟨u, rfl⟩
  · rw [Array.toArray_toList]; exact hS
end
end CB

set_option Elab.async false
set_option linter.all false
set_option maxRecDepth 100000
set_option maxHeartbeats 2000000
/-! zip of two sequences, each a list or a tuple, in any mix -/
namespace CB
open PySem PySem.Spec PyProof.Rows L2
inductive SK | L | T
def SqK (k : SK) (K : PySem.W.Frag) (H : Hp) (a : Addr) (xs : List V) : Prop := match k with | .L => SqL K H a xs | .T => SqT K H a xs
def IterK (k : SK) (h : Heap) (it a : Addr) (i : Nat) : Prop := match k with | .L => h.IsListIter it a i | .T => h.IsTupleIter it a i
def HasK (k : SK) (h : Heap) (a : Addr) (items : Array Value) : Prop := match k with | .L => h.IsList a items | .T => h.IsTuple a items
def iterObj (k : SK) (a : Addr) : Obj := match k with | .L => { cls := .type "list_iterator", data := .fields #[.ref a, .int 0 0] } | .T => { cls := .type "tuple_iterator", data := .fields #[.ref a, .int 0 0] }
section
variable {k : SK} {h h' : Heap} {it a : Addr} {i : Nat} {items : Array Value}
theorem IterK.at (x : IterK k h it a i) (e : ∀ o, h.get? it = some o → h'.get? it = some o) : IterK k h' it a i := by
  cases k with
  | L => exact Heap.IsListIter.at x e
  | T => exact Heap.IsTupleIter.at x e
theorem IterK.obj (x : IterK k h it a i) : ∃ o, h.get? it = some o ∧ ∀ v, o.data ≠ .cell v := by
  cases k with
  | L =>
    obtain ⟨o, e, _, d⟩ := x
    exact ⟨o, e, fun v q => by rw [d] at q; cases q⟩
  | T =>
    obtain ⟨o, e, _, d⟩ := x
    exact ⟨o, e, fun v q => by rw [d] at q; cases q⟩
theorem IterK.start (e : h.get? it = some (iterObj k a)) : IterK k h it a 0 := by
  cases k with
  | L => exact ⟨_, e, rfl, rfl⟩
  | T => exact ⟨_, e, rfl, rfl⟩
theorem HasK.lt (x : HasK k h a items) : a < h.objs.size := by
  cases k with
  | L => obtain ⟨o, e, _⟩ := x; exact Heap.lt_size e
  | T => obtain ⟨o, e, _⟩ := x; exact Heap.lt_size e
theorem drawsK {prog : Program} {w : World} {A : Around} (hh : A.handled = none) (k : SK) (it a : Addr) (hne : a ≠ it) (items : Array Value) :
    Draws prog w A it [it, a] items.size (fun i v => items[i]? = some v) (fun i h => IterK k h it a i ∧ HasK k h a items) := by
  cases k with
  | L => exact Draws.list hh it a hne items
  | T => exact Draws.tuple hh it a hne items
theorem beginsK (k : SK) (a : Addr) (items : Array Value) : Begins (.ref a) (iterObj k a) fun h => HasK k h a items := by
  cases k with
  | L => exact begins_list a items
  | T => exact begins_tuple a items
theorem InvK {X : Cx} {pins : List (Addr × Obj)} {σ : L2.St} {H : Hp} {s : Shared} {xs : List V} (I : Inv X pins σ H s) (hq : SqK k X.K H a xs) : ∃ its : List Value, Vals xs its ∧ HasK k s.heap a its.toArray ∧ ∀ ys, SqK k X.K H a ys → ys = xs := by
  cases k with
  | L =>
    obtain ⟨its, rv, p, _⟩ := I.list hq
    exact ⟨its, rv, p.isList, fun ys hy => I.list_inj hy hq⟩
  | T =>
    obtain ⟨its, rv, p, _⟩ := I.tuple hq
    exact ⟨its, rv, p, fun ys hy => I.tuple_inj hy hq⟩
end
def ItzK (k1 k2 : SK) (K : PySem.W.Frag) (a b : Addr) : It :=
  ⟨fun i H => ∃ (xs ys : List V) (x y : V), SqK k1 K H a xs ∧ SqK k2 K H b ys ∧ xs[i]? = some x ∧ ys[i]? = some y,
    fun i H v H' => ∃ T x y, v = .ref T ∧ H T = none ∧ H' = upd H T (.tup [x, y]) ∧ (∀ xs, SqK k1 K H a xs → xs[i]? = some x) ∧ ∀ ys, SqK k2 K H b ys → ys[i]? = some y,
    fun i H => ∃ xs ys : List V, SqK k1 K H a xs ∧ SqK k2 K H b ys ∧ i ≤ xs.length ∧ i ≤ ys.length ∧ (i = xs.length ∨ i = ys.length)⟩
theorem turn_zipK {P : Program} {w : World} {K : PySem.W.Frag} {elts : List Expr} {kk : Nat} {tpos : Pos} {k1 k2 : SK} {a b z TI TO i1 i2 : Addr} (S : ZipSep2 z TI TO i1 i2 [i1, a] [i2, b]) (na : a ≠ i1) (nb : b ≠ i2) :
    Turn P w K (.Tuple elts kk tpos) (ItzK k1 k2 K a b) [z, TI, TO, i1, i2] z (fun i h => IsZip h z TI TO .none ∧ IsTupOf2 h TI (.ref i1) (.ref i2) ∧ (∃ x y, IsTupOf2 h TO x y) ∧ IterK k1 h i1 a i ∧ IterK k2 h i2 b i) where
  mem := by simp
  obj := fun i h st c hc => by
    obtain ⟨hz, hTI, ⟨x, y, hTO⟩, h1, h2⟩ := st
    simp only [List.mem_cons, List.not_mem_nil, or_false] at hc
    rcases hc with rfl | rfl | rfl | rfl | rfl
    · exact ⟨_, hz, fun v q => nomatch q⟩
    · exact ⟨_, hTI, fun v q => nomatch q⟩
    · exact ⟨_, hTO, fun v q => nomatch q⟩
    · exact h1.obj
    · exact h2.obj
  keep := fun i h h' st k => by
    obtain ⟨hz, hTI, ⟨x, y, hTO⟩, h1, h2⟩ := st
    exact ⟨k z (by simp) _ hz, k TI (by simp) _ hTI, ⟨x, y, k TO (by simp) _ hTO⟩, h1.at fun o q => k i1 (by simp) o q, h2.at fun o q => k i2 (by simp) o q⟩
  item := by
    intro X hP hw hK hc i pins s σ H E I hf st hg
    subst hP hw hK
    obtain ⟨hz, hTI, ⟨x0, y0, hTO⟩, h1, h2⟩ := st
    obtain ⟨xs, ys, x, y, hqx, hqy, hx, hy⟩ := hg
    obtain ⟨its, rv, p, inj1⟩ := InvK I hqx
    obtain ⟨its2, rv2, p2, inj2⟩ := InvK I hqy
    obtain ⟨u, hu, ru⟩ := rv.get hx
    obtain ⟨u2, hu2, ru2⟩ := rv2.get hy
    have hA : X.A.in1.handled = none := I.ok.hd hc
    have D1 := drawsK (prog := X.prog) (w := X.w) hA k1 i1 a na its.toArray
    have D2 := drawsK (prog := X.prog) (w := X.w) hA k2 i2 b nb its2.toArray
    have hzl : z < s.heap.objs.size := Heap.lt_size hz
    have lt1 : i < its.toArray.size := by
      have := (List.getElem?_eq_some_iff.mp hu).1
      simpa using this
    have lt2 : i < its2.toArray.size := by
      have := (List.getElem?_eq_some_iff.mp hu2).1
      simpa using this
    refine wpAny_pyNext_zipD2_item S D1 D2 hz hTI hTO ⟨h1, p⟩ ⟨h2, p2⟩ lt1 lt2 fun x1 x2 h' tk y1 y2 z' TO' st1 st2 hT hsz hk => ?_
    have e1 : x1 = u := by
      have q : its.toArray[i]? = some u := by simpa using hu
      rw [q] at y1
      exact (Option.some.inj y1).symm
    have e2 : x2 = u2 := by
      have q : its2.toArray[i]? = some u2 := by simpa using hu2
      rw [q] at y2
      exact (Option.some.inj y2).symm
    subst e1 e2
    refine ⟨_, rfl, wpAny_letOwnedTupleGo_zip (s := { s with heap := h', toks := tk }) z' fun h'' z'' sb => ?_⟩
    have hT2 : h''.get? s.heap.objs.size = some { cls := .type "tuple", data := .seq #[x1, x2] } := (sb.2 _ (Nat.ne_of_gt hzl)).trans hT
    have new : ObjOk X.prog X.w (upd H s.heap.objs.size (.tup [x, y])) h'' s.heap.objs.size (.tup [x, y]) :=
      ⟨by show 2 ≤ sizeLine; decide, [x1, x2], .cons ru (.cons ru2 .nil), ⟨_, hT2, rfl, _, rfl⟩⟩
    have I1 : Inv X pins σ (upd H s.heap.objs.size (.tup [x, y])) { s with heap := h'', toks := tk } :=
      I.turnedNew (t' := tk) (ch := [z, TI, TO, i1, i2]) (fun c o hb q => by
        simp only [List.mem_cons, List.not_mem_nil, or_false, not_or] at hb
        exact (sb.2 c hb.1).trans (hk c o hb.1 hb.2.2.1 hb.2.2.2.1 hb.2.2.2.2 q)) hf (Nat.le_refl _) new
    refine ⟨.ref s.heap.objs.size, _, I1, rfl, ⟨_, x, y, rfl, I.hok.fresh (Nat.le_refl _), rfl, fun l hl => by rw [inj1 l hl]; exact hx, fun l hl => by rw [inj2 l hl]; exact hy⟩, ⟨z'', ?_, ⟨x1, x2, ?_⟩, ?_, ?_⟩, fun c hcm => ?_⟩
    · exact (sb.2 _ S.TIz).trans (hk _ _ S.TIz S.TITO S.TIi1 S.TIi2 hTI)
    · exact (sb.2 _ S.TOz).trans TO'
    · exact st1.1.at fun o q => (sb.2 _ S.zi1.symm).trans q
    · exact st2.1.at fun o q => (sb.2 _ S.zi2.symm).trans q
    · have hlt : c < s.heap.objs.size := by
        simp only [List.mem_cons, List.not_mem_nil, or_false] at hcm
        rcases hcm with rfl | rfl | rfl | rfl | rfl
        · exact hzl
        · exact Heap.lt_size hTI
        · exact Heap.lt_size hTO
        · obtain ⟨_, e1, _⟩ := h1.obj; exact Heap.lt_size e1
        · obtain ⟨_, e2, _⟩ := h2.obj; exact Heap.lt_size e2
      rw [upd_ne (Nat.ne_of_lt hlt)]
      exact (hf c hcm).1
  done := by
    intro X hP hw hK hc i pins s σ H E I hf st hg
    subst hP hw hK
    obtain ⟨hz, hTI, ⟨x0, y0, hTO⟩, h1, h2⟩ := st
    obtain ⟨xs, ys, hqx, hqy, le1, le2, hend⟩ := hg
    obtain ⟨its, rv, p, inj1⟩ := InvK I hqx
    obtain ⟨its2, rv2, p2, inj2⟩ := InvK I hqy
    have l1 := rv.length
    have l2 := rv2.length
    have hA : X.A.in1.handled = none := I.ok.hd hc
    refine wpAny_pyNext_zipD2_end S (drawsK (prog := X.prog) (w := X.w) hA k1 i1 a na its.toArray) (drawsK (prog := X.prog) (w := X.w) hA k2 i2 b nb its2.toArray) hz hTI hTO ⟨h1, p⟩ ⟨h2, p2⟩ (by rw [List.size_toArray]; omega) (by rw [List.size_toArray]; omega) (by rw [List.size_toArray, List.size_toArray]; omega) fun h' tk hk => ?_
    refine ⟨rfl, I.turnedL (t' := tk) (ch := [z, TI, TO, i1, i2]) (fun c o hb q => ?_) hf⟩
    simp only [List.mem_cons, List.not_mem_nil, or_false, not_or] at hb
    exact hk c o hb.1 hb.2.2.1 hb.2.2.2.1 hb.2.2.2.2 q
  self := fun A i s Q E st h => wpAny_pyIter_zip st.1 h
def iZipK (k1 k2 : SK) (K : PySem.W.Frag) (ta : TA) : TI := fun σ H R => ta σ H fun vs H1 => ∃ a b xs ys, vs = [.ref a, .ref b] ∧ SqK k1 K H1 a xs ∧ SqK k2 K H1 b ys ∧ R (ItzK k1 k2 K a b) H1
theorem pi_zipM (k1 k2 : SK) {X : Cx} {K : PySem.W.Frag} {e e2 : Expr} {ta : TA} {p pos tpos : Pos} {elts : List Expr} {kk : Nat} (hg : Gl X "zip") (hm : X.mg "zip" = none) (ha : PA X [e, e2] ta)
    (hs : starEach [e, e2] X.env = (false, eval e X.env) :: starEach [e2] X.env := by rfl) (hpl : (backTo pos (starEach [e2] X.env)).any (·.1) = false := by rfl) (hK : X.K = K := by rfl) :
    PI X (.Tuple elts kk tpos) (.Call (.Name "zip" p) [e, e2] [] pos) (iZipK k1 k2 K ta) := by
  subst hK
  refine ⟨fun pins s σ H R I h => ?_⟩
  refine Call_ (ld_blt I hg hm PyProof.Rows.boot_zip (PyProof.Rows.callWith_type1 (thn (ha.run pos pins s σ H _ I h) fun us s1 hus => ?_) hs hpl))
  obtain ⟨vs, H1, I1, r1, a, b, xs, ys, rfl, hqx, hqy, q⟩ := hus
  obtain ⟨u1, u2, rfl, ra, rb⟩ := vals2 r1
  obtain rfl : u1 = Value.ref a := ra
  obtain rfl : u2 = Value.ref b := rb
  obtain ⟨its, rv, p1, _⟩ := InvK I1 hqx
  obtain ⟨its2, rv2, p2, _⟩ := InvK I1 hqy
  refine zip_begins2 (beginsK k1 a its.toArray) (beginsK k2 b its2.toArray) p1 p2 fun h' hz hTI hTO h1 h2 hsz hk => wpAny_pyIter_zip hz ?_
  have I2 : Inv X pins σ H1 { s1 with heap := h' } := I1.kept (t' := s1.toks) hk
  have la : a < s1.heap.objs.size := p1.lt
  have lb : b < s1.heap.objs.size := p2.lt
  have S : ZipSep2 (s1.heap.objs.size + 4) (s1.heap.objs.size + 2) (s1.heap.objs.size + 3) s1.heap.objs.size (s1.heap.objs.size + 1) (s1.heap.objs.size :: [a]) ((s1.heap.objs.size + 1) :: [b]) :=
    zip_sep2 (fun c hc => by rw [List.mem_singleton.mp hc]; exact la) (fun c hc => by rw [List.mem_singleton.mp hc]; exact lb)
  refine ⟨s1.heap.objs.size + 4, [s1.heap.objs.size + 4, s1.heap.objs.size + 2, s1.heap.objs.size + 3, s1.heap.objs.size, s1.heap.objs.size + 1], _, _, H1, rfl, I2, turn_zipK S (Nat.ne_of_lt la) (Nat.ne_of_lt (Nat.lt_succ_of_lt lb)), ⟨hz, hTI, ⟨_, _, hTO⟩, IterK.start h1, IterK.start h2⟩, fun c hc => ?_, q⟩
  have hle : s1.heap.objs.size ≤ c := by
    simp only [List.mem_cons, List.not_mem_nil, or_false] at hc
    rcases hc with rfl | rfl | rfl | rfl | rfl
    · exact Nat.le_add_right _ _
    · exact Nat.le_add_right _ _
    · exact Nat.le_add_right _ _
    · exact Nat.le_refl _
    · exact Nat.le_add_right _ _
  have := I1.fpOk (H' := H1) hle (I1.hok.fresh hle)
  exact this
theorem walk_zipM {k1 k2 : SK} {K : PySem.W.Frag} {a b : Addr} {xs ys : List V} {n : Nat} (hn : n = min xs.length ys.length) :
    Walk (ItzK k1 k2 K a b) n (fun H => SqK k1 K H a xs ∧ SqK k2 K H b ys) (YPair (fun i => xs[i]?) (fun i => ys[i]?)) := by
  subst hn
  refine ⟨fun i _ hi q => ?_, fun _ q => ⟨xs, ys, q.1, q.2, by omega, by omega, by omega⟩, fun i H v H' _ q y => ?_⟩
  · have h1 : i < xs.length := by omega
    have h2 : i < ys.length := by omega
    exact ⟨xs, ys, xs[i], ys[i], q.1, q.2, by simp [h1], by simp [h2]⟩
  · obtain ⟨T, x, z, h1, h2, h3, h4, h5⟩ := y
    exact ⟨T, x, z, h1, h2, h3, h4 xs q.1, h5 ys q.2⟩
/-! ### xs.extend(t), t a list or a tuple -/
section
variable {prog : Program} {w : World} {A : Around} {E : Value → Shared → Prop} {s : Shared}
theorem call_extend_seq {k : SK} {l b : Addr} {its its2 : Array Value} {n : Nat} {Q : Value → Shared → Prop} (hl : s.heap.get? l = some { cls := .type "list", data := .seq its n }) (hb : HasK k s.heap b its2) (hz : its.size + its2.size ≤ sizeLine)
    (h : Q .none { s with heap := s.heap.update l (Obj.mapSeq (· ++ its2)) }) : wpAny (model prog w) A (call (.builtin "list.extend") [.ref l, .ref b]) Q E s := by
  have hT : s.TypeIs (.ref l) "list" := ⟨_, hl, rfl⟩
  have hlong : Builtin.List.listTooLong (its.size + its2.size) = false := notLongL hz
  obtain ⟨ob, T, hob, hcb, hTT, nb, hdb⟩ : ∃ (ob : Obj) (T : String), s.heap.get? b = some ob ∧ ob.cls = .type T ∧ (T = "list" ∨ T = "tuple") ∧ ∃ nb, ob.data = .seq its2 nb := by
    cases k with
    | L => obtain ⟨o, e1, e2, n2, e3⟩ := hb; exact ⟨o, "list", e1, e2, .inl rfl, n2, e3⟩
    | T => obtain ⟨o, e1, e2, n2, e3⟩ := hb; exact ⟨o, "tuple", e1, e2, .inr rfl, n2, e3⟩
  refine wpAny_call_entry F.slot_list_extend hT F.entry_list_extend ?_ (F.args_list_extend_2 _ _)
  show wpAny _ _ (Builtin.List.listExtendWith (.ref l) (.ref b) .none) _ _ s
  unfold Builtin.List.listExtendWith
  refine wpAny_bind (wpAny_typeOf (T := T) ⟨ob, hob, hcb⟩ ?_)
  have hc : (Builtin.List.listSameRef (.ref l) (.ref b) || Value.type T == Value.type "list" || Value.type T == Value.type "tuple") = true := by
    rcases hTT with rfl | rfl
    · simp
    · simp
  rw [if_pos hc]
  refine wpAny_bind (wpAny_listItems hob hdb ?_)
  refine wpAny_bind (wpAny_listItems hl rfl ?_)
  rw [hlong, Bool.and_false]
  refine wpAny_bind ?_
  show wpAny _ _ (updateSeq l (· ++ its2)) _ _ _
  refine wpAny_updateSeq hl rfl (wpAny_pure ⟨_, rfl, h⟩) (by omega) (by rw [Array.size_append]; omega)
end
section
variable {X : Cx}
def rExtK (k : SK) (K : PySem.W.Frag) : V → List V → Hp → VK → Prop := fun x vs H Q => ∃ l b xs zs, x = .ref l ∧ vs = [.ref b] ∧ H l = some (.lst xs) ∧ SqK k K H b zs ∧ xs.length + zs.length ≤ sizeLine ∧ Q .non (upd H l (.lst (xs ++ zs)))
theorem mt_extK (k : SK) {K : PySem.W.Frag} (hK : X.K = K := by rfl) : MtR X "list.extend" (rExtK k K) := by
  subst hK
  intro pins s σ H x vs v us Q I rx rv h
  obtain ⟨l, b, xs, zs, rfl, rfl, hH, hB, hz, q⟩ := h
  cases rx
  obtain ⟨u, rfl, ru⟩ := rv.one
  cases ru
  obtain ⟨z, its, n, r, hl, e⟩ := I.lstM hH
  obtain ⟨its2, r2, h2, _⟩ := InvK I hB
  have l2 := r2.length
  refine call_extend_seq e h2 (by rw [List.size_toArray, List.size_toArray]; omega) ?_
  refine ⟨.non, _, I.lset (its' := its ++ its2) hH e (by simp) (r.append r2) ?_, rfl, q⟩
  rw [List.length_append]
  omega
end
end CB

set_option Elab.async false
set_option linter.all false
set_option maxRecDepth 100000
set_option maxHeartbeats 2000000
namespace CB
open PySem PySem.Spec PyProof.Rows L2

abbrev Ex := Evl.Ex
/-! ### what is frozen (F) within what stands (H) -/
structure Gr (S : Addr → Prop) (F H F' H' : Hp) : Prop where
  fz : Ex F F'
  sub : Ex F' H'
  kp : ∀ a o, ¬ S a → H a = some o → H' a = some o
  al : ∀ a, H a ≠ none → H' a ≠ none
  nf : ∀ a, F a = none → H a ≠ none → F' a = none
abbrev NoS : Addr → Prop := fun _ => False
abbrev DL (d l : Addr) : Addr → Prop := fun a => a = d ∨ a = l
section
variable {S : Addr → Prop} {F H F1 H1 F2 H2 : Hp} {p : Addr} {o x : HO}
theorem Gr.refl (h : Ex F H) : Gr S F H F H := ⟨fun _ _ e => e, h, fun _ _ _ e => e, fun _ e => e, fun _ e _ => e⟩
theorem Gr.trans (g : Gr S F H F1 H1) (k : Gr S F1 H1 F2 H2) : Gr S F H F2 H2 :=
  ⟨g.fz.trans k.fz, k.sub, fun a o n e => k.kp a o n (g.kp a o n e), fun a e => k.al a (g.al a e), fun a e n => k.nf a (g.nf a e n) (g.al a n)⟩
theorem Gr.mono {S' : Addr → Prop} (g : Gr S F H F1 H1) (h : ∀ a, S a → S' a) : Gr S' F H F1 H1 :=
  ⟨g.fz, g.sub, fun a o n e => g.kp a o (fun z => n (h a z)) e, g.al, g.nf⟩
theorem Gr.pure (g : Gr NoS F H F1 H1) : Gr S F H F1 H1 := g.mono fun _ h => h.elim
theorem Gr.ex (g : Gr NoS F H F1 H1) : Ex H H1 := fun a o e => g.kp a o (fun h => h) e
theorem sub_none (h : Ex F H) (e : H p = none) : F p = none := Evl.fresh_back h e
/-- a new object, frozen at once -/
theorem Gr.new (g : Gr S F H F1 H1) (hp : H1 p = none) : Gr S F H (upd F1 p o) (upd H1 p o) := by
  have hf : F1 p = none := sub_none g.sub hp
  refine ⟨g.fz.trans (Evl.Ex.new hf), fun a u e => ?_, fun a u n e => ?_, fun a e => ?_, fun a e n => ?_⟩
  · by_cases h : a = p
    · subst h; rw [upd_same] at e ⊢; exact e
    · rw [upd_ne h] at e ⊢; exact g.sub a u e
  · have := g.kp a u n e
    rw [upd_ne (ne_of_none this hp)]; exact this
  · have := g.al a e
    by_cases h : a = p
    · subst h; exact absurd hp this
    · rw [upd_ne h]; exact this
  · have h : a ≠ p := fun h => g.al a n (h ▸ hp)
    rw [upd_ne h]; exact g.nf a e n
/-- a new object that may still change -/
theorem Gr.newm (g : Gr S F H F1 H1) (hp : H1 p = none) : Gr S F H F1 (upd H1 p o) := by
  refine ⟨g.fz, fun a u e => ?_, fun a u n e => ?_, fun a e => ?_, g.nf⟩
  · have := g.sub a u e
    rw [upd_ne (ne_of_none this hp)]; exact this
  · have := g.kp a u n e
    rw [upd_ne (ne_of_none this hp)]; exact this
  · have := g.al a e
    by_cases h : a = p
    · subst h; exact absurd hp this
    · rw [upd_ne h]; exact this
/-- an object of ours (new since the start, not frozen) changes -/
theorem Gr.mut (g : Gr S F H F1 H1) (hp : H p = none) (hf : F1 p = none) : Gr S F H F1 (upd H1 p o) := by
  refine ⟨g.fz, fun a u e => ?_, fun a u n e => ?_, fun a e => ?_, g.nf⟩
  · rw [upd_ne (ne_of_none e hf)]; exact g.sub a u e
  · rw [upd_ne (ne_of_none e hp)]; exact g.kp a u n e
  · by_cases h : a = p
    · subst h; rw [upd_same]; exact fun z => by cases z
    · rw [upd_ne h]; exact g.al a e
/-- an object of ours is frozen -/
theorem Gr.freeze (g : Gr S F H F1 H1) (hp : H p = none) (hf : F1 p = none) (ho : H1 p = some o) : Gr S F H (upd F1 p o) H1 := by
  refine ⟨g.fz.trans (Evl.Ex.new hf), fun a u e => ?_, g.kp, g.al, fun a e n => ?_⟩
  · by_cases h : a = p
    · subst h; rw [upd_same] at e; cases e; exact ho
    · rw [upd_ne h] at e; exact g.sub a u e
  · have h : a ≠ p := fun h => n (h ▸ hp)
    rw [upd_ne h]; exact g.nf a e n
/-- what is not frozen and stands stays so -/
theorem Gr.keepm (g : Gr S F H F1 H1) (hs : ¬ S p) (hf : F p = none) (ho : H p = some o) : F1 p = none ∧ H1 p = some o :=
  ⟨g.nf p hf (by rw [ho]; exact fun z => by cases z), g.kp p o hs ho⟩
theorem Gr.none (g : Gr S F H F1 H1) (h : H1 p = none) : H p = none := by
  cases e : H p with
  | none => rfl
  | some o => exact absurd h (g.al p (by rw [e]; exact fun z => by cases z))
theorem Gr.exs (g : Gr S F H F1 H1) : Ex F H1 := g.fz.trans g.sub
end
end CB
namespace L2
open PySem PySem.Spec PyProof.Rows CB
section
variable {K : PySem.W.Frag} {F F' H : Hp} {a : Addr} {xs : List V}
theorem ex_L (e : Ex F F') (h : SqL K F a xs) : SqL K F' a xs := Evl.ex_l e h
theorem ex_T (e : Ex F F') (h : SqT K F a xs) : SqT K F' a xs := Evl.ex_t e h
mutual
theorem Dp.ex (e : Ex F F') : ∀ {v : V} {d : PyData}, Dp K F v d → Dp K F' v d
  | _, _, .non => .non
  | _, _, .bl b => .bl b
  | _, _, .int i => .int i
  | _, _, .str x => .str x
  | _, _, .lst h hs => .lst (ex_L e h) (DpAll.ex e hs)
  | _, _, .tup h hs => .tup (ex_T e h) (DpAll.ex e hs)
theorem DpAll.ex (e : Ex F F') : ∀ {vs : List V} {ds : List PyData}, DpAll K F vs ds → DpAll K F' vs ds
  | _, _, .nil => .nil
  | _, _, .cons h hs => .cons (Dp.ex e h) (DpAll.ex e hs)
end
theorem DpAll.length : ∀ {vs : List V} {ds : List PyData}, DpAll K F vs ds → vs.length = ds.length
  | _, _, .nil => rfl
  | _, _, .cons _ h => by rw [List.length_cons, List.length_cons, DpAll.length h]
theorem DpAll.get : ∀ {vs : List V} {ds : List PyData} {i : Nat} {v : V}, DpAll K F vs ds → vs[i]? = some v → ∃ d, ds[i]? = some d ∧ Dp K F v d
  | _, _, _, _, .nil, e => by simp at e
  | _, _, 0, _, .cons h _, e => by simp at e; subst e; exact ⟨_, rfl, h⟩
  | _, _, i + 1, _, .cons _ h, e => by
    obtain ⟨d, e1, e2⟩ := DpAll.get (i := i) h (by simpa using e)
    exact ⟨d, by simpa using e1, e2⟩
theorem DpAll.get' : ∀ {vs : List V} {ds : List PyData} {i : Nat} {d : PyData}, DpAll K F vs ds → ds[i]? = some d → ∃ v, vs[i]? = some v ∧ Dp K F v d
  | _, _, _, _, .nil, e => by simp at e
  | _, _, 0, _, .cons h _, e => by simp at e; subst e; exact ⟨_, rfl, h⟩
  | _, _, i + 1, _, .cons _ h, e => by
    obtain ⟨d, e1, e2⟩ := DpAll.get' (i := i) h (by simpa using e)
    exact ⟨d, by simpa using e1, e2⟩
theorem DpAll.append : ∀ {vs ws : List V} {ds es : List PyData}, DpAll K F vs ds → DpAll K F ws es → DpAll K F (vs ++ ws) (ds ++ es)
  | _, _, _, _, .nil, h => h
  | _, _, _, _, .cons h hs, k => .cons h (DpAll.append hs k)
theorem DpAll.snoc {vs : List V} {v : V} {ds : List PyData} {d : PyData} (h : DpAll K F vs ds) (k : Dp K F v d) : DpAll K F (vs ++ [v]) (ds ++ [d]) := h.append (.cons k .nil)
theorem DpAll.ints : ∀ ns : List Int, DpAll K F (ns.map V.int) (ns.map PyData.int)
  | [] => .nil
  | n :: r => .cons (.int n) (DpAll.ints r)
theorem DpAll.strs : ∀ ns : List Str, DpAll K F (ns.map V.str) (ns.map PyData.str)
  | [] => .nil
  | n :: r => .cons (.str n) (DpAll.strs r)
theorem dp_ints_of : ∀ {vs : List V} {ns : List Int}, DpAll K F vs (ns.map PyData.int) → vs = ns.map V.int
  | _, [], h => by cases h; rfl
  | _, n :: r, h => by
    cases h with
    | cons h1 h2 => cases h1; rw [dp_ints_of h2]; rfl
end
/-- tuples of ints, tuples of those -/
abbrev ti (ns : List Int) : PyData := .tuple (ns.map PyData.int)
abbrev li (ns : List Int) : PyData := .list (ns.map PyData.int)
abbrev tti (r : List (List Int)) : PyData := .tuple (r.map ti)
abbrev lti (r : List (List Int)) : PyData := .list (r.map ti)
section
variable {K : PySem.W.Frag} {F F' H : Hp} {v : V}
theorem Dp.tup_inv {ds : List PyData} (h : Dp K F v (.tuple ds)) : ∃ a xs, v = .ref a ∧ SqT K F a xs ∧ DpAll K F xs ds := by
  cases h with
  | tup h1 h2 => exact ⟨_, _, rfl, h1, h2⟩
theorem Dp.lst_inv {ds : List PyData} (h : Dp K F v (.list ds)) : ∃ a xs, v = .ref a ∧ SqL K F a xs ∧ DpAll K F xs ds := by
  cases h with
  | lst h1 h2 => exact ⟨_, _, rfl, h1, h2⟩
theorem Dp.ti_inv {ns : List Int} (h : Dp K F v (ti ns)) : ∃ a, v = .ref a ∧ SqT K F a (ns.map V.int) := by
  obtain ⟨a, xs, e, h1, h2⟩ := h.tup_inv
  rw [dp_ints_of h2] at h1
  exact ⟨a, e, h1⟩
theorem Dp.li_inv {ns : List Int} (h : Dp K F v (li ns)) : ∃ a, v = .ref a ∧ SqL K F a (ns.map V.int) := by
  obtain ⟨a, xs, e, h1, h2⟩ := h.lst_inv
  rw [dp_ints_of h2] at h1
  exact ⟨a, e, h1⟩
theorem Dp.of_ti {a : Addr} {ns : List Int} (h : SqT K F a (ns.map V.int)) : Dp K F (.ref a) (ti ns) := .tup h (DpAll.ints ns)
theorem Dp.of_li {a : Addr} {ns : List Int} (h : SqL K F a (ns.map V.int)) : Dp K F (.ref a) (li ns) := .lst h (DpAll.ints ns)
theorem Dp.int_inv {i : Int} (h : Dp K F v (.int i)) : v = .int i := by cases h; rfl
theorem Dp.str_inv {i : Str} (h : Dp K F v (.str i)) : v = .str i := by cases h; rfl
end

end L2
namespace CB
open PySem PySem.Spec PyProof.Rows L2
/-! ### data that may be compared -/
theorem canLay_strs : ∀ l : List Str, (∀ x ∈ l, PyData.strOk x = true) → PyData.canLayAll0 (l.map PyData.str) = true
  | [], _ => rfl
  | x :: r, h => by
    show (PyData.strOk x && PyData.canLayAll0 (r.map PyData.str)) = true
    rw [h x List.mem_cons_self, canLay_strs r fun y hy => h y (List.mem_cons_of_mem _ hy)]
    rfl
theorem canLay_ints : ∀ l : List Int, PyData.canLayAll0 (l.map PyData.int) = true
  | [] => rfl
  | x :: r => by
    show (true && PyData.canLayAll0 (r.map PyData.int)) = true
    rw [canLay_ints r]
    rfl
theorem depth_strs : ∀ l : List Str, PyData.depthAll (l.map PyData.str) = 0
  | [] => rfl
  | x :: r => by
    show max 0 (PyData.depthAll (r.map PyData.str)) = 0
    rw [depth_strs r]
    rfl
theorem shaped_strs (l : List Str) (h : ∀ x ∈ l, PyData.strOk x = true) : SeqAt.shaped (.list (l.map PyData.str)) = true := by
  unfold SeqAt.shaped
  rw [Bool.and_eq_true, decide_eq_true_eq]
  refine ⟨canLay_strs l h, ?_⟩
  show PyData.depthAll (l.map PyData.str) + 1 ≤ 64
  rw [depth_strs]
  decide
/-! ### the drawing of numbers -/
abbrev kSeed : Key := Sum.inr "seed"
abbrev kNumber : Key := Sum.inr "number"
abbrev kLeft : Key := Sum.inr "left"
def dealD (s n : Int) (l : Addr) : List (Key × V) := [(kSeed, .int s), (kNumber, .int n), (kLeft, .ref l)]
theorem deal_seed {s n : Int} {l : Addr} : valV (dealD s n l) kSeed = some (.int s) := by
  exact valV_pos rfl
structure Deal (H : Hp) (d l : Addr) (s n : Int) (ls : List Int) : Prop where
  hd : H d = some (.dK (dealD s n l))
  hl : H l = some (.lst (ls.map V.int))
  s0 : 0 ≤ s
  s1 : s < 2147483648
  n0 : 0 ≤ n
  pos : ∀ x ∈ ls, 0 < x
  len : ls.length ≤ 63
def IsDeal (H : Hp) (d l : Addr) : Prop := ∃ s n ls, Deal H d l s n ls
theorem Deal.ne {H : Hp} {d l : Addr} {s n : Int} {ls : List Int} (h : Deal H d l s n ls) : d ≠ l := ne_of h.hd h.hl (by intro z; cases z)
theorem IsDeal.keep {H H' : Hp} {d l : Addr} (h : IsDeal H d l) (k : ∀ o, H d = some o → H' d = some o) (k2 : ∀ o, H l = some o → H' l = some o) : IsDeal H' d l := by
  obtain ⟨s, n, ls, h⟩ := h
  exact ⟨s, n, ls, k _ h.hd, k2 _ h.hl, h.s0, h.s1, h.n0, h.pos, h.len⟩
theorem ne_sn : ¬ kSeed = kNumber := by decide +kernel
theorem ne_sl : ¬ kSeed = kLeft := by decide +kernel
theorem ne_nl : ¬ kNumber = kLeft := by decide +kernel
theorem deal_number {s n : Int} {l : Addr} : valV (dealD s n l) kNumber = some (.int n) := by
  unfold dealD
  rw [valV_neg ne_sn, valV_pos rfl]
theorem deal_left {s n : Int} {l : Addr} : valV (dealD s n l) kLeft = some (.ref l) := by
  unfold dealD
  rw [valV_neg ne_sl, valV_neg ne_nl, valV_pos rfl]
theorem put_number {s n m : Int} {l : Addr} : putK (dealD s n l) kNumber (.int m) = dealD s m l := by
  unfold putK dealD
  rw [if_pos (by rw [List.any_cons, List.any_cons, decide_eq_true rfl]; simp)]
  simp only [List.map_cons, List.map_nil, if_neg ne_sn, if_true, if_neg (fun h => ne_nl (Eq.symm h))]
theorem put_seed {s n m : Int} {l : Addr} : putK (dealD s n l) kSeed (.int m) = dealD m n l := by
  unfold putK dealD
  rw [if_pos (by rw [List.any_cons, decide_eq_true rfl]; simp)]
  simp only [List.map_cons, List.map_nil, if_true, if_neg (fun h => ne_sn (Eq.symm h)), if_neg (fun h => ne_sl (Eq.symm h))]
theorem merge_deal {s n : Int} {l : Addr} : mergeK [] (dealD s n l) = dealD s n l := by
  have a1 : ([] : List (Key × V)).any (fun kv => decide (kv.1 = kSeed)) = false := rfl
  have a2 : ([(kSeed, V.int s)] : List (Key × V)).any (fun kv => decide (kv.1 = kNumber)) = false := by simp only [List.any_cons, List.any_nil, decide_eq_false ne_sn, Bool.or_false]
  have a3 : ([(kSeed, V.int s), (kNumber, V.int n)] : List (Key × V)).any (fun kv => decide (kv.1 = kLeft)) = false := by simp only [List.any_cons, List.any_nil, decide_eq_false ne_sl, decide_eq_false ne_nl, Bool.or_false]
  have e1 : putK ([] : List (Key × V)) kSeed (.int s) = [(kSeed, .int s)] := by unfold putK; rw [a1]; rfl
  have e2 : putK [(kSeed, V.int s)] kNumber (.int n) = [(kSeed, .int s), (kNumber, .int n)] := by unfold putK; rw [a2]; rfl
  have e3 : putK [(kSeed, V.int s), (kNumber, V.int n)] kLeft (.ref l) = dealD s n l := by unfold putK; rw [a3]; rfl
  show putK (putK (putK [] kSeed (.int s)) kNumber (.int n)) kLeft (.ref l) = _
  rw [e1, e2, e3]
section
variable {H : Hp} {d l : Addr} {s n : Int} {ls : List Int}
theorem Deal.g_seed (h : Deal H d l s n ls) : DGet H d (.str "seed") (some (.int s)) := by
  have e := DGet.k (k := kSeed) h.hd
  rw [deal_seed] at e
  exact e
theorem Deal.g_number (h : Deal H d l s n ls) : DGet H d (.str "number") (some (.int n)) := by
  have e := DGet.k (k := kNumber) h.hd
  rw [deal_number] at e
  exact e
theorem Deal.g_left (h : Deal H d l s n ls) : DGet H d (.str "left") (some (.ref l)) := by
  have e := DGet.k (k := kLeft) h.hd
  rw [deal_left] at e
  exact e
theorem Deal.p_number (h : Deal H d l s n ls) (m : Int) : DPut H d (.str "number") (.int m) (upd H d (.dK (dealD s m l))) := by
  have e := DPut.k (k := kNumber) (v := .int m) h.hd (by show 3 < sizeLine; decide)
  rw [put_number] at e
  exact e
theorem Deal.p_seed (h : Deal H d l s n ls) (m : Int) : DPut H d (.str "seed") (.int m) (upd H d (.dK (dealD m n l))) := by
  have e := DPut.k (k := kSeed) (v := .int m) h.hd (by show 3 < sizeLine; decide)
  rw [put_seed] at e
  exact e
theorem Deal.pop (h : Deal H d l s n ls) (hn : ls ≠ []) : Deal (upd H l (.lst (ls.map V.int).dropLast)) d l s n ls.dropLast :=
  ⟨by rw [upd_ne h.ne]; exact h.hd, by rw [upd_same, List.map_dropLast], h.s0, h.s1, h.n0, fun x hx => h.pos x (List.dropLast_subset _ hx), by have := h.len; rw [List.length_dropLast]; omega⟩
theorem Deal.last (h : Deal H d l s n ls) (hn : ls ≠ []) : ∃ y, 0 < y ∧ (ls.map V.int)[(ls.map V.int).length - 1]? = some (.int y) := by
  refine ⟨ls.getLast hn, h.pos _ (List.getLast_mem hn), ?_⟩
  rw [List.length_map, List.getElem?_map, ← List.getLast?_eq_getElem?, List.getLast?_eq_some_getLast hn]
  rfl
theorem Deal.with_number (h : Deal H d l s n ls) {m : Int} (m0 : 0 ≤ m) : Deal (upd H d (.dK (dealD s m l))) d l s m ls :=
  ⟨upd_same, by rw [upd_ne h.ne.symm]; exact h.hl, h.s0, h.s1, m0, h.pos, h.len⟩
theorem Deal.with_seed (h : Deal H d l s n ls) {m : Int} (m0 : 0 ≤ m) (m1 : m < 2147483648) : Deal (upd H d (.dK (dealD m n l))) d l m n ls :=
  ⟨upd_same, by rw [upd_ne h.ne.symm]; exact h.hl, m0, m1, h.n0, h.pos, h.len⟩
end
theorem fmod_in (x k : Int) (hk : 0 < k) : 0 ≤ x.fmod k ∧ x.fmod k < k := by
  rw [Int.fmod_eq_emod_of_nonneg x (by omega)]
  exact ⟨Int.emod_nonneg _ (by omega), Int.emod_lt_of_pos _ hk⟩
theorem cut_ints (ns : List Int) (lo hi : Option Int) : ∃ ms : List Int, cutV (ns.map V.int) lo hi = ms.map V.int ∧ ms.length ≤ ns.length :=
  ⟨(ns.drop (HT.sIx ns.length 0 lo)).take (HT.sIx ns.length ns.length hi - HT.sIx ns.length 0 lo), by
    unfold cutV
    rw [List.length_map, ← List.map_drop, ← List.map_take], by
    rw [List.length_take, List.length_drop]
    omega⟩
/-- what stands beside the deal stays -/
def Kp (d l : Addr) (H H' : Hp) : Prop := ∀ b o, b ≠ d → b ≠ l → H b = some o → H' b = some o
section
variable {d l p : Addr} {H H1 H2 : Hp} {o : HO}
theorem Kp.refl : Kp d l H H := fun _ _ _ _ e => e
theorem Kp.trans (a : Kp d l H H1) (b : Kp d l H1 H2) : Kp d l H H2 := fun x o h1 h2 e => b x o h1 h2 (a x o h1 h2 e)
theorem Kp.of_ex (a : Ex H H1) : Kp d l H H1 := fun x o _ _ e => a x o e
theorem Kp.of_draw (a : ∀ b, b ≠ d → b ≠ l → H1 b = H b) : Kp d l H H1 := fun x o h1 h2 e => (a x h1 h2).trans e
theorem Kp.mut (a : Kp d l H H1) (h : H p = none) : Kp d l H (upd H1 p o) := fun x u h1 h2 e => by
  rw [upd_ne (ne_of_none e h)]
  exact a x u h1 h2 e
theorem IsDeal.ex (h : IsDeal H d l) (e : Ex H H1) : IsDeal H1 d l := h.keep (fun o => e d o) (fun o => e l o)
theorem IsDeal.upd (h : IsDeal H d l) (hd : p ≠ d) (hl : p ≠ l) : IsDeal (L2.upd H p o) d l := h.keep (fun o e => by rw [upd_ne hd.symm]; exact e) (fun o e => by rw [upd_ne hl.symm]; exact e)
theorem IsDeal.nd (h : IsDeal H d l) (e : H p = none) : p ≠ d ∧ p ≠ l := by
  obtain ⟨s, n, ls, h⟩ := h
  exact ⟨(ne_of_none h.hd e).symm, (ne_of_none h.hl e).symm⟩
/-- an object other than the deal's two -/
theorem IsDeal.ne_str (h : IsDeal H d l) {y : Str} {ys : List V} (e : H p = some (.lst (.str y :: ys))) : p ≠ d ∧ p ≠ l := by
  obtain ⟨s, n, ls, h⟩ := h
  refine ⟨fun z => ?_, fun z => ?_⟩
  · rw [z, h.hd] at e; cases e
  · rw [z, h.hl] at e
    cases ls with
    | nil => cases e
    | cons a r => cases e
end
theorem at_in {xs : List V} {r : Int} (h0 : 0 ≤ r) (h1 : r < xs.length) : ∃ v, atI xs r = some v ∧ v ∈ xs := by
  have h2 : r.toNat < xs.length := by omega
  have e : xs[r.toNat]? = some xs[r.toNat] := List.getElem?_eq_getElem h2
  have e2 := atI_nat e
  rw [Int.toNat_of_nonneg h0] at e2
  exact ⟨_, e2, List.getElem_mem h2⟩
theorem at_inA {xs : List Nat} {r : Int} (h0 : 0 ≤ r) (h1 : r < xs.length) : ∃ v, atI xs r = some v ∧ v ∈ xs := by
  have h2 : r.toNat < xs.length := by omega
  have e : xs[r.toNat]? = some xs[r.toNat] := List.getElem?_eq_getElem h2
  have e2 := atI_nat e
  rw [Int.toNat_of_nonneg h0] at e2
  exact ⟨_, e2, List.getElem_mem h2⟩
theorem cut_strs (ns : List Str) (lo hi : Option Int) : ∃ ms : List Str, cutV (ns.map V.str) lo hi = ms.map V.str ∧ ms.length ≤ ns.length ∧ ∀ y ∈ ms, y ∈ ns :=
  ⟨(ns.drop (HT.sIx ns.length 0 lo)).take (HT.sIx ns.length ns.length hi - HT.sIx ns.length 0 lo), by
    unfold cutV
    rw [List.length_map, ← List.map_drop, ← List.map_take], by
    rw [List.length_take, List.length_drop]
    omega, fun y h => List.mem_of_mem_drop (List.mem_of_mem_take h)⟩
/-- the promise of the deal that is made of the script -/
def sp_deal (K : PySem.W.Frag) : Sp := fun vs H Q _ => ∃ (a : Addr) (ns : List Int) (b : Int), vs = [.ref a, .int b] ∧ SqL K H a (ns.map V.int) ∧ ns.length ≤ 63 ∧ 0 ≤ b ∧ b ≤ 63 ∧
  ∀ (d l : Addr) (H' : Hp), Ex H H' → H d = none → H l = none → IsDeal H' d l → Q (.ref d) H'
/-- the promise of a draw: some number below many -/
def sp_draw : Sp := fun vs H Q _ => ∃ (d l : Addr) (m : Int), vs = [.ref d, .int m] ∧ IsDeal H d l ∧ 0 < m ∧ m < 1073741824 ∧
  ∀ (r : Int) (H' : Hp), 0 ≤ r → r < m → IsDeal H' d l → Kp d l H H' → Q (.int r) H'
end CB

set_option Elab.async false
set_option linter.all false
set_option maxRecDepth 100000
set_option maxHeartbeats 2000000
namespace CB
open PySem PySem.Spec PyProof.Rows L2

/-! ### defs that are promised where no repr is under way (A.guards = some []) -/
structure FnG (P : Program) (w : World) (K : PySem.W.Frag) (mg : Str → Option Value) (base : Heap) (k : Nat) (f : Addr) (fd : FuncData) (ps : List Str) (sp : Sp) : Prop where
  len : ∀ vs H Q E, sp vs H Q E → vs.length = ps.length
  run : ∀ (A : Around) (outer : List Env) (s : Shared) (H : Hp) (args : Args) (us : List Value) (vs : List V) (Q : VK) (E : XK), A.guards = some [] → Room k A → Env0 P w K mg base A outer s H →
    BindsTo s fd args (ps.zip us) → Vals vs us → sp vs H Q E → codeAny (model P w) A (.call (.ref f) args) (CR CX0 outer P w H s Q E) s
section
variable {P : Program} {w : World} {K : PySem.W.Frag} {mg : Str → Option Value} {base : Heap}
theorem okG {x qual : Str} {st : Stmt} {f : Addr} {fd : FuncData} {N ps : List Str} {k : Nat} {sp : Sp} (F : Fun K x qual st f fd) (S : FnScope N ps (defScope st)) (len : ∀ vs H Q E, sp vs H Q E → vs.length = ps.length)
    (hbody : ∀ (cdv : Value) (A : Around) (outer : List Env) (s : Shared) (H : Hp) (vs : List V) (Q : VK) (E : XK), (A.deeper (envOfC qual (defScope st) s.heap.objs.size f cdv)).guards = some [] → Room k (A.deeper (envOfC qual (defScope st) s.heap.objs.size f cdv)) → sp vs H Q E →
      ∃ t, PSs (cxOf CX0 P w K mg base N qual (defScope st) f cdv A outer s H E).nox (defBody st) t ∧ t { nx := fun _ H' => Q .non H', rt := Q } (start N vs) H) : FnG P w K mg base (k + 1) f fd ps sp := by
  obtain ⟨oc, od, kV, doc, pm, an, cdv, ct, osl, rfl, lk, hcd⟩ := F.ex
  refine ⟨len, fun A outer s H args us vs Q E hg hr e0 hb r hsp => ?_⟩
  have keepBase : ∀ b o, base.get? b = some o → s.heap.get? b = some o := fun b o e => (e0.bs b o e).1
  have hkinds : ∀ y ∈ ps.zip us, (defScope st).names.lookup y.1 = some .local ∨ ((defScope st).names.lookup y.1 = some .cell ∧ ((cellsFrom (s.heap.objs.size + 1) (defScope st).names []).lookup y.1).isSome = true) := by
    rintro ⟨n, v⟩ hy
    exact (S.par n (List.of_mem_zip hy).1).elim .inl fun q => .inr ⟨q, PySem.W.cellsFrom_some _ _ _ (.inl q)⟩
  have KX := e0.mod.kin.keeps keepBase
  refine codeAny_call_function hr.depth (KX _ _ lk) rfl S.co S.gen rfl (PySem.W.codeRec_of KX hcd) (hb _ _ _ _ (wpAny_newFunctionEnv_cells S.kind hkinds ?_))
  rintro env rfl s1 x
  obtain ⟨t, ht, hq⟩ := hbody cdv A outer s H vs Q E hg (hr.deeper _) hsp
  have I0 := inv_start (CX := CX0) (E := E) S hr.hd e0 (len _ _ _ _ hsp) r x
  refine ⟨(e0.mod.nolimit.keeps keepBase).keeps x.toInCall.keep, codeAny_func (wpAny_mono (ht.nox.run [] s1 (start N vs) H _ I0 hq) (fun fl s' hs => ?_) fun e s' hs => hs)⟩
  cases fl with
  | ret u =>
    obtain ⟨v, σ', H', J, rv, q⟩ := hs
    exact ⟨v, H', J.os, J.bare, J.base, J.hok, rv, q⟩
  | next =>
    obtain ⟨σ', H', J, q⟩ := hs
    exact ⟨V.non, H', J.os, J.bare, J.base, J.hok, rfl, q⟩
  | brk => exact hs.elim fun _ h => h.elim fun _ h => (show False from h.2).elim
  | cont => exact hs.elim fun _ h => h.elim fun _ h => (show False from h.2).elim
end
section
variable {X : Cx} {k : Nat} {f : Addr} {fd : FuncData} {ps : List Str} {sp : Sp} {x : Str} {p pos : Pos} {e : Expr} {es : List Expr} {t : TA} {E : XK}
theorem pe_callG (F : FnG X.prog X.w X.K X.mg X.base k f fd ps sp) (hgd : X.A.guards = some []) (hr : Room k X.A) (hg : Gl X x) (hm : X.mg x = some (.ref f)) (hk : PySem.W.keepIn X.K (.ref f) = true) (hb : Binds X.K fd ps [])
    (ha : PA X (e :: es) t) (hdb : (x == ("__debug__" : Str)) = false := by decide) (he : starEach (e :: es) X.env = (false, eval e X.env) :: starEach es X.env := by rfl) (hpl : (backTo pos (starEach es X.env)).any (·.1) = false := by rfl) :
    PE X (.Call (.Name x p) (e :: es) [] pos) (tCall sp [] E t) := by
  refine ⟨fun pins s σ H Q I h => wpAny_Call_Name_kw (ld_glob I hg hm (PySem.W.callWith_K (h₀ := X.base) I.ok.mod.kin hk (thn (ha.run pos pins s σ H _ I h) fun us s1 hus => ?_) he hpl) hdb)⟩
  obtain ⟨vs, H1, I1, r, q⟩ := hus
  refine ⟨I1.kIn, ?_⟩
  have r2 : Vals (vs ++ []) us := by rw [List.append_nil]; exact r
  have hl : (us ++ []).length = ps.length := by rw [List.append_nil, ← r2.length]; exact F.len _ _ _ _ q
  have bnd := hb s1 us I1.kIn hl
  rw [List.append_nil] at bnd
  refine wpAny_call (codeAny_mono (F.run X.A X.stack s1 H1 ⟨us, []⟩ us (vs ++ []) Q E hgd hr I1.env0 bnd r2 q) fun r s' hq => ?_)
  cases r with
  | error e => exact False.elim hq
  | ok fl =>
    cases fl with
    | ret u => exact I1.after hq
    | next => exact False.elim hq
    | brk => exact False.elim hq
    | cont => exact False.elim hq
end
/-! ### the law's own call, where no repr is under way -/
theorem lawG {P : Program} {w : World} {K : PySem.W.Frag} {mg mb : Str → Option Value} {k : Nat} {fa a : Addr} {fd : FuncData} {x : Str} {sp : Sp} {s1 : Shared} {vs : List Value} {ns : List Int}
    (KX : K.In s1.heap) (hns : s1.heap.Ns mainGlobals mg) (hb : s1.heap.Ns builtinsNs mb) (hbb : ∀ x : Str, x ≠ "__name__" → mb x = bootBuiltins x) (hlim : s1.heap.NoLimit) (hg : s1.gens = #[])
    (ha : s1.heap.get? a = some { cls := .type "list", data := .seq vs.toArray }) (hi : IntsAre vs ns) (hl : ns.length ≤ sizeLine) (hr : Room k callerA)
    (F : ∀ base : Heap, K.In base → base.Ns mainGlobals mg → FnG P w K mg base k fa fd [x] sp) (hbind : ∀ (s : Shared) (u : Value), BindsTo s fd ⟨[u], []⟩ [(x, u)])
    (hsp : ∀ H : Hp, SqL K H a (ns.map V.int) → sp [.ref a] H (fun v _ => v = .bl true) fun _ _ _ => False) :
    codeAny (model P w) callerA (.call (.ref fa) ⟨[.ref a], []⟩) (fun r s' => r = .ok (.ret (.bool true)) ∧ OldK s1.heap s'.heap ∧ s'.os = s1.os ∧ AllBare s'.gens) s1 := by
  have rel := vals_ints hi
  -- H tracks nothing, or the script alone, locked
  suffices go : ∀ H : Hp, (∀ b u, H b = some u → b = a ∧ K.lookup a = none ∧ ∃ o xs, u = .frz o (.lst xs)) → SqL K H a (ns.map V.int) → HOk P w H s1.heap →
      codeAny (model P w) callerA (.call (.ref fa) ⟨[.ref a], []⟩) (fun r s' => r = .ok (.ret (.bool true)) ∧ OldK s1.heap s'.heap ∧ s'.os = s1.os ∧ AllBare s'.gens) s1 by
    cases hk : K.lookup a with
    | none =>
      refine go (upd (fun _ => none) a (.frz { cls := .type "list", data := .seq vs.toArray } (.lst (ns.map V.int)))) (fun b u e => ?_) (.inl (.inr ⟨_, upd_same⟩)) (fun b u e => ?_)
      · by_cases h : b = a
        · subst h
          rw [upd_same] at e
          cases e
          exact ⟨rfl, hk, _, _, rfl⟩
        · rw [upd_ne h] at e
          cases e
      · by_cases h : b = a
        · subst h
          rw [upd_same] at e
          cases e
          exact ⟨ha, by rw [List.length_map]; exact hl, vs, _, rel, ha⟩
        · rw [upd_ne h] at e
          cases e
    | some o =>
      have e := KX a o hk
      rw [ha] at e
      cases e
      exact go (fun _ => none) (fun b u e => by cases e) (.inr ⟨_, vs.toArray, _, hk, rfl, rfl, rfl, by rw [List.size_toArray, hi.length]; exact hl, by simpa using rel⟩) (fun b u e => by cases e)
  intro H hH hS hok
  have apart : ∀ {b : Addr} {o : Obj}, s1.heap.get? b = some o → (∃ es ep, o.data = .dict es ep) → H b = none := fun {b o} e hd => by
    cases q : H b with
    | none => rfl
    | some u =>
      obtain ⟨rfl, _⟩ := hH b u q
      rw [ha] at e
      cases e
      obtain ⟨es, ep, z⟩ := hd
      cases z
  have ns_base : ∀ {b : Addr} {m : Str → Option Value}, s1.heap.Ns b m → (hidT s1.heap H).Ns b m := fun {b m} h => by
    obtain ⟨o, es, ep, e, d, r⟩ := h
    exact ⟨o, es, ep, hidT_get e (apart e ⟨es, ep, d⟩), d, r⟩
  have kin : K.In (hidT s1.heap H) := fun b o e => hidT_get (KX b o e) (by
    cases q : H b with
    | none => rfl
    | some u =>
      obtain ⟨rfl, h2, _⟩ := hH b u q
      rw [h2] at e
      cases e)
  have limit : (hidT s1.heap H).NoLimit := by
    obtain ⟨mc, h1, h2⟩ := hlim
    exact ⟨mc, ns_base h1, h2⟩
  have e0 : Env0 P w K mg (hidT s1.heap H) callerA [] s1 H :=
    ⟨rfl, ⟨kin, ns_base hns, ⟨mb, ns_base hb, hbb⟩, limit⟩, fun b o e => of_hidT e, Nat.le_of_eq (hidT_size _ _), trivial, fun b hb => (List.not_mem_nil hb).elim, hok, .of_eq hg⟩
  refine codeAny_mono ((F _ kin (ns_base hns)).run callerA [] s1 H ⟨[.ref a], []⟩ [.ref a] [.ref a] _ _ rfl hr e0 (hbind s1 (.ref a)) (.cons rfl .nil) (hsp H hS)) fun r s' h => ?_
  cases r with
  | error e => exact False.elim h
  | ok fl =>
    cases fl with
    | ret u =>
      obtain ⟨v, H', os, bare, un, hok', ru, rfl⟩ := h
      obtain rfl : u = Value.bool true := ru
      refine ⟨rfl, OldK.of_keep fun b o e => ?_, os, bare⟩
      cases q : H b with
      | none => exact un.keep b o e q (fun z => (List.not_mem_nil z).elim) (by simp)
      | some u =>
        obtain ⟨rfl, _, ob, xs, rfl⟩ := hH b u q
        have h1 := (hok b _ q).1
        rw [e] at h1
        cases h1
        exact (hok' b _ (un.frzs b _ _ q)).1
    | next => exact False.elim h
    | brk => exact False.elim h
    | cont => exact False.elim h
/-- the goal that k_head leaves, from the law's promise -/
theorem walkG {l : PySem.W.OpenLaw} {n k : Nat} {q : Program} {loose : List Str} {XP : (Str → Option Value) → Heap → Prop} {YP : World → Heap → Prop} {d : DefRec} {K : Params → PySem.W.Frag} {sp : World → Sp} {x : Str}
    (hn : l.most = some n) (hn2 : n ≤ sizeLine) (hdf : d.params.defaults = []) (hr : Room k callerA) (hY : ∀ (w : World) (h : Heap), YP w h → (K w.params).In h)
    (F : ∀ (w : World) (mg : Str → Option Value) (fa : Addr) (h : Heap), (K w.params).In h → h.Ns mainGlobals mg → mg d.name = some (.ref fa) →
      ∃ fd : FuncData, (∀ (s : Shared) (u : Value), BindsTo s fd ⟨[u], []⟩ [(x, u)]) ∧ ∀ base : Heap, (K w.params).In base → base.Ns mainGlobals mg → FnG l.prog w (K w.params) mg base k fa fd [x] (sp w))
    (hsp : ∀ (w : World) (H : Hp) (a : Addr) (ns : List Int), ns.length ≤ n → SqL (K w.params) H a (ns.map V.int) → sp w [.ref a] H (fun v _ => v = .bl true) fun _ _ _ => False) :
    PySem.W.WalkO q loose XP YP l.row.toRowW d [] (fun f vs => PySem.call f vs) :=
  Att.attach_call hn hdf fun w s0 s1 mg mb fa o pm cd doc a vs ns G Y ho hd hcd hmg hobj hints hlen hg => by
    have KX := hY w _ Y
    obtain ⟨fd, hb, hF⟩ := F w mg fa _ KX G.T.g hmg
    exact lawG KX G.T.g G.T.b G.T.builtins G.T.nolimit hg hobj hints (Nat.le_trans hlen hn2) hr hF hb fun H hS => hsp w H a ns hlen hS
/-! ### repr -/
section
variable {X : Cx}
/-- repr(x), x a list or a tuple: what is shown -/
theorem call_reprD {K : PySem.W.Frag} (hgd : X.A.guards = some []) (hu : X.A.units + 66 < cLine) (hK : X.K = K := by rfl) : CallR X (.builtin "repr") (fun xs H Q => ∃ v d, xs = [v] ∧ Dp K H v d ∧ (∃ a, v = .ref a) ∧ SeqAt.shaped d = true ∧ d.showable = true ∧ d.shown.length ≤ sizeLine ∧ Q (.str d.shown) H) := by
  subst hK
  intro pins s σ H xs us Q I r h
  obtain ⟨v, d, rfl, hd, ⟨a, rfl⟩, sd, sw, hz, q⟩ := h
  obtain ⟨u, rfl, ru⟩ := vals1 r
  obtain rfl : u = Value.ref a := ru
  obtain ⟨as, rd⟩ := Dp.reads I d _ _ hd rfl
  have dp := SeqAt.depth_of_shaped sd
  refine repr_of_reads' rd sw (PyData.noDict_hsm (PyData.hasDict_of_canLay d (SeqAt.canLay_of_shaped sd))) hgd (by omega) (fun _ _ e => e) (fun h' u tk hk => ?_) hz
  exact ⟨.str d.shown, H, I.kept (t' := tk) hk, ⟨u, rfl⟩, q⟩
/-! ### sum(a tuple of ints) -/
theorem cr_sumT {K : PySem.W.Frag} (hc : X.calm = true) (hK : X.K = K := by rfl) : CallR X (.builtin "sum") (fun vs H Q => ∃ (a : Addr) (ns : List Int), vs = [V.ref a] ∧ SqT K H a (ns.map V.int) ∧ Q (.int ns.sum) H) := by
  subst hK
  intro pins s σ H vs us Q I r h
  obtain ⟨a, ns, rfl, hs, q⟩ := h
  obtain ⟨its, rv, hl, _⟩ := I.tuple hs
  rw [Vals.ref1 r]
  have hi := rv.ints
  obtain ⟨xs, e⟩ := hi.allInts.items
  have hn : numsOf (intItems xs).toList = ns := by rw [← e]; exact hi.numsOf
  rw [nums_intItems] at hn
  rw [e] at hl
  have hT : s.heap.IsTuple a (intItems xs) := hl
  have hlt : a < s.heap.objs.size := by obtain ⟨_, e, _⟩ := hT; exact Heap.lt_size e
  refine call_sum_walkG (wpAny_pyIter_tuple hT ⟨_, [_, a], [_], _, _, _, numAt xs, rfl, Walks.tuple (A := X.A.in1) (I.ok.hd hc) _ a (Nat.ne_of_lt hlt) (intItems xs), ⟨⟨_, Heap.get?_push_size _ rfl, rfl, rfl⟩, hT.push _⟩, fun b hb => ?_, (fun _ _ => intItems_at), fun h' tk t' hk => ?_⟩)
  · show b < (s.heap.push _).objs.size
    rw [Heap.size_push]
    rcases List.mem_cons.mp hb with rfl | hb
    · exact Nat.lt_succ_self _
    · rw [List.mem_singleton.mp hb]
      exact Nat.lt_succ_of_lt hlt
  · have e2 : preSum (numAt xs) (intItems xs).size = ns.sum := by
      have e3 : (intItems xs).size = xs.size := by simp [intItems]
      rw [e3, preSum_eq, List.take_of_length_le (by simp), hn]
    rw [e2]
    refine ⟨.int _, H, I.kept (t' := tk) fun b o eb => hk b o (fun hm => ?_) (Heap.get?_push_of_some _ eb), ⟨_, rfl⟩, q⟩
    rw [List.mem_singleton.mp hm] at eb
    exact absurd (Heap.lt_size eb) (Nat.lt_irrefl _)
/-! ### sorted(a list of data) -/
abbrev dSort (ds : List PyData) : List PyData := ds.mergeSort (PySem.W.dataLe false id)
theorem DpAll.pairs {K : PySem.W.Frag} {H : Hp} : ∀ {xs : List V} {ds : List PyData}, DpAll K H xs ds → ∀ p ∈ xs.zip ds, Dp K H p.1 p.2
  | _, _, .nil, p, hp => by cases hp
  | _, _, .cons h hs, p, hp => by
    rcases List.mem_cons.mp hp with rfl | hp
    · exact h
    · exact DpAll.pairs hs p hp
theorem dpAll_of {K : PySem.W.Frag} {H : Hp} : ∀ (l : List (V × PyData)), (∀ p ∈ l, Dp K H p.1 p.2) → DpAll K H (l.map Prod.fst) (l.map Prod.snd)
  | [], _ => .nil
  | p :: r, h => .cons (h p List.mem_cons_self) (dpAll_of r fun q hq => h q (List.mem_cons_of_mem _ hq))
theorem each_zip {H : Hp} {pins : List (Addr × Obj)} {σ : L2.St} {s : Shared} (I : Inv X pins σ H s) : ∀ {xs : List V} {us : List Value} {ds : List PyData}, Vals xs us → DpAll X.K H xs ds →
    PySem.W.EachIs (fun (u : Value) (p : V × PyData) => RelV p.1 u) us (xs.zip ds) ∧ PySem.W.EachIs (fun (u : Value) (p : V × PyData) => ∃ as, Reads s.heap u p.2 as) us (xs.zip ds)
  | _, _, _, .nil, .nil => ⟨.nil, .nil⟩
  | _, _, _, .cons r rs, .cons h hs => ⟨.cons r (each_zip I rs hs).1, .cons (Dp.reads I _ _ _ h r) (each_zip I rs hs).2⟩
theorem vals_each : ∀ {us : List Value} {l : List (V × PyData)}, PySem.W.EachIs (fun (u : Value) (p : V × PyData) => RelV p.1 u) us l → Vals (l.map Prod.fst) us
  | _, _, .nil => .nil
  | _, _, .cons r rs => .cons r (vals_each rs)
theorem zip_snd {xs : List V} {ds : List PyData} (h : xs.length = ds.length) : (xs.zip ds).map Prod.snd = ds := List.map_snd_zip (by omega)
theorem cr_sortD {K : PySem.W.Frag} (hu : X.A.units + 64 < cLine) (hK : X.K = K := by rfl) : CallR X (.builtin "sorted") (fun vs H Q => ∃ (a : Addr) (xs : List V) (ds : List PyData), vs = [V.ref a] ∧ SqL K H a xs ∧ DpAll K H xs ds ∧ PySem.W.AllAlike ds ∧ PySem.W.Sortable ds ∧ (∀ d ∈ ds, d.depth ≤ 60) ∧
    ∀ ys p, H p = none → (∀ F, DpAll K F xs ds → DpAll K F ys (dSort ds)) → (∀ y ∈ ys, y ∈ xs) → Q (.ref p) (upd H p (.lst ys))) := by
  subst hK
  intro pins s σ H vs us Q I r h
  obtain ⟨a, xs, ds, rfl, hs, hd, hal, hsr, hdp, q⟩ := h
  obtain ⟨its, rv, hl, hz⟩ := I.list hs
  rw [Vals.ref1 r]
  have hlen := DpAll.length hd
  obtain ⟨e1, e2⟩ := each_zip I rv hd
  have esnd := zip_snd hlen
  refine PySem.W.sorted_data (enc := Prod.snd) hl.isList e1 e2 (by rw [esnd]; exact hal) (by rw [esnd]; exact hsr) (by rw [List.length_zip]; omega) (fun p hp => ?_) fun out hout he => ?_
  · have := hdp p.2 (by rw [← esnd]; exact List.mem_map_of_mem hp)
    omega
  · obtain ⟨e, hat⟩ := sortedAll_at s.heap its out.toArray
    have hmem : ∀ p ∈ (xs.zip ds).mergeSort (PySem.W.dataLe false Prod.snd), p ∈ xs.zip ds := fun p hp => (List.mergeSort_perm _ _).mem_iff.mp hp
    have hys : ∀ F, DpAll X.K F xs ds → DpAll X.K F (((xs.zip ds).mergeSort (PySem.W.dataLe false Prod.snd)).map Prod.fst) (dSort ds) := fun F hF => by
      have h1 := dpAll_of (K := X.K) (H := F) ((xs.zip ds).mergeSort (PySem.W.dataLe false Prod.snd)) fun p hp => DpAll.pairs hF p (hmem p hp)
      have h2 : ((xs.zip ds).mergeSort (PySem.W.dataLe false Prod.snd)).map Prod.snd = dSort ds := by
        rw [PySem.W.sort_maps (r := PySem.W.dataLe false Prod.snd) (s := PySem.W.dataLe false id) Prod.snd (fun _ _ _ _ => rfl), esnd]
      rw [h2] at h1
      exact h1
    have hv := vals_each he
    refine ⟨.ref (s.heap.objs.size + 1), upd H (s.heap.objs.size + 1) (.lst _), I.laid (t' := s.toks) (fun b u eb => sortedAll_old eb) (by omega) (show ObjOk X.prog X.w _ _ _ (.lst _) from ⟨?_, out, e, hv, ?_⟩), rfl, q _ _ (I.hok.fresh (by omega)) hys fun y hy => ?_⟩
    · rw [List.length_map, List.length_mergeSort, List.length_zip]
      omega
    · exact hat
    · obtain ⟨p, hp, rfl⟩ := List.mem_map.mp hy
      exact (List.of_mem_zip (hmem p hp)).1
end
end CB

set_option Elab.async false
set_option linter.all false
set_option maxRecDepth 100000
set_option maxHeartbeats 2000000
namespace CB
open PySem PySem.Spec PyProof.Rows L2

/-! ### rows as data: they may be compared and shown -/
abbrev Sml (x : Int) : Prop := x.natAbs.log2 < 1920
theorem sml_of {x : Int} {k : Nat} (h : x.natAbs < 2 ^ k) (hk : 0 < k) (h2 : k ≤ 1920) : Sml x := Nat.lt_of_lt_of_le (PySem.Flt.log2_lt_of hk h) h2
theorem canLay_tis : ∀ r : List (List Int), PyData.canLayAll0 (r.map ti) = true
  | [] => rfl
  | p :: r => by
    show (PyData.canLayAll0 (p.map PyData.int) && PyData.canLayAll0 (r.map ti)) = true
    rw [canLay_ints, canLay_tis r]
    rfl
theorem depth_ints' (p : List Int) : PyData.depthAll (p.map PyData.int) = 0 := PySem.W.depth_ints p
theorem depth_tis : ∀ r : List (List Int), PyData.depthAll (r.map ti) ≤ 1
  | [] => Nat.zero_le _
  | p :: r => by
    show max (PyData.depthAll (p.map PyData.int) + 1) (PyData.depthAll (r.map ti)) ≤ 1
    rw [depth_ints']
    have := depth_tis r
    omega
theorem ti_shaped (p : List Int) : SeqAt.shaped (ti p) = true := by
  unfold SeqAt.shaped
  rw [Bool.and_eq_true, decide_eq_true_eq]
  refine ⟨canLay_ints p, ?_⟩
  show PyData.depthAll (p.map PyData.int) + 1 ≤ 64
  rw [depth_ints']
  decide
theorem li_shaped (p : List Int) : SeqAt.shaped (li p) = true := by
  unfold SeqAt.shaped
  rw [Bool.and_eq_true, decide_eq_true_eq]
  refine ⟨canLay_ints p, ?_⟩
  show PyData.depthAll (p.map PyData.int) + 1 ≤ 64
  rw [depth_ints']
  decide
theorem lti_shaped (r : List (List Int)) : SeqAt.shaped (lti r) = true := by
  unfold SeqAt.shaped
  rw [Bool.and_eq_true, decide_eq_true_eq]
  refine ⟨canLay_tis r, ?_⟩
  show PyData.depthAll (r.map ti) + 1 ≤ 64
  have := depth_tis r
  omega
theorem tti_shaped (r : List (List Int)) : SeqAt.shaped (tti r) = true := by
  unfold SeqAt.shaped
  rw [Bool.and_eq_true, decide_eq_true_eq]
  refine ⟨canLay_tis r, ?_⟩
  show PyData.depthAll (r.map ti) + 1 ≤ 64
  have := depth_tis r
  omega
theorem ints_showable (p : List Int) (h : ∀ x ∈ p, Sml x) : PyData.showableAll (p.map PyData.int) = true := PyData.showableAll_ints p h
theorem ti_showable {p : List Int} (h : ∀ x ∈ p, Sml x) : (ti p).showable = true := ints_showable p h
theorem li_showable {p : List Int} (h : ∀ x ∈ p, Sml x) : (li p).showable = true := ints_showable p h
theorem tis_showable (r : List (List Int)) (h : ∀ p ∈ r, ∀ x ∈ p, Sml x) : PyData.showableAll (r.map ti) = true := showableAll_of fun d hd => by
  obtain ⟨p, hp, rfl⟩ := List.mem_map.mp hd
  exact ti_showable (h p hp)
theorem lti_showable {r : List (List Int)} (h : ∀ p ∈ r, ∀ x ∈ p, Sml x) : (lti r).showable = true := tis_showable r h
theorem tti_showable {r : List (List Int)} (h : ∀ p ∈ r, ∀ x ∈ p, Sml x) : (tti r).showable = true := tis_showable r h
theorem int_shown {x : Int} (h : Sml x) : (PyData.shown (.int x)).length ≤ 1921 := PyProof.Rows.int_text_len_1921 h
theorem ints_shown : ∀ (p : List Int), (∀ x ∈ p, Sml x) → ((PyData.shownAll (p.map PyData.int)).map (·.length)).sum ≤ 1921 * p.length
  | [], _ => Nat.zero_le _
  | x :: p, h => by
    have h1 := int_shown (h x List.mem_cons_self)
    have h2 := ints_shown p fun y hy => h y (List.mem_cons_of_mem _ hy)
    show (PyData.shown (.int x)).length + ((PyData.shownAll (p.map PyData.int)).map (·.length)).sum ≤ 1921 * (p.length + 1)
    omega
theorem ti_shown {p : List Int} (h : ∀ x ∈ p, Sml x) : (ti p).shown.length ≤ 1923 * p.length + 3 := by
  have h1 := tupleText_len_le (PyData.shownAll (p.map PyData.int))
  have h2 := ints_shown p h
  have h3 : (PyData.shownAll (p.map PyData.int)).length = p.length := by rw [PyData.shownAll_length, List.length_map]
  show (tupleText (PyData.shownAll (p.map PyData.int))).length ≤ _
  omega
theorem li_shown {p : List Int} (h : ∀ x ∈ p, Sml x) : (li p).shown.length ≤ 1923 * p.length + 3 := by
  have h1 := listText_len_le (PyData.shownAll (p.map PyData.int))
  have h2 := ints_shown p h
  have h3 : (PyData.shownAll (p.map PyData.int)).length = p.length := by rw [PyData.shownAll_length, List.length_map]
  show (listText (PyData.shownAll (p.map PyData.int))).length ≤ _
  omega
theorem tis_shown {m : Nat} : ∀ (r : List (List Int)), (∀ p ∈ r, p.length ≤ m ∧ ∀ x ∈ p, Sml x) → ((PyData.shownAll (r.map ti)).map (·.length)).sum ≤ (1923 * m + 3) * r.length
  | [], _ => Nat.zero_le _
  | p :: r, h => by
    obtain ⟨l1, l2⟩ := h p List.mem_cons_self
    have h1 := ti_shown l2
    have h2 := tis_shown r fun y hy => h y (List.mem_cons_of_mem _ hy)
    have h3 : 1923 * p.length ≤ 1923 * m := Nat.mul_le_mul_left _ l1
    show (ti p).shown.length + ((PyData.shownAll (r.map ti)).map (·.length)).sum ≤ (1923 * m + 3) * (r.length + 1)
    rw [Nat.mul_succ]
    omega
theorem lti_shown {m : Nat} {r : List (List Int)} (h : ∀ p ∈ r, p.length ≤ m ∧ ∀ x ∈ p, Sml x) : (lti r).shown.length ≤ (1923 * m + 5) * r.length + 3 := by
  have h1 := listText_len_le (PyData.shownAll (r.map ti))
  have h2 := tis_shown r h
  have h3 : (PyData.shownAll (r.map ti)).length = r.length := by rw [PyData.shownAll_length, List.length_map]
  have h4 : (1923 * m + 5) * r.length = (1923 * m + 3) * r.length + 2 * r.length := by rw [← Nat.add_mul]
  show (listText (PyData.shownAll (r.map ti))).length ≤ _
  omega
theorem tti_shown {m : Nat} {r : List (List Int)} (h : ∀ p ∈ r, p.length ≤ m ∧ ∀ x ∈ p, Sml x) : (tti r).shown.length ≤ (1923 * m + 5) * r.length + 3 := by
  have h1 := tupleText_len_le (PyData.shownAll (r.map ti))
  have h2 := tis_shown r h
  have h3 : (PyData.shownAll (r.map ti)).length = r.length := by rw [PyData.shownAll_length, List.length_map]
  have h4 : (1923 * m + 5) * r.length = (1923 * m + 3) * r.length + 2 * r.length := by rw [← Nat.add_mul]
  show (tupleText (PyData.shownAll (r.map ti))).length ≤ _
  omega
/-! ### products -/
/-- a product with one box more, to a degree -/
def ext (d : Int) (p : List Int) : List (List Int) := (List.range (d - p.sum + 1).toNat).map fun (o : Nat) => p ++ [(o : Int)]
def raw (d : Int) : Nat → List (List Int)
  | 0 => [[]]
  | n + 1 => (raw d n).flatMap (ext d)
/-- a product beside its degree -/
def encP (p : List Int) : PyData := .tuple [.int p.sum, ti p]
def prods (n : Nat) (d : Int) : List (List Int) := (raw d n).mergeSort (PySem.W.dataLe false encP)
theorem ext_mem {d : Int} {p q : List Int} (h : q ∈ ext d p) : ∃ o : Nat, q = p ++ [(o : Int)] ∧ (o : Int) ≤ d - p.sum := by
  obtain ⟨o, ho, rfl⟩ := List.mem_map.mp h
  rw [List.mem_range] at ho
  exact ⟨o, rfl, by omega⟩
theorem sum_snoc (p : List Int) (o : Int) : (p ++ [o]).sum = p.sum + o := by
  rw [List.sum_append]
  simp
theorem raw_ok {d : Int} (hd : 0 ≤ d) : ∀ (n : Nat) (p : List Int), p ∈ raw d n → p.length = n ∧ 0 ≤ p.sum ∧ p.sum ≤ d ∧ ∀ x ∈ p, 0 ≤ x
  | 0, p, h => by
    rw [List.mem_singleton.mp (show p ∈ [[]] from h)]
    exact ⟨rfl, by decide, hd, fun x hx => by cases hx⟩
  | n + 1, p, h => by
    obtain ⟨q, hq, hp⟩ := List.mem_flatMap.mp h
    obtain ⟨h1, h2, h3, h4⟩ := raw_ok hd n q hq
    obtain ⟨o, rfl, ho⟩ := ext_mem hp
    refine ⟨by rw [List.length_append, h1]; rfl, by rw [sum_snoc]; omega, by rw [sum_snoc]; omega, fun x hx => ?_⟩
    rcases List.mem_append.mp hx with hx | hx
    · exact h4 x hx
    · rw [List.mem_singleton.mp hx]; omega
theorem ext_len {d : Int} {p : List Int} (h0 : 0 ≤ p.sum) (hd : d ≤ 6) : (ext d p).length ≤ 7 := by
  unfold ext
  rw [List.length_map, List.length_range]
  omega
theorem flat_len {d : Int} : ∀ (l : List (List Int)), (∀ p ∈ l, 0 ≤ p.sum) → d ≤ 6 → (l.flatMap (ext d)).length ≤ 7 * l.length
  | [], _, _ => by simp
  | p :: r, h, hd => by
    rw [List.flatMap_cons, List.length_append, List.length_cons]
    have h1 := ext_len (h p List.mem_cons_self) hd
    have h2 := flat_len r (fun q hq => h q (List.mem_cons_of_mem _ hq)) hd
    omega
theorem raw_len {d : Int} (hd : 0 ≤ d) (hd6 : d ≤ 6) : ∀ n : Nat, (raw d n).length ≤ 7 ^ n
  | 0 => Nat.le_refl 1
  | n + 1 => by
    have h1 := flat_len (raw d n) (fun p hp => (raw_ok hd n p hp).2.1) hd6
    have h2 := raw_len hd hd6 n
    show ((raw d n).flatMap (ext d)).length ≤ 7 ^ n * 7
    omega
theorem raw_len6 {d : Int} (hd : 0 ≤ d) (hd6 : d ≤ 6) {n : Nat} (hn : n ≤ 6) : (raw d n).length ≤ 117649 :=
  Nat.le_trans (raw_len hd hd6 n) (Nat.le_trans (Nat.pow_le_pow_right (by decide) hn) (by decide))
theorem prods_len (n : Nat) (d : Int) : (prods n d).length = (raw d n).length := List.length_mergeSort _
theorem prods_mem {n : Nat} {d : Int} {p : List Int} : p ∈ prods n d ↔ p ∈ raw d n := (List.mergeSort_perm _ _).mem_iff
theorem prods_ok {d : Int} (hd : 0 ≤ d) {n : Nat} {p : List Int} (h : p ∈ prods n d) : p.length = n ∧ 0 ≤ p.sum ∧ p.sum ≤ d ∧ ∀ x ∈ p, 0 ≤ x := raw_ok hd n p (prods_mem.mp h)
theorem sort_enc (l : List (List Int)) : dSort (l.map encP) = (l.mergeSort (PySem.W.dataLe false encP)).map encP :=
  (PySem.W.sort_maps (r := PySem.W.dataLe false encP) (s := PySem.W.dataLe false id) encP (fun _ _ _ _ => rfl)).symm
theorem alike_ints' (xs ys : List Int) : PySem.W.alikeAll (xs.map PyData.int) (ys.map PyData.int) = true := PySem.W.alike_ints xs ys
theorem enc_alike (l : List (List Int)) : PySem.W.AllAlike (l.map encP) := PySem.W.AllAlike.of fun p q => by
  show (true && (PySem.W.alikeAll (p.map PyData.int) (q.map PyData.int) && true)) = true
  rw [alike_ints']
  rfl
theorem enc_sortable (l : List (List Int)) : PySem.W.Sortable (l.map encP) := PySem.W.Sortable.tuples fun p => ⟨_, _, rfl⟩
theorem enc_depth (l : List (List Int)) : ∀ d ∈ l.map encP, d.depth ≤ 60 := fun d hd => by
  obtain ⟨p, _, rfl⟩ := List.mem_map.mp hd
  show max 0 (max (PyData.depthAll (p.map PyData.int) + 1) 0) + 1 ≤ 60
  rw [PySem.W.depth_ints]
  decide
/-- how many products there are, as it is reckoned -/
def hm (d : Int) : Nat → Int
  | 0 => 1
  | k + 1 => (hm d k * (d + (1 + (k : Int)))).fdiv (1 + (k : Int))
def sp_how_many : Sp := fun vs H Q _ => ∃ (n : Nat) (d : Int), vs = [.int (n : Int), .int d] ∧ n ≤ 6 ∧ 0 ≤ d ∧ d ≤ 6 ∧ Q (.int (hm d n)) H
/-- the promise: a new list of tuples -/
def sp_products (K : PySem.W.Frag) : Sp := fun vs H Q _ => ∃ (n : Nat) (d : Int) (F : Hp), vs = [.int (n : Int), .int d] ∧ Ex F H ∧ n ≤ 6 ∧ 0 ≤ d ∧ d ≤ 6 ∧
  ∀ p xs F' H', H p = none → Gr NoS F H F' H' → F' p = none → H' p = some (.lst xs) → DpAll K F' xs ((prods n d).map ti) → Q (.ref p) H'
end CB

set_option Elab.async false
set_option linter.all false
set_option maxRecDepth 100000
set_option maxHeartbeats 2000000
namespace CB
open PySem PySem.Spec PyProof.Rows L2
/-- what a def of data hands back: a value that reads as d, the frozen part grown -/
def RetD (K : PySem.W.Frag) (F H : Hp) (Q : VK) (d : PyData) : Prop := ∀ v F' H', Gr NoS F H F' H' → Dp K F' v d → Q v H'
/-- tuple(a list of ours) -/
theorem RetD.tuple {K : PySem.W.Frag} {F H F1 H1 : Hp} {Q : VK} {xs : List V} {ds : List PyData} {l : Addr} (q : RetD K F H Q (.tuple ds)) (g : Gr NoS F H F1 H1) (hl : H1 l = some (.lst xs)) (hd : DpAll K F1 xs ds) :
    (∃ p ys, [V.ref l] = [.ref p] ∧ ((SqL K H1 p ys ∧ ∀ l, H1 l = none → Q (.ref l) (upd H1 l (.tup ys))) ∨ (SqT K H1 p ys ∧ Q (.ref p) H1))) :=
  ⟨l, xs, rfl, .inl ⟨SqL.of hl, fun t nt => q _ _ _ (g.new nt) (.tup (SqT.of upd_same) (hd.ex (Evl.Ex.new (sub_none g.sub nt))))⟩⟩
theorem sum_nonneg : ∀ {p : List Int}, (∀ x ∈ p, 0 ≤ x) → 0 ≤ p.sum
  | [], _ => by decide
  | y :: r, h => by
    rw [List.sum_cons]
    have h1 := h y List.mem_cons_self
    have h2 := sum_nonneg (p := r) fun z hz => h z (List.mem_cons_of_mem _ hz)
    omega
theorem le_sum : ∀ {p : List Int} {x : Int}, (∀ x ∈ p, 0 ≤ x) → x ∈ p → x ≤ p.sum
  | [], _, _, hx => by cases hx
  | y :: r, x, h, hx => by
    rw [List.sum_cons]
    have h1 := h y List.mem_cons_self
    have h2 := sum_nonneg (p := r) fun z hz => h z (List.mem_cons_of_mem _ hz)
    rcases List.mem_cons.mp hx with rfl | hx
    · omega
    · have := le_sum (p := r) (fun z hz => h z (List.mem_cons_of_mem _ hz)) hx
      omega
/-! ### boxes multiplied -/
/-- the boxes (first) taken as often (second) -/
def wL (l : List (Int × Int)) : Int := l.foldl (fun w q => w * q.1 ^ q.2.toNat) 1
theorem wL_snoc (l : List (Int × Int)) (q : Int × Int) : wL (l ++ [q]) = wL l * q.1 ^ q.2.toNat := by
  unfold wL
  rw [List.foldl_append]
  rfl
def rowL (n : Nat) (d : Int) (boxes : List Int) : List Int := (prods n d).map fun p => wL (boxes.zip p)
theorem zip_get {α β : Type} {xs : List α} {ys : List β} {i : Nat} {x : α} {y : β} (hx : xs[i]? = some x) (hy : ys[i]? = some y) : (xs.zip ys)[i]? = some (x, y) := by
  rw [List.getElem?_zip_eq_some]
  exact ⟨hx, hy⟩
theorem take_zip_snoc {α β : Type} {xs : List α} {ys : List β} {i : Nat} {x : α} {y : β} (hx : xs[i]? = some x) (hy : ys[i]? = some y) : (xs.zip ys).take (i + 1) = (xs.zip ys).take i ++ [(x, y)] := by
  rw [List.take_add_one, zip_get hx hy]
  rfl
theorem int_get {ns : List Int} {i : Nat} {v : V} (h : (ns.map V.int)[i]? = some v) : ∃ x, ns[i]? = some x ∧ v = .int x := by
  rw [List.getElem?_map] at h
  obtain ⟨x, e, rfl⟩ := Option.map_eq_some_iff.mp h
  exact ⟨x, e, rfl⟩
/-- the promise of boxes_row -/
def sp_boxes_row (K : PySem.W.Frag) : Sp := fun vs H Q _ => ∃ (n : Nat) (d : Int) (bs : List Int) (v : V) (F : Hp), vs = [.int (n : Int), .int d, v] ∧ Ex F H ∧ Dp K F v (ti bs) ∧ bs.length = n ∧ n ≤ 6 ∧ 0 ≤ d ∧ d ≤ 6 ∧ (∀ x ∈ bs, -1000000 ≤ x ∧ x ≤ 1000000) ∧ RetD K F H Q (ti (rowL n d bs))
/-- the promise of a def that tells a row of all numbers -/
def sp_map_row (K : PySem.W.Frag) : Sp := fun vs H Q _ => ∃ (v : V) (r : List (List Int)) (F : Hp), vs = [v] ∧ Ex F H ∧ Dp K F v (tti r) ∧ r.flatten.length ≤ 10000 ∧ RetD K F H Q (ti r.flatten)
def sp_row_map (K : PySem.W.Frag) : Sp := fun vs H Q _ => ∃ (v : V) (r : List (List Int)) (m : Nat) (F : Hp), vs = [.int (r.length : Int), v] ∧ Ex F H ∧ Dp K F v (ti r.flatten) ∧ 0 < r.length ∧ r.length ≤ 1000 ∧ m ≤ 1000 ∧ (∀ p ∈ r, p.length = m) ∧ RetD K F H Q (tti r)
theorem flat_len_eq {r : List (List Int)} {m : Nat} (h : ∀ p ∈ r, p.length = m) : r.flatten.length = r.length * m := by
  induction r with
  | nil => simp
  | cons p r ih =>
    rw [List.flatten_cons, List.length_append, h p List.mem_cons_self, ih fun q hq => h q (List.mem_cons_of_mem _ hq), List.length_cons, Nat.succ_mul]
    omega
theorem flat_cut {m : Nat} : ∀ {r : List (List Int)} {k : Nat} {p : List Int}, (∀ p ∈ r, p.length = m) → r[k]? = some p → (r.flatten.drop (k * m)).take m = p
  | [], _, _, _, h => by simp at h
  | q :: r, 0, p, h, e => by
    have e' : q = p := by simpa using e
    subst e'
    rw [Nat.zero_mul, List.drop_zero, List.flatten_cons, List.take_append_of_le_length (by rw [h q List.mem_cons_self]; exact Nat.le_refl _)]
    exact List.take_of_length_le (by rw [h q List.mem_cons_self]; exact Nat.le_refl _)
  | q :: r, k + 1, p, h, e => by
    have ih := flat_cut (r := r) (k := k) (fun q hq => h q (List.mem_cons_of_mem _ hq)) (by simpa using e)
    rw [List.flatten_cons, Nat.succ_mul, Nat.add_comm (k * m) m, ← List.drop_drop]
    have e2 : (q ++ r.flatten).drop m = r.flatten := by
      rw [← h q List.mem_cons_self]
      exact List.drop_left
    rw [e2]
    exact ih
theorem cut_nat (xs : List V) {a b : Nat} (h : b ≤ xs.length) : cutV xs (some (a : Int)) (some (b : Int)) = (xs.drop (min a xs.length)).take (b - min a xs.length) := by
  unfold cutV
  rw [HT.sIx_nat, HT.sIx_nat, Nat.min_eq_left h]
/-! ### the deal beside a frozen part -/
structure Wr (d l : Addr) (F H : Hp) : Prop where
  sub : Ex F H
  nd : F d = none
  nl : F l = none
  deal : IsDeal H d l
section
variable {d l p : Addr} {F H F' H' : Hp} {o : HO}
theorem Wr.draw (h : Wr d l F H) (D : IsDeal H' d l) (k : Kp d l H H') : Wr d l F H' := ⟨fun b o e => k b o (ne_of_none e h.nd) (ne_of_none e h.nl) (h.sub b o e), h.nd, h.nl, D⟩
theorem Wr.gr (h : Wr d l F H) (g : Gr NoS F H F' H') : Wr d l F' H' := by
  obtain ⟨s, n, ls, D⟩ := h.deal
  exact ⟨g.sub, g.nf d h.nd (by rw [D.hd]; exact fun z => by cases z), g.nf l h.nl (by rw [D.hl]; exact fun z => by cases z), h.deal.ex g.ex⟩
theorem Wr.new (h : Wr d l F H) (hp : H p = none) : Wr d l (upd F p o) (upd H p o) := h.gr ((Gr.refl h.sub).new hp)
theorem Wr.newm (h : Wr d l F H) (hp : H p = none) : Wr d l F (upd H p o) := h.gr ((Gr.refl h.sub).newm hp)
theorem Wr.mut (h : Wr d l F H) (hf : F p = none) (n1 : p ≠ d) (n2 : p ≠ l) : Wr d l F (upd H p o) :=
  ⟨fun b u e => by rw [upd_ne (ne_of_none e hf)]; exact h.sub b u e, h.nd, h.nl, h.deal.upd n1 n2⟩
theorem Wr.ne (h : Wr d l F H) (hp : H p = none) : p ≠ d ∧ p ≠ l := h.deal.nd hp
theorem Kp.none (k : Kp d l H H') (n1 : p ≠ d) (n2 : p ≠ l) (e : H' p = none) : H p = none := by
  cases q : H p with
  | none => rfl
  | some o => rw [k p o n1 n2 q] at e; cases e
theorem Gr.toKp (g : Gr NoS F H F' H') : Kp d l H H' := Kp.of_ex g.ex
theorem Gr.of_ex (h : Ex F H) (x : Ex H H') : Gr NoS F H F H' := ⟨fun _ _ e => e, h.trans x, fun a o _ e => x a o e, fun a e => by
  cases q : H a with
  | none => exact absurd q e
  | some o => rw [x a o q]; exact fun z => (by cases z), fun _ e _ => e⟩
end
theorem rep_zero (ns : List Int) (k : Nat) : ns.map V.int ++ (List.replicate k [V.int 0]).flatten = (ns ++ List.replicate k 0).map V.int := by
  rw [List.map_append, List.map_replicate]
  congr 1
  induction k with
  | zero => rfl
  | succ k ih => rw [List.replicate_succ, List.flatten_cons, ih]; rfl
theorem eqv_refl (d : PyData) (h : SeqAt.shaped d = true) : PyData.eqv d d = true := SeqAt.eqv_refl d (SeqAt.canLay_of_shaped h)
end CB

set_option Elab.async false
set_option linter.all false
set_option maxRecDepth 100000
set_option maxHeartbeats 2000000
namespace CB
open PySem PySem.Spec PyProof.Rows L2
section
variable {X : Cx} {K : PySem.W.Frag}
theorem pg_lstK {es : List Expr} {k n : Nat} {t : TGs} {pos : Pos} (hc : X.calm = true) (h : PGs X es t)
    (hn : (assignEach es X.env).length = n := by rfl) (hst : (assignEach es X.env).findIdx? (·.1) = none := by rfl) (hK : X.K = K := by rfl) : PG X (.Tuple es k pos) (gLst K n t) := hK ▸ pg_lst hc h hn hst
end
/-! ### sums -/
def S (n : Nat) (f : Nat → Int) : Int := ((List.range n).map f).sum
section
variable {n m k : Nat} {f g : Nat → Int}
theorem S_zero : S 0 f = 0 := rfl
theorem S_succ : S (n + 1) f = S n f + f n := by
  unfold S
  rw [List.range_succ, List.map_append, List.sum_append]
  simp
theorem S_congr : ∀ {n : Nat}, (∀ i, i < n → f i = g i) → S n f = S n g
  | 0, _ => rfl
  | n + 1, h => by rw [S_succ, S_succ, S_congr fun i hi => h i (by omega), h n (by omega)]
theorem S_add : ∀ {n : Nat}, S n (fun i => f i + g i) = S n f + S n g
  | 0 => rfl
  | n + 1 => by rw [S_succ, S_succ, S_succ, S_add]; omega
theorem S_mul (c : Int) : ∀ {n : Nat}, S n (fun i => c * f i) = c * S n f
  | 0 => by rw [S_zero, S_zero, Int.mul_zero]
  | n + 1 => by rw [S_succ, S_succ, S_mul c, Int.mul_add]
theorem S_mulr (c : Int) : ∀ {n : Nat}, S n (fun i => f i * c) = S n f * c
  | 0 => by rw [S_zero, S_zero, Int.zero_mul]
  | n + 1 => by rw [S_succ, S_succ, S_mulr c, Int.add_mul]
theorem S_null (h : ∀ i, i < n → f i = 0) : S n f = 0 := by
  rw [S_congr (g := fun _ => 0) h]
  clear h
  induction n with
  | zero => rfl
  | succ n ih => rw [S_succ, ih]; rfl
theorem S_swap {F : Nat → Nat → Int} : ∀ {n : Nat}, S n (fun i => S m (F i)) = S m (fun j => S n (fun i => F i j))
  | 0 => by
    rw [S_zero]
    exact (S_null fun _ _ => rfl).symm
  | n + 1 => by
    rw [S_succ, S_swap, ← S_add]
    exact S_congr fun j _ => S_succ.symm
theorem S_one : ∀ {n : Nat}, k < n → (∀ i, i < n → i ≠ k → f i = 0) → S n f = f k
  | 0, h, _ => by omega
  | n + 1, h, hz => by
    rw [S_succ]
    by_cases e : k = n
    · subst e
      rw [S_null fun i hi => hz i (by omega) (by omega)]
      omega
    · rw [S_one (n := n) (by omega) fun i hi => hz i (by omega), hz n (by omega) (fun h => e h.symm)]
      omega
theorem S_abs {B : Nat} : ∀ {n : Nat}, (∀ i, i < n → (f i).natAbs ≤ B) → (S n f).natAbs ≤ n * B
  | 0, _ => by simp [S_zero]
  | n + 1, h => by
    rw [S_succ, Nat.succ_mul]
    have h1 := S_abs (n := n) fun i hi => h i (by omega)
    have h2 := h n (by omega)
    omega
end
/-! ### maps of rows -/
def at2 (M : List (List Int)) (i j : Nat) : Int := (M.getD i []).getD j 0
def pbI (w : Nat) (M : List (List Int)) (p : List Int) (i : Nat) : List Int := (List.range w).map fun j => S i fun t => p.getD t 0 * at2 M t j
def pb (w : Nat) (M : List (List Int)) (p : List Int) : List Int := pbI w M p M.length
def sg (many k : Nat) : List Int := (List.range many).map fun j => if j = k then (1 : Int) else 0
def sm (many : Nat) : List (List Int) := (List.range many).map (sg many)
section
variable {w i j : Nat} {M : List (List Int)} {p : List Int} {x : Int} {row : List Int}
theorem pbI_len : (pbI w M p i).length = w := by unfold pbI; rw [List.length_map, List.length_range]
theorem pb_len : (pb w M p).length = w := pbI_len
theorem pbI_get (hj : j < w) : (pbI w M p i)[j]? = some (S i fun t => p.getD t 0 * at2 M t j) := by
  unfold pbI
  rw [List.getElem?_map, List.getElem?_range hj]
  rfl
theorem getD_of {α : Type} {l : List α} {a d : α} (h : l[i]? = some a) : l.getD i d = a := by rw [List.getD_eq_getElem?_getD, h]; rfl
theorem pbI_next {h t : Int} (ep : p[i]? = some x) (eM : M[i]? = some row) (hw : row.length = w) (eh : (pbI w M p i)[j]? = some h) (et : row[j]? = some t) : (pbI w M p (i + 1))[j]? = some (h + x * t) := by
  have hj : j < w := by
    have := (List.getElem?_eq_some_iff.mp et).1
    omega
  rw [pbI_get hj] at eh ⊢
  cases eh
  rw [S_succ, getD_of ep]
  unfold at2
  rw [getD_of eM, getD_of et]
theorem pbI_zero (ep : p[i]? = some 0) : pbI w M p (i + 1) = pbI w M p i := by
  unfold pbI
  refine List.map_congr_left fun j _ => ?_
  rw [S_succ, getD_of ep, Int.zero_mul, Int.add_zero]
theorem pbI_nil : pbI w M p 0 = List.replicate w 0 := by
  unfold pbI
  show (List.range w).map (fun _ => (0 : Int)) = _
  rw [List.map_const', List.length_range]
theorem sg_len {many k : Nat} : (sg many k).length = many := by unfold sg; rw [List.length_map, List.length_range]
theorem sm_len {many : Nat} : (sm many).length = many := by unfold sm; rw [List.length_map, List.length_range]
theorem sg_get {many k : Nat} (hj : j < many) : (sg many k).getD j 0 = if j = k then 1 else 0 := by
  apply getD_of
  unfold sg
  rw [List.getElem?_map, List.getElem?_range hj]
  rfl
theorem sm_row {many : Nat} (hj : j < many) : (sm many).getD j [] = sg many j := by
  apply getD_of
  unfold sm
  rw [List.getElem?_map, List.getElem?_range hj]
  rfl
theorem at2_sm {many : Nat} (hi : i < many) (hj : j < many) : at2 (sm many) i j = if j = i then 1 else 0 := by
  unfold at2
  rw [sm_row hi, sg_get hj]
/-- the same map changes nothing -/
theorem pb_same (h : p.length = w) : pb w (sm w) p = p := by
  apply List.ext_getElem?
  intro j
  by_cases hj : j < w
  · have ep : p[j]? = some (p.getD j 0) := by
      rw [List.getD_eq_getElem?_getD, List.getElem?_eq_getElem (by omega)]
      rfl
    unfold pb
    rw [pbI_get hj, sm_len, ep, S_one (k := j) hj]
    · rw [at2_sm hj hj, if_pos rfl, Int.mul_one]
    · intro i hi ne
      rw [at2_sm hi hj, if_neg (fun e => ne e.symm), Int.mul_zero]
  · rw [List.getElem?_eq_none (by rw [pb_len]; omega), List.getElem?_eq_none (by omega)]
theorem pb_sg (hw : ∀ r ∈ M, r.length = w) {k : Nat} (eM : M[k]? = some row) : pb w M (sg M.length k) = row := by
  have hk : k < M.length := (List.getElem?_eq_some_iff.mp eM).1
  have hr : row.length = w := hw row (List.mem_of_getElem? eM)
  apply List.ext_getElem?
  intro j
  by_cases hj : j < w
  · have ep : row[j]? = some (row.getD j 0) := by
      rw [List.getD_eq_getElem?_getD, List.getElem?_eq_getElem (by omega)]
      rfl
    unfold pb
    rw [pbI_get hj, ep, S_one (k := k) hk]
    · rw [sg_get hk, if_pos rfl, Int.one_mul]
      unfold at2
      rw [getD_of eM]
    · intro i hi ne
      rw [sg_get hi, if_neg ne, Int.zero_mul]
  · rw [List.getElem?_eq_none (by rw [pb_len]; omega), List.getElem?_eq_none (by omega)]
theorem pb_sm (hw : ∀ r ∈ M, r.length = w) : (sm M.length).map (pb w M) = M := by
  apply List.ext_getElem?
  intro k
  by_cases hk : k < M.length
  · have eM : M[k]? = some M[k] := List.getElem?_eq_getElem hk
    unfold sm
    rw [List.getElem?_map, List.getElem?_map, List.getElem?_range hk, eM]
    show some (pb w M (sg M.length k)) = _
    rw [pb_sg hw eM]
  · rw [List.getElem?_eq_none (by rw [List.length_map, sm_len]; omega), List.getElem?_eq_none (by omega)]
/-- one map behind another -/
theorem pb_both {O : List (List Int)} : pb w (O.map (pb w M)) p = pb w M (pb M.length O p) := by
  show pbI w (O.map (pb w M)) p (O.map (pb w M)).length = pbI w M (pb M.length O p) M.length
  rw [List.length_map]
  show (List.range w).map _ = (List.range w).map _
  refine List.map_congr_left fun j hj => ?_
  rw [List.mem_range] at hj
  have e1 : ∀ i, i < O.length → at2 (O.map (pb w M)) i j = S M.length fun t => at2 O i t * at2 M t j := fun i hi => by
    unfold at2
    have eO : O[i]? = some (O.getD i []) := by rw [List.getD_eq_getElem?_getD, List.getElem?_eq_getElem hi]; rfl
    rw [getD_of (l := O.map (pb w M)) (a := pb w M (O.getD i [])) (by rw [List.getElem?_map, eO]; rfl)]
    unfold pb
    rw [getD_of (pbI_get hj)]
    rfl
  rw [S_congr (g := fun i => S M.length fun t => p.getD i 0 * (at2 O i t * at2 M t j)) fun i hi => by rw [e1 i hi, S_mul], S_swap]
  refine S_congr fun t ht => ?_
  rw [getD_of (l := pb M.length O p) (pbI_get ht), ← S_mulr]
  exact S_congr fun i _ => by rw [Int.mul_assoc]
theorem pb_small {B C : Nat} (hp : ∀ x ∈ p, x.natAbs ≤ B) (hM : ∀ r ∈ M, ∀ x ∈ r, x.natAbs ≤ C) : ∀ x ∈ pb w M p, x.natAbs ≤ M.length * (B * C) := fun x hx => by
  obtain ⟨j, _, rfl⟩ := List.mem_map.mp hx
  refine S_abs fun i hi => ?_
  rw [Int.natAbs_mul]
  refine Nat.mul_le_mul ?_ ?_
  · rw [List.getD_eq_getElem?_getD]
    cases e : p[i]? with
    | none => exact Nat.zero_le _
    | some y => exact hp y (List.mem_of_getElem? e)
  · unfold at2
    rw [List.getD_eq_getElem?_getD]
    cases e : (M.getD i [])[j]? with
    | none => exact Nat.zero_le _
    | some y =>
      rw [List.getD_eq_getElem?_getD, List.getElem?_eq_getElem hi] at e
      exact hM _ (List.getElem_mem hi) y (List.mem_of_getElem? e)
end
/-- the promises -/
def sp_single (K : PySem.W.Frag) : Sp := fun vs H Q _ => ∃ (m k : Nat) (F : Hp), vs = [.int (m : Int), .int (k : Int)] ∧ Ex F H ∧ m ≤ 1000 ∧ RetD K F H Q (ti (sg m k))
def sp_same_map (K : PySem.W.Frag) : Sp := fun vs H Q _ => ∃ (n m : Nat) (d : Int) (F : Hp), vs = [.int (n : Int), .int d] ∧ Ex F H ∧ n ≤ 6 ∧ 0 ≤ d ∧ d ≤ 6 ∧ hm d n = (m : Int) ∧ m ≤ 1000 ∧ RetD K F H Q (tti (sm m))
abbrev Wid (w : Nat) (M : List (List Int)) : Prop := ∀ r ∈ M, r.length = w
abbrev Few (p : List Int) : Prop := ∀ x ∈ p, -(2 ^ 64) < x ∧ x < 2 ^ 64
def sp_put_back (K : PySem.W.Frag) : Sp := fun vs H Q _ => ∃ (v1 v2 : V) (M : List (List Int)) (p : List Int) (w : Nat) (F : Hp), vs = [v1, v2] ∧ Ex F H ∧ Dp K F v1 (tti M) ∧ Dp K F v2 (ti p) ∧ M ≠ [] ∧ Wid w M ∧ w ≤ 1000 ∧ M.length ≤ 1000 ∧ p.length = M.length ∧ Few p ∧ RetD K F H Q (ti (pb w M p))
def sp_behind (K : PySem.W.Frag) : Sp := fun vs H Q _ => ∃ (v1 v2 : V) (M O : List (List Int)) (w : Nat) (F : Hp), vs = [v1, v2] ∧ Ex F H ∧ Dp K F v1 (tti M) ∧ Dp K F v2 (tti O) ∧ M ≠ [] ∧ Wid w M ∧ w ≤ 1000 ∧ M.length ≤ 1000 ∧ O.length ≤ 1000 ∧ Wid M.length O ∧ (∀ p ∈ O, Few p) ∧ RetD K F H Q (tti (O.map (pb w M)))
/-- _law_put_back: the width is told -/
def sp_put_backL (K : PySem.W.Frag) : Sp := fun vs H Q _ => ∃ (v1 v2 : V) (M : List (List Int)) (p : List Int) (w : Nat) (F : Hp), vs = [v1, v2, .int (w : Int)] ∧ Ex F H ∧ Dp K F v1 (tti M) ∧ Dp K F v2 (ti p) ∧ Wid w M ∧ w ≤ 1000 ∧ M.length ≤ 1000 ∧ p.length = M.length ∧ Few p ∧ RetD K F H Q (ti (pb w M p))
/-! ### data alike -/
def Al : Nat → PyData → Prop
  | 0, d => ∃ i, d = .int i
  | n + 1, d => ∃ ds, d = .tuple ds ∧ ds.length ≤ 1000 ∧ ∀ x ∈ ds, Al n x
def spA (K : PySem.W.Frag) : Nat → Sp
  | 0 => fun _ _ _ _ => False
  | n + 1 => fun vs H Q _ => ∃ (v1 v2 : V) (d : PyData) (F : Hp), vs = [v1, v2] ∧ Ex F H ∧ Dp K F v1 d ∧ Dp K F v2 d ∧ Al n d ∧ ∀ H', Ex H H' → Q (.bl true) H'
theorem al_ti {p : List Int} (h : p.length ≤ 1000) : Al 1 (ti p) := ⟨_, rfl, by rw [List.length_map]; exact h, fun x hx => by
  obtain ⟨i, _, rfl⟩ := List.mem_map.mp hx
  exact ⟨i, rfl⟩⟩
theorem al_tti {M : List (List Int)} (h : M.length ≤ 1000) (h2 : ∀ p ∈ M, p.length ≤ 1000) : Al 2 (tti M) := ⟨_, rfl, by rw [List.length_map]; exact h, fun x hx => by
  obtain ⟨p, hp, rfl⟩ := List.mem_map.mp hx
  exact al_ti (h2 p hp)⟩
end CB

set_option Elab.async false
set_option linter.all false
set_option maxRecDepth 100000
set_option maxHeartbeats 2000000
/-! max(a list of numbers, default=d) -/
namespace CB
open PySem PySem.Spec PyProof.Rows L2
def IsMx (num : Nat → Int) (j : Nat) (b : Int) : Prop := (∃ i, i < j ∧ num i = b) ∧ ∀ i, i < j → num i ≤ b
def Best (num : Nat → Int) (j : Nat) (old : Array Value) : Prop := (old = #[] ∧ j = 0) ∨ ∃ b t, old = #[.int b t, .int b t] ∧ IsMx num j b
def OutD (num : Nat → Int) (n : Nat) (d v : Value) : Prop := (n = 0 ∧ v = d) ∨ ∃ b t, v = .int b t ∧ IsMx num n b
section
variable {prog : Program} {w : World} {A : Around} {R : Result → Shared → Prop} {I : Addr} {fp wr : List Addr} {n : Nat} {P : Nat → Value → Prop} {St : Nat → Heap → Prop}
theorem IsMx.up {num : Nat → Int} {j : Nat} {b : Int} (h : IsMx num j b) (hg : num j > b) : IsMx num (j + 1) (num j) := ⟨⟨j, by omega, rfl⟩, fun i hi => by
  by_cases e : i = j
  · rw [e]; omega
  · have := h.2 i (by omega); omega⟩
theorem IsMx.stay {num : Nat → Int} {j : Nat} {b : Int} (h : IsMx num j b) (hg : ¬ num j > b) : IsMx num (j + 1) b := ⟨by obtain ⟨i, hi, e⟩ := h.1; exact ⟨i, by omega, e⟩, fun i hi => by
  by_cases e : i = j
  · rw [e]; omega
  · exact h.2 i (by omega)⟩
theorem max_loopD (W : Walks prog w A.in1 I fp wr n P St) {num : Nat → Int} (hnum : ∀ i v, P i v → ∃ t, v = .int (num i) t) (d : Value) {B : Addr} (hB : B ∉ fp) :
    ∀ (k j : Nat) (s : Shared) (old : Array Value) (c : Nat), n - j = k → j ≤ n → St j s.heap → Best num j old → s.heap.get? B = some { cls := .type "list", dict := none, data := .seq old c, slots := #[] } →
    (∀ v h' tk, OutD num n d v → (∀ b o, b ∉ wr → b ≠ B → s.heap.get? b = some o → h'.get? b = some o) → R (.ok (.ret v)) { s with heap := h', toks := tk }) →
    codeAny (model prog w) A (.builtin "max.loop" ⟨[.ref I, .none, .ref B], [("default", d)]⟩) R s := by
  have hBw : B ∉ wr := fun h => hB (W.sub _ h)
  have hname : (toString "max" ++ toString ".loop" : String) = "max.loop" := by decide
  intro k
  induction k with
  | zero =>
    intro j s old c hk hj hst hbest hS hR
    have hin : j = n := by omega
    subst hin
    refine codeAny_builtin F.entry_max_loop ?_
    rw [Around.under_plainId F.plain_max_loop _]
    show wpAny _ A.in1 (seqItems? (.ref B) >>= _) _ _ s
    refine wpAny_bind (wpAny_seqItems hS rfl ?_)
    show wpAny _ A.in1 (tryCatch (pyNext (.ref I)) _ >>= _) _ _ s
    refine wpAny_bind (wpAny_tryCatch (W.done s _ _ hst fun h' tk hk' => ?_))
    have hS' := hk' B _ hBw hS
    rcases hbest with ⟨rfl, h0⟩ | ⟨b, t, rfl, hm⟩
    · exact wpAny_bind (wpAny_rule (wpAny_pure (hR d h' tk (.inl ⟨h0, rfl⟩) fun b o hbw _ e => hk' b o hbw e)))
    · show wpAny _ A.in1 (updateSeq B (fun _ => #[]) >>= _) _ _ _
      refine wpAny_bind (wpAny_updateSeq hS' rfl (wpAny_bind (wpAny_letGo (wpAny_pure ?_))))
      exact hR _ _ tk (.inr ⟨b, t, rfl, hm⟩) fun x o hbw hbS e => (Heap.get?_update_other _ _ (Ne.symm hbS)).trans (hk' x o hbw e)
  | succ k ih =>
    intro j s old c hk hj hst hbest hS hR
    have hlt : j < n := by omega
    refine codeAny_builtin F.entry_max_loop ?_
    rw [Around.under_plainId F.plain_max_loop _]
    show wpAny _ A.in1 (seqItems? (.ref B) >>= _) _ _ s
    refine wpAny_bind (wpAny_seqItems hS rfl ?_)
    show wpAny _ A.in1 (tryCatch (pyNext (.ref I)) _ >>= _) _ _ s
    refine wpAny_bind (wpAny_tryCatch (W.item j s _ _ hlt hst fun v h' tk hP hst' hk' => ?_))
    have hS' := hk' B _ hBw hS
    obtain ⟨u, rfl⟩ := hnum j v hP
    -- the rest, once the best stands
    have go : ∀ (h2 : Heap) (tk2 : Nat) (old2 : Array Value) (c2 : Nat), St (j + 1) h2 → Best num (j + 1) old2 → h2.get? B = some { cls := .type "list", dict := none, data := .seq old2 c2, slots := #[] } → (∀ b o, b ∉ wr → b ≠ B → s.heap.get? b = some o → h2.get? b = some o) →
        codeAny (model prog w) A (.builtin "max.loop" ⟨[.ref I, .none, .ref B], [("default", d)]⟩) R { s with heap := h2, toks := tk2 } := fun h2 tk2 old2 c2 st2 b2 g2 k2 =>
      ih (j + 1) { s with heap := h2, toks := tk2 } old2 c2 (by omega) hlt st2 b2 g2 fun v' h'' tk'' ho hk'' => hR v' h'' tk'' ho fun b o hbw hbS e => hk'' b o hbw hbS (k2 b o hbw hbS e)
    have fr : ∀ (h2 : Heap), (∀ b, b ≠ B → h2.get? b = h'.get? b) → St (j + 1) h2 := fun h2 q => W.frame _ _ _ hst' fun b hbf o e => (q b fun z => hB (z ▸ hbf)).trans e
    rcases hbest with ⟨rfl, h0⟩ | ⟨b, t, rfl, hm⟩
    · show wpAny _ A.in1 (updateSeq B (fun _ => #[Value.int (num j) u, Value.int (num j) u]) >>= _) _ _ _
      refine wpAny_bind (wpAny_updateSeq hS' rfl ?_)
      rw [hname]
      refine wpAny_pure ⟨plainId_quiet F.plain_max_loop _, go _ tk _ _ (fr _ fun b hb => Heap.get?_update_other _ _ (Ne.symm hb)) (.inr ⟨num j, u, rfl, ⟨j, by omega, rfl⟩, fun i hi => ?_⟩) (Heap.get?_update_self _ hS' rfl) fun x o hbw hbS e => (Heap.get?_update_other _ _ (Ne.symm hbS)).trans (hk' x o hbw e)⟩
      have : i = j := by omega
      rw [this]
      exact Int.le_refl _
    · show wpAny _ A.in1 (tryCatch (holding [Value.int (num j) u, Value.int (num j) u] (richCompare .Gt (Value.int (num j) u) (Value.int b t) >>= _)) _ >>= _) _ _ _
      have hcmp := CmpOf.ints_gt (prog := prog) (w := w) (A := A.in1) (P := fun i v => ∃ t, v = Value.int (if i = 0 then num j else b) t) (fun i => if i = 0 then num j else b) (fun i v h => h)
      refine wpAny_bind (wpAny_tryCatch (wpAny_holding (wpAny_bind (hcmp 0 1 _ _ _ _ _ ⟨u, rfl⟩ ⟨t, rfl⟩ ?_))))
      refine wpAny_bind (wpAny_holding (wpAny_truthy_bool ?_))
      refine wpAny_bind (wpAny_letGo (wpAny_pure ?_))
      by_cases hg : num j > b
      · have e : decide ((if (0 : Nat) = 0 then num j else b) > if (1 : Nat) = 0 then num j else b) = true := decide_eq_true hg
        rw [if_pos e]
        refine wpAny_bind ?_
        refine wpAny_updateSeq hS' rfl (wpAny_bind (wpAny_letGo ?_))
        rw [hname]
        exact wpAny_pure ⟨plainId_quiet F.plain_max_loop _, go _ tk _ _ (fr _ fun b hb => Heap.get?_update_other _ _ (Ne.symm hb)) (.inr ⟨num j, u, rfl, hm.up hg⟩) (Heap.get?_update_self _ hS' rfl) fun x o hbw hbS e => (Heap.get?_update_other _ _ (Ne.symm hbS)).trans (hk' x o hbw e)⟩
      · have e : decide ((if (0 : Nat) = 0 then num j else b) > if (1 : Nat) = 0 then num j else b) = false := decide_eq_false hg
        rw [if_neg (fun h => Bool.false_ne_true (e.symm.trans h))]
        refine wpAny_bind (wpAny_letGo ?_)
        rw [hname]
        exact wpAny_pure ⟨plainId_quiet F.plain_max_loop _, go _ tk _ _ hst' (.inr ⟨b, t, rfl, hm.stay hg⟩) hS' fun x o hbw _ e => hk' x o hbw e⟩
theorem args_maxD (a d : Value) : argsOk "max" ⟨[a], [("default", d)]⟩ := by unfold argsOk; kernel_rfl
theorem tree_kw {E : Value → Shared → Prop} {s : Shared} {id : String} {b : Builtin} {args : List Value} {kw : List (Str × Value)} {Q : Value → Shared → Prop} (hk : builtinKind id = none) (hp : plainId id = true) (hb : entryFor table id = some b) (ha : argsOk id ⟨args, kw⟩)
    (hc : wpAny (model prog w) A.in1 (b ⟨args, kw⟩) (fun fin s' => match fin with
      | .done f => (match (Except.ok f : Result) with | .ok (.ret v) => Q v s' | .ok _ => False | .error e => E e s')
      | .again c' => c'.quiet = true ∧ codeAny (model prog w) A c' (fun r s' => match r with | .ok (.ret v) => Q v s' | .ok _ => False | .error e => E e s') s') E s) :
    wpAny (model prog w) A (call (.builtin id) args kw) Q E s := by
  refine wpAny_call (codeAny_call_builtin hp hb ?_)
  simp only [checkBuiltinCall, hk]
  cases hsig : Manifest.signature? id with
  | none => exact wpAny_pure hc
  | some sig =>
    simp only [argsOk, hsig] at ha
    have h2 : Bind.checkArgs id sig ⟨args, kw⟩ = pure () := ha
    show wpAny _ A.in1 (Bind.checkArgs id sig ⟨args, kw⟩) _ _ s
    rw [h2]
    exact wpAny_pure hc
theorem maxD_list {E : Value → Shared → Prop} {s : Shared} {l : Addr} {xs : Array (Int × Tok)} {d : Value} {Q : Value → Shared → Prop} (hh : A.handled = none) (hl : s.heap.IsList l (intItems xs))
    (h : ∀ v h' tk, OutD (numAt xs) xs.size d v → (∀ b o, s.heap.get? b = some o → h'.get? b = some o) → Q v { s with heap := h', toks := tk }) :
    wpAny (model prog w) A (call (.builtin "max") [.ref l] [("default", d)]) Q E s := by
  have hname : (toString "max" ++ toString ".loop" : String) = "max.loop" := by decide
  refine tree_kw F.kind_max F.plain_max F.entry_max (args_maxD _ _) ?_
  show wpAny _ A.in1 (Builtin.Builtins.bindParams "max" ["key", "default"] 0 ⟨[], [("default", d)]⟩ >>= _) _ _ s
  refine wpAny_bind (wpAny_of_eq (show Builtin.Builtins.bindParams "max" ["key", "default"] 0 ⟨[], [("default", d)]⟩ = pure [none, some d] from rfl) ?_)
  refine wpAny_bind (wpAny_pure ?_)
  refine wpAny_bind (iter_intList hl fun s₂ e st hfp hne => ?_)
  subst e
  refine wpAny_bind (wpAny_newObj_type ?_)
  rw [hname]
  have W := Walks.list (prog := prog) (w := w) (A := A.in1) hh _ l hne (intItems xs)
  have hsz : (intItems xs).size = xs.size := by unfold intItems; exact Array.size_map
  refine wpAny_pure ⟨plainId_quiet F.plain_max_loop _, max_loopD W (num := numAt xs) (fun i v => intItems_at) d (fun hm => Nat.lt_irrefl _ (hfp _ hm)) _ 0 _ #[] _ rfl (Nat.zero_le _) (W.frame _ _ _ st fun b _ o e => Heap.get?_push_of_some _ e) (.inl ⟨rfl, rfl⟩) (Heap.get?_push_size _ rfl) fun v h' tk ho hk => ?_⟩
  rw [hsz] at ho
  refine h v h' tk ho fun b o e => ?_
  have e1 := Heap.lt_size e
  refine hk b o (fun hm => ?_) (fun hm => ?_) (Heap.get?_push_of_some _ (Heap.get?_push_of_some _ e))
  · rw [List.mem_singleton.mp hm] at e1
    exact Nat.lt_irrefl _ e1
  · rw [hm] at e1
    have : s.heap.objs.size ≤ (s.heap.push { cls := .type "list_iterator", data := .fields #[.ref l, .int 0 0] }).objs.size := by rw [Heap.size_push]; omega
    exact absurd e1 (Nat.not_lt.mpr this)
end
/-- the greatest of a list, or what is said for none -/
def mxD (d : Int) : List Int → Int
  | [] => d
  | n :: r => r.foldl max n
theorem foldl_max_le : ∀ (r : List Int) (n : Int), n ≤ r.foldl max n ∧ ∀ x ∈ r, x ≤ r.foldl max n
  | [], n => ⟨Int.le_refl _, fun x hx => by cases hx⟩
  | y :: r, n => by
    obtain ⟨h1, h2⟩ := foldl_max_le r (max n y)
    show n ≤ r.foldl max (max n y) ∧ _
    refine ⟨by omega, fun x hx => ?_⟩
    rcases List.mem_cons.mp hx with rfl | hx
    · show x ≤ r.foldl max (max n x)
      omega
    · exact h2 x hx
theorem foldl_max_mem : ∀ (r : List Int) (n : Int), r.foldl max n ∈ n :: r
  | [], n => List.mem_cons_self
  | y :: r, n => by
    have h := foldl_max_mem r (max n y)
    show r.foldl max (max n y) ∈ _
    rcases List.mem_cons.mp h with h | h
    · rw [h]
      by_cases e : n ≤ y
      · rw [Int.max_eq_right e]; simp
      · rw [Int.max_eq_left (by omega)]; simp
    · exact List.mem_cons_of_mem _ (List.mem_cons_of_mem _ h)
theorem mxD_of {d : Int} {ns : List Int} {M : Int} (h : M ∈ ns) (h2 : ∀ x ∈ ns, x ≤ M) : mxD d ns = M := by
  cases ns with
  | nil => cases h
  | cons n r =>
    obtain ⟨h3, h4⟩ := foldl_max_le r n
    have h5 := foldl_max_mem r n
    have h6 := h2 _ h5
    show r.foldl max n = M
    rcases List.mem_cons.mp h with rfl | h
    · omega
    · have := h4 M h; omega
theorem maxD_raw {prog : Program} {w : World} {A : Around} {E : Value → Shared → Prop} {s : Shared} {l : Addr} {its : List Value} {ns : List Int} {d : Int} {t : Tok} {Q : Value → Shared → Prop} (hh : A.handled = none) (hl : s.heap.IsList l its.toArray) (hi : IntsAre its ns)
    (h : ∀ h' tk t', (∀ b o, s.heap.get? b = some o → h'.get? b = some o) → Q (.int (mxD d ns) t') { s with heap := h', toks := tk }) : wpAny (model prog w) A (call (.builtin "max") [.ref l] [("default", .int d t)]) Q E s := by
  obtain ⟨xs, e⟩ := hi.allInts.items
  have hn : numsOf (intItems xs).toList = ns := by rw [← e]; exact hi.numsOf
  rw [nums_intItems] at hn
  subst hn
  rw [e] at hl
  refine maxD_list hh hl fun v h' tk ho hk => ?_
  rcases ho with ⟨h0, rfl⟩ | ⟨b, t', rfl, ⟨i, hi, rfl⟩, hm2⟩
  · have e0 : xs.toList = [] := List.length_eq_zero_iff.mp (by rw [Array.length_toList]; exact h0)
    have := h h' tk t hk
    rw [e0] at this
    exact this
  · rw [← mxD_of (d := d) (ns := xs.toList.map (·.1)) (M := numAt xs i)]
    · exact h h' tk t' hk
    · rw [numAt_eq]; exact PySem.getD_mem (by rw [List.length_map, Array.length_toList]; omega)
    · intro a ha
      obtain ⟨j, hj, rfl⟩ := mem_getD ha
      rw [List.length_map, Array.length_toList] at hj
      rw [← numAt_eq]
      exact hm2 j (by omega)
def tMaxD (K : PySem.W.Frag) (t : TA) (tk : TA) : TE := fun σ H Q => t σ H fun vs H1 => tk σ H1 fun zs H2 => ∃ (a : Addr) (ns : List Int) (d : Int), vs = [V.ref a] ∧ zs = [V.int d] ∧ SqL K H2 a (ns.map V.int) ∧ Q (.int (mxD d ns)) H2
theorem pe_maxD {X : Cx} {K : PySem.W.Frag} {p pos kpos : Pos} {e e2 : Expr} {t tk : TA} (hc : X.calm = true) (hg : Gl X "max") (hm : X.mg "max" = none) (ha : PA X [e] t) (hk : PK X [⟨some "default", e2, kpos⟩] tk) (hK : X.K = K := by rfl)
    (he : backTo pos (starEach [e] X.env) = (false, eval e X.env) :: backTo pos (starEach [] X.env) := by rfl) (hpl : (backTo pos (starEach [e] X.env)).any (·.1) = false := by rfl) :
    PE X (.Call (.Name "max" p) [e] [⟨some "default", e2, kpos⟩] pos) (tMaxD K t tk) := by
  subst hK
  refine ⟨fun pins s σ H Q I h => ?_⟩
  refine wpAny_Call_Name_kw (ld_blt I hg hm bt_max ?_ (by decide) (by decide))
  refine PyProof.Rows.callWith_kw (thn (ha.run pos pins s σ H _ I h) fun us s1 ⟨vs, H1, I1, r1, q1⟩ => thn (hk.run pos pins s1 σ H1 _ I1 q1) fun ws s2 ⟨zs, H2, I2, r2, q2⟩ => ?_) he hpl
  obtain ⟨a, ns, d, rfl, rfl, hs, q⟩ := q2
  obtain ⟨its, rv, hl, _⟩ := I2.list hs
  rw [Vals.ref1 r1]
  obtain ⟨u, rfl, tt, rfl⟩ := vals1 r2
  exact maxD_raw (I2.ok.hd hc) hl.isList rv.ints fun h' tk t' hk => ⟨.int _, H2, I2.kept hk, ⟨_, rfl⟩, q⟩
end CB

set_option Elab.async false
set_option linter.all false
set_option maxRecDepth 100000
set_option maxHeartbeats 2000000
/-! a tuple times a number, once or more -/
namespace CB
open PySem PySem.Spec PyProof.Rows L2
theorem tuple_mul1 (l : Addr) (items : Array Value) (n : Nat) (dd : Option Addr) (sl : Array (Option Value)) (u : Tok) :
    Meets (Builtin.«tuple.__mul__» ⟨[.ref l, .int 1 u], []⟩) (fun _ R s => s.heap.get? l = some { cls := .type "tuple", dict := dd, data := .seq items n, slots := sl } ∧ R (.ok (.ret (Value.ref l))) s) :=
  .of_wp fun prog w A R s h => by
    obtain ⟨hp, g, d, tk, os⟩ := s
    obtain ⟨hl, h⟩ := h
    have f1 := AutoSeq1.idx_int
    wp_walk using wpAny_loadPart' hl
    exact ⟨_, rfl, h⟩
def rRepT1 (K : PySem.W.Frag) : R2 := fun x y H Q => ∃ l k xs, x = .ref l ∧ y = .int k ∧ SqT K H l xs ∧ xs ≠ [] ∧ 1 ≤ k ∧ k ≤ 1000 ∧ xs.length ≤ 1000 ∧ (k = 1 → Q (.ref l) H) ∧ ∀ p, H p = none → Q (.ref p) (upd H p (.tup (List.replicate k.toNat xs).flatten))
theorem op_repT1 {X : Cx} {K : PySem.W.Frag} (hK : X.K = K := by rfl) : OpR X (binaryOp .Mult) (rRepT1 K) := by
  subst hK
  intro pins s σ H x y v u Q I rx ry h
  obtain ⟨l, k, xs, rfl, rfl, hT, hne, h1, h2, hz, q1, q⟩ := h
  by_cases e : k = 1
  · subst e
    cases rx
    obtain ⟨t, rfl⟩ := ry
    obtain ⟨its, r, ⟨⟨cls, dd, data, sl⟩, ho, hc, n, hd⟩, hs⟩ := I.tuple hT
    simp only at hc hd
    subst hc hd
    exact wpAny_binaryOp_repeat_ref (T := "tuple") (U := "int") (by decide) ⟨_, ho, rfl⟩ (fun s' => typeIs_int s' 1 t) noFill_tuple_mul F.fills_int_mul F.slot_int_rmul repeat_tuple F.slot_int_index.lookup
      (call_meets F.slot_int_rmul (typeIs_int s 1 t) F.entry_int_rmul (F.args_int_rmul_2 _ _) (int_rmul_tuple 1 t l its.toArray n dd sl)
        ⟨ho, rfl, ⟨_, ho, rfl⟩, call_meets F.slot_tuple_mul ⟨_, ho, rfl⟩ F.entry_tuple_mul (F.args_tuple_mul_2 _ _) (tuple_mul1 l its.toArray n dd sl t) ⟨ho, ⟨.ref l, H, I, rfl, q1 rfl⟩⟩⟩)
  · exact op_repT pins s σ H _ _ v u Q I rx ry ⟨l, k, xs, rfl, rfl, hT, hne, by omega, h2, hz, q⟩
/-! ### what was not frozen and stood stays unfrozen, beside the deal -/
structure Nf (F H F' : Hp) : Prop where
  ex : Ex F F'
  nf : ∀ a, F a = none → H a ≠ none → F' a = none
section
variable {d l z : Addr} {F H F1 H1 F2 H2 : Hp} {o : HO}
theorem Wr.alive (W : Wr d l F1 H1) (k : Kp d l H H1) {a : Addr} (h : H a ≠ none) : H1 a ≠ none := by
  obtain ⟨s, n, ls, D⟩ := W.deal
  by_cases e1 : a = d
  · rw [e1, D.hd]; exact fun h => by cases h
  · by_cases e2 : a = l
    · rw [e2, D.hl]; exact fun h => by cases h
    · cases q : H a with
      | none => exact absurd q h
      | some u => rw [k a u e1 e2 q]; exact fun h => by cases h
theorem Nf.refl : Nf F H F := ⟨Evl.Ex.refl _, fun _ e _ => e⟩
theorem Nf.new (h : Nf F H F1) (W : Wr d l F1 H1) (k : Kp d l H H1) (hz : H1 z = none) : Nf F H (upd F1 z o) :=
  ⟨h.ex.trans (Evl.Ex.new (sub_none W.sub hz)), fun a e1 e2 => by
    have ne : a ≠ z := fun e => W.alive k e2 (by rw [e]; exact hz)
    rw [upd_ne ne]
    exact h.nf a e1 e2⟩
theorem Nf.gr (h : Nf F H F1) (W : Wr d l F1 H1) (k : Kp d l H H1) (g : Gr NoS F1 H1 F2 H2) : Nf F H F2 := ⟨h.ex.trans g.fz, fun a e1 e2 => g.nf a (h.nf a e1 e2) (W.alive k e2)⟩
theorem Nf.trans (h : Nf F H F1) (W : Wr d l F1 H1) (k : Kp d l H H1) (g : Nf F1 H1 F2) : Nf F H F2 := ⟨h.ex.trans g.ex, fun a e1 e2 => g.nf a (h.nf a e1 e2) (W.alive k e2)⟩
end
theorem cut_mem {xs : List V} {lo hi : Option Int} {y : V} (h : y ∈ cutV xs lo hi) : y ∈ xs := by
  unfold cutV at h
  exact List.mem_of_mem_drop (List.mem_of_mem_take h)
theorem cut_len (xs : List V) (lo hi : Option Int) : (cutV xs lo hi).length ≤ xs.length := by
  unfold cutV
  rw [List.length_take, List.length_drop]
  omega
/-! ### rows made bare -/
/-- the common part of a row -/
def gcF (g : Nat) (row : List Int) : Nat := row.foldl (fun g x => Nat.gcd g x.natAbs) g
def gc (row : List Int) : Nat := gcF 0 row
/-- the last number that is not 0, or 0 -/
def ls : List Int → Int
  | [] => 0
  | x :: r => if ls r = 0 then x else ls r
/-- what a row is divided by -/
def sc (row : List Int) : Int := if ls row < 0 then 0 - (gc row : Int) else gc row
def bareL (row : List Int) : List Int := if gc row = 0 then row else row.map fun x => x.fdiv (sc row)
theorem gcF_snoc (g : Nat) (row : List Int) (x : Int) : gcF g (row ++ [x]) = Nat.gcd (gcF g row) x.natAbs := by
  unfold gcF
  rw [List.foldl_append]
  rfl
theorem gcF_dvd : ∀ (row : List Int) (g : Nat), gcF g row ∣ g ∧ ∀ x ∈ row, gcF g row ∣ x.natAbs
  | [], g => ⟨Nat.dvd_refl _, fun x hx => by cases hx⟩
  | y :: r, g => by
    obtain ⟨h1, h2⟩ := gcF_dvd r (Nat.gcd g y.natAbs)
    refine ⟨Nat.dvd_trans h1 (Nat.gcd_dvd_left _ _), fun x hx => ?_⟩
    rcases List.mem_cons.mp hx with rfl | hx
    · exact Nat.dvd_trans h1 (Nat.gcd_dvd_right _ _)
    · exact h2 x hx
theorem gcF_mul (c : Int) : ∀ (row : List Int) (g : Nat), gcF (c.natAbs * g) (row.map fun x => c * x) = c.natAbs * gcF g row
  | [], g => rfl
  | y :: r, g => by
    show gcF (Nat.gcd (c.natAbs * g) (c * y).natAbs) (r.map fun x => c * x) = c.natAbs * gcF (Nat.gcd g y.natAbs) r
    rw [Int.natAbs_mul, Nat.gcd_mul_left, gcF_mul c r]
theorem gc_mul (c : Int) (row : List Int) : gc (row.map fun x => c * x) = c.natAbs * gc row := by
  have := gcF_mul c row 0
  rw [Nat.mul_zero] at this
  exact this
theorem gc_zero {row : List Int} : gc row = 0 → ∀ x ∈ row, x = 0 := fun h x hx => by
  have := (gcF_dvd row 0).2 x hx
  unfold gc at h
  rw [h, Nat.zero_dvd] at this
  omega
theorem ls_mul {c : Int} (hc : c ≠ 0) : ∀ row : List Int, ls (row.map fun x => c * x) = c * ls row
  | [] => by simp [ls]
  | x :: r => by
    show (if ls (r.map fun x => c * x) = 0 then c * x else ls (r.map fun x => c * x)) = c * (if ls r = 0 then x else ls r)
    rw [ls_mul hc r]
    by_cases h : ls r = 0
    · rw [if_pos h, if_pos (by rw [h, Int.mul_zero])]
    · rw [if_neg h, if_neg (Int.mul_ne_zero hc h)]
theorem ls_mem : ∀ {row : List Int}, ls row ≠ 0 → ls row ∈ row
  | [], h => absurd rfl h
  | x :: r, h => by
    show (if ls r = 0 then x else ls r) ∈ _
    by_cases e : ls r = 0
    · rw [if_pos e]; exact List.mem_cons_self
    · rw [if_neg e]; exact List.mem_cons_of_mem _ (ls_mem e)
theorem ls_zero : ∀ {row : List Int}, ls row = 0 → ∀ x ∈ row, x = 0
  | [], _, x, hx => by cases hx
  | y :: r, h, x, hx => by
    have h' : (if ls r = 0 then y else ls r) = 0 := h
    by_cases e : ls r = 0
    · rw [if_pos e] at h'
      rcases List.mem_cons.mp hx with rfl | hx
      · exact h'
      · exact ls_zero e x hx
    · rw [if_neg e] at h'
      exact absurd h' e
theorem ls_null : ∀ {row : List Int}, (∀ x ∈ row, x = 0) → ls row = 0
  | [], _ => rfl
  | y :: r, h => by
    show (if ls r = 0 then y else ls r) = 0
    rw [if_pos (ls_null fun x hx => h x (List.mem_cons_of_mem _ hx))]
    exact h y List.mem_cons_self
theorem gc_pos {row : List Int} (h : ls row ≠ 0) : gc row ≠ 0 := fun e => h (gc_zero e _ (ls_mem h))
theorem sc_ne {row : List Int} (h : gc row ≠ 0) : sc row ≠ 0 := by
  unfold sc
  split <;> omega
theorem sc_abs {row : List Int} : (sc row).natAbs = gc row := by
  unfold sc
  split <;> omega
theorem sc_mul {row : List Int} (h : gc row ≠ 0) {x : Int} (hx : x ∈ row) : x = sc row * x.fdiv (sc row) := by
  have hd : sc row ∣ x := Int.natAbs_dvd_natAbs.mp (by rw [sc_abs]; exact (gcF_dvd row 0).2 x hx)
  exact (Int.mul_fdiv_cancel' hd).symm
theorem bare_mul {row : List Int} (h : gc row ≠ 0) : row = (bareL row).map fun x => sc row * x := by
  unfold bareL
  rw [if_neg h, List.map_map]
  conv => lhs; rw [← List.map_id row]
  exact List.map_congr_left fun x hx => sc_mul h hx
theorem bare_gc {row : List Int} (h : gc row ≠ 0) : gc (bareL row) = 1 := by
  have e := congrArg gc (bare_mul h)
  rw [gc_mul, sc_abs] at e
  exact Nat.eq_of_mul_eq_mul_left (Nat.pos_of_ne_zero h) (by omega)
theorem bare_ls {row : List Int} (h : gc row ≠ 0) : ¬ ls (bareL row) < 0 := fun hn => by
  have e := congrArg ls (bare_mul h)
  rw [ls_mul (sc_ne h)] at e
  by_cases hs : ls row < 0
  · have h2 : sc row = 0 - (gc row : Int) := if_pos hs
    have h3 : sc row < 0 := by omega
    have := Int.mul_pos_of_neg_of_neg h3 hn
    omega
  · have h2 : sc row = (gc row : Int) := if_neg hs
    have h3 : 0 < sc row := by omega
    have := Int.mul_neg_of_pos_of_neg h3 hn
    omega
theorem bare_bare (row : List Int) : bareL (bareL row) = bareL row := by
  by_cases h : gc row = 0
  · unfold bareL
    rw [if_pos h, if_pos h]
  · have h1 := bare_gc h
    have h2 : sc (bareL row) = 1 := by
      unfold sc
      rw [if_neg (bare_ls h), h1]
      rfl
    have h3 : bareL (bareL row) = (bareL row).map fun x => x.fdiv (sc (bareL row)) := if_neg (by omega)
    rw [h3, h2]
    conv => rhs; rw [← List.map_id (bareL row)]
    exact List.map_congr_left fun x _ => Int.fdiv_one x
/-- the place of the last number that is not 0 -/
def IsLd (row : List Int) (k : Int) : Prop := (k = -1 ∧ ∀ x ∈ row, x = 0) ∨ ∃ (n : Nat) (x : Int), k = n ∧ row[n]? = some x ∧ x ≠ 0 ∧ ∀ j y, n < j → row[j]? = some y → y = 0
theorem IsLd.uniq {row : List Int} {k k' : Int} (h : IsLd row k) (h' : IsLd row k') : k = k' := by
  rcases h with ⟨rfl, hz⟩ | ⟨n, x, rfl, e, ne, hz⟩
  · rcases h' with ⟨rfl, _⟩ | ⟨m, y, rfl, e', ne', _⟩
    · rfl
    · exact absurd (hz y (List.mem_of_getElem? e')) ne'
  · rcases h' with ⟨rfl, hz'⟩ | ⟨m, y, rfl, e', ne', hz'⟩
    · exact absurd (hz' x (List.mem_of_getElem? e)) ne
    · rcases Nat.lt_trichotomy n m with h | h | h
      · exact absurd (hz m y h e') ne'
      · rw [h]
      · exact absurd (hz' n x h e) ne
theorem IsLd.bare {row : List Int} {k : Int} (h : IsLd (bareL row) k) : IsLd row k := by
  by_cases hg : gc row = 0
  · unfold bareL at h
    rwa [if_pos hg] at h
  · have e := bare_mul hg
    have hs := sc_ne hg
    have get : ∀ j, row[j]? = ((bareL row)[j]?).map fun x => sc row * x := fun j => by
      rw [← List.getElem?_map, ← e]
    rcases h with ⟨rfl, hz⟩ | ⟨n, x, rfl, ex, ne, hz⟩
    · refine .inl ⟨rfl, fun x hx => ?_⟩
      rw [e] at hx
      obtain ⟨y, hy, rfl⟩ := List.mem_map.mp hx
      rw [hz y hy, Int.mul_zero]
    · refine .inr ⟨n, sc row * x, rfl, by rw [get, ex]; rfl, Int.mul_ne_zero hs ne, fun j y hj ey => ?_⟩
      rw [get] at ey
      obtain ⟨z, ez, rfl⟩ := Option.map_eq_some_iff.mp ey
      rw [hz j z hj ez, Int.mul_zero]
theorem ls_get : ∀ {row : List Int} {n : Nat} {x : Int}, row[n]? = some x → x ≠ 0 → (∀ j y, n < j → row[j]? = some y → y = 0) → ls row = x
  | [], _, _, e, _, _ => by simp at e
  | y :: r, 0, x, e, ne, hz => by
    have e' : y = x := by simpa using e
    subst e'
    show (if ls r = 0 then y else ls r) = y
    rw [if_pos]
    exact ls_null fun z hz' => by
      obtain ⟨j, hj, rfl⟩ := List.mem_iff_getElem.mp hz'
      exact hz (j + 1) _ (by omega) (by rw [List.getElem?_cons_succ]; exact List.getElem?_eq_getElem hj)
  | y :: r, n + 1, x, e, ne, hz => by
    have ih := ls_get (row := r) (n := n) (by simpa using e) ne fun j z hj ez => hz (j + 1) z (by omega) (by simpa using ez)
    show (if ls r = 0 then y else ls r) = x
    rw [ih, if_neg ne]
/-- the last of those that are not 0 -/
theorem ls_filter : ∀ row : List Int, (row.filter fun x => decide (x ≠ 0)).getLast? = if ls row = 0 then none else some (ls row)
  | [] => rfl
  | y :: r => by
    have ih := ls_filter r
    show ((y :: r).filter fun x => decide (x ≠ 0)).getLast? = if (if ls r = 0 then y else ls r) = 0 then none else some (if ls r = 0 then y else ls r)
    by_cases h : ls r = 0
    · rw [if_pos h] at ih ⊢
      have e0 : (r.filter fun x => decide (x ≠ 0)) = [] := List.getLast?_eq_none_iff.mp ih
      by_cases hy : y = 0
      · rw [List.filter_cons_of_neg (by simp [hy]), e0, if_pos hy]
        rfl
      · rw [List.filter_cons_of_pos (by simp [hy]), e0, if_neg hy]
        rfl
    · rw [if_neg h] at ih ⊢
      rw [if_neg h]
      by_cases hy : y = 0
      · rw [List.filter_cons_of_neg (by simp [hy]), ih]
      · rw [List.filter_cons_of_pos (by simp [hy]), List.getLast?_cons, ih]
        rfl
end CB

set_option Elab.async false
set_option linter.all false
set_option maxRecDepth 100000
set_option maxHeartbeats 2000000
namespace CB
open PySem PySem.Spec PyProof.Rows L2
/-! ### lists whose things are told one by one -/
inductive F2 {β : Type} (R : V → β → Prop) : List V → List β → Prop
  | nil : F2 R [] []
  | cons {v : V} {b : β} {vs : List V} {bs : List β} : R v b → F2 R vs bs → F2 R (v :: vs) (b :: bs)
section
variable {β : Type} {R R' : V → β → Prop}
theorem F2.length : ∀ {vs : List V} {bs : List β}, F2 R vs bs → vs.length = bs.length
  | _, _, .nil => rfl
  | _, _, .cons _ h => by rw [List.length_cons, List.length_cons, F2.length h]
theorem F2.mono (h : ∀ v b, R v b → R' v b) : ∀ {vs : List V} {bs : List β}, F2 R vs bs → F2 R' vs bs
  | _, _, .nil => .nil
  | _, _, .cons a t => .cons (h _ _ a) (F2.mono h t)
theorem F2.append : ∀ {vs ws : List V} {bs cs : List β}, F2 R vs bs → F2 R ws cs → F2 R (vs ++ ws) (bs ++ cs)
  | _, _, _, _, .nil, h => h
  | _, _, _, _, .cons a t, h => .cons a (F2.append t h)
theorem F2.snoc {vs : List V} {v : V} {bs : List β} {b : β} (h : F2 R vs bs) (k : R v b) : F2 R (vs ++ [v]) (bs ++ [b]) := h.append (.cons k .nil)
theorem F2.get : ∀ {vs : List V} {bs : List β} {i : Nat} {v : V}, F2 R vs bs → vs[i]? = some v → ∃ b, bs[i]? = some b ∧ R v b
  | _, _, _, _, .nil, e => by simp at e
  | _, _, 0, _, .cons h _, e => by simp at e; subst e; exact ⟨_, rfl, h⟩
  | _, _, i + 1, _, .cons _ h, e => by
    obtain ⟨d, e1, e2⟩ := F2.get (i := i) h (by simpa using e)
    exact ⟨d, by simpa using e1, e2⟩
theorem F2.get' : ∀ {vs : List V} {bs : List β} {i : Nat} {b : β}, F2 R vs bs → bs[i]? = some b → ∃ v, vs[i]? = some v ∧ R v b
  | _, _, _, _, .nil, e => by simp at e
  | _, _, 0, _, .cons h _, e => by simp at e; subst e; exact ⟨_, rfl, h⟩
  | _, _, i + 1, _, .cons _ h, e => by
    obtain ⟨d, e1, e2⟩ := F2.get' (i := i) h (by simpa using e)
    exact ⟨d, by simpa using e1, e2⟩
theorem F2.pairs : ∀ {vs : List V} {bs : List β}, F2 R vs bs → ∀ q ∈ vs.zip bs, R q.1 q.2
  | _, _, .nil, q, h => by simp at h
  | _, _, .cons a t, q, h => by
    rw [List.zip_cons_cons] at h
    rcases List.mem_cons.mp h with rfl | h
    · exact a
    · exact F2.pairs t q h
theorem F2.of_pairs : ∀ (l : List (V × β)), (∀ q ∈ l, R q.1 q.2) → F2 R (l.map Prod.fst) (l.map Prod.snd)
  | [], _ => .nil
  | q :: r, h => .cons (h q List.mem_cons_self) (F2.of_pairs r fun x hx => h x (List.mem_cons_of_mem _ hx))
theorem F2.dp {K : PySem.W.Frag} {F : Hp} {enc : β → PyData} (h : ∀ v b, R v b → Dp K F v (enc b)) : ∀ {vs : List V} {bs : List β}, F2 R vs bs → DpAll K F vs (bs.map enc)
  | _, _, .nil => .nil
  | _, _, .cons a t => .cons (h _ _ a) (F2.dp h t)
/-- the values behind a sort by data -/
abbrev srt (xs : List V) (ds : List PyData) : List V := ((xs.zip ds).mergeSort (PySem.W.dataLe false Prod.snd)).map Prod.fst
theorem F2.sort {enc : β → PyData} {vs : List V} {bs : List β} (h : F2 R vs bs) : F2 R (srt vs (bs.map enc)) (bs.mergeSort (PySem.W.dataLe false enc)) := by
  have e1 : vs.zip (bs.map enc) = (vs.zip bs).map fun q => (q.1, enc q.2) := by
    rw [List.zip_map_right]
    rfl
  have e2 : (vs.zip bs).map Prod.snd = bs := List.map_snd_zip (by rw [h.length]; exact Nat.le_refl _)
  have m1 := PySem.W.sort_maps (l := vs.zip bs) (r := PySem.W.dataLe false fun q : V × β => enc q.2) (s := PySem.W.dataLe false Prod.snd) (fun q : V × β => (q.1, enc q.2)) (fun _ _ _ _ => rfl)
  have m2 := PySem.W.sort_maps (l := vs.zip bs) (r := PySem.W.dataLe false fun q : V × β => enc q.2) (s := PySem.W.dataLe false enc) Prod.snd (fun _ _ _ _ => rfl)
  rw [e2] at m2
  unfold srt
  rw [e1, ← m1, ← m2, List.map_map]
  exact F2.of_pairs _ fun q hq => h.pairs q ((List.mergeSort_perm _ _).mem_iff.mp hq)
end
theorem cr_sortP {X : Cx} {K : PySem.W.Frag} (hu : X.A.units + 64 < cLine) (hK : X.K = K := by rfl) : CallR X (.builtin "sorted") (fun vs H Q => ∃ (a : Addr) (xs : List V) (ds : List PyData), vs = [V.ref a] ∧ SqL K H a xs ∧ DpAll K H xs ds ∧ PySem.W.AllAlike ds ∧ PySem.W.Sortable ds ∧ (∀ d ∈ ds, d.depth ≤ 60) ∧
    ∀ p, H p = none → Q (.ref p) (upd H p (.lst (srt xs ds)))) := by
  subst hK
  intro pins s σ H vs us Q I r h
  obtain ⟨a, xs, ds, rfl, hs, hd, hal, hsr, hdp, q⟩ := h
  obtain ⟨its, rv, hl, hz⟩ := I.list hs
  rw [Vals.ref1 r]
  have hlen := DpAll.length hd
  obtain ⟨e1, e2⟩ := each_zip I rv hd
  have esnd := zip_snd hlen
  refine PySem.W.sorted_data (enc := Prod.snd) hl.isList e1 e2 (by rw [esnd]; exact hal) (by rw [esnd]; exact hsr) (by rw [List.length_zip]; omega) (fun p hp => ?_) fun out hout he => ?_
  · have := hdp p.2 (by rw [← esnd]; exact List.mem_map_of_mem hp)
    omega
  · obtain ⟨e, hat⟩ := sortedAll_at s.heap its out.toArray
    have hv := vals_each he
    refine ⟨.ref (s.heap.objs.size + 1), upd H (s.heap.objs.size + 1) (.lst _), I.laid (t' := s.toks) (fun b u eb => sortedAll_old eb) (by omega) (show ObjOk X.prog X.w _ _ _ (.lst _) from ⟨?_, out, e, hv, ?_⟩), rfl, q _ (I.hok.fresh (by omega))⟩
    · rw [List.length_map, List.length_mergeSort, List.length_zip]
      omega
    · exact hat
/-! ### tracked tuples of whole numbers -/
def Tr (F : Hp) (v : V) (p : List Int) : Prop := ∃ a, v = .ref a ∧ F a = some (.tup (p.map V.int))
/-- a pair of a degree and a tracked tuple -/
def Pr (F : Hp) (v : V) (p : List Int) : Prop := ∃ t a, v = .ref t ∧ F t = some (.tup [.int p.sum, .ref a]) ∧ F a = some (.tup (p.map V.int))
section
variable {K : PySem.W.Frag} {F F' : Hp} {v : V} {p : List Int}
theorem Tr.ex (e : Ex F F') (h : Tr F v p) : Tr F' v p := by
  obtain ⟨a, rfl, h⟩ := h
  exact ⟨a, rfl, e _ _ h⟩
theorem Pr.ex (e : Ex F F') (h : Pr F v p) : Pr F' v p := by
  obtain ⟨t, a, rfl, h1, h2⟩ := h
  exact ⟨t, a, rfl, e _ _ h1, e _ _ h2⟩
theorem Tr.dp (h : Tr F v p) : Dp K F v (ti p) := by
  obtain ⟨a, rfl, h⟩ := h
  exact Dp.of_ti (SqT.of h)
theorem Pr.dp (h : Pr F v p) : Dp K F v (encP p) := by
  obtain ⟨t, a, rfl, h1, h2⟩ := h
  exact .tup (SqT.of h1) (.cons (.int _) (.cons (Dp.of_ti (SqT.of h2)) .nil))
abbrev TrAll (F : Hp) : List V → List (List Int) → Prop := F2 (Tr F)
theorem TrAll.ex (e : Ex F F') {vs : List V} {r : List (List Int)} (h : TrAll F vs r) : TrAll F' vs r := F2.mono (fun _ _ => Tr.ex e) h
theorem PrAll.ex (e : Ex F F') {vs : List V} {r : List (List Int)} (h : F2 (Pr F) vs r) : F2 (Pr F') vs r := F2.mono (fun _ _ => Pr.ex e) h
theorem TrAll.dp {vs : List V} {r : List (List Int)} (h : TrAll F vs r) : DpAll K F vs (r.map ti) := F2.dp (enc := ti) (fun _ _ h => Tr.dp h) h
end
/-- the promise: a new list of tracked tuples -/
def sp_productsT : Sp := fun vs H Q _ => ∃ (n : Nat) (d : Int) (F : Hp), vs = [.int (n : Int), .int d] ∧ Ex F H ∧ n ≤ 6 ∧ 0 ≤ d ∧ d ≤ 6 ∧
  ∀ p xs F' H', H p = none → Gr NoS F H F' H' → F' p = none → H' p = some (.lst xs) → TrAll F' xs (prods n d) → Q (.ref p) H'
end CB

set_option Elab.async false
set_option linter.all false
set_option maxRecDepth 100000
set_option maxHeartbeats 2000000
namespace CB
open PySem PySem.Spec PyProof.Rows L2
/-! ### products: which they are, each once -/
theorem snoc_inj {p q : List Int} {x y : Int} (h : p ++ [x] = q ++ [y]) : p = q ∧ x = y := by
  have := List.append_inj' h rfl
  exact ⟨this.1, by simpa using this.2⟩
theorem raw_nodup (d : Int) : ∀ n : Nat, (raw d n).Nodup
  | 0 => by
    show [([] : List Int)].Nodup
    simp
  | n + 1 => by
    show ((raw d n).flatMap (ext d)).Nodup
    unfold List.Nodup
    rw [List.pairwise_flatMap]
    refine ⟨fun p _ => ?_, (raw_nodup d n).imp fun {p q} hne x hx y hy e => ?_⟩
    · unfold ext
      rw [List.pairwise_map]
      exact List.nodup_range.imp fun {a b} hab e => hab (by have := (snoc_inj e).2; omega)
    · obtain ⟨a, rfl, _⟩ := ext_mem hx
      obtain ⟨b, rfl, _⟩ := ext_mem hy
      exact hne (snoc_inj e).1
theorem raw_of {d : Int} : ∀ (n : Nat) (p : List Int), p.length = n → (∀ x ∈ p, 0 ≤ x) → p.sum ≤ d → p ∈ raw d n
  | 0, p, hl, _, _ => by
    have : p = [] := List.length_eq_zero_iff.mp hl
    subst this
    exact List.mem_singleton.mpr rfl
  | n + 1, p, hl, hx, hs => by
    have hne : p ≠ [] := fun e => by rw [e] at hl; simp at hl
    have e : p = p.dropLast ++ [p.getLast hne] := (List.dropLast_concat_getLast hne).symm
    have hlast : 0 ≤ p.getLast hne := hx _ (List.getLast_mem hne)
    have hsum : p.sum = p.dropLast.sum + p.getLast hne := by
      conv => lhs; rw [e]
      exact sum_snoc _ _
    have hq := raw_of (d := d) n p.dropLast (by rw [List.length_dropLast, hl]; rfl) (fun x h => hx x (List.dropLast_subset _ h)) (by omega)
    show p ∈ (raw d n).flatMap (ext d)
    refine List.mem_flatMap.mpr ⟨p.dropLast, hq, ?_⟩
    unfold ext
    refine List.mem_map.mpr ⟨(p.getLast hne).toNat, List.mem_range.mpr (by omega), ?_⟩
    rw [Int.toNat_of_nonneg hlast]
    exact e.symm
theorem prods_nodup (n : Nat) (d : Int) : (prods n d).Nodup := (List.mergeSort_perm _ _).nodup_iff.mpr (raw_nodup d n)
theorem prods_of {n : Nat} {d : Int} {p : List Int} (hl : p.length = n) (hx : ∀ x ∈ p, 0 ≤ x) (hs : p.sum ≤ d) : p ∈ prods n d := prods_mem.mpr (raw_of n p hl hx hs)
section
variable {s n : Nat} {d : Int} {p o : List Int}
theorem sum_split (p : List Int) (s : Nat) : p.sum = (p.take s).sum + (p.drop s).sum := by
  conv => lhs; rw [← List.take_append_drop s p]
  exact List.sum_append
theorem take_prods (hd : 0 ≤ d) (hs : s ≤ n) (h : p ∈ prods n d) : p.take s ∈ prods s d := by
  obtain ⟨h1, h2, h3, h4⟩ := prods_ok hd h
  refine prods_of (by rw [List.length_take]; omega) (fun x hx => h4 x (List.mem_of_mem_take hx)) ?_
  have e := sum_split p s
  have := sum_nonneg (p := p.drop s) fun x hx => h4 x (List.mem_of_mem_drop hx)
  omega
theorem join_prods (hd : 0 ≤ d) (hs : s ≤ n) (h : p ∈ prods n d) (ho : o ∈ prods s d) (hle : o.sum ≤ (p.take s).sum) : o ++ p.drop s ∈ prods n d := by
  obtain ⟨h1, h2, h3, h4⟩ := prods_ok hd h
  obtain ⟨o1, o2, o3, o4⟩ := prods_ok hd ho
  refine prods_of (by rw [List.length_append, List.length_drop]; omega) (fun x hx => ?_) ?_
  · rcases List.mem_append.mp hx with hx | hx
    · exact o4 x hx
    · exact h4 x (List.mem_of_mem_drop hx)
  · rw [List.sum_append]
    have e := sum_split p s
    omega
end
/-! ### dicts by tuples of numbers -/
def ky (p : List Int) : List Key := p.map Sum.inl
theorem ky_v (p : List Int) : (ky p).map kV = p.map V.int := by
  unfold ky
  rw [List.map_map]
  rfl
theorem ky_inj {p q : List Int} (h : ky p = ky q) : p = q := by
  unfold ky at h
  exact (List.map_inj_right fun _ _ e => Sum.inl.inj e).mp h
theorem ky_iff {p q : List Int} : ky p = ky q ↔ p = q := ⟨ky_inj, fun e => by rw [e]⟩
/-- the places of things -/
structure IsPl (P : List (List Int)) (kvs : List (List Key × V)) : Prop where
  len : kvs.length = P.length
  at_ : ∀ (i : Nat) (p : List Int), P[i]? = some p → valV kvs (ky p) = some (.int (i : Int))
  no : ∀ p : List Int, p ∉ P → valV kvs (ky p) = none
theorem IsPl.nil : IsPl [] [] := ⟨rfl, fun i p e => by simp at e, fun p _ => rfl⟩
theorem nodup_take {P : List (List Int)} (hn : P.Nodup) {j : Nat} {p : List Int} (e : P[j]? = some p) : p ∉ P.take j := fun h => by
  obtain ⟨i, hi, e2⟩ := List.mem_iff_getElem.mp h
  rw [List.length_take] at hi
  have hj := (List.getElem?_eq_some_iff.mp e).1
  have e3 : P[i]? = some p := by
    rw [List.getElem_take] at e2
    rw [List.getElem?_eq_getElem (by omega), e2]
  have := (List.getElem?_inj (by omega : i < P.length) hn).mp (e3.trans e.symm)
  omega
theorem IsPl.snoc {P : List (List Int)} {kvs : List (List Key × V)} {j : Nat} {p : List Int} (h : IsPl (P.take j) kvs) (hn : P.Nodup) (e : P[j]? = some p) : IsPl (P.take (j + 1)) (putK kvs (ky p) (.int (kvs.length : Int))) := by
  have hp := nodup_take hn e
  have hj := (List.getElem?_eq_some_iff.mp e).1
  have hlj : (P.take j).length = j := by rw [List.length_take]; omega
  have et : P.take (j + 1) = P.take j ++ [p] := by rw [List.take_add_one, e]; rfl
  have hno := h.no p hp
  refine ⟨?_, fun i q eq => ?_, fun q hq => ?_⟩
  · rw [putK_new _ hno, List.length_append, h.len, et, List.length_append]
    rfl
  · rw [valV_put]
    rw [et] at eq
    by_cases hi : i < j
    · rw [List.getElem?_append_left (by omega)] at eq
      have hne : q ≠ p := fun e2 => hp (by rw [← e2]; exact List.mem_of_getElem? eq)
      rw [if_neg (fun e3 => hne (ky_inj e3))]
      exact h.at_ i q eq
    · rw [List.getElem?_append_right (by omega)] at eq
      have hi2 : i = j := by
        have := (List.getElem?_eq_some_iff.mp eq).1
        simp at this
        omega
      subst hi2
      rw [hlj, Nat.sub_self] at eq
      have : p = q := by simpa using eq
      subst this
      rw [if_pos rfl, h.len, hlj]
  · rw [et] at hq
    have h1 : q ∉ P.take j := fun h2 => hq (List.mem_append_left _ h2)
    have h2 : q ≠ p := fun h3 => hq (List.mem_append_right _ (by rw [h3]; exact List.mem_singleton.mpr rfl))
    rw [valV_put, if_neg (fun e3 => h2 (ky_inj e3))]
    exact h.no q h1
/-! ### maps of calls -/
section
variable (s n : Nat) (d : Int)
/-- what stands at q in the row of p, when the first t inner products are through -/
def cEnt (p : List Int) (Mr : List Int) (t : Nat) (q : List Int) : Int := if q.drop s = p.drop s ∧ (prods s d).idxOf (q.take s) < t then Mr.getD ((prods s d).idxOf (q.take s)) 0 else 0
def cRow (p : List Int) (Mr : List Int) (t : Nat) : List Int := (prods n d).map (cEnt s d p Mr t)
def cMap (M : List (List Int)) : List (List Int) := (prods n d).map fun p => cRow s n d p (M.getD ((prods s d).idxOf (p.take s)) []) (prods s d).length
end
section
variable {s n t : Nat} {d : Int} {p q o Mr : List Int} {x : Int}
theorem idx_of {P : List (List Int)} (hn : P.Nodup) {i : Nat} {p : List Int} (e : P[i]? = some p) : P.idxOf p = i := by
  obtain ⟨hi, rfl⟩ := List.getElem?_eq_some_iff.mp e
  exact hn.idxOf_getElem i hi
theorem at_idx {P : List (List Int)} {p : List Int} (h : p ∈ P) : P[P.idxOf p]? = some p := by
  rw [List.getElem?_eq_getElem (List.idxOf_lt_length_of_mem h), List.getElem_idxOf (List.idxOf_lt_length_of_mem h)]
theorem cEnt_same (hq : q ∈ prods n d) (hd : 0 ≤ d) (hs : s ≤ n) (eo : (prods s d)[t]? = some o) (hne : q ≠ o ++ p.drop s) : cEnt s d p Mr (t + 1) q = cEnt s d p Mr t q := by
  unfold cEnt
  by_cases h1 : q.drop s = p.drop s
  · by_cases h2 : (prods s d).idxOf (q.take s) < t
    · rw [if_pos ⟨h1, by omega⟩, if_pos ⟨h1, h2⟩]
    · rw [if_neg (show ¬ (q.drop s = p.drop s ∧ (prods s d).idxOf (q.take s) < t) from fun h => h2 h.2), if_neg]
      rintro ⟨_, h3⟩
      have h4 : (prods s d).idxOf (q.take s) = t := by omega
      have h5 := at_idx (take_prods hd hs hq)
      rw [h4, eo] at h5
      cases h5
      exact hne (by rw [← h1, List.take_append_drop])
  · rw [if_neg (fun h => h1 h.1), if_neg (fun h => h1 h.1)]
theorem cEnt_new (hd : 0 ≤ d) (eo : (prods s d)[t]? = some o) (ex : Mr[t]? = some x) (e : q = o ++ p.drop s) : cEnt s d p Mr (t + 1) q = x := by
  have ho := prods_ok hd (List.mem_of_getElem? eo)
  have e1 : q.take s = o := by rw [e, ← ho.1, List.take_left]
  have e2 : q.drop s = p.drop s := by rw [e]; exact List.drop_left' ho.1
  have hi := idx_of (prods_nodup s d) eo
  unfold cEnt
  rw [e1, hi, if_pos ⟨e2, by omega⟩, getD_of ex]
theorem cRow_zero : cRow s n d p Mr 0 = List.replicate (prods n d).length 0 := by
  unfold cRow
  have : (prods n d).map (cEnt s d p Mr 0) = (prods n d).map fun _ => (0 : Int) := List.map_congr_left fun q _ => if_neg (fun h => by omega)
  rw [this, List.map_const']
theorem cRow_len : (cRow s n d p Mr t).length = (prods n d).length := List.length_map _
/-- a number that is 0 changes nothing -/
theorem cRow_skip (hd : 0 ≤ d) (hs : s ≤ n) (eo : (prods s d)[t]? = some o) (ex : Mr[t]? = some 0) : cRow s n d p Mr (t + 1) = cRow s n d p Mr t := by
  refine List.map_congr_left fun q hq => ?_
  by_cases e : q = o ++ p.drop s
  · rw [cEnt_new hd eo ex e]
    have ho := prods_ok hd (List.mem_of_getElem? eo)
    have e1 : q.take s = o := by rw [e, ← ho.1, List.take_left]
    have hi := idx_of (prods_nodup s d) eo
    unfold cEnt
    rw [e1, hi, if_neg (fun h => by omega)]
  · exact cEnt_same hq hd hs eo e
theorem cRow_set {k : Nat} (hd : 0 ≤ d) (hs : s ≤ n) (eo : (prods s d)[t]? = some o) (ex : Mr[t]? = some x) (ek : (prods n d)[k]? = some (o ++ p.drop s)) : (cRow s n d p Mr t).set k x = cRow s n d p Mr (t + 1) := by
  apply List.ext_getElem?
  intro j
  by_cases hj : j < (prods n d).length
  · have eq : (prods n d)[j]? = some (prods n d)[j] := List.getElem?_eq_getElem hj
    have r : (cRow s n d p Mr (t + 1))[j]? = some (cEnt s d p Mr (t + 1) (prods n d)[j]) := by
      unfold cRow
      rw [List.getElem?_map, eq]
      rfl
    rw [r]
    by_cases e : k = j
    · subst e
      rw [List.getElem?_set_self (by rw [cRow_len]; exact hj)]
      rw [eq] at ek
      rw [cEnt_new hd eo ex (Option.some.inj ek)]
    · rw [List.getElem?_set_ne e]
      unfold cRow
      rw [List.getElem?_map, eq]
      show some (cEnt s d p Mr t (prods n d)[j]) = _
      rw [cEnt_same (List.getElem_mem hj) hd hs eo]
      intro e2
      rw [← e2] at ek
      exact e ((List.getElem?_inj hj (prods_nodup n d)).mp (eq.trans ek.symm)).symm
  · rw [List.getElem?_eq_none (by rw [List.length_set, cRow_len]; omega), List.getElem?_eq_none (by rw [cRow_len]; omega)]
theorem cMap_same (hd : 0 ≤ d) (hs : s ≤ n) : cMap s n d (sm (prods s d).length) = sm (prods n d).length := by
  apply List.ext_getElem?
  intro k
  by_cases hk : k < (prods n d).length
  · have ek : (prods n d)[k]? = some (prods n d)[k] := List.getElem?_eq_getElem hk
    have hpk := List.getElem_mem hk
    unfold cMap
    have esm : (sm (prods n d).length)[k]? = some (sg (prods n d).length k) := by
      unfold sm
      rw [List.getElem?_map, List.getElem?_range hk]
      rfl
    rw [List.getElem?_map, ek, esm]
    show some (cRow s n d _ _ _) = _
    congr 1
    have hi := List.idxOf_lt_length_of_mem (take_prods hd hs hpk)
    rw [sm_row hi]
    apply List.ext_getElem?
    intro j
    by_cases hj : j < (prods n d).length
    · have ej : (prods n d)[j]? = some (prods n d)[j] := List.getElem?_eq_getElem hj
      have hqj := List.getElem_mem hj
      have hi2 := List.idxOf_lt_length_of_mem (take_prods hd hs hqj)
      unfold cRow
      rw [List.getElem?_map, ej]
      unfold sg
      rw [List.getElem?_map, List.getElem?_range hj]
      show some (cEnt s d _ (sg (prods s d).length _) _ _) = some _
      congr 1
      show _ = if j = k then (1 : Int) else 0
      unfold cEnt
      by_cases e : j = k
      · subst e
        rw [if_pos ⟨rfl, hi⟩, sg_get hi, if_pos rfl, if_pos rfl]
      · rw [if_neg e]
        by_cases h1 : (prods n d)[j].drop s = (prods n d)[k].drop s
        · rw [if_pos ⟨h1, hi2⟩, sg_get hi2, if_neg]
          intro h2
          apply e
          have h3 := at_idx (take_prods hd hs hqj)
          have h4 := at_idx (take_prods hd hs hpk)
          rw [h2, h4] at h3
          have h5 : (prods n d)[k].take s = (prods n d)[j].take s := Option.some.inj h3
          have h6 : (prods n d)[j] = (prods n d)[k] := by
            rw [← List.take_append_drop s (prods n d)[j], ← List.take_append_drop s (prods n d)[k], h1, h5]
          exact (List.getElem?_inj hj (prods_nodup n d)).mp (by rw [ej, ek, h6])
        · rw [if_neg (fun h => h1 h.1)]
    · rw [List.getElem?_eq_none (by rw [cRow_len]; omega), List.getElem?_eq_none (by rw [sg_len]; omega)]
  · rw [List.getElem?_eq_none (by unfold cMap; rw [List.length_map]; omega), List.getElem?_eq_none (by rw [sm_len]; omega)]
end
/-- the map is of no greater degree -/
def Deg (s : Nat) (d : Int) (M : List (List Int)) : Prop := ∀ (i j : Nat) (pi pj row : List Int) (x : Int), (prods s d)[i]? = some pi → (prods s d)[j]? = some pj → M[i]? = some row → row[j]? = some x → x ≠ 0 → pj.sum ≤ pi.sum
theorem deg_sm (s : Nat) (d : Int) : Deg s d (sm (prods s d).length) := fun i j pi pj row x ei ej er ex nx => by
  have hi := (List.getElem?_eq_some_iff.mp ei).1
  have hj := (List.getElem?_eq_some_iff.mp ej).1
  have e1 : row = sg (prods s d).length i := by
    unfold sm at er
    rw [List.getElem?_map, List.getElem?_range hi] at er
    exact (Option.some.inj er).symm
  subst e1
  have e2 : x = if j = i then 1 else 0 := by
    have := sg_get (k := i) hj
    rwa [getD_of ex] at this
  by_cases e : j = i
  · subst e
    rw [ei] at ej
    cases ej
    exact Int.le_refl _
  · rw [if_neg e] at e2
    exact absurd e2 nx
def sp_places : Sp := fun vs H Q _ => ∃ (n : Nat) (d : Int) (F : Hp), vs = [.int (n : Int), .int d] ∧ Ex F H ∧ n ≤ 6 ∧ 0 ≤ d ∧ d ≤ 6 ∧
  ∀ a kvs F' H', H a = none → Gr NoS F H F' H' → F' a = none → H' a = some (.dT kvs) → IsPl (prods n d) kvs → Q (.ref a) H'
def sp_call_map (K : PySem.W.Frag) : Sp := fun vs H Q _ => ∃ (s n : Nat) (d : Int) (v : V) (M : List (List Int)) (F : Hp), vs = [.int (s : Int), .int (n : Int), .int d, v] ∧ Ex F H ∧ s ≤ n ∧ n ≤ 6 ∧ 0 ≤ d ∧ d ≤ 6 ∧ (prods s d).length ≤ 1000 ∧ (prods n d).length ≤ 1000 ∧
  Dp K F v (tti M) ∧ M.length = (prods s d).length ∧ Wid (prods s d).length M ∧ Deg s d M ∧ RetD K F H Q (tti (cMap s n d M))
end CB

set_option Elab.async false
set_option linter.all false
set_option maxRecDepth 100000
set_option maxHeartbeats 2000000
namespace CB
open PySem PySem.Spec PyProof.Rows L2
/-- what is done with a tracked tuple -/
def RetT (F H : Hp) (Q : VK) (q : List Int) : Prop := ∀ b F' H', Gr NoS F H F' H' → F' b = some (.tup (q.map V.int)) → Q (.ref b) H'
section
variable {K : PySem.W.Frag} {F H : Hp} {a b : Addr} {p r : List Int} {Q : VK}
theorem cat_T (hF : Ex F H) (ha : F a = some (.tup (p.map V.int))) (hb : F b = some (.tup (r.map V.int))) (hl : p.length + r.length ≤ 1000) (q : RetT F H Q (p ++ r)) : rCatA K (.ref a) (.ref b) H Q := by
  refine ⟨a, b, _, _, rfl, rfl, SqT.of (hF _ _ ha), SqT.of (hF _ _ hb), ?_, fun e => ?_, fun _ e => ?_, fun _ _ t nt => ?_⟩
  · rw [List.length_map, List.length_map]
    exact Nat.le_of_lt (small1000 hl)
  · have : p = [] := List.map_eq_nil_iff.mp e
    subst this
    exact q b F H (Gr.refl hF) hb
  · have : r = [] := List.map_eq_nil_iff.mp e
    subst this
    rw [List.append_nil] at q
    exact q a F H (Gr.refl hF) ha
  · exact q t _ _ ((Gr.refl hF).new nt) (by rw [upd_same, List.map_append])
theorem slice_T {lo hi : Option Int} {c : List Int} (hF : Ex F H) (ha : F a = some (.tup (p.map V.int))) (hc : cutV (p.map V.int) lo hi = c.map V.int) (q : RetT F H Q c) : rSlA K (.ref a) lo hi H Q := by
  refine ⟨a, _, rfl, SqT.of (hF _ _ ha), fun e => ?_, fun _ t nt => q t _ _ ((Gr.refl hF).new nt) (by rw [upd_same, hc])⟩
  refine q a F H (Gr.refl hF) ?_
  have : cutV (p.map V.int) lo hi = p.map V.int := by
    unfold cutV
    rw [e.1, e.2, List.drop_zero, Nat.sub_zero, List.take_length]
  rw [ha, ← hc, this]
end
theorem cut_take (p : List Int) {s : Nat} (h : s ≤ p.length) : cutV (p.map V.int) none (some (s : Int)) = (p.take s).map V.int := by
  unfold cutV
  rw [HT.sIx_none, HT.sIx_nat, List.drop_zero, List.length_map, Nat.min_eq_left h, Nat.sub_zero, List.map_take]
theorem cut_drop (p : List Int) {s : Nat} (h : s ≤ p.length) : cutV (p.map V.int) (some (s : Int)) none = (p.drop s).map V.int := by
  unfold cutV
  rw [HT.sIx_none, HT.sIx_nat, List.length_map, Nat.min_eq_left h, List.map_drop]
  exact List.take_of_length_le (by rw [List.length_drop, List.length_map]; exact Nat.le_refl _)
theorem get_T {H : Hp} {a b : Addr} {kvs : List (List Key × V)} {p : List Int} (e : H a = some (.dT kvs)) (eb : H b = some (.tup (p.map V.int))) : DGet H a (.ref b) (valV kvs (ky p)) := DGet.t e (by rw [ky_v]; exact eb)
theorem put_T {H : Hp} {a b : Addr} {kvs : List (List Key × V)} {p : List Int} {v : V} (e : H a = some (.dT kvs)) (eb : H b = some (.tup (p.map V.int))) (hl : kvs.length < sizeLine) : DPut H a (.ref b) v (upd H a (.dT (putK kvs (ky p) v))) := DPut.t e (by rw [ky_v]; exact eb) hl
theorem ixN_nat {n j : Nat} (h : j < n) : ixN n (j : Int) = some j := by
  unfold ixN
  rw [if_pos (by omega), if_pos (by omega), Int.toNat_natCast]
theorem putK_le (c : List (List Key × V)) (k : List Key) (x : V) : (putK c k x).length ≤ c.length + 1 := by
  unfold putK
  split
  · rw [List.length_map]; omega
  · rw [List.length_append]; exact Nat.le_refl _
theorem eqv_ints : ∀ {p q : List Int}, PyData.eqvAll (p.map PyData.int) (q.map PyData.int) = true → p = q
  | [], [], _ => rfl
  | [], _ :: _, h => by simp [PyData.eqvAll] at h
  | _ :: _, [], h => by simp [PyData.eqvAll] at h
  | x :: p, y :: q, h => by
    rw [List.map_cons, List.map_cons, PyData.eqvAll, Bool.and_eq_true] at h
    have h1 : x = y := by simpa [PyData.eqv] using h.1
    rw [h1, eqv_ints h.2]
theorem eqv_ti {p q : List Int} (h : PyData.eqv (ti p) (ti q) = true) : p = q := by
  rw [PyData.eqv] at h
  exact eqv_ints h
end CB

set_option Elab.async false
set_option linter.all false
set_option maxRecDepth 100000
set_option maxHeartbeats 2000000
namespace CB
open PySem PySem.Spec PyProof.Rows L2
/-! ### programs, and how they are told -/
inductive Deed
  | call (k : Nat)
  | rest
  | any (b : Nat)
  | set (b : Nat) (s : List Int)
structure Part where
  name : Str
  own : List Str
  rows : List (Deed × List Int)
structure Prog where
  shared : List Str
  parts : List Part
def dDeed : Deed → PyData
  | .call k => .tuple [.str "call", .int (k : Int)]
  | .rest => .tuple [.str "rest"]
  | .any b => .tuple [.str "any", .int (b : Int)]
  | .set b s => .tuple [.str "set", .int (b : Int), ti s]
abbrev ts (l : List Str) : PyData := .tuple (l.map PyData.str)
def dRow (r : Deed × List Int) : PyData := .tuple [dDeed r.1, ti r.2]
def dPart (p : Part) : PyData := .tuple [.str p.name, ts p.own, .tuple (p.rows.map dRow)]
def dProg (p : Prog) : PyData := .tuple [ts p.shared, .tuple (p.parts.map dPart)]
/-- what the drawing promises of a deed: so many boxes, so many parts -/
def OkDeed (n parts : Nat) : Deed → Prop
  | .call k => k < parts
  | .rest => True
  | .any b => b < n
  | .set b s => b < n ∧ s.length = n + 1 ∧ ∀ x ∈ s, -9 ≤ x ∧ x ≤ 9
/-- of goings: one to three, rising, none beyond the rows -/
def OkGo (many : Nat) (g : List Int) : Prop := 1 ≤ g.length ∧ g.length ≤ 3 ∧ g.Pairwise (· < ·) ∧ ∀ x ∈ g, 0 ≤ x ∧ x ≤ many
/-- of rows: one to most, each of them such -/
def OkRows (n parts most : Nat) (rows : List (Deed × List Int)) : Prop := 1 ≤ rows.length ∧ rows.length ≤ most ∧ ∀ r ∈ rows, OkDeed n parts r.1 ∧ OkGo rows.length r.2
def sp_small : Sp := fun vs H Q _ => ∃ (d l : Addr), vs = [.ref d] ∧ IsDeal H d l ∧ ∀ (x : Int) (H' : Hp), -9 ≤ x → x ≤ 9 → IsDeal H' d l → Kp d l H H' → Q (.int x) H'
/-! ### the deal goes on beside a frozen part that grows -/
structure Go (d l : Addr) (F H F' H' : Hp) : Prop where
  w : Wr d l F' H'
  nf : Nf F H F'
  kp : Kp d l H H'
/-- an object of ours, still to be changed -/
structure Own (d l : Addr) (F H : Hp) (p : Addr) (o : HO) : Prop where
  f : F p = none
  h : H p = some o
  nd : p ≠ d
  nl : p ≠ l
section
variable {d l p z : Addr} {F H F1 H1 F2 H2 : Hp} {o u : HO}
theorem Go.refl (W : Wr d l F H) : Go d l F H F H := ⟨W, Nf.refl, Kp.refl⟩
theorem Go.trans (a : Go d l F H F1 H1) (b : Go d l F1 H1 F2 H2) : Go d l F H F2 H2 := ⟨b.w, a.nf.trans a.w a.kp b.nf, a.kp.trans b.kp⟩
theorem Go.draw (a : Go d l F H F1 H1) (D : IsDeal H2 d l) (k : Kp d l H1 H2) : Go d l F H F1 H2 := ⟨a.w.draw D k, a.nf, a.kp.trans k⟩
theorem Go.gr (a : Go d l F H F1 H1) (g : Gr NoS F1 H1 F2 H2) : Go d l F H F2 H2 := ⟨a.w.gr g, a.nf.gr a.w a.kp g, a.kp.trans g.toKp⟩
theorem Go.new (a : Go d l F H F1 H1) (hp : H1 p = none) : Go d l F H (upd F1 p o) (upd H1 p o) := ⟨a.w.new hp, a.nf.new a.w a.kp hp, a.kp.trans (Kp.of_ex (Evl.Ex.new hp))⟩
theorem Go.newm (a : Go d l F H F1 H1) (hp : H1 p = none) : Go d l F H F1 (upd H1 p o) := ⟨a.w.newm hp, a.nf, a.kp.trans (Kp.of_ex (Evl.Ex.new hp))⟩
theorem Go.mut (a : Go d l F H F1 H1) (h : H p = none) (m : Own d l F1 H1 p u) : Go d l F H F1 (upd H1 p o) := ⟨a.w.mut m.f m.nd m.nl, a.nf, a.kp.mut h⟩
theorem Go.sub (a : Go d l F H F1 H1) : Ex F1 H1 := a.w.sub
theorem Go.fz (a : Go d l F H F1 H1) : Ex F F1 := a.nf.ex
theorem Go.deal (a : Go d l F H F1 H1) : IsDeal H1 d l := a.w.deal
theorem Go.ex (a : Go d l F H F1 H1) : Ex F H1 := a.nf.ex.trans a.w.sub
theorem Own.new (W : Wr d l F H) (hp : H p = none) : Own d l F (upd H p o) p o := ⟨sub_none W.sub hp, upd_same, (W.ne hp).1, (W.ne hp).2⟩
theorem Own.go (m : Own d l F H p o) (a : Go d l F H F1 H1) : Own d l F1 H1 p o := ⟨a.nf.nf p m.f (by rw [m.h]; exact fun e => by cases e), a.kp p o m.nd m.nl m.h, m.nd, m.nl⟩
theorem Own.gr (m : Own d l F H p o) (g : Gr NoS F H F1 H1) : Own d l F1 H1 p o := ⟨(g.keepm (fun h => h) m.f m.h).1, (g.keepm (fun h => h) m.f m.h).2, m.nd, m.nl⟩
theorem Own.ne (m : Own d l F H p o) (hz : H z = none) : p ≠ z := ne_of_none m.h hz
theorem Own.fresh (m : Own d l F H p o) (hz : H z = none) : Own d l (upd F z u) (upd H z u) p o := ⟨by rw [upd_ne (m.ne hz)]; exact m.f, by rw [upd_ne (m.ne hz)]; exact m.h, m.nd, m.nl⟩
theorem Own.freshm (m : Own d l F H p o) (hz : H z = none) : Own d l F (upd H z u) p o := ⟨m.f, by rw [upd_ne (m.ne hz)]; exact m.h, m.nd, m.nl⟩
theorem Own.put (m : Own d l F H p o) : Own d l F (upd H p u) p u := ⟨m.f, upd_same, m.nd, m.nl⟩
theorem Own.other (m : Own d l F H p o) (h : p ≠ z) : Own d l F (upd H z u) p o := ⟨m.f, by rw [upd_ne h]; exact m.h, m.nd, m.nl⟩
theorem Own.draw (m : Own d l F H p o) (k : Kp d l H H1) : Own d l F H1 p o := ⟨m.f, k p o m.nd m.nl m.h, m.nd, m.nl⟩
theorem Own.L {K : PySem.W.Frag} {xs : List V} (m : Own d l F H p (.lst xs)) : SqL K H p xs := SqL.of m.h
theorem Go.none (a : Go d l F H F1 H1) (W : Wr d l F H) (hz : H1 z = none) : H z = none := by
  obtain ⟨n1, n2⟩ := a.w.ne hz
  exact a.kp.none n1 n2 hz
end
def sp_sum (K : PySem.W.Frag) : Sp := fun vs H Q _ => ∃ (d l : Addr) (n : Nat) (F : Hp), vs = [.ref d, .int (n : Int)] ∧ Wr d l F H ∧ n ≤ 100 ∧
  ∀ v F' H' s, Go d l F H F' H' → Dp K F' v (ti s) → s.length = n + 1 → (∀ x ∈ s, -9 ≤ x ∧ x ≤ 9) → Q v H'
def sp_goings (K : PySem.W.Frag) : Sp := fun vs H Q _ => ∃ (d l : Addr) (at_ many : Nat) (F : Hp), vs = [.ref d, .int (at_ : Int), .int (many : Int)] ∧ Wr d l F H ∧ at_ < many ∧ many ≤ 100 ∧
  ∀ v F' H' g, Go d l F H F' H' → Dp K F' v (ti g) → OkGo many g → Q v H'
def sp_deed (K : PySem.W.Frag) : Sp := fun vs H Q _ => ∃ (d l : Addr) (n parts : Nat) (F : Hp), vs = [.ref d, .int (n : Int), .int (parts : Int)] ∧ Wr d l F H ∧ n ≤ 100 ∧ parts ≤ 100 ∧
  ∀ v F' H' e, Go d l F H F' H' → Dp K F' v (dDeed e) → OkDeed n parts e → Q v H'
def sp_part (K : PySem.W.Frag) : Sp := fun vs H Q _ => ∃ (d l : Addr) (name : Str) (sh parts most : Nat) (own : List Str) (vo : V) (F : Hp), vs = [.ref d, .str name, .int (sh : Int), vo, .int (parts : Int), .int (most : Int)] ∧ Wr d l F H ∧ Dp K F vo (ts own) ∧ own.length ≤ 10 ∧ sh ≤ 10 ∧ parts ≤ 10 ∧ 1 ≤ most ∧ most ≤ 10 ∧
  ∀ v F' H' rows, Go d l F H F' H' → Dp K F' v (dPart ⟨name, own, rows⟩) → OkRows (sh + own.length) parts most rows → Q v H'
/-- names: letters alone, one to eight of them -/
def Low (c : UInt32) : Prop := 97 ≤ c.toNat ∧ c.toNat ≤ 122
end CB

set_option Elab.async false
set_option linter.all false
set_option maxRecDepth 100000
set_option maxHeartbeats 4000000
/-! set(a list of ints) -/
namespace CB
open PySem PySem.Spec PyProof.Rows L2
abbrev nS (w : World) : Obj := { cls := .type "set", dict := none, data := .set #[] 0 (.fresh 0 0 (!w.params.followText "set-order")) }
section
variable {P : Program} {w : World} {A : Around} {E : Value → Shared → Prop} {s : Shared}
set_option maxHeartbeats 6400000 in
theorem set_of_listI {l : Addr} {items : Array Value} (ns : List Int) {Q : Value → Shared → Prop} (hh : A.handled = none) (hl : s.heap.IsList l items) (hit : IntsAre items.toList ns) (hb : ns.length + 1 < scanBound)
    (h : ∀ (h' : Heap) (tk c : Nat), SetR w h' s.heap.objs.size (fun j => decide (j ∈ ns)) c → c ≤ ns.length → (∀ b o, s.heap.get? b = some o → h'.get? b = some o) → Q (.ref s.heap.objs.size) { s with heap := h', toks := tk }) :
    wpAny (model P w) A (call (.type "set") [.ref l]) Q E s := by
  have hisz : items.size = ns.length := by rw [← Array.length_toList]; exact IntsAre.length hit
  obtain ⟨c, tl, hmro⟩ := F.called_set.mro
  have hmade := F.called_set.made; have hsub := F.called_set.sub
  refine wpAny_call (codeAny_of_tree ?_)
  show wpAny _ _ (callAny (.type "set") _) _ _ _
  refine wpAny_pure ⟨Code.quiet_builtin _ (by decide +kernel), codeAny_builtin F.entry_type_call ?_⟩
  rw [Around.under_plain (weight_type_call_type "set" [.ref l] []) rfl]
  have h1 := F.called_set.notType; have h2 := F.called_set.canCreate; have hct := F.typeCall_set_1 (.ref l)
  repeat (any_goals (first | assumption | wp_step))
  refine codeAny_mono (code_set_led1 (.ref l) (E := E) (Q₁ := fun obj s₁ => obj = .ref s.heap.objs.size ∧ s₁ = { s with heap := s.heap.push (nS w) }) ⟨rfl, rfl⟩) fun r s₁ hr => ?_
  cases r with
  | error e => exact hr
  | ok fl =>
    cases fl with
    | ret obj =>
      obtain ⟨rfl, rfl⟩ := hr
      have hS : (s.heap.push (nS w)).get? s.heap.objs.size = some (nS w) := Heap.get?_push_size _ rfl
      have hT : Shared.TypeIs { s with heap := s.heap.push (nS w) } (.ref s.heap.objs.size) "set" := ⟨_, hS, rfl⟩
      have hli := F.called_set.init.lookup; have hbi := F.called_set.init.bind (.ref s.heap.objs.size)
      repeat (any_goals (first | assumption | wp_step))
      refine codeAny_mono (codeAny_call_builtin (R := wants (fun r s₂ => r = .none ∧ ∃ h' tk c, s₂ = { s with heap := h', toks := tk } ∧ SetR w h' s.heap.objs.size (fun j => decide (j ∈ ns)) c ∧ c ≤ ns.length ∧ (∀ b o, s.heap.get? b = some o → h'.get? b = some o)) E) F.called_set.init.plain F.entry_set_init (check_set_init_1 hT ?_)) fun r₂ s₂ hr₂ => ?_
      · obtain ⟨⟨ocls, odict, odata, oslots⟩, hol, hcl, nl, hdl⟩ := hl
        simp only at hcl hdl
        subst hcl; subst hdl
        have hol' : (s.heap.push (nS w)).get? l = some { cls := .type "list", dict := odict, data := .seq items nl, slots := oslots } := Heap.get?_push_of_some _ hol
        have hsls := F.sub_list_set; have hslf := F.sub_list_frozenset
        have hne : (Value.type "list" == Value.type "dict") = false := by decide
        have hl1 : (s.heap.push (nS w)).IsList l items := ⟨_, hol', rfl, nl, rfl⟩
        unfold Builtin.«set.__init__» noKeywords Builtin.Frozenset.updateFrom
        generalize hPI : pyIter = PI
        wp_walk
        subst hPI
        refine wpAny_pyIter_list hl1 (wpAny_bind (wpAny_runValue ?_))
        have hlS : l < s.heap.objs.size := Heap.lt_size hol
        have hh3 : A.in1.in1.in1.handled = none := by simp [hh]
        have hneI : l ≠ (s.heap.push (nS w)).objs.size := by rw [Heap.size_push]; exact Nat.ne_of_lt (Nat.lt_succ_of_lt hlS)
        have hSf : s.heap.objs.size ∉ [(s.heap.push (nS w)).objs.size, l] := by
          rw [Heap.size_push]; simp only [List.mem_cons, List.mem_singleton, List.not_mem_nil, or_false, not_or]; exact ⟨Nat.ne_of_lt (Nat.lt_succ_self _), Nat.ne_of_gt hlS⟩
        have hval : ∀ (i : Nat) (v : Value), items[i]? = some v → ∃ k t, ns[i]? = some k ∧ v = .int k t := fun i v hv => by
          have hi : i < ns.length := by rw [← hisz]; exact (Array.getElem?_eq_some_iff.mp hv).1
          obtain ⟨t, e⟩ := PyProof.Rows.IntsAre.int_at hit i v (by rw [Array.getElem?_toList]; exact hv)
          exact ⟨ns[i], t, List.getElem?_eq_getElem hi, by rw [e, List.getD_eq_getElem?_getD, List.getElem?_eq_getElem hi] <;> rfl⟩
        refine set_update_ints ((Walks.list hh3 _ l hneI items).toS) s.heap.objs.size hSf ns hisz hb hval (items.size - 0) 0 _ (by omega) (Nat.zero_le _) ⟨⟨_, Heap.get?_push_size _ rfl, rfl, rfl⟩, (hl1.push _)⟩ ⟨0, Nat.le_refl 0, setR_new_at (Heap.get?_push_of_some _ hS)⟩ fun s' c' hm hc' hS' => ?_
        obtain ⟨h', g2, d', tk', os'⟩ := s'
        obtain rfl : g2 = s.gens := hm.gens
        obtain rfl : d' = s.drawn := hm.drawn
        obtain rfl : os' = s.os := hm.os
        show wpAny _ _ _ _ _ _
        refine wpAny_pure ?_
        show wpAny _ _ (ret Value.none) _ _ _
        rw [hisz] at hc'
        refine wpAny_pure ⟨rfl, h', tk', c', rfl, hS', hc', fun b o e => ?_⟩
        have hb0 : b < s.heap.objs.size := Heap.lt_size e
        have hb2 : b ≠ (s.heap.push (nS w)).objs.size := by rw [Heap.size_push]; exact Nat.ne_of_lt (Nat.lt_succ_of_lt hb0)
        exact hm.heap b o (by simp only [List.mem_cons, List.mem_singleton, List.not_mem_nil, or_false, not_or]; exact ⟨Nat.ne_of_lt hb0, hb2⟩) (Heap.get?_push_of_some _ (Heap.get?_push_of_some _ e))
      · cases r₂ with
        | error e => exact hr₂
        | ok fl₂ =>
          cases fl₂ with
          | ret r =>
            obtain ⟨rfl, h', tk, c', rfl, hS', hc', hk'⟩ := hr₂
            repeat (any_goals (first | assumption | wp_step))
            exact h _ _ _ hS' hc' hk'
          | _ => exact hr₂.elim
    | _ => exact hr.elim
end
section
variable {X : Cx} {K : PySem.W.Frag}
def rSetL (w : World) (K : PySem.W.Frag) : List V → Hp → VK → Prop := fun xs H Q => ∃ (l : Addr) (ns : List Int), xs = [.ref l] ∧ SqL K H l (ns.map V.int) ∧ ns.length ≤ 1000 ∧ ∀ p n, H p = none → n ≤ ns.length → Q (.ref p) (upd H p (SetO w p (fun j => decide (j ∈ ns)) n))
theorem cr_setL (hc : X.calm = true) (hK : X.K = K := by rfl) : CallR X (.type "set") (rSetL X.w K) := by
  subst hK
  intro pins s σ H xs us Q I r h
  obtain ⟨l, ns, rfl, hs, hn, q⟩ := h
  obtain ⟨its, rv, p', hz⟩ := I.list hs
  rw [Vals.ref1 r]
  have hi := rv.ints
  refine set_of_listI ns (I.ok.hd hc) p'.isList (by simpa using hi) (by have e : scanBound = scanBound := rfl; unfold scanBound at e ⊢; omega) fun h' tk c hR hcl hk => ?_
  exact ⟨.ref s.heap.objs.size, upd H s.heap.objs.size _, I.laid (t' := tk) (fun b u e => hk b u e) (Nat.le_refl _) (setO_new hR), rfl, q _ c (I.hok.fresh (Nat.le_refl _)) hcl⟩
end
end CB

set_option Elab.async false
set_option linter.all false
set_option maxRecDepth 100000
set_option maxHeartbeats 4000000
/-! words of letters -/
namespace CB
open PySem PySem.Spec PyProof.Rows L2
def wd (l : List Nat) : Str := ⟨l.toArray⟩
theorem wd_len (l : List Nat) : (wd l).length = l.length := List.size_toArray
theorem wd_inj {a b : List Nat} (h : wd a = wd b) : a = b := by
  have : (wd a).cps.toList = (wd b).cps.toList := by rw [h]
  simpa [wd] using this
theorem wd_cat (a b : List Nat) : wd a ++ wd b = wd (a ++ b) := by
  show Str.append _ _ = _
  unfold Str.append wd
  rw [List.append_toArray]
theorem wd_to (a : List Nat) : TL.tl (wd a) = a := rfl
theorem cut_hi (l : List Nat) {a : Int} (h0 : 0 ≤ a) (h1 : a ≤ l.length) : cutS (wd l) none (some a) = wd (l.take a.toNat) := by
  obtain ⟨n, rfl⟩ := Int.eq_ofNat_of_zero_le h0
  unfold cutS
  rw [HT.sIx_none, HT.sIx_nat, List.drop_zero, wd_len, Nat.sub_zero]
  have : min n l.length = n := Nat.min_eq_left (by omega)
  rw [this]
  rfl
theorem cut_lo (l : List Nat) {a : Int} (h0 : 0 ≤ a) (h1 : a ≤ l.length) : cutS (wd l) (some a) none = wd (l.drop a.toNat) := by
  obtain ⟨n, rfl⟩ := Int.eq_ofNat_of_zero_le h0
  unfold cutS
  rw [HT.sIx_none, HT.sIx_nat, wd_len]
  have : min n l.length = n := Nat.min_eq_left (by omega)
  rw [this]
  have e : ((wd l).cps.toList.drop n).take (l.length - n) = l.drop n := by
    show (l.drop n).take (l.length - n) = l.drop n
    exact List.take_of_length_le (by rw [List.length_drop]; exact Nat.le_refl _)
  rw [e]
  rfl
theorem join_wd (l : List Nat) : Txt.join ("" : Str) (l.map fun c => wd [c]) = wd l := by
  have key : ∀ l : List Nat, TL.joinL [] ((l.map fun c => wd [c]).map TL.tl) = l := by
    intro l
    induction l with
    | nil => rfl
    | cons c r ih =>
      cases r with
      | nil => rfl
      | cons z r =>
        have e : TL.joinL [] (((c :: z :: r).map fun c => wd [c]).map TL.tl) = c :: TL.joinL [] (((z :: r).map fun c => wd [c]).map TL.tl) := rfl
        rw [e, ih]
  have e : TL.tl (Txt.join ("" : Str) (l.map fun c => wd [c])) = l := by
    rw [TL.join_eq, TL.tl_join]
    exact key l
  have : ∀ z : Str, z = wd (TL.tl z) := fun z => rfl
  rw [this (Txt.join _ _), e]
theorem in_strs (z : Str) (ys : List Str) : inV (.str z) (ys.map V.str) = decide (z ∈ ys) := by
  unfold inV
  rw [List.any_map]
  rw [Bool.eq_iff_iff, List.any_eq_true, decide_eq_true_eq]
  constructor
  · rintro ⟨y, hy, e⟩
    have : y = z := by simpa [eqV] using e
    rw [← this]; exact hy
  · exact fun h => ⟨z, h, by simp [eqV]⟩
theorem flat_strs' (l : List Str) : (l.map V.str).all flatV = true := by
  rw [List.all_map, List.all_eq_true]
  intro x _
  rfl
/-! letters -/
abbrev letS : Str := "abcdefghijklmnopqrstuvwxyz"
abbrev keptS : List Str := ["boxes", "part", "own", "any", "call", "rest", "all", "none"]
theorem let_at : ∀ c : Fin 26, atI letS.cps.toList (c.val : Int) = some (97 + c.val) := by decide +kernel
theorem let_at' {r : Int} (h0 : 0 ≤ r) (h1 : r < 26) : atI letS.cps.toList r = some (97 + r.toNat) := by
  obtain ⟨n, rfl⟩ := Int.eq_ofNat_of_zero_le h0
  exact let_at ⟨n, by omega⟩
theorem let_ix : ∀ c : Fin 26, Builtin.Str.occurrences letS (wd [97 + c.val]) 0 letS.length 1 = [c.val] := by decide +kernel
theorem let_len : letS.length = 26 := by decide +kernel
def Let (c : Nat) : Prop := 97 ≤ c ∧ c ≤ 122
/-- a word: one to six letters -/
structure Nm (z : Str) : Prop where
  ex : ∃ l : List Nat, z = wd l ∧ 1 ≤ l.length ∧ l.length ≤ 6 ∧ ∀ c ∈ l, Let c
/-- the word with another first letter -/
def rt (k : Nat) (c : Nat) (t : List Nat) : List Nat := (97 + (c - 97 + k) % 26) :: t
theorem rt_zero {c : Nat} {t : List Nat} (h : Let c) : rt 0 c t = c :: t := by
  unfold rt
  obtain ⟨h1, h2⟩ := h
  have : (c - 97 + 0) % 26 = c - 97 := by omega
  rw [this]
  congr 1
  omega
theorem rt_next {c k : Nat} {t : List Nat} : rt k (97 + (c - 97 + 1) % 26) t = rt (k + 1) c t := by
  unfold rt
  congr 2
  omega
theorem rt_inj {c i j : Nat} {t : List Nat} (hi : i < 26) (hj : j < 26) (h : rt i c t = rt j c t) : i = j := by
  unfold rt at h
  injection h with h1 _
  omega
/-- lists without twins within another -/
theorem nodup_le {α : Type} [DecidableEq α] : ∀ {l m : List α}, l.Nodup → (∀ x ∈ l, x ∈ m) → l.length ≤ m.length
  | [], m, _, _ => Nat.zero_le _
  | x :: l, m, h, k => by
    have hx : x ∈ m := k x List.mem_cons_self
    have h1 := nodup_le (l := l) (m := m.erase x) (List.nodup_cons.mp h).2 fun y hy => by
      have ne : y ≠ x := fun e => (List.nodup_cons.mp h).1 (e ▸ hy)
      exact (List.mem_erase_of_ne ne).mpr (k y (List.mem_cons_of_mem _ hy))
    rw [List.length_erase_of_mem hx] at h1
    have : 0 < m.length := List.length_pos_of_mem hx
    rw [List.length_cons]
    omega
theorem few_alike {α β : Type} [DecidableEq β] {f : α → β} {t : β} : ∀ {l : List α}, (l.map f).Nodup → (l.filter fun x => decide (f x = t)).length ≤ 1
  | [], _ => by simp
  | x :: l, h => by
    rw [List.map_cons, List.nodup_cons] at h
    rw [List.filter_cons]
    by_cases e : f x = t
    · rw [if_pos (decide_eq_true e)]
      have : (l.filter fun x => decide (f x = t)) = [] := by
        rw [List.filter_eq_nil_iff]
        intro y hy hd
        have := of_decide_eq_true hd
        exact h.1 (by rw [e, ← this]; exact List.mem_map_of_mem hy)
      rw [this]
      exact Nat.le_refl 1
    · rw [if_neg (by simpa using e)]
      exact few_alike h.2
theorem kept_tails : (keptS.map fun z => z.cps.toList.tail).Nodup := by decide +kernel
/-- of the words with other first letters one is free -/
theorem one_free {c : Nat} {t : List Nat} {found : List Str} (hf : found.length ≤ 20) : ∃ k, k < 26 ∧ wd (rt k c t) ∉ keptS ∧ wd (rt k c t) ∉ found := by
  by_cases h : ∃ k, k < 26 ∧ wd (rt k c t) ∉ keptS ∧ wd (rt k c t) ∉ found
  · exact h
  exfalso
  have all : ∀ k, k < 26 → wd (rt k c t) ∈ (keptS.filter fun z => decide (z.cps.toList.tail = t)) ++ found := fun k hk => by
    by_cases h1 : wd (rt k c t) ∈ keptS
    · exact List.mem_append_left _ (List.mem_filter.mpr ⟨h1, decide_eq_true rfl⟩)
    · by_cases h2 : wd (rt k c t) ∈ found
      · exact List.mem_append_right _ h2
      · exact absurd ⟨k, hk, h1, h2⟩ h
  have nd : ((List.range 26).map fun k => wd (rt k c t)).Nodup := by
    rw [List.nodup_iff_pairwise_ne, List.pairwise_map]
    refine List.Pairwise.imp_of_mem ?_ List.nodup_range
    intro a b ha hb hab e
    exact hab (rt_inj (List.mem_range.mp ha) (List.mem_range.mp hb) (wd_inj e))
  have le := nodup_le nd fun x hx => by
    obtain ⟨k, hk, rfl⟩ := List.mem_map.mp hx
    exact all k (List.mem_range.mp hk)
  have f1 := few_alike (t := t) kept_tails
  rw [List.length_append, List.length_map, List.length_range] at le
  omega
/-- the promise of words: unlike, none of them kept -/
def sp_words : Sp := fun vs H Q _ => ∃ (d l : Addr) (many : Nat) (F : Hp), vs = [.ref d, .int (many : Int)] ∧ Wr d l F H ∧ many ≤ 20 ∧
  ∀ (p : Addr) (names : List Str) (H' : Hp), H p = none → Go d l F H F H' → Own d l F H' p (.lst (names.map V.str)) → names.length = many → names.Nodup → (∀ z ∈ names, Nm z ∧ z ∉ keptS) → Q (.ref p) H'
/-- the part at a place of a drawn program -/
def PartOf (ws : List Str) (sh many mb mr k : Nat) (p : Part) : Prop := ws[9 + k]? = some p.name ∧ ∃ ol : Nat, ol ≤ 2 ∧ p.own = (ws.drop (3 + 2 * k)).take ol ∧ sh + ol ≤ mb ∧ OkRows (sh + p.own.length) many mr p.rows
/-- a program drawn: at most so many boxes, parts, rows -/
def OkProg (mb mp mr : Nat) (p : Prog) : Prop := ∃ ws : List Str, ws.length = 12 ∧ ws.Nodup ∧ (∀ z ∈ ws, Nm z ∧ z ∉ keptS) ∧ ∃ sh : Nat, p.shared = ws.take sh ∧ sh ≤ mb ∧ 1 ≤ p.parts.length ∧ p.parts.length ≤ mp ∧
  ∀ k q, p.parts[k]? = some q → PartOf ws sh p.parts.length mb mr k q
def sp_program (K : PySem.W.Frag) : Sp := fun vs H Q _ => ∃ (d l : Addr) (mb mp mr : Nat) (F : Hp), vs = [.ref d, .int (mb : Int), .int (mp : Int), .int (mr : Int)] ∧ Wr d l F H ∧ mb ≤ 3 ∧ 1 ≤ mp ∧ mp ≤ 3 ∧ 1 ≤ mr ∧ mr ≤ 5 ∧
  ∀ v F' H' p, Go d l F H F' H' → Dp K F' v (dProg p) → OkProg mb mp mr p → Q v H'
end CB

set_option Elab.async false
set_option linter.all false
set_option maxRecDepth 100000
set_option maxHeartbeats 4000000
/-! enumerate(a tuple) -/
namespace CB
open PySem PySem.Spec PyProof.Rows L2
open AutoSeq1 (wpAny_loadPart')
abbrev enO (it : Addr) : Obj := { cls := .type "enumerate", data := .fields #[.none, .bool false, .ref it, rawInt 0, .none, .none] }
theorem enum_newT (l : Addr) (items : Array Value) (n : Nat) (dct : Option Addr) (sl : Array (Option Value)) :
    Meets (Builtin.«enumerate.__new__» ⟨[.type "enumerate", .ref l], []⟩) (fun _ R s => s.heap.get? l = some { cls := .type "tuple", dict := dct, data := .seq items n, slots := sl } ∧
      R (.ok (.ret (.ref (s.heap.push (iterObj .T l)).objs.size))) { s with heap := (s.heap.push (iterObj .T l)).push (enO s.heap.objs.size) }) :=
  .of_wp fun prog w A R s h => by
    obtain ⟨hp, g, d, tk, os⟩ := s
    obtain ⟨hl, h⟩ := h
    have hsub := sub_enumerate
    have hL : Heap.IsTuple (Shared.heap ⟨hp, g, d, tk, os⟩) l items := ⟨_, hl, rfl, n, rfl⟩
    wp_walk using wpAny_loadPart' hl
    refine wpAny_stack_any fun st => wpAny_pure ?_
    split
    · rename_i c _ _ _ _ _
      cases (c == Value.type "enumerate") <;> (wp_walk using wpAny_loadPart' hl, wpAny_pyIter_tuple hL; exact ⟨_, rfl, h⟩)
    · wp_walk using wpAny_loadPart' hl, wpAny_pyIter_tuple hL
      exact ⟨_, rfl, h⟩
section
variable {prog : Program} {w : World} {A : Around} {E : Value → Shared → Prop} {s : Shared}
theorem call_enumT {l : Addr} {items : Array Value} {Q : Value → Shared → Prop} (hL : s.heap.IsTuple l items)
    (h : ∀ h', IsEnum h' (s.heap.objs.size + 1) s.heap.objs.size 0 .none → IterK .T h' s.heap.objs.size l 0 → (∀ b o, s.heap.get? b = some o → h'.get? b = some o) → Q (.ref (s.heap.objs.size + 1)) { s with heap := h' }) :
    wpAny (model prog w) A (call (.type "enumerate") [.ref l]) Q E s := by
  obtain ⟨⟨c, dct, dt, sl⟩, hl, hc, n, hd⟩ := hL
  obtain rfl : c = .type "tuple" := hc
  obtain rfl : dt = .seq items n := hd
  refine callType_new F.called_enumerate (by decide) (F.typeCall_enumerate_1 _) (F.newCall_enumerate_1 _) (fun obj => F.args_object_init_2 obj _) F.entry_enumerate_new (enum_newT l items n dct sl) ⟨hl, ?_⟩
  have hz : (s.heap.push (iterObj .T l)).objs.size = s.heap.objs.size + 1 := Heap.size_push ..
  show _ ∧ _
  rw [hz]
  have he : IsEnum ((s.heap.push (iterObj .T l)).push (enO s.heap.objs.size)) (s.heap.objs.size + 1) s.heap.objs.size 0 .none := by
    have := Heap.get?_push_size (s.heap.push (iterObj .T l)) (o := enO s.heap.objs.size) rfl
    rw [hz] at this
    exact this
  exact ⟨⟨_, he, rfl⟩, h _ he (IterK.start (Heap.get?_push_of_some _ (Heap.get?_push_size _ rfl))) fun b o x => Heap.get?_push_of_some _ (Heap.get?_push_of_some _ x)⟩
end
/-- what enumerate(a tuple) hands out -/
def IteT (K : PySem.W.Frag) (a : Addr) : It :=
  ⟨fun i H => ∃ (xs : List V) (x : V), SqT K H a xs ∧ xs[i]? = some x, fun i H v H' => ∃ T x, v = .ref T ∧ H T = none ∧ H' = upd H T (.tup [.int (i : Nat), x]) ∧ ∀ xs, SqT K H a xs → xs[i]? = some x, fun i H => ∃ xs : List V, SqT K H a xs ∧ xs.length = i⟩
theorem turn_enumT {P : Program} {w : World} {K : PySem.W.Frag} {elts : List Expr} {kk : Nat} {tpos : Pos} (a e it : Addr) (na : a ≠ it) (ne : e ≠ a) :
    Turn P w K (.Tuple elts kk tpos) (IteT K a) [e, it] e (fun i h => (∃ old, IsEnum h e it ((i : Nat) : Int) old) ∧ IterK .T h it a i ∧ e ≠ it) where
  mem := by simp
  obj := fun i h st b hb => by
    obtain ⟨⟨old, he⟩, hi, _⟩ := st
    rcases (by simpa using hb : b = e ∨ b = it) with z | z
    · rw [z]; exact ⟨_, he, fun v q => nomatch q⟩
    · rw [z]; exact hi.obj
  keep := fun i h h' st k => let ⟨⟨old, he⟩, hi, hne⟩ := st; ⟨⟨old, k e (by simp) _ he⟩, hi.at fun o q => k it (by simp) o q, hne⟩
  item := by
    intro X hP hw hK hc i pins s σ H E I hf st hg
    subst hP hw hK
    obtain ⟨⟨old, he⟩, hit, hne⟩ := st
    obtain ⟨xs, x, hq, hx⟩ := hg
    obtain ⟨its, rv, p, hinj⟩ := InvK (k := .T) I hq
    have hlen := rv.length
    obtain ⟨u, hu, ru⟩ := rv.get hx
    have hel : e < s.heap.objs.size := Heap.lt_size he
    have hil : it < s.heap.objs.size := by obtain ⟨_, q, _⟩ := hit.obj; exact Heap.lt_size q
    have hlt : i < its.toArray.size := by rw [List.size_toArray]; exact (List.getElem?_eq_some_iff.mp hu).1
    refine wpAny_pyNext_enum_itemD (drawsK (by rw [Around.in1_handled]; exact I.ok.hd hc) .T it a na its.toArray) he ⟨hit, p⟩ hlt hne (by simp [hne, ne]) fun y h' tk hP ho hst hT hsz hk => ?_
    have ey : y = u := by
      rw [List.getElem?_toArray, hu] at hP
      exact (Option.some.inj hP).symm
    subst ey
    refine ⟨_, rfl, wpAny_letOwnedTupleGo_enum (s := { s with heap := h', toks := tk + 1 }) ho fun h'' he' sb => ?_⟩
    have hT2 : h''.get? s.heap.objs.size = some { cls := .type "tuple", data := .seq #[.int i tk, y] } := (sb.2 _ (Nat.ne_of_gt hel)).trans hT
    have new : ObjOk X.prog X.w (upd H s.heap.objs.size (.tup [.int (i : Nat), x])) h'' s.heap.objs.size (.tup [.int (i : Nat), x]) :=
      ⟨by show 2 ≤ sizeLine; decide, [.int i tk, y], .cons ⟨_, rfl⟩ (.cons ru .nil), ⟨_, hT2, rfl, _, rfl⟩⟩
    have I1 : Inv X pins σ (upd H s.heap.objs.size (.tup [.int (i : Nat), x])) { s with heap := h'', toks := tk + 1 } :=
      I.turnedNew (ch := [e, it]) (fun b ob hb q => (sb.2 b (fun z => hb (by simp [z]))).trans (hk b ob (fun z => hb (by simp [z])) (fun z => hb (by simp [z])) q)) hf (Nat.le_refl _) new
    refine ⟨.ref s.heap.objs.size, _, I1, rfl, ⟨_, x, rfl, I.hok.fresh (Nat.le_refl _), rfl, fun ys hy => by rw [hinj ys hy]; exact hx⟩, ⟨⟨y, ?_⟩, hst.1.at fun o q => (sb.2 it (Ne.symm hne)).trans q, hne⟩, fun b hb => ?_⟩
    · have e1 : ((i + 1 : Nat) : Int) = (i : Int) + 1 := by omega
      rw [e1]; exact he'
    · have hb' : b < s.heap.objs.size := by
        rcases (by simpa using hb : b = e ∨ b = it) with z | z
        · rw [z]; exact hel
        · rw [z]; exact hil
      rw [upd_ne (Nat.ne_of_lt hb')]
      exact (hf b hb).1
  done := by
    intro X hP hw hK hc i pins s σ H E I hf st hg
    subst hP hw hK
    obtain ⟨⟨old, he⟩, hit, hne⟩ := st
    obtain ⟨xs, hq, hx⟩ := hg
    obtain ⟨its, rv, p, hinj⟩ := InvK (k := .T) I hq
    obtain ⟨f0, f1, f2, f3, f4, f5⟩ := hf it (by simp)
    have hl : its.toArray.size = i := by rw [List.size_toArray, ← hx]; exact rv.length.symm
    subst hl
    exact wpAny_pyNext_enum_endD (drawsK (by rw [Around.in1_handled]; exact I.ok.hd hc) .T it a na its.toArray) he ⟨hit, p⟩ fun h' eb => ⟨rfl, I.turned (t' := s.toks) (fun b o hb q => eb b o hb q) f0 f1 f3 f4 f5⟩
  self := fun A i s Q E st h => let ⟨⟨_, he⟩, _⟩ := st; wpAny_pyIter_enum he h
def iEnumT (K : PySem.W.Frag) (ta : TA) : TI := fun σ H R => ta σ H fun vs H1 => ∃ a xs, vs = [.ref a] ∧ SqT K H1 a xs ∧ R (IteT K a) H1
theorem pi_enumT {X : Cx} {K : PySem.W.Frag} {e : Expr} {ta : TA} {p pos tpos : Pos} {elts : List Expr} {kk : Nat} (hg : Gl X "enumerate") (hm : X.mg "enumerate" = none) (ha : PA X [e] ta) (hs : starEach [e] X.env = [(false, eval e X.env)] := by rfl) (hK : X.K = K := by rfl) :
    PI X (.Tuple elts kk tpos) (.Call (.Name "enumerate" p) [e] [] pos) (iEnumT K ta) := by
  subst hK
  refine ⟨fun pins s σ H R I h => ?_⟩
  refine Call_ (ld_blt I hg hm boot_enumerate (PyProof.Rows.callWith_type1 (thn (ha.run pos pins s σ H _ I h) fun us s1 ⟨vs, H1, I1, r1, q1⟩ => ?_) hs rfl))
  obtain ⟨a, xs, ex, hq, q⟩ := q1
  subst ex
  cases r1 with
  | cons r rr =>
    cases rr
    cases r
    obtain ⟨its, rv, p', hz⟩ := InvK (k := .T) I1 hq
    have hal : a < s1.heap.objs.size := HasK.lt (k := .T) p'
    refine call_enumT p' fun h' he hit hk => wpAny_pyIter_enum he ?_
    have I2 : Inv X pins σ H1 { s1 with heap := h' } := I1.kept (t' := s1.toks) hk
    refine ⟨s1.heap.objs.size + 1, [s1.heap.objs.size + 1, s1.heap.objs.size], _, _, H1, rfl, I2, turn_enumT a (s1.heap.objs.size + 1) s1.heap.objs.size (Nat.ne_of_lt hal) (Nat.ne_of_gt (Nat.lt_succ_of_lt hal)), ⟨⟨.none, he⟩, hit, Nat.succ_ne_self _⟩, fun b hb => ?_, q⟩
    have hle : s1.heap.objs.size ≤ b := by
      rcases (by simpa using hb : b = s1.heap.objs.size + 1 ∨ b = s1.heap.objs.size) with z | z
      · rw [z]; exact Nat.le_add_right _ _
      · rw [z]; exact Nat.le_refl _
    exact I1.fpOk hle (I1.hok.fresh hle)
theorem walk_enumT {K : PySem.W.Frag} {a : Addr} {xs : List V} : Walk (IteT K a) xs.length (fun H => SqT K H a xs) (YPair (fun i => some (.int (i : Nat))) (fun i => xs[i]?)) := by
  refine ⟨fun i _ hi q => ⟨xs, xs[i], q, by simp [hi]⟩, fun _ q => ⟨xs, q, rfl⟩, fun i H v H' _ q y => ?_⟩
  obtain ⟨T, x, h1, h2, h3, h4⟩ := y
  exact ⟨T, .int (i : Nat), x, h1, h2, h3, rfl, h4 xs q⟩
end CB

set_option Elab.async false
set_option linter.all false
set_option maxRecDepth 100000
set_option maxHeartbeats 4000000
/-! programs read, looked at -/
namespace CB
open PySem PySem.Spec PyProof.Rows L2
theorem iteD {p A B : Prop} [Decidable p] (hp : p) (h : A) : if decide p = true then A else B := by rw [if_pos (decide_eq_true hp)]; exact h
theorem iteN {p A B : Prop} [Decidable p] (hp : ¬ p) (h : B) : if decide p = true then A else B := by rw [if_neg (fun e => hp (of_decide_eq_true e))]; exact h
section
variable {K : PySem.W.Frag} {F H : Hp} {v : V}
theorem dp1 {a : PyData} (h : Dp K F v (.tuple [a])) : ∃ p x, v = .ref p ∧ SqT K F p [x] ∧ Dp K F x a := by
  obtain ⟨p, xs, e, s, d⟩ := h.tup_inv
  cases d with
  | cons d1 d => cases d; exact ⟨p, _, e, s, d1⟩
theorem dp2 {a b : PyData} (h : Dp K F v (.tuple [a, b])) : ∃ p x y, v = .ref p ∧ SqT K F p [x, y] ∧ Dp K F x a ∧ Dp K F y b := by
  obtain ⟨p, xs, e, s, d⟩ := h.tup_inv
  cases d with
  | cons d1 d =>
    cases d with
    | cons d2 d => cases d; exact ⟨p, _, _, e, s, d1, d2⟩
theorem dp3 {a b c : PyData} (h : Dp K F v (.tuple [a, b, c])) : ∃ p x y z, v = .ref p ∧ SqT K F p [x, y, z] ∧ Dp K F x a ∧ Dp K F y b ∧ Dp K F z c := by
  obtain ⟨p, xs, e, s, d⟩ := h.tup_inv
  cases d with
  | cons d1 d =>
    cases d with
    | cons d2 d =>
      cases d with
      | cons d3 d => cases d; exact ⟨p, _, _, _, e, s, d1, d2, d3⟩
theorem dp_strs_of : ∀ {vs : List V} {ns : List Str}, DpAll K F vs (ns.map PyData.str) → vs = ns.map V.str
  | _, [], h => by cases h; rfl
  | _, n :: r, h => by
    cases h with
    | cons h1 h2 => cases h1; rw [dp_strs_of h2]; rfl
theorem dp_ts {l : List Str} (h : Dp K F v (ts l)) : ∃ a, v = .ref a ∧ SqT K F a (l.map V.str) := by
  obtain ⟨a, xs, e, s, d⟩ := h.tup_inv
  rw [dp_strs_of d] at s
  exact ⟨a, e, s⟩
theorem dp_map {α : Type} {f : α → PyData} {l : List α} (h : Dp K F v (.tuple (l.map f))) : ∃ a xs, v = .ref a ∧ SqT K F a xs ∧ DpAll K F xs (l.map f) ∧ xs.length = l.length := by
  obtain ⟨a, xs, e, s, d⟩ := h.tup_inv
  exact ⟨a, xs, e, s, d, by rw [d.length, List.length_map]⟩
theorem dp_at {α : Type} {f : α → PyData} {l : List α} {xs : List V} {i : Nat} {y : α} (h : DpAll K F xs (l.map f)) (e : l[i]? = some y) : ∃ x, xs[i]? = some x ∧ Dp K F x (f y) :=
  h.get' (by rw [List.getElem?_map, e]; rfl)
theorem dp_at' {α : Type} {f : α → PyData} {l : List α} {xs : List V} {i : Nat} {x : V} (h : DpAll K F xs (l.map f)) (e : xs[i]? = some x) : ∃ y, l[i]? = some y ∧ Dp K F x (f y) := by
  obtain ⟨d, e1, e2⟩ := h.get e
  rw [List.getElem?_map] at e1
  obtain ⟨y, ey, rfl⟩ := Option.map_eq_some_iff.mp e1
  exact ⟨y, ey, e2⟩
theorem dp_prog {p : Prog} (h : Dp K F v (dProg p)) : ∃ a as ap xp, v = .ref a ∧ SqT K F a [.ref as, .ref ap] ∧ SqT K F as (p.shared.map V.str) ∧ SqT K F ap xp ∧ DpAll K F xp (p.parts.map dPart) ∧ xp.length = p.parts.length := by
  obtain ⟨a, x, y, e, s, d1, d2⟩ := dp2 h
  obtain ⟨as, rfl, s1⟩ := dp_ts d1
  obtain ⟨ap, xp, rfl, s2, dx, l⟩ := dp_map d2
  exact ⟨a, as, ap, xp, e, s, s1, s2, dx, l⟩
theorem dp_part {p : Part} (h : Dp K F v (dPart p)) : ∃ a ao ar xr, v = .ref a ∧ SqT K F a [.str p.name, .ref ao, .ref ar] ∧ SqT K F ao (p.own.map V.str) ∧ SqT K F ar xr ∧ DpAll K F xr (p.rows.map dRow) ∧ xr.length = p.rows.length := by
  obtain ⟨a, x, y, z, e, s, d1, d2, d3⟩ := dp3 h
  obtain ⟨ao, rfl, s1⟩ := dp_ts d2
  obtain ⟨ar, xr, rfl, s2, dx, l⟩ := dp_map d3
  cases d1.str_inv
  exact ⟨a, ao, ar, xr, e, s, s1, s2, dx, l⟩
theorem dp_row {r : Deed × List Int} (h : Dp K F v (dRow r)) : ∃ a ad ag, v = .ref a ∧ SqT K F a [.ref ad, .ref ag] ∧ Dp K F (.ref ad) (dDeed r.1) ∧ SqT K F ag (r.2.map V.int) := by
  obtain ⟨a, x, y, e, s, d1, d2⟩ := dp2 h
  obtain ⟨ag, rfl, s1⟩ := d2.ti_inv
  obtain ⟨ad, rfl⟩ : ∃ ad, x = .ref ad := by
    obtain ⟨r1, r2⟩ := r
    cases r1 <;> (obtain ⟨b, _, eb, _⟩ := d1.tup_inv; exact ⟨b, eb⟩)
  exact ⟨a, ad, ag, e, s, d1, s1⟩
/-- a slice of a tuple -/
theorem slA_by {a : Addr} {xs : List V} {lo hi : Option Int} {Q : VK} (h : SqT K H a xs) (q : ∀ t H', Ex H H' → SqT K H' t (cutV xs lo hi) → Q (.ref t) H') : rSlA K (.ref a) lo hi H Q := by
  refine ⟨a, _, rfl, h, fun e => ?_, fun _ t nt => q t _ (Evl.Ex.new nt) (SqT.of upd_same)⟩
  refine q a H (Evl.Ex.refl _) ?_
  have : cutV xs lo hi = xs := by
    unfold cutV
    rw [e.1, e.2, List.drop_zero, Nat.sub_zero, List.take_length]
  rw [this]
  exact h
theorem catA_by {a b : Addr} {xs ys : List V} {Q : VK} (h : SqT K H a xs) (h2 : SqT K H b ys) (hl : xs.length + ys.length ≤ 1000) (q : ∀ t H', Ex H H' → SqT K H' t (xs ++ ys) → Q (.ref t) H') : rCatA K (.ref a) (.ref b) H Q := by
  refine ⟨a, b, _, _, rfl, rfl, h, h2, Nat.le_of_lt (small1000 hl), fun e => ?_, fun _ e => ?_, fun _ _ t nt => q t _ (Evl.Ex.new nt) (SqT.of upd_same)⟩
  · subst e
    exact q b H (Evl.Ex.refl _) h2
  · subst e
    exact q a H (Evl.Ex.refl _) (by rw [List.append_nil]; exact h)
end
theorem cut_takeV (xs : List V) {s : Nat} (h : s ≤ xs.length) : cutV xs none (some (s : Int)) = xs.take s := by
  unfold cutV
  rw [HT.sIx_none, HT.sIx_nat, List.drop_zero, Nat.min_eq_left h, Nat.sub_zero]
theorem cut_dropV (xs : List V) {s : Nat} (h : s ≤ xs.length) : cutV xs (some (s : Int)) none = xs.drop s := by
  unfold cutV
  rw [HT.sIx_none, HT.sIx_nat, Nat.min_eq_left h]
  exact List.take_of_length_le (by rw [List.length_drop]; exact Nat.le_refl _)
/-- a program that is let by -/
structure LookOk (p : Prog) : Prop where
  p1 : 1 ≤ p.parts.length
  p3 : p.parts.length ≤ 3
  nd : p.shared.Nodup
  names : (p.parts.map Part.name).Nodup
  part : ∀ q ∈ p.parts, (p.shared ++ q.own).Nodup ∧ p.shared.length + q.own.length ≤ 3 ∧ OkRows (p.shared.length + q.own.length) p.parts.length 5 q.rows
def sp_need : Sp := fun vs H Q _ => ∃ (g : Bool) (a b c : V), vs = [.bl g, a, b, c] ∧ g = true ∧ Q .non H
def sp_rising (K : PySem.W.Frag) : Sp := fun vs H Q _ => ∃ (a : Addr) (g : List Int), vs = [.ref a] ∧ SqT K H a (g.map V.int) ∧ g.length ≤ 100 ∧ g.Pairwise (· < ·) ∧ ∀ H', Ex H H' → Q (.bl true) H'
def sp_look_row (K : PySem.W.Frag) : Sp := fun vs H Q _ => ∃ (v : V) (p : Prog) (i k : Nat) (q : Part), vs = [v, .int (i : Int), .int (k : Int)] ∧ Dp K H v (dProg p) ∧ LookOk p ∧ p.parts[i]? = some q ∧ k < q.rows.length ∧ ∀ H', Ex H H' → Q .non H'
def sp_look_part (K : PySem.W.Frag) : Sp := fun vs H Q _ => ∃ (v : V) (p : Prog) (i : Nat), vs = [v, .int (i : Int)] ∧ Dp K H v (dProg p) ∧ LookOk p ∧ i < p.parts.length ∧ ∀ H', Ex H H' → Q .non H'
def sp_look (K : PySem.W.Frag) : Sp := fun vs H Q _ => ∃ (v : V) (p : Prog), vs = [v] ∧ Dp K H v (dProg p) ∧ LookOk p ∧ ∀ H', Ex H H' → Q (.bl true) H'
theorem not_in_take {ns : List Str} {b : Nat} {z : Str} (h : ns.Nodup) (e : ns[b]? = some z) : inV (.str z) ((ns.take b).map V.str) = false := by
  rw [in_strs]
  refine decide_eq_false fun hz => ?_
  obtain ⟨j, hj⟩ := List.mem_iff_getElem?.mp hz
  rw [List.getElem?_take] at hj
  by_cases hjb : j < b
  · rw [if_pos hjb] at hj
    have h1 := (List.getElem?_eq_some_iff.mp hj).1
    have h2 := (List.getElem?_eq_some_iff.mp e).1
    have := (List.getElem?_inj h1 h).mp (hj.trans e.symm)
    omega
  · rw [if_neg hjb] at hj
    cases hj

theorem snoc_true {i : Nat} {b : Bool} (h : b = true) : some (HO.lst ((List.replicate i true).map V.bl ++ [V.bl b])) = some (HO.lst ((List.replicate (i + 1) true).map V.bl)) := by
  rw [h, List.replicate_succ', List.map_append]
  rfl
theorem iteT' {b : Bool} {A B : Prop} (hb : b = true) (h : A) : if b = true then A else B := by rw [if_pos hb]; exact h
theorem iteF' {b : Bool} {A B : Prop} (hb : b = false) (h : B) : if b = true then A else B := by rw [hb]; exact h
end CB

set_option Elab.async false
set_option linter.all false
set_option maxRecDepth 100000
set_option maxHeartbeats 4000000
/-! drawn programs are let by; so are they with other names -/
namespace CB
open PySem PySem.Spec PyProof.Rows L2
theorem cut_two {ws : List Str} (h : ws.Nodup) {sh a b : Nat} (ha : sh ≤ a) : (ws.take sh ++ (ws.drop a).take b).Nodup := by
  have h1 : ((ws.drop a).take b).Sublist (ws.drop sh) := (List.take_sublist _ _).trans (List.drop_sublist_drop_left ws ha)
  have h2 : (ws.take sh ++ (ws.drop a).take b).Sublist (ws.take sh ++ ws.drop sh) := (List.Sublist.refl _).append h1
  rw [List.take_append_drop] at h2
  exact h.sublist h2
section
variable {p : Prog} {mb mp mr : Nat}
theorem names_of {ws : List Str} {sh many : Nat} (h : ∀ k q, p.parts[k]? = some q → PartOf ws sh many mb mr k q) : p.parts.map Part.name = (ws.drop 9).take p.parts.length := by
  apply List.ext_getElem?
  intro k
  by_cases hk : k < p.parts.length
  · have e : p.parts[k]? = some p.parts[k] := List.getElem?_eq_getElem hk
    obtain ⟨h1, _⟩ := h k _ e
    rw [List.getElem?_map, e, List.getElem?_take, if_pos hk, List.getElem?_drop, h1]
    rfl
  · rw [List.getElem?_eq_none (by rw [List.length_map]; omega), List.getElem?_eq_none]
    rw [List.length_take]
    omega
theorem OkProg.look (h : OkProg mb mp mr p) (hb : mb ≤ 3) (hp : mp ≤ 3) (hr : mr ≤ 5) : LookOk p ∧ (p.shared ++ p.parts.map Part.name).Nodup := by
  obtain ⟨ws, lw, nd, hw, sh, es, hsh, p1, p3, parts⟩ := h
  have en := names_of parts
  have n2 : (p.shared ++ p.parts.map Part.name).Nodup := by
    rw [en, es]
    exact cut_two nd (by omega)
  have lsh : p.shared.length = sh := by rw [es, List.length_take, lw]; omega
  refine ⟨⟨p1, by omega, (List.nodup_append.mp n2).1, (List.nodup_append.mp n2).2.1, fun q hq => ?_⟩, n2⟩
  obtain ⟨k, ek⟩ := List.mem_iff_getElem?.mp hq
  obtain ⟨_, ol, o2, eo, ho, r1, r2, r3⟩ := parts k q ek
  have hk := (List.getElem?_eq_some_iff.mp ek).1
  have lo : q.own.length ≤ ol := by rw [eo, List.length_take]; omega
  refine ⟨by rw [es, eo]; exact cut_two nd (by omega), by omega, r1, by omega, ?_⟩
  rw [lsh]
  exact r3
end
/-- other names, the same rows -/
def Lk (p : Prog) (nm : List Str) (ps : List Part) : Prop := ∀ (k : Nat) (q' : Part), ps[k]? = some q' → ∃ q : Part, p.parts[k]? = some q ∧ q'.rows = q.rows ∧ q'.own.length = q.own.length ∧ (p.shared ++ q'.own).Nodup ∧ nm[k]? = some q'.name
theorem Lk.snoc {p : Prog} {nm : List Str} {ps : List Part} {q' : Part} (h : Lk p nm ps) (k : ∃ q : Part, p.parts[ps.length]? = some q ∧ q'.rows = q.rows ∧ q'.own.length = q.own.length ∧ (p.shared ++ q'.own).Nodup ∧ nm[ps.length]? = some q'.name) : Lk p nm (ps ++ [q']) := fun j r e => by
  by_cases hj : j < ps.length
  · rw [List.getElem?_append_left hj] at e
    exact h j r e
  · have hlt := (List.getElem?_eq_some_iff.mp e).1
    rw [List.length_append] at hlt
    have hj2 : j = ps.length := by
      simp at hlt
      omega
    subst hj2
    rw [List.getElem?_append_right (Nat.le_refl _), Nat.sub_self] at e
    have : q' = r := by simpa using e
    subst this
    exact k
theorem Lk.look {p : Prog} {nm : List Str} {ps : List Part} (L : LookOk p) (nn : nm.Nodup) (h : Lk p nm ps) (l : ps.length = p.parts.length) : LookOk ⟨p.shared, ps⟩ := by
  refine ⟨by rw [l]; exact L.p1, by rw [l]; exact L.p3, L.nd, ?_, fun q' hq => ?_⟩
  · have e : ps.map Part.name = nm.take ps.length := by
      apply List.ext_getElem?
      intro k
      by_cases hk : k < ps.length
      · have e : ps[k]? = some ps[k] := List.getElem?_eq_getElem hk
        obtain ⟨q, _, _, _, _, h1⟩ := h k _ e
        rw [List.getElem?_map, e, List.getElem?_take, if_pos hk, h1]
        rfl
      · rw [List.getElem?_eq_none (by rw [List.length_map]; omega), List.getElem?_eq_none]
        rw [List.length_take]
        omega
    show (ps.map Part.name).Nodup
    rw [e]
    exact nn.sublist (List.take_sublist _ _)
  · obtain ⟨k, ek⟩ := List.mem_iff_getElem?.mp hq
    obtain ⟨q, eq, er, eo, nd, _⟩ := h k q' ek
    obtain ⟨_, h2, h3⟩ := L.part q (List.mem_of_getElem? eq)
    refine ⟨nd, by show p.shared.length + q'.own.length ≤ 3; omega, ?_⟩
    show OkRows (p.shared.length + q'.own.length) ps.length 5 q'.rows
    rw [er, eo, l]
    exact h3
/-- the promise: a program that is let by -/
def sp_renamed (K : PySem.W.Frag) : Sp := fun vs H Q _ => ∃ (d l : Addr) (v : V) (p : Prog) (F : Hp), vs = [.ref d, v] ∧ Wr d l F H ∧ Dp K F v (dProg p) ∧ OkProg 3 3 5 p ∧
  ∀ v' F' H' p', Go d l F H F' H' → Dp K F' v' (dProg p') → LookOk p' → Q v' H'
def sp_bounds (K : PySem.W.Frag) : Sp := fun vs H Q _ => ∃ (d l : Addr) (F : Hp), vs = [.ref d] ∧ Wr d l F H ∧
  ∀ v' F' H' p', Go d l F H F' H' → Dp K F' v' (dProg p') → LookOk p' → Q v' H'
end CB

set_option Elab.async false
set_option linter.all false
set_option maxRecDepth 100000
set_option maxHeartbeats 4000000
namespace CB
open PySem PySem.Spec PyProof.Rows L2
open AutoSeq1 (wpAny_loadPart')
/-! ### a tuple times a number from 0 on -/
theorem tuple_mul0 (l : Addr) (items : Array Value) (n : Nat) (dd : Option Addr) (sl : Array (Option Value)) (u : Tok) (c1 : items.isEmpty = false) :
    Meets (Builtin.«tuple.__mul__» ⟨[.ref l, .int 0 u], []⟩) (fun _ R s => s.heap.get? l = some { cls := .type "tuple", dict := dd, data := .seq items n, slots := sl } ∧ R (.ok (.ret (Value.ref s.heap.objs.size))) { s with heap := s.heap.push { cls := Value.type "tuple", data := Data.seq #[] }, toks := s.toks }) :=
  .of_wp fun prog w A R s h => by
    obtain ⟨hp, g, d, tk, os⟩ := s
    obtain ⟨hl, h⟩ := h
    have f1 := AutoSeq1.idx_int
    have c2 : (items.isEmpty || (0 : Int) == 1) = false := by rw [c1]; rfl
    wp_walk using wpAny_loadPart' hl
    repeat (first
      | (refine wpAny_ite_false (decide_eq_false (by rw [c2]; exact Bool.false_ne_true)) ?_; wp_walk using wpAny_loadPart' hl))
    exact ⟨_, rfl, h⟩
def rRepT0 (K : PySem.W.Frag) : R2 := fun x y H Q => ∃ l k xs, x = .ref l ∧ y = .int k ∧ SqT K H l xs ∧ xs ≠ [] ∧ 0 ≤ k ∧ k ≤ 1000 ∧ xs.length ≤ 1000 ∧ (k = 1 → Q (.ref l) H) ∧ ∀ p, H p = none → Q (.ref p) (upd H p (.tup (List.replicate k.toNat xs).flatten))
theorem op_repT0 {X : Cx} {K : PySem.W.Frag} (hK : X.K = K := by rfl) : OpR X (binaryOp .Mult) (rRepT0 K) := by
  subst hK
  intro pins s σ H x y v u Q I rx ry h
  obtain ⟨l, k, xs, rfl, rfl, hT, hne, h1, h2, hz, q1, q⟩ := h
  by_cases e : k = 0
  · subst e
    cases rx
    obtain ⟨t, rfl⟩ := ry
    obtain ⟨its, r, ⟨⟨cls, dd, data, sl⟩, ho, hc, n, hd⟩, hs⟩ := I.tuple hT
    simp only at hc hd
    subst hc hd
    have hi : its.toArray.isEmpty = false := by
      cases its with
      | nil => exact absurd (List.eq_nil_of_length_eq_zero r.length) hne
      | cons a b => rfl
    refine wpAny_binaryOp_repeat_ref (T := "tuple") (U := "int") (by decide) ⟨_, ho, rfl⟩ (fun s' => typeIs_int s' 0 t) noFill_tuple_mul F.fills_int_mul F.slot_int_rmul repeat_tuple F.slot_int_index.lookup
      (call_meets F.slot_int_rmul (typeIs_int s 0 t) F.entry_int_rmul (F.args_int_rmul_2 _ _) (int_rmul_tuple 0 t l its.toArray n dd sl)
        ⟨ho, rfl, ⟨_, ho, rfl⟩, call_meets F.slot_tuple_mul ⟨_, ho, rfl⟩ F.entry_tuple_mul (F.args_tuple_mul_2 _ _) (tuple_mul0 l its.toArray n dd sl t hi) ⟨ho, ?_⟩⟩)
    refine ⟨.ref s.heap.objs.size, _, I.laid (t' := s.toks) (o := .tup []) (fun b ob q => Heap.get?_push_of_some _ q) (Nat.le_refl _) ?_, rfl, q _ (I.hok.fresh (Nat.le_refl _))⟩
    exact ⟨Nat.zero_le _, [], .nil, IsTup.new _ _⟩
  · exact op_repT1 rfl pins s σ H _ _ v u Q I rx ry ⟨l, k, xs, rfl, rfl, hT, hne, by omega, h2, hz, q1, q⟩
theorem repT_by {K : PySem.W.Frag} {H : Hp} {a : Addr} {n : Nat} {Q : VK} (h : SqT K H a [V.int 0]) (hn : n ≤ 1000) (q : ∀ t H', Ex H H' → SqT K H' t ((List.replicate n (0 : Int)).map V.int) → Q (.ref t) H') : rRepT0 K (.ref a) (.int (n : Int)) H Q := by
  have e : (List.replicate n [V.int 0]).flatten = (List.replicate n (0 : Int)).map V.int := by
    have := rep_zero [] n
    simpa using this
  refine ⟨a, n, _, rfl, rfl, h, by simp, by omega, by omega, by show 1 ≤ 1000; decide, fun e1 => ?_, fun p np => q p _ (Evl.Ex.new np) (SqT.of ?_)⟩
  · have : n = 1 := by omega
    subst this
    exact q a H (Evl.Ex.refl _) h
  · rw [upd_same, Int.toNat_natCast, e]
/-! ### the deal goes on, and one more object of ours changes -/
structure Gm (d l m : Addr) (F H F' H' : Hp) : Prop where
  w : Wr d l F' H'
  nf : Nf F H F'
  kp : ∀ b o, b ≠ d → b ≠ l → b ≠ m → H b = some o → H' b = some o
  al : ∀ b, H b ≠ none → H' b ≠ none
section
variable {d l m p z : Addr} {F H F1 H1 F2 H2 : Hp} {o u x : HO}
theorem IsDeal.al (D : IsDeal H d l) : H d ≠ none ∧ H l ≠ none := by
  obtain ⟨s, n, ls, D⟩ := D
  exact ⟨(by rw [D.hd]; exact fun e => (by cases e)), (by rw [D.hl]; exact fun e => (by cases e))⟩
theorem go_al (a : Go d l F H F1 H1) (b : Addr) (h : H b ≠ none) : H1 b ≠ none := a.w.alive a.kp h
theorem Gm.refl (W : Wr d l F H) : Gm d l m F H F H := ⟨W, Nf.refl, fun _ _ _ _ _ e => e, fun _ e => e⟩
theorem Gm.of (a : Go d l F H F1 H1) : Gm d l m F H F1 H1 := ⟨a.w, a.nf, fun b o h1 h2 _ e => a.kp b o h1 h2 e, go_al a⟩
theorem Gm.trans (a : Gm d l m F H F1 H1) (b : Gm d l m F1 H1 F2 H2) : Gm d l m F H F2 H2 :=
  ⟨b.w, ⟨a.nf.ex.trans b.nf.ex, fun x e1 e2 => b.nf.nf x (a.nf.nf x e1 e2) (a.al x e2)⟩, fun x o h1 h2 h3 e => b.kp x o h1 h2 h3 (a.kp x o h1 h2 h3 e), fun x e => b.al x (a.al x e)⟩
theorem Gm.go (a : Gm d l m F H F1 H1) (b : Go d l F1 H1 F2 H2) : Gm d l m F H F2 H2 := a.trans (Gm.of b)
theorem Gm.draw (a : Gm d l m F H F1 H1) (D : IsDeal H2 d l) (k : Kp d l H1 H2) : Gm d l m F H F1 H2 := a.go ((Go.refl a.w).draw D k)
theorem Gm.new (a : Gm d l m F H F1 H1) (hp : H1 p = none) : Gm d l m F H (upd F1 p o) (upd H1 p o) := a.go ((Go.refl a.w).new hp)
theorem Gm.newm (a : Gm d l m F H F1 H1) (hp : H1 p = none) : Gm d l m F H F1 (upd H1 p o) := a.go ((Go.refl a.w).newm hp)
/-- an object of ours, new since the start -/
theorem Gm.mut (a : Gm d l m F H F1 H1) (h : H p = none) (k : Own d l F1 H1 p u) : Gm d l m F H F1 (upd H1 p o) :=
  ⟨a.w.mut k.f k.nd k.nl, a.nf, fun b x h1 h2 h3 e => by rw [upd_ne (ne_of_none e h)]; exact a.kp b x h1 h2 h3 e, fun b e => by
    by_cases hb : b = p
    · rw [hb, upd_same]; exact fun z => by cases z
    · rw [upd_ne hb]; exact a.al b e⟩
/-- the one more -/
theorem Gm.put (a : Gm d l m F H F1 H1) (k : Own d l F1 H1 m u) : Gm d l m F H F1 (upd H1 m o) :=
  ⟨a.w.mut k.f k.nd k.nl, a.nf, fun b x h1 h2 h3 e => by rw [upd_ne h3]; exact a.kp b x h1 h2 h3 e, fun b e => by
    by_cases hb : b = m
    · rw [hb, upd_same]; exact fun z => by cases z
    · rw [upd_ne hb]; exact a.al b e⟩
theorem Gm.none (a : Gm d l m F H F1 H1) (hz : H1 z = none) : H z = none := by
  cases q : H z with
  | none => rfl
  | some o => exact absurd hz (a.al z (by rw [q]; exact fun e => by cases e))
theorem Gm.fz (a : Gm d l m F H F1 H1) : Ex F F1 := a.nf.ex
theorem Gm.sub (a : Gm d l m F H F1 H1) : Ex F1 H1 := a.w.sub
theorem Gm.ex (a : Gm d l m F H F1 H1) : Ex F H1 := a.nf.ex.trans a.w.sub
theorem Gm.deal (a : Gm d l m F H F1 H1) : IsDeal H1 d l := a.w.deal
theorem Own.gm (k : Own d l F H p o) (a : Gm d l m F H F1 H1) (h : p ≠ m) : Own d l F1 H1 p o := ⟨a.nf.nf p k.f (by rw [k.h]; exact fun e => by cases e), a.kp p o k.nd k.nl h k.h, k.nd, k.nl⟩
end
/-! ### ways: what they come to, and to which row -/
inductive Kd
  | call (q : Nat)
  | any
  | plain
def kd : Deed → Kd
  | .call q => .call q
  | .any _ => .any
  | _ => .plain
abbrev Shp := List (List (Kd × List Int))
def shp (P : Prog) : Shp := P.parts.map fun p => p.rows.map fun r => (kd r.1, r.2)
def worth (s bs : List Int) : Int := s.headD 0 + (((s.drop 1).zip bs).map fun q => q.1 * q.2).sum
abbrev WF := Nat → List Int → List PyData → Option (Nat × List Int)
/-- the boxes behind a deed -/
def deedW (rec : WF) (P : Prog) (e : Deed) (bs : List Int) (t : PyData) : Option (List Int) :=
  match e, t with
  | .any b, .int i => some (bs.set b i)
  | .rest, .none => some bs
  | .set b s, .none => some (bs.set b (worth s bs))
  | .call q, .tuple w =>
    match P.parts[q]? with
    | none => none
    | some p =>
      match rec q (bs.take P.shared.length ++ List.replicate p.own.length 0) w with
      | none => none
      | some r => if r.1 = p.rows.length then some (r.2.take P.shared.length ++ bs.drop P.shared.length) else none
  | _, _ => none
/-- what a step tells, and which going -/
def stp : PyData → Option (PyData × Int)
  | .tuple [t, .int k] => some (t, k)
  | _ => none
def stepW (rec : WF) (P : Prog) (p : Part) (st : Nat × List Int) (x : PyData) : Option (Nat × List Int) :=
  match p.rows[st.1]?, stp x with
  | some r, some tk => if 0 ≤ tk.2 ∧ tk.2 < r.2.length then (deedW rec P r.1 st.2 tk.1).map fun bs => ((r.2.getD tk.2.toNat 0).toNat, bs) else none
  | _, _ => none
/-- the row and the boxes to which a way through part q comes -/
def wayW (P : Prog) : Nat → WF
  | 0 => fun _ _ _ => none
  | n + 1 => fun q bs ds => match P.parts[q]? with
    | none => none
    | some p => ds.foldlM (stepW (wayW P n) P p) (0, bs)
abbrev RF := Nat → List PyData → Option Nat
def deedR (rec : RF) (S : Shp) (e : Kd) (t : PyData) : Bool :=
  match e, t with
  | .any, .int _ => true
  | .plain, .none => true
  | .call q, .tuple w =>
    match S[q]? with
    | none => false
    | some p => match rec q w with
      | none => false
      | some r => decide (r = p.length)
  | _, _ => false
def stepR (rec : RF) (S : Shp) (p : List (Kd × List Int)) (row : Nat) (x : PyData) : Option Nat :=
  match p[row]?, stp x with
  | some r, some tk => if 0 ≤ tk.2 ∧ tk.2 < r.2.length then (if deedR rec S r.1 tk.1 = true then some (r.2.getD tk.2.toNat 0).toNat else none) else none
  | _, _ => none
def wayR (S : Shp) : Nat → RF
  | 0 => fun _ _ => none
  | n + 1 => fun q ds => match S[q]? with
    | none => none
    | some p => ds.foldlM (stepR (wayR S n) S p) 0
section
variable {P : Prog} {n : Nat}
theorem shp_at {q : Nat} : (shp P)[q]? = (P.parts[q]?).map fun p => p.rows.map fun r => (kd r.1, r.2) := by
  unfold shp
  rw [List.getElem?_map]
theorem deed_row {rec : WF} {rr : RF} (hr : ∀ q bs w, (rec q bs w).map Prod.fst = rr q w) (e : Deed) (bs : List Int) (t : PyData) : (deedW rec P e bs t).isSome = deedR rr (shp P) (kd e) t := by
  cases e with
  | call q =>
    cases t <;> try rfl
    rename_i w
    show (deedW rec P (.call q) bs (.tuple w)).isSome = deedR rr (shp P) (.call q) (.tuple w)
    unfold deedW deedR
    dsimp only
    rw [shp_at]
    cases P.parts[q]? with
    | none => rfl
    | some p =>
      dsimp only [Option.map]
      have := hr q (bs.take P.shared.length ++ List.replicate p.own.length 0) w
      cases hw : rec q (bs.take P.shared.length ++ List.replicate p.own.length 0) w with
      | none =>
        rw [hw] at this
        have h2 : rr q w = none := this.symm
        rw [h2]
        rfl
      | some r =>
        rw [hw] at this
        have h2 : rr q w = some r.1 := this.symm
        rw [h2]
        dsimp only
        rw [List.length_map]
        by_cases h : r.1 = p.rows.length
        · rw [if_pos h, decide_eq_true h]; rfl
        · rw [if_neg h, decide_eq_false h]; rfl
  | rest => cases t <;> rfl
  | any b => cases t <;> rfl
  | set b s => cases t <;> rfl
theorem step_row {rec : WF} {rr : RF} (hr : ∀ q bs w, (rec q bs w).map Prod.fst = rr q w) (p : Part) (st : Nat × List Int) (x : PyData) :
    (stepW rec P p st x).map Prod.fst = stepR rr (shp P) (p.rows.map fun r => (kd r.1, r.2)) st.1 x := by
  unfold stepW stepR
  rw [List.getElem?_map]
  cases p.rows[st.1]? with
  | none => rfl
  | some r =>
    cases stp x with
    | none => rfl
    | some tk =>
      obtain ⟨t, k⟩ := tk
      dsimp only [Option.map]
      by_cases h : 0 ≤ k ∧ k < r.2.length
      · rw [if_pos h, if_pos h]
        have := deed_row (P := P) hr r.1 st.2 t
        cases hd : deedW rec P r.1 st.2 t with
        | none =>
          rw [hd] at this
          rw [← this]
          rfl
        | some bs =>
          rw [hd] at this
          rw [← this]
          rfl
      · rw [if_neg h, if_neg h]
theorem fold_row {rec : WF} {rr : RF} (hr : ∀ q bs w, (rec q bs w).map Prod.fst = rr q w) (p : Part) : ∀ (ds : List PyData) (st : Nat × List Int),
    (ds.foldlM (stepW rec P p) st).map Prod.fst = ds.foldlM (stepR rr (shp P) (p.rows.map fun r => (kd r.1, r.2))) st.1
  | [], st => rfl
  | x :: ds, st => by
    rw [List.foldlM_cons, List.foldlM_cons]
    have h := step_row (P := P) hr p st x
    cases hs : stepW rec P p st x with
    | none =>
      rw [hs] at h
      rw [← h]
      rfl
    | some st' =>
      rw [hs] at h
      rw [← h]
      exact fold_row hr p ds st'
theorem way_row : ∀ (n q : Nat) (bs : List Int) (w : List PyData), (wayW P n q bs w).map Prod.fst = wayR (shp P) n q w
  | 0, _, _, _ => rfl
  | n + 1, q, bs, w => by
    show (match P.parts[q]? with | none => none | some p => w.foldlM (stepW (wayW P n) P p) (0, bs)).map Prod.fst = (match (shp P)[q]? with | none => none | some p => w.foldlM (stepR (wayR (shp P) n) (shp P) p) 0)
    rw [shp_at]
    cases P.parts[q]? with
    | none => rfl
    | some p => exact fold_row (way_row n) p w (0, bs)
/-- a beginning of a way is one -/
theorem fold_take {α β : Type} {f : α → β → Option α} : ∀ {ds : List β} {a b : α} (k : Nat), ds.foldlM f a = some b → ∃ c, (ds.take k).foldlM f a = some c
  | _, a, _, 0, _ => ⟨a, by rw [List.take_zero]; rfl⟩
  | [], a, _, k + 1, _ => ⟨a, rfl⟩
  | x :: ds, a, b, k + 1, h => by
    rw [List.foldlM_cons] at h
    rw [List.take_succ_cons, List.foldlM_cons]
    cases hx : f a x with
    | none => rw [hx] at h; cases h
    | some a' =>
      rw [hx] at h
      exact fold_take (ds := ds) k h
theorem fold_snoc {α β : Type} {f : α → β → Option α} {ds : List β} {x : β} {a b : α} (h : ds.foldlM f a = some b) : (ds ++ [x]).foldlM f a = f b x := by
  rw [List.foldlM_append, h]
  show (List.foldlM f b [x]) = _
  rw [List.foldlM_cons]
  show (f b x >>= fun a => some a) = _
  cases f b x <;> rfl
end
/-- data that may be a way: so deep at most -/
def IsWay : Nat → List PyData → Prop
  | 0, _ => False
  | n + 1, ds => ds.length ≤ 500 ∧ ∀ x ∈ ds, ∃ t k, x = .tuple [t, .int k] ∧ (t = .none ∨ (∃ i, t = .int i) ∨ ∃ w, t = .tuple w ∧ IsWay n w)
def IsTold (n : Nat) (t : PyData) : Prop := t = .none ∨ (∃ i, t = .int i) ∨ ∃ w, t = .tuple w ∧ IsWay n w
theorem IsWay.mono : ∀ {n : Nat} {ds : List PyData}, IsWay n ds → IsWay (n + 1) ds
  | 0, _, h => h.elim
  | n + 1, ds, h => ⟨h.1, fun x hx => by
    obtain ⟨t, k, e, h1⟩ := h.2 x hx
    refine ⟨t, k, e, ?_⟩
    rcases h1 with h1 | h1 | ⟨w, e2, h1⟩
    · exact .inl h1
    · exact .inr (.inl h1)
    · exact .inr (.inr ⟨w, e2, h1.mono⟩)⟩
def resW : Option (Nat × List Int) → PyData
  | none => .none
  | some r => .tuple [.int (r.1 : Int), ti r.2]
def resB : Option (List Int) → PyData
  | none => .none
  | some bs => ti bs
def resL : Option (List Int) → PyData
  | none => .none
  | some bs => li bs
/-- how many boxes stand at a part's rows -/
def nb (P : Prog) (p : Part) : Nat := P.shared.length + p.own.length
section
variable {P : Prog}
theorem deed_len {rec : WF} {e : Deed} {bs bs' : List Int} {t : PyData} {m : Nat} (hs : P.shared.length ≤ bs.length) (hrec : ∀ q p bs w r, P.parts[q]? = some p → bs.length = nb P p → rec q bs w = some r → r.2.length = nb P p) (h : deedW rec P e bs t = some bs') : bs'.length = bs.length := by
  unfold deedW at h
  split at h
  · cases h; rw [List.length_set]
  · cases h; rfl
  · cases h; rw [List.length_set]
  · rename_i q w
    cases hq : P.parts[q]? with
    | none => rw [hq] at h; cases h
    | some p =>
      rw [hq] at h
      dsimp only at h
      cases hr : rec q (bs.take P.shared.length ++ List.replicate p.own.length 0) w with
      | none => rw [hr] at h; cases h
      | some r =>
        rw [hr] at h
        dsimp only at h
        by_cases e : r.1 = p.rows.length
        · rw [if_pos e] at h
          cases h
          have l1 := hrec q p _ w r hq (by rw [List.length_append, List.length_take, List.length_replicate]; unfold nb; omega) hr
          rw [List.length_append, List.length_take, List.length_drop, l1]
          unfold nb
          omega
        · rw [if_neg e] at h; cases h
  · cases h
/-- where a way comes to -/
theorem way_ok (L : LookOk P) : ∀ (n q : Nat) (p : Part) (bs : List Int) (w : List PyData) (r : Nat × List Int), P.parts[q]? = some p → bs.length = nb P p → wayW P n q bs w = some r → r.1 ≤ p.rows.length ∧ r.2.length = nb P p
  | 0, _, _, _, _, _, _, _, h => by cases h
  | n + 1, q, p, bs, w, r, hp, hb, h => by
    have h' : w.foldlM (stepW (wayW P n) P p) (0, bs) = some r := by
      have : wayW P (n + 1) q bs w = w.foldlM (stepW (wayW P n) P p) (0, bs) := by
        show (match P.parts[q]? with | none => none | some p => w.foldlM (stepW (wayW P n) P p) (0, bs)) = _
        rw [hp]
      rw [← this]; exact h
    have key : ∀ (w : List PyData) (st r : Nat × List Int), st.1 ≤ p.rows.length → st.2.length = nb P p → w.foldlM (stepW (wayW P n) P p) st = some r → r.1 ≤ p.rows.length ∧ r.2.length = nb P p := by
      intro w
      induction w with
      | nil => intro st r h1 h2 h3; cases h3; exact ⟨h1, h2⟩
      | cons x w ih =>
        intro st r h1 h2 h3
        rw [List.foldlM_cons] at h3
        cases hs : stepW (wayW P n) P p st x with
        | none => rw [hs] at h3; cases h3
        | some st' =>
          rw [hs] at h3
          refine ih st' r ?_ ?_ h3
          · unfold stepW at hs
            split at hs
            · rename_i r' tk e1 e2
              obtain ⟨t, k⟩ := tk
              dsimp only at hs
              split at hs
              · rename_i hk
                obtain ⟨bs', hb', rfl⟩ := Option.map_eq_some_iff.mp hs
                have ro := (L.part p (List.mem_of_getElem? hp)).2.2
                have hg := (ro.2.2 r' (List.mem_of_getElem? e1)).2.2.2.2
                have hki : k.toNat < r'.2.length := by omega
                have : r'.2.getD k.toNat 0 ∈ r'.2 := by
                  rw [List.getD_eq_getElem?_getD, List.getElem?_eq_getElem hki]
                  exact List.getElem_mem hki
                have := hg _ this
                show (r'.2.getD k.toNat 0).toNat ≤ _
                omega
              · cases hs
            · cases hs
          · unfold stepW at hs
            split at hs
            · split at hs
              · obtain ⟨bs', hb', rfl⟩ := Option.map_eq_some_iff.mp hs
                have := deed_len (m := 0) (by rw [h2]; unfold nb; omega) (fun q p bs w r a b c => (way_ok L n q p bs w r a b c).2) hb'
                rw [← h2]; exact this
              · cases hs
            · cases hs
    exact key w (0, bs) r (Nat.zero_le _) hb h'
end
/-! ### data alike, of any depth -/
def Ax : Nat → PyData → Prop
  | 0, d => d = .none ∨ ∃ i, d = .int i
  | n + 1, d => (d = .none ∨ ∃ i, d = .int i) ∨ ∃ ds, d = .tuple ds ∧ ds.length ≤ 1000 ∧ ∀ x ∈ ds, Ax n x
def spX (K : PySem.W.Frag) : Nat → Sp
  | 0 => fun _ _ _ _ => False
  | n + 1 => fun vs H Q _ => ∃ (v1 v2 : V) (d : PyData) (F : Hp), vs = [v1, v2] ∧ Ex F H ∧ Dp K F v1 d ∧ Dp K F v2 d ∧ Ax n d ∧ ∀ H', Ex H H' → Q (.bl true) H'
theorem ax_ti {p : List Int} (h : p.length ≤ 1000) : Ax 1 (ti p) := .inr ⟨_, rfl, by rw [List.length_map]; exact h, fun x hx => by
  obtain ⟨i, _, rfl⟩ := List.mem_map.mp hx
  exact .inr ⟨i, rfl⟩⟩
theorem ax_resW {r : Option (Nat × List Int)} (h : ∀ x, r = some x → x.2.length ≤ 1000) : Ax 2 (resW r) := by
  cases r with
  | none => exact .inl (.inl rfl)
  | some x =>
    refine .inr ⟨_, rfl, by show 2 ≤ 1000; decide, fun y hy => ?_⟩
    rcases List.mem_cons.mp hy with rfl | hy
    · exact .inl (.inr ⟨_, rfl⟩)
    · rw [List.mem_singleton.mp hy]
      exact ax_ti (h x rfl)
end CB
namespace CB
open PySem PySem.Spec PyProof.Rows L2
theorem iteND {p A B : Prop} [Decidable p] (hp : p) (h : B) : if (!decide p) = true then A else B := by rw [decide_eq_true hp]; exact h
theorem iteNN {p A B : Prop} [Decidable p] (hp : ¬ p) (h : A) : if (!decide p) = true then A else B := by rw [decide_eq_false hp]; exact h
/-- what a def of data hands back, where all stays -/
def RetE (K : PySem.W.Frag) (H : Hp) (Q : VK) (d : PyData) : Prop := ∀ v H', Ex H H' → Dp K H' v d → Q v H'
def isI : PyData → Bool
  | .int _ => true
  | _ => false
def sp_whole (K : PySem.W.Frag) : Sp := fun vs H Q _ => ∃ (v : V) (t : PyData) (n : Nat), vs = [v] ∧ Dp K H v t ∧ IsTold n t ∧ Q (.bl (isI t)) H
def sp_sumw (K : PySem.W.Frag) : Sp := fun vs H Q _ => ∃ (a b : Addr) (s bs : List Int), vs = [.ref a, .ref b] ∧ SqT K H a (s.map V.int) ∧ SqT K H b (bs.map V.int) ∧ 1 ≤ s.length ∧ s.length ≤ 200 ∧ (∀ x ∈ s, -9 ≤ x ∧ x ≤ 9) ∧ ∀ H', Ex H H' → Q (.int (worth s bs)) H'
def sp_with_box (K : PySem.W.Frag) : Sp := fun vs H Q _ => ∃ (a : Addr) (b : Nat) (x : Int) (bs : List Int), vs = [.ref a, .int (b : Int), .int x] ∧ SqT K H a (bs.map V.int) ∧ b < bs.length ∧ bs.length ≤ 100 ∧ RetE K H Q (ti (bs.set b x))
def sp_begun (K : PySem.W.Frag) : Sp := fun vs H Q _ => ∃ (v : V) (P : Prog) (q : Nat) (p : Part) (a : Addr) (bs : List Int), vs = [v, .int (q : Int), .ref a] ∧ Dp K H v (dProg P) ∧ P.parts[q]? = some p ∧ p.own.length ≤ 10 ∧ SqT K H a (bs.map V.int) ∧ bs.length ≤ 100 ∧ RetE K H Q (ti (bs ++ List.replicate p.own.length 0))
def sp_call_done (K : PySem.W.Frag) (n : Nat) : Sp := fun vs H Q _ => ∃ (v : V) (P : Prog) (q : Nat) (p : Part) (a : Addr) (bs : List Int) (vt : V) (t : PyData), vs = [v, .int (q : Int), .ref a, vt] ∧ Dp K H v (dProg P) ∧ LookOk P ∧ P.parts[q]? = some p ∧ SqT K H a (bs.map V.int) ∧ P.shared.length ≤ bs.length ∧ bs.length ≤ 100 ∧ Dp K H vt t ∧ IsTold n t ∧ RetE K H Q (resB (deedW (wayW P n) P (.call q) bs t))
def sp_deed_done (K : PySem.W.Frag) (n : Nat) : Sp := fun vs H Q _ => ∃ (v : V) (P : Prog) (vd : V) (e : Deed) (a : Addr) (bs : List Int) (vt : V) (t : PyData), vs = [v, vd, .ref a, vt] ∧ Dp K H v (dProg P) ∧ LookOk P ∧ Dp K H vd (dDeed e) ∧ OkDeed bs.length P.parts.length e ∧ SqT K H a (bs.map V.int) ∧ P.shared.length ≤ bs.length ∧ bs.length ≤ 100 ∧ Dp K H vt t ∧ IsTold n t ∧ RetE K H Q (resB (deedW (wayW P n) P e bs t))
def sp_way_done (K : PySem.W.Frag) : Nat → Sp
  | 0 => fun _ _ _ _ => False
  | n + 1 => fun vs H Q _ => ∃ (v : V) (P : Prog) (q : Nat) (p : Part) (a : Addr) (bs : List Int) (vw : V) (ds : List PyData), vs = [v, .int (q : Int), .ref a, vw] ∧ Dp K H v (dProg P) ∧ LookOk P ∧ P.parts[q]? = some p ∧ SqT K H a (bs.map V.int) ∧ bs.length = nb P p ∧ Dp K H vw (.tuple ds) ∧ IsWay (n + 1) ds ∧ RetE K H Q (resW (wayW P (n + 1) q bs ds))
theorem worth_take {s bs : List Int} {i : Nat} {x y : Int} (hx : (s.drop 1)[i]? = some x) (hy : bs[i]? = some y) : (((((s.drop 1).zip bs).take (i + 1)).map fun q => q.1 * q.2).sum : Int) = ((((s.drop 1).zip bs).take i).map fun q => q.1 * q.2).sum + x * y := by
  rw [take_zip_snoc hx hy, List.map_append, List.sum_append]
  simp
theorem set_parts {bs : List Int} {b : Nat} {x : Int} (h : b < bs.length) : bs.take b ++ [x] ++ bs.drop (b + 1) = bs.set b x := by
  rw [List.set_eq_take_append_cons_drop, if_pos h, List.append_assoc]
  rfl
theorem fold_next {α β : Type} {f : α → β → Option α} {ds : List β} {i : Nat} {x : β} {a b : α} (h : (ds.take i).foldlM f a = some b) (e : ds[i]? = some x) : (ds.take (i + 1)).foldlM f a = f b x := by
  rw [List.take_add_one, e]
  exact fold_snoc h
theorem fold_fail {α β : Type} {f : α → β → Option α} {ds : List β} {i : Nat} {x : β} {a b : α} (h : (ds.take i).foldlM f a = some b) (e : ds[i]? = some x) (hn : f b x = none) : ds.foldlM f a = none := by
  have h1 : (ds.take (i + 1)).foldlM f a = none := by rw [fold_next h e]; exact hn
  have h2 : ds.foldlM f a = ((ds.take (i + 1)) ++ ds.drop (i + 1)).foldlM f a := by rw [List.take_append_drop]
  rw [h2, List.foldlM_append, h1]
  rfl
theorem way_eq {P : Prog} {n q : Nat} {p : Part} {bs : List Int} {ds : List PyData} (h : P.parts[q]? = some p) : wayW P (n + 1) q bs ds = ds.foldlM (stepW (wayW P n) P p) (0, bs) := by
  show (match P.parts[q]? with | none => none | some p => ds.foldlM (stepW (wayW P n) P p) (0, bs)) = _
  rw [h]
theorem slN_by {K : PySem.W.Frag} {H : Hp} {a : Addr} {xs : List V} {lo : Option Int} {σ : L2.St} {Q : VK} (h : SqT K H a xs) (q : ∀ t H', Ex H H' → SqT K H' t (cutV xs lo none) → Q (.ref t) H') : tNoPart σ H (fun u H3 => rSlA K (.ref a) lo u H3 Q) := slA_by h q
/-- whether what is told suits a deed -/
def suit : Deed → PyData → Bool
  | .any _, .int _ => true
  | .call _, .tuple _ => true
  | .rest, .none => true
  | .set _ _, .none => true
  | _, _ => false
theorem suit_none {rec : WF} {P : Prog} {e : Deed} {bs : List Int} {t : PyData} (h : suit e t = false) : deedW rec P e bs t = none := by
  cases e <;> cases t <;> first | rfl | cases h
def sp_behindW (K : PySem.W.Frag) (n : Nat) : Sp := fun vs H Q _ => ∃ (v : V) (P : Prog) (i : Int) (vd : V) (e : Deed) (a : Addr) (bs : List Int) (vt : V) (t : PyData), vs = [v, .int i, .ref a, vd, vt] ∧ Dp K H v (dProg P) ∧ LookOk P ∧ Dp K H vd (dDeed e) ∧ OkDeed bs.length P.parts.length e ∧ SqL K H a (bs.map V.int) ∧ P.shared.length ≤ bs.length ∧ bs.length ≤ 100 ∧ Dp K H vt t ∧ IsTold n t ∧ RetE K H Q (resL (deedW (wayW P n) P e bs t))
def sp_goneW (K : PySem.W.Frag) : Nat → Sp
  | 0 => fun _ _ _ _ => False
  | n + 1 => fun vs H Q _ => ∃ (v : V) (P : Prog) (q : Nat) (p : Part) (a : Addr) (bs : List Int) (vw : V) (ds : List PyData), vs = [v, .int (q : Int), .ref a, vw] ∧ Dp K H v (dProg P) ∧ LookOk P ∧ P.parts[q]? = some p ∧ SqL K H a (bs.map V.int) ∧ bs.length = nb P p ∧ Dp K H vw (.tuple ds) ∧ IsWay (n + 1) ds ∧ RetE K H Q (resW (wayW P (n + 1) q bs ds))
/-- a row's numbers multiplied with boxes -/
theorem mul_take {s bs : List Int} {i : Nat} {x y : Int} (hx : s[i]? = some x) (hy : bs[i]? = some y) : ((s.zip bs).map fun q => q.1 * q.2).take (i + 1) = ((s.zip bs).map fun q => q.1 * q.2).take i ++ [x * y] := by
  rw [← List.map_take, ← List.map_take, take_zip_snoc hx hy, List.map_append]
  rfl
def deedItems : Deed → List PyData
  | .call k => [.str "call", .int (k : Int)]
  | .rest => [.str "rest"]
  | .any b => [.str "any", .int (b : Int)]
  | .set b s => [.str "set", .int (b : Int), ti s]
def deedWord : Deed → Str
  | .call _ => "call"
  | .rest => "rest"
  | .any _ => "any"
  | .set _ _ => "set"
theorem deed_items {K : PySem.W.Frag} {H : Hp} {v : V} {e : Deed} (h : Dp K H v (dDeed e)) : ∃ a xd, v = .ref a ∧ SqT K H a xd ∧ DpAll K H xd (deedItems e) ∧ atI xd 0 = some (.str (deedWord e)) := by
  have key : ∃ a xd, v = .ref a ∧ SqT K H a xd ∧ DpAll K H xd (deedItems e) := by
    cases e <;> exact h.tup_inv
  obtain ⟨a, xd, rfl, s, d⟩ := key
  refine ⟨a, xd, rfl, s, d, ?_⟩
  have h0 : (deedItems e)[0]? = some (.str (deedWord e)) := by cases e <;> rfl
  obtain ⟨x, ex, dx⟩ := d.get' h0
  cases dx.str_inv
  exact atI_nat (j := 0) ex
theorem deed_one {K : PySem.W.Frag} {H : Hp} {xd : List V} {e : Deed} {j : Int} (d : DpAll K H xd (deedItems e)) (h : (deedItems e)[1]? = some (.int j)) : atI xd 1 = some (.int j) := by
  obtain ⟨x, ex, dx⟩ := d.get' h
  cases dx.int_inv
  exact atI_nat (j := 1) ex
theorem deed_two {K : PySem.W.Frag} {H : Hp} {xd : List V} {b : Nat} {s : List Int} (d : DpAll K H xd (deedItems (.set b s))) : ∃ az, atI xd 2 = some (.ref az) ∧ SqT K H az (s.map V.int) := by
  obtain ⟨x, ex, dx⟩ := d.get' (i := 2) (d := ti s) rfl
  obtain ⟨az, rfl, sz⟩ := dx.ti_inv
  exact ⟨az, atI_nat (j := 2) ex, sz⟩
/-- the promise of a way drawn: so deep at most -/
def sp_walk (K : PySem.W.Frag) : Nat → Sp
  | 0 => fun _ _ _ _ => False
  | n + 1 => fun vs H Q _ => ∃ (d l : Addr) (v : V) (P : Prog) (q : Nat) (p : Part) (m : Addr) (r : Nat) (F : Hp), vs = [.ref d, v, .int (q : Int), .ref m, .int (n : Int)] ∧ Wr d l F H ∧ Dp K F v (dProg P) ∧ LookOk P ∧ P.parts[q]? = some p ∧ Own d l F H m (.lst [.int (r : Int)]) ∧ r ≤ 60 ∧
    ∀ v' F' H' ds at_ r', Gm d l m F H F' H' → Own d l F' H' m (.lst [.int ((r' : Nat) : Int)]) → r' ≤ r → Dp K F' v' (.tuple [.tuple ds, .int ((at_ : Nat) : Int)]) → IsWay (n + 1) ds → ds.length ≤ 60 → wayR (shp P) (n + 1) q ds = some at_ → at_ ≤ p.rows.length → Q v' H'
theorem wayR_eq {S : Shp} {n q : Nat} {p : List (Kd × List Int)} {ds : List PyData} (h : S[q]? = some p) : wayR S (n + 1) q ds = ds.foldlM (stepR (wayR S n) S p) 0 := by
  show (match S[q]? with | none => none | some p => ds.foldlM (stepR (wayR S n) S p) 0) = _
  rw [h]
theorem stepR_eq {rr : RF} {S : Shp} {p : List (Kd × List Int)} {r : Nat} {t : PyData} {k : Int} {e : Kd} {go : List Int} (h : p[r]? = some (e, go)) (hk : 0 ≤ k ∧ k < go.length) (hd : deedR rr S e t = true) : stepR rr S p r (.tuple [t, .int k]) = some (go.getD k.toNat 0).toNat := by
  unfold stepR
  rw [h]
  show (if 0 ≤ k ∧ k < go.length then (if deedR rr S e t = true then some (go.getD k.toNat 0).toNat else none) else none) = _
  rw [if_pos hk, if_pos hd]
theorem isWay_snoc {n : Nat} {ds : List PyData} {t : PyData} {k : Int} (h : IsWay (n + 1) ds) (hl : ds.length < 500) (ht : IsTold n t) : IsWay (n + 1) (ds ++ [.tuple [t, .int k]]) := by
  refine ⟨by rw [List.length_append]; show ds.length + 1 ≤ 500; omega, fun x hx => ?_⟩
  rcases List.mem_append.mp hx with h1 | h1
  · exact h.2 x h1
  · exact ⟨t, k, List.mem_singleton.mp h1, ht⟩
end CB

set_option Elab.async false
set_option linter.all false
set_option maxRecDepth 100000
set_option maxHeartbeats 4000000
/-! ways in programs alike; what the laws of ways promise -/
namespace CB
open PySem PySem.Spec PyProof.Rows L2
theorem deedR_mono {rr rr' : RF} {S : Shp} {e : Kd} {t : PyData} (h : ∀ q w r, rr q w = some r → rr' q w = some r) (k : deedR rr S e t = true) : deedR rr' S e t = true := by
  unfold deedR at k ⊢
  split at k
  · rfl
  · rfl
  · rename_i q w
    cases hq : S[q]? with
    | none => rw [hq] at k; cases k
    | some p =>
      rw [hq] at k
      dsimp only at k ⊢
      cases hr : rr q w with
      | none => rw [hr] at k; cases k
      | some r =>
        rw [hr] at k
        rw [h q w r hr]
        exact k
  · cases k
theorem stepR_mono {rr rr' : RF} {S : Shp} {p : List (Kd × List Int)} {r r2 : Nat} {x : PyData} (h : ∀ q w r, rr q w = some r → rr' q w = some r) (k : stepR rr S p r x = some r2) : stepR rr' S p r x = some r2 := by
  unfold stepR at k ⊢
  cases hp : p[r]? with
  | none => rw [hp] at k; cases k
  | some y =>
    rw [hp] at k
    cases hx : stp x with
    | none => rw [hx] at k; cases k
    | some tk =>
      rw [hx] at k
      dsimp only at k ⊢
      by_cases hk : 0 ≤ tk.2 ∧ tk.2 < y.2.length
      · rw [if_pos hk] at k ⊢
        by_cases hd : deedR rr S y.1 tk.1 = true
        · rw [if_pos hd] at k
          rw [if_pos (deedR_mono h hd)]
          exact k
        · rw [if_neg hd] at k; cases k
      · rw [if_neg hk] at k; cases k
theorem foldR_mono {rr rr' : RF} {S : Shp} {p : List (Kd × List Int)} (h : ∀ q w r, rr q w = some r → rr' q w = some r) : ∀ {ds : List PyData} {a r : Nat}, ds.foldlM (stepR rr S p) a = some r → ds.foldlM (stepR rr' S p) a = some r
  | [], _, _, k => k
  | x :: ds, a, r, k => by
    rw [List.foldlM_cons] at k ⊢
    cases hs : stepR rr S p a x with
    | none => rw [hs] at k; cases k
    | some b =>
      rw [hs] at k
      rw [stepR_mono h hs]
      exact foldR_mono h (ds := ds) k
theorem wayR_mono {S : Shp} : ∀ (n q : Nat) (ds : List PyData) (r : Nat), wayR S n q ds = some r → wayR S (n + 1) q ds = some r
  | 0, _, _, _, h => by cases h
  | n + 1, q, ds, r, h => by
    cases hq : S[q]? with
    | none =>
      have : wayR S (n + 1) q ds = none := by
        show (match S[q]? with | none => none | some p => ds.foldlM (stepR (wayR S n) S p) 0) = none
        rw [hq]
      rw [this] at h
      cases h
    | some p =>
      rw [wayR_eq hq] at h ⊢
      exact foldR_mono (wayR_mono n) h
/-- a beginning of a way comes to some row -/
theorem wayR_take {S : Shp} {n q : Nat} {ds : List PyData} {r : Nat} (k : Nat) (h : wayR S (n + 1) q ds = some r) : ∃ r', wayR S (n + 1) q (ds.take k) = some r' := by
  cases hq : S[q]? with
  | none =>
    have : wayR S (n + 1) q ds = none := by
      show (match S[q]? with | none => none | some p => ds.foldlM (stepR (wayR S n) S p) 0) = none
      rw [hq]
    rw [this] at h
    cases h
  | some p =>
    rw [wayR_eq hq] at h ⊢
    exact fold_take k h
theorem IsWay.take {n : Nat} {ds : List PyData} (k : Nat) (h : IsWay (n + 1) ds) : IsWay (n + 1) (ds.take k) := ⟨by rw [List.length_take]; have := h.1; omega, fun x hx => h.2 x (List.mem_of_mem_take hx)⟩
theorem dpAll_take {K : PySem.W.Frag} {F : Hp} : ∀ {xs : List V} {ds : List PyData} (k : Nat), DpAll K F xs ds → DpAll K F (xs.take k) (ds.take k)
  | _, _, 0, _ => .nil
  | _, _, k + 1, .nil => .nil
  | _, _, k + 1, .cons h hs => .cons h (dpAll_take k hs)
/-! ### the number by itself another one -/
def nxt (x : Int) : Int := if x = 9 then -9 else x + 1
def likeD : Deed → Deed
  | .set b s => .set b (nxt (s.headD 0) :: s.drop 1)
  | e => e
def likeRow (r : Deed × List Int) : Deed × List Int := (likeD r.1, r.2)
def likePart (p : Part) : Part := ⟨p.name, p.own, p.rows.map likeRow⟩
def likeP (P : Prog) : Prog := ⟨P.shared, P.parts.map likePart⟩
theorem kd_like (e : Deed) : kd (likeD e) = kd e := by cases e <;> rfl
theorem shp_like (P : Prog) : shp (likeP P) = shp P := by
  unfold shp likeP
  dsimp only
  rw [List.map_map]
  refine List.map_congr_left fun p _ => ?_
  show (p.rows.map likeRow).map _ = p.rows.map _
  rw [List.map_map]
  refine List.map_congr_left fun r _ => ?_
  show (kd (likeD r.1), r.2) = (kd r.1, r.2)
  rw [kd_like]
theorem okDeed_like {n parts : Nat} {e : Deed} (h : OkDeed n parts e) : OkDeed n parts (likeD e) := by
  cases e with
  | set b s =>
    obtain ⟨h1, h2, h3⟩ := h
    cases s with
    | nil => simp at h2
    | cons x r =>
      refine ⟨h1, h2, fun y hy => ?_⟩
      rcases List.mem_cons.mp hy with rfl | hy
      · have := h3 x List.mem_cons_self
        show -9 ≤ nxt x ∧ nxt x ≤ 9
        unfold nxt
        split <;> omega
      · exact h3 y (List.mem_cons_of_mem _ hy)
  | _ => exact h
theorem look_like {P : Prog} (L : LookOk P) : LookOk (likeP P) := by
  have el : (likeP P).parts.length = P.parts.length := List.length_map ..
  refine ⟨by rw [el]; exact L.p1, by rw [el]; exact L.p3, L.nd, ?_, fun q hq => ?_⟩
  · show ((P.parts.map likePart).map Part.name).Nodup
    rw [List.map_map]
    exact L.names
  · obtain ⟨p, hp, rfl⟩ := List.mem_map.mp hq
    obtain ⟨h1, h2, r1, r2, r3⟩ := L.part p hp
    have e1 : (p.rows.map likeRow).length = p.rows.length := List.length_map ..
    refine ⟨h1, h2, ?_⟩
    show OkRows (P.shared.length + p.own.length) (likeP P).parts.length 5 (p.rows.map likeRow)
    rw [el]
    refine ⟨by omega, by omega, fun r hr => ?_⟩
    obtain ⟨r0, hr0, rfl⟩ := List.mem_map.mp hr
    rw [e1]
    exact ⟨okDeed_like (r3 r0 hr0).1, (r3 r0 hr0).2⟩
theorem like_at {P : Prog} {q : Nat} {p : Part} (h : P.parts[q]? = some p) : (likeP P).parts[q]? = some (likePart p) ∧ nb (likeP P) (likePart p) = nb P p := by
  refine ⟨?_, rfl⟩
  show (P.parts.map likePart)[q]? = _
  rw [List.getElem?_map, h]
  rfl
def sp_like (K : PySem.W.Frag) : Sp := fun vs H Q _ => ∃ (v : V) (P : Prog), vs = [v] ∧ Dp K H v (dProg P) ∧ LookOk P ∧ RetE K H Q (dProg (likeP P))
def sp_lboxes (K : PySem.W.Frag) : Sp := fun vs H Q _ => ∃ (d l : Addr) (many : Nat) (F : Hp), vs = [.ref d, .int (many : Int)] ∧ Wr d l F H ∧ many ≤ 100 ∧ ∀ v F' H' bs, Go d l F H F' H' → Dp K F' v (ti bs) → bs.length = many → Q v H'
def sp_right18 (K : PySem.W.Frag) : Sp := fun vs H Q _ => ∃ (v : V) (P : Prog) (q : Nat) (p : Part) (a : Addr) (bs : List Int) (vw : V) (ds : List PyData) (at_ : Nat), vs = [v, .int (q : Int), .ref a, vw] ∧ Dp K H v (dProg P) ∧ LookOk P ∧ P.parts[q]? = some p ∧ SqT K H a (bs.map V.int) ∧ bs.length = nb P p ∧ Dp K H vw (.tuple ds) ∧ IsWay 6 ds ∧ wayR (shp P) 6 q ds = some at_ ∧ ∀ H', Ex H H' → Q (.bl true) H'
theorem Gm.toGo {d l m : Addr} {F H F1 H1 F2 H2 : Hp} (a : Go d l F H F1 H1) (h : H m = Option.none) (b : Gm d l m F1 H1 F2 H2) : Go d l F H F2 H2 :=
  ⟨b.w, a.nf.trans a.w a.kp b.nf, fun x o h1 h2 e => b.kp x o h1 h2 (ne_of_none e h) (a.kp x o h1 h2 e)⟩
/-- what is heard: a part, boxes, a way -/
def It18 (K : PySem.W.Frag) (F : Hp) (P : Prog) (x : V) : Prop := ∃ (t : Addr) (q : Nat) (p : Part) (ab : Addr) (bs : List Int) (vw : V) (ds : List PyData) (at_ : Nat), x = .ref t ∧ SqT K F t [.int (q : Int), .ref ab, vw] ∧ P.parts[q]? = some p ∧ SqT K F ab (bs.map V.int) ∧ bs.length = nb P p ∧ Dp K F vw (.tuple ds) ∧ IsWay 6 ds ∧ wayR (shp P) 6 q ds = some at_
theorem It18.ex {K : PySem.W.Frag} {F F' : Hp} {P : Prog} {x : V} (e : Ex F F') (h : It18 K F P x) : It18 K F' P x := by
  obtain ⟨t, q, p, ab, bs, vw, ds, at_, e1, s1, ep, s2, l, dw, hw, hr⟩ := h
  exact ⟨t, q, p, ab, bs, vw, ds, at_, e1, ex_T e s1, ep, ex_T e s2, l, dw.ex e, hw, hr⟩
/-- an object of ours, still to be changed, where nothing is drawn -/
structure Mu (F H : Hp) (p : Addr) (o : HO) : Prop where
  f : F p = none
  h : H p = some o
section
variable {F H F1 H1 : Hp} {p z : Addr} {o u : HO}
theorem Mu.new (e : Ex F H) (hp : H p = none) : Mu F (upd H p o) p o := ⟨sub_none e hp, upd_same⟩
theorem Mu.gr (m : Mu F H p o) (g : Gr NoS F H F1 H1) : Mu F1 H1 p o := ⟨(g.keepm (fun h => h) m.f m.h).1, (g.keepm (fun h => h) m.f m.h).2⟩
theorem Mu.ne (m : Mu F H p o) (hz : H z = none) : p ≠ z := ne_of_none m.h hz
theorem Mu.fresh (m : Mu F H p o) (hz : H z = none) : Mu (upd F z u) (upd H z u) p o := ⟨by rw [upd_ne (m.ne hz)]; exact m.f, by rw [upd_ne (m.ne hz)]; exact m.h⟩
theorem Mu.freshm (m : Mu F H p o) (hz : H z = none) : Mu F (upd H z u) p o := ⟨m.f, by rw [upd_ne (m.ne hz)]; exact m.h⟩
theorem Mu.put (m : Mu F H p o) : Mu F (upd H p u) p u := ⟨m.f, upd_same⟩
theorem Mu.other (m : Mu F H p o) (h : p ≠ z) : Mu F (upd H z u) p o := ⟨m.f, by rw [upd_ne h]; exact m.h⟩
theorem Mu.L {K : PySem.W.Frag} {xs : List V} (m : Mu F H p (.lst xs)) : SqL K H p xs := SqL.of m.h
end
section
variable {K : PySem.W.Frag} {F H : Hp} {a b : Addr} {xs ys : List V} {lo hi : Option Int} {Q : VK}
theorem slG (hF : Ex F H) (h : SqT K F a xs) (q : ∀ t F' H', Gr NoS F H F' H' → SqT K F' t (cutV xs lo hi) → Q (.ref t) H') : rSlA K (.ref a) lo hi H Q := by
  refine ⟨a, _, rfl, ex_T hF h, fun e => ?_, fun _ t nt => q t _ _ ((Gr.refl hF).new nt) (SqT.of upd_same)⟩
  refine q a F H (Gr.refl hF) ?_
  have : cutV xs lo hi = xs := by
    unfold cutV
    rw [e.1, e.2, List.drop_zero, Nat.sub_zero, List.take_length]
  rw [this]
  exact h
theorem slNG {σ : L2.St} (hF : Ex F H) (h : SqT K F a xs) (q : ∀ t F' H', Gr NoS F H F' H' → SqT K F' t (cutV xs lo none) → Q (.ref t) H') : tNoPart σ H (fun u H3 => rSlA K (.ref a) lo u H3 Q) := slG hF h q
theorem catG (hF : Ex F H) (h : SqT K F a xs) (h2 : SqT K F b ys) (hl : xs.length + ys.length ≤ 1000) (q : ∀ t F' H', Gr NoS F H F' H' → SqT K F' t (xs ++ ys) → Q (.ref t) H') : rCatA K (.ref a) (.ref b) H Q := by
  refine ⟨a, b, _, _, rfl, rfl, ex_T hF h, ex_T hF h2, Nat.le_of_lt (small1000 hl), fun e => ?_, fun _ e => ?_, fun _ _ t nt => q t _ _ ((Gr.refl hF).new nt) (SqT.of upd_same)⟩
  · subst e
    exact q b F H (Gr.refl hF) h2
  · subst e
    exact q a F H (Gr.refl hF) (by rw [List.append_nil]; exact h)
end
end CB

set_option Elab.async false
set_option linter.all false
set_option maxRecDepth 100000
set_option maxHeartbeats 4000000
/-! runs: ways within calls that go on -/
namespace CB
open PySem PySem.Spec PyProof.Rows L2
abbrev RS := Nat × Nat × List Int
def cal : Deed → Option Nat
  | .call q => some q
  | _ => none
def calK : Kd → Option Nat
  | .call q => some q
  | _ => none
/-- the part that a row calls -/
def calledW (P : Prog) (q r : Nat) : Option Nat := (P.parts[q]?).bind fun p => (p.rows[r]?).bind fun x => cal x.1
def calledR (S : Shp) (q r : Nat) : Option Nat := (S[q]?).bind fun p => (p[r]?).bind fun x => calK x.1
def beginW (P : Prog) (p : Part) (bs : List Int) : List Int := bs.take P.shared.length ++ List.replicate p.own.length 0
def nextW (P : Prog) (n : Nat) (st : RS) (ds : List PyData) : Option RS :=
  match calledW P st.1 st.2.1 with
  | none => none
  | some q => match P.parts[q]? with
    | none => none
    | some p => (wayW P n q (beginW P p st.2.2) ds).map fun r => (q, r)
def firstW (P : Prog) (n : Nat) (sh : List Int) (ds : List PyData) : Option RS :=
  match P.parts[0]? with
  | none => none
  | some p => (wayW P n 0 (sh ++ List.replicate p.own.length 0) ds).map fun r => (0, r)
def runW (P : Prog) (n : Nat) (sh : List Int) : List (List PyData) → Option RS
  | [] => none
  | w :: ws => match firstW P n sh w with
    | none => none
    | some st => ws.foldlM (nextW P n) st
def nextR (S : Shp) (n : Nat) (st : Nat × Nat) (ds : List PyData) : Option (Nat × Nat) :=
  match calledR S st.1 st.2 with
  | none => none
  | some q => (wayR S n q ds).map fun r => (q, r)
def runR (S : Shp) (n : Nat) : List (List PyData) → Option (Nat × Nat)
  | [] => none
  | w :: ws => match wayR S n 0 w with
    | none => none
    | some r => ws.foldlM (nextR S n) (0, r)
def rowOf (s : RS) : Nat × Nat := (s.1, s.2.1)
section
variable {P : Prog} {n : Nat}
theorem called_row (q r : Nat) : calledW P q r = calledR (shp P) q r := by
  unfold calledW calledR
  rw [shp_at]
  cases P.parts[q]? with
  | none => rfl
  | some p =>
    show (p.rows[r]?).bind _ = ((p.rows.map fun r => (kd r.1, r.2))[r]?).bind _
    rw [List.getElem?_map]
    cases p.rows[r]? with
    | none => rfl
    | some x =>
      show cal x.1 = calK (kd x.1)
      cases x.1 <;> rfl
theorem next_row (hL : LookOk P) (st : RS) (ds : List PyData) : (nextW P n st ds).map rowOf = nextR (shp P) n (rowOf st) ds := by
  unfold nextW nextR
  rw [called_row]
  show _ = match calledR (shp P) st.1 st.2.1 with | none => none | some q => (wayR (shp P) n q ds).map fun r => (q, r)
  cases hc : calledR (shp P) st.1 st.2.1 with
  | none => rfl
  | some q =>
    dsimp only
    cases hq : P.parts[q]? with
    | none =>
      have : wayR (shp P) n q ds = none := by
        cases n with
        | zero => rfl
        | succ n =>
          show (match (shp P)[q]? with | none => none | some p => ds.foldlM (stepR (wayR (shp P) n) (shp P) p) 0) = none
          rw [shp_at, hq]
          rfl
      rw [this]
      rfl
    | some p =>
      dsimp only
      rw [← way_row n q (beginW P p st.2.2) ds]
      cases wayW P n q (beginW P p st.2.2) ds <;> rfl
theorem foldRun_row (hL : LookOk P) : ∀ (ws : List (List PyData)) (st : RS), (ws.foldlM (nextW P n) st).map rowOf = ws.foldlM (nextR (shp P) n) (rowOf st)
  | [], st => rfl
  | w :: ws, st => by
    rw [List.foldlM_cons, List.foldlM_cons]
    have h := next_row (n := n) hL st w
    cases hs : nextW P n st w with
    | none =>
      rw [hs] at h
      rw [← h]
      rfl
    | some st' =>
      rw [hs] at h
      rw [← h]
      exact foldRun_row hL ws st'
theorem run_row (hL : LookOk P) (sh : List Int) (ws : List (List PyData)) : (runW P n sh ws).map rowOf = runR (shp P) n ws := by
  cases ws with
  | nil => rfl
  | cons w ws =>
    show (match firstW P n sh w with | none => none | some st => ws.foldlM (nextW P n) st).map rowOf = (match wayR (shp P) n 0 w with | none => none | some r => ws.foldlM (nextR (shp P) n) (0, r))
    have hp : 0 < P.parts.length := hL.p1
    have ep : P.parts[0]? = some P.parts[0] := List.getElem?_eq_getElem hp
    unfold firstW
    rw [ep, ← way_row n 0 (sh ++ List.replicate P.parts[0].own.length 0) w]
    dsimp only
    cases wayW P n 0 (sh ++ List.replicate P.parts[0].own.length 0) w with
    | none => rfl
    | some r => exact foldRun_row hL ws (0, r)
end
def resR : Option RS → PyData
  | none => .none
  | some s => .tuple [.tuple [.int (s.1 : Int), .int (s.2.1 : Int)], ti s.2.2]
theorem ax_resR {r : Option RS} (h : ∀ x, r = some x → x.2.2.length ≤ 1000) : Ax 2 (resR r) := by
  cases r with
  | none => exact .inl (.inl rfl)
  | some x =>
    refine .inr ⟨_, rfl, by show 2 ≤ 1000; decide, fun y hy => ?_⟩
    rcases List.mem_cons.mp hy with rfl | hy
    · refine .inr ⟨_, rfl, by show 2 ≤ 1000; decide, fun z hz => ?_⟩
      rcases List.mem_cons.mp hz with rfl | hz
      · exact .inr ⟨_, rfl⟩
      · rw [List.mem_singleton.mp hz]
        exact .inr ⟨_, rfl⟩
    · rw [List.mem_singleton.mp hy]
      exact ax_ti (h x rfl)
/-- a state of a run stands at a row of a part -/
def RsOk (P : Prog) (s : RS) : Prop := ∃ p, P.parts[s.1]? = some p ∧ s.2.1 ≤ p.rows.length ∧ s.2.2.length = nb P p
section
variable {P : Prog} {n : Nat}
theorem begin_len {p : Part} {bs : List Int} (h : P.shared.length ≤ bs.length) : (beginW P p bs).length = nb P p := by
  unfold beginW nb
  rw [List.length_append, List.length_take, List.length_replicate]
  omega
theorem first_ok (L : LookOk P) {sh : List Int} {ds : List PyData} {s : RS} (hs : sh.length = P.shared.length) (h : firstW P n sh ds = some s) : RsOk P s := by
  unfold firstW at h
  cases hp : P.parts[0]? with
  | none => rw [hp] at h; cases h
  | some p =>
    rw [hp] at h
    obtain ⟨r, hr, rfl⟩ := Option.map_eq_some_iff.mp h
    obtain ⟨h1, h2⟩ := way_ok L n 0 p _ ds r hp (by rw [List.length_append, List.length_replicate]; unfold nb; omega) hr
    exact ⟨p, hp, h1, h2⟩
theorem next_ok (L : LookOk P) {st s : RS} {ds : List PyData} (hst : RsOk P st) (h : nextW P n st ds = some s) : RsOk P s := by
  obtain ⟨p0, _, _, hl⟩ := hst
  unfold nextW at h
  cases hc : calledW P st.1 st.2.1 with
  | none => rw [hc] at h; cases h
  | some q =>
    rw [hc] at h
    dsimp only at h
    cases hp : P.parts[q]? with
    | none => rw [hp] at h; cases h
    | some p =>
      rw [hp] at h
      obtain ⟨r, hr, rfl⟩ := Option.map_eq_some_iff.mp h
      obtain ⟨h1, h2⟩ := way_ok L n q p _ ds r hp (begin_len (by rw [hl]; unfold nb; omega)) hr
      exact ⟨p, hp, h1, h2⟩
theorem run_ok (L : LookOk P) {sh : List Int} (hs : sh.length = P.shared.length) {ws : List (List PyData)} {s : RS} (h : runW P n sh ws = some s) : RsOk P s := by
  cases ws with
  | nil => cases h
  | cons w ws =>
    have h' : (match firstW P n sh w with | none => none | some st => ws.foldlM (nextW P n) st) = some s := h
    cases hf : firstW P n sh w with
    | none => rw [hf] at h'; cases h'
    | some st =>
      rw [hf] at h'
      have key : ∀ (ws : List (List PyData)) (st : RS), RsOk P st → ws.foldlM (nextW P n) st = some s → RsOk P s := by
        intro ws
        induction ws with
        | nil => intro st a b; cases b; exact a
        | cons x ws ih =>
          intro st a b
          rw [List.foldlM_cons] at b
          cases hx : nextW P n st x with
          | none => rw [hx] at b; cases b
          | some st' =>
            rw [hx] at b
            exact ih st' (next_ok L a hx) b
      exact key ws st (first_ok L hs hf) h'
end
def IsRun (n : Nat) (ws : List (List PyData)) : Prop := ws.length ≤ 100 ∧ ∀ w ∈ ws, IsWay n w
abbrev dRun (ws : List (List PyData)) : PyData := .tuple (ws.map PyData.tuple)
def sp_called_at (K : PySem.W.Frag) : Sp := fun vs H Q _ => ∃ (v : V) (P : Prog) (q r : Nat) (p : Part), vs = [v, .int (q : Int), .int (r : Int)] ∧ Dp K H v (dProg P) ∧ P.parts[q]? = some p ∧ r ≤ p.rows.length ∧ Q (match calledW P q r with | none => .non | some c => .int (c : Int)) H
def sp_run_done (K : PySem.W.Frag) (n : Nat) : Sp := fun vs H Q _ => ∃ (v : V) (P : Prog) (a : Addr) (sh : List Int) (vr : V) (ws : List (List PyData)), vs = [v, .ref a, vr] ∧ Dp K H v (dProg P) ∧ LookOk P ∧ SqT K H a (sh.map V.int) ∧ sh.length = P.shared.length ∧ Dp K H vr (dRun ws) ∧ IsRun (n + 1) ws ∧ RetE K H Q (resR (runW P (n + 1) sh ws))
theorem called_ok {P : Prog} (L : LookOk P) {q r c : Nat} (h : calledW P q r = some c) : ∃ p, P.parts[c]? = some p := by
  unfold calledW at h
  obtain ⟨p, hp, h⟩ := Option.bind_eq_some_iff.mp h
  obtain ⟨x, hx, h⟩ := Option.bind_eq_some_iff.mp h
  have ok := ((L.part p (List.mem_of_getElem? hp)).2.2.2.2 x (List.mem_of_getElem? hx)).1
  cases hd : x.1 with
  | call k =>
    rw [hd] at h ok
    have hk : k = c := Option.some.inj h
    subst hk
    have : k < P.parts.length := ok
    exact ⟨_, List.getElem?_eq_getElem this⟩
  | rest => rw [hd] at h; cases h
  | any b => rw [hd] at h; cases h
  | set b s => rw [hd] at h; cases h
theorem called_eq {P : Prog} {q r : Nat} {p : Part} {e : Deed} {go : List Int} (hp : P.parts[q]? = some p) (hr : p.rows[r]? = some (e, go)) : calledW P q r = cal e := by
  unfold calledW
  rw [hp]
  show (p.rows[r]?).bind _ = _
  rw [hr]
  rfl
theorem called_end {P : Prog} {q r : Nat} {p : Part} (hp : P.parts[q]? = some p) (hr : p.rows[r]? = none) : calledW P q r = none := by
  unfold calledW
  rw [hp]
  show (p.rows[r]?).bind _ = _
  rw [hr]
  rfl
/-- the run so far: the first way, and so many more -/
def preW (P : Prog) (n : Nat) (sh : List Int) (w : List PyData) (ws : List (List PyData)) (i : Nat) : Option RS := match firstW P n sh w with | none => none | some st => (ws.take i).foldlM (nextW P n) st
theorem pre_next {P : Prog} {n : Nat} {sh : List Int} {w x : List PyData} {ws : List (List PyData)} {i : Nat} {s : RS} (h : preW P n sh w ws i = some s) (e : ws[i]? = some x) : preW P n sh w ws (i + 1) = nextW P n s x := by
  unfold preW at h ⊢
  cases hf : firstW P n sh w with
  | none => rw [hf] at h; cases h
  | some st =>
    rw [hf] at h
    exact fold_next h e
theorem pre_stop {P : Prog} {n : Nat} {sh : List Int} {w x : List PyData} {ws : List (List PyData)} {i : Nat} {s : RS} (h : preW P n sh w ws i = some s) (e : ws[i]? = some x) (hn : nextW P n s x = none) : runW P n sh (w :: ws) = none := by
  unfold preW at h
  show (match firstW P n sh w with | none => none | some st => ws.foldlM (nextW P n) st) = none
  cases hf : firstW P n sh w with
  | none => rfl
  | some st =>
    rw [hf] at h
    exact fold_fail h e hn
theorem pre_none {P : Prog} {n : Nat} {sh : List Int} {w : List PyData} {ws : List (List PyData)} {i : Nat} (h : preW P n sh w ws i = none) : runW P n sh (w :: ws) = none := by
  unfold preW at h
  show (match firstW P n sh w with | none => none | some st => ws.foldlM (nextW P n) st) = none
  cases hf : firstW P n sh w with
  | none => rfl
  | some st =>
    rw [hf] at h
    dsimp only at h ⊢
    have : ws = ws.take i ++ ws.drop i := (List.take_append_drop i ws).symm
    rw [this, List.foldlM_append, h]
    rfl
theorem pre_all {P : Prog} {n : Nat} {sh : List Int} {w : List PyData} {ws : List (List PyData)} : preW P n sh w ws ws.length = runW P n sh (w :: ws) := by
  unfold preW
  rw [List.take_length]
  rfl
theorem pre_ok {P : Prog} {n : Nat} (L : LookOk P) {sh : List Int} (hs : sh.length = P.shared.length) {w : List PyData} {ws : List (List PyData)} {i : Nat} {s : RS} (h : preW P n sh w ws i = some s) : RsOk P s :=
  run_ok L hs (ws := w :: ws.take i) h
/-- the run behind its way i -/
def preA (P : Prog) (n : Nat) (sh : List Int) (ws : List (List PyData)) (i : Nat) : Option RS := match ws with | [] => none | w :: r => preW P n sh w r i
theorem preA_zero {P : Prog} {n : Nat} {sh : List Int} {ws : List (List PyData)} {w : List PyData} {p : Part} (hp : P.parts[0]? = some p) (e : ws[0]? = some w) : preA P n sh ws 0 = (wayW P n 0 (sh ++ List.replicate p.own.length 0) w).map fun r => (0, r) := by
  cases ws with
  | nil => cases e
  | cons x r =>
    have : x = w := by simpa using e
    subst this
    show preW P n sh x r 0 = _
    unfold preW firstW
    rw [hp]
    dsimp only
    cases wayW P n 0 (sh ++ List.replicate p.own.length 0) x <;> rfl
theorem preA_succ {P : Prog} {n : Nat} {sh : List Int} {ws : List (List PyData)} {w : List PyData} {i : Nat} {s : RS} (h : preA P n sh ws i = some s) (e : ws[i + 1]? = some w) : preA P n sh ws (i + 1) = nextW P n s w := by
  cases ws with
  | nil => cases h
  | cons x r => exact pre_next (ws := r) h (by simpa using e)
theorem preA_none {P : Prog} {n : Nat} {sh : List Int} {ws : List (List PyData)} {i : Nat} (h : preA P n sh ws i = none) : runW P n sh ws = none := by
  cases ws with
  | nil => rfl
  | cons x r => exact pre_none h
theorem preA_stop {P : Prog} {n : Nat} {sh : List Int} {ws : List (List PyData)} {w : List PyData} {i : Nat} {s : RS} (h : preA P n sh ws i = some s) (e : ws[i + 1]? = some w) (hn : nextW P n s w = none) : runW P n sh ws = none := preA_none (i := i + 1) (by rw [preA_succ h e]; exact hn)
theorem preA_all {P : Prog} {n : Nat} {sh : List Int} {ws : List (List PyData)} {i : Nat} (h : ws.length = i + 1) : preA P n sh ws i = runW P n sh ws := by
  cases ws with
  | nil => simp at h
  | cons x r =>
    have : i = r.length := by simp at h; omega
    subst this
    exact pre_all
theorem preA_ok {P : Prog} {n : Nat} (L : LookOk P) {sh : List Int} (hs : sh.length = P.shared.length) {ws : List (List PyData)} {i : Nat} {s : RS} (h : preA P n sh ws i = some s) : RsOk P s := by
  cases ws with
  | nil => cases h
  | cons x r => exact pre_ok L hs h
theorem next_eq {P : Prog} {n : Nat} {s : RS} {w : List PyData} {c : Nat} {p : Part} (hc : calledW P s.1 s.2.1 = some c) (hp : P.parts[c]? = some p) : nextW P n s w = (wayW P n c (beginW P p s.2.2) w).map fun r => (c, r) := by
  unfold nextW
  rw [hc]
  dsimp only
  rw [hp]
theorem next_no {P : Prog} {n : Nat} {s : RS} {w : List PyData} (hc : calledW P s.1 s.2.1 = none) : nextW P n s w = none := by
  unfold nextW
  rw [hc]
theorem runR_snoc {S : Shp} {n : Nat} {ws : List (List PyData)} {s : Nat × Nat} {q at_ : Nat} {ds : List PyData} (h : runR S n ws = some s) (hc : calledR S s.1 s.2 = some q) (hw : wayR S n q ds = some at_) : runR S n (ws ++ [ds]) = some (q, at_) := by
  cases ws with
  | nil => cases h
  | cons w ws =>
    have h' : (match wayR S n 0 w with | none => none | some r => ws.foldlM (nextR S n) (0, r)) = some s := h
    show (match wayR S n 0 w with | none => none | some r => (ws ++ [ds]).foldlM (nextR S n) (0, r)) = _
    cases hf : wayR S n 0 w with
    | none => rw [hf] at h'; cases h'
    | some r =>
      rw [hf] at h'
      dsimp only at h' ⊢
      rw [fold_snoc h']
      unfold nextR
      rw [hc]
      dsimp only
      rw [hw]
      rfl
def sp_run_gone (K : PySem.W.Frag) (n : Nat) : Sp := sp_run_done K n
def sp_run (K : PySem.W.Frag) (n : Nat) : Sp := fun vs H Q _ => ∃ (d l : Addr) (v : V) (P : Prog) (m : Addr) (r dn : Nat) (F : Hp), vs = [.ref d, v, .ref m, .int (dn : Int)] ∧ Wr d l F H ∧ Dp K F v (dProg P) ∧ LookOk P ∧ Own d l F H m (.lst [.int (r : Int)]) ∧ r ≤ 60 ∧ 1 ≤ dn ∧ dn ≤ 50 ∧
  ∀ v' F' H' ws r', Gm d l m F H F' H' → Own d l F' H' m (.lst [.int ((r' : Nat) : Int)]) → Dp K F' v' (dRun ws) → IsRun (n + 1) ws → ws ≠ [] → (∃ s, runR (shp P) (n + 1) ws = some s) → Q v' H'
theorem repTG {K : PySem.W.Frag} {F H : Hp} {a : Addr} {n : Nat} {Q : VK} (hF : Ex F H) (h : SqT K F a [V.int 0]) (hn : n ≤ 1000) (q : ∀ t F' H', Gr NoS F H F' H' → SqT K F' t ((List.replicate n (0 : Int)).map V.int) → Q (.ref t) H') : rRepT0 K (.ref a) (.int (n : Int)) H Q := by
  have e : (List.replicate n [V.int 0]).flatten = (List.replicate n (0 : Int)).map V.int := by
    have := rep_zero [] n
    simpa using this
  refine ⟨a, n, _, rfl, rfl, ex_T hF h, by simp, by omega, by omega, by show 1 ≤ 1000; decide, fun e1 => ?_, fun p np => q p _ _ ((Gr.refl hF).new np) (SqT.of ?_)⟩
  · have : n = 1 := by omega
    subst this
    exact q a F H (Gr.refl hF) h
  · rw [upd_same, Int.toNat_natCast, e]
theorem at_last {xs : List V} {x : V} (h : xs[xs.length - 1]? = some x) : atI xs (-1) = some x := by
  have hl : 0 < xs.length := by
    have := (List.getElem?_eq_some_iff.mp h).1
    omega
  unfold atI ixN
  rw [if_neg (by decide), if_pos (by omega)]
  show xs[(-1 + (xs.length : Int)).toNat]? = some x
  have : (-1 + (xs.length : Int)).toNat = xs.length - 1 := by omega
  rw [this]
  exact h
theorem cut_init (xs : List V) : cutV xs none (some (-1)) = xs.take (xs.length - 1) := by
  unfold cutV
  rw [HT.sIx_none, List.drop_zero, Nat.sub_zero]
  have : HT.sIx xs.length xs.length (some (-1)) = xs.length - 1 := by
    unfold HT.sIx
    simp
    omega
  rw [this]
def sp_right19 (K : PySem.W.Frag) : Sp := fun vs H Q _ => ∃ (v : V) (P : Prog) (a : Addr) (sh : List Int) (vr : V) (ws : List (List PyData)) (s : Nat × Nat), vs = [v, .ref a, vr] ∧ Dp K H v (dProg P) ∧ LookOk P ∧ SqT K H a (sh.map V.int) ∧ sh.length = P.shared.length ∧ Dp K H vr (dRun ws) ∧ IsRun 4 ws ∧ ws ≠ [] ∧ runR (shp P) 4 ws = some s ∧ ∀ H', Ex H H' → Q (.bl true) H'
/-- the last way shorter -/
theorem runR_cut {S : Shp} {n : Nat} {init : List (List PyData)} {last : List PyData} {s : Nat × Nat} (k : Nat) (h : runR S (n + 1) (init ++ [last]) = some s) : ∃ s', runR S (n + 1) (init ++ [last.take k]) = some s' := by
  cases init with
  | nil =>
    have h' : (match wayR S (n + 1) 0 last with | none => none | some r => ([] : List (List PyData)).foldlM (nextR S (n + 1)) (0, r)) = some s := h
    cases hw : wayR S (n + 1) 0 last with
    | none => rw [hw] at h'; cases h'
    | some r =>
      obtain ⟨r', hr'⟩ := wayR_take k hw
      refine ⟨(0, r'), ?_⟩
      show (match wayR S (n + 1) 0 (last.take k) with | none => none | some r => ([] : List (List PyData)).foldlM (nextR S (n + 1)) (0, r)) = _
      rw [hr']
      rfl
  | cons w ws =>
    have h' : (match wayR S (n + 1) 0 w with | none => none | some r => (ws ++ [last]).foldlM (nextR S (n + 1)) (0, r)) = some s := h
    cases hw : wayR S (n + 1) 0 w with
    | none => rw [hw] at h'; cases h'
    | some r =>
      rw [hw] at h'
      dsimp only at h'
      cases hm : ws.foldlM (nextR S (n + 1)) (0, r) with
      | none =>
        rw [List.foldlM_append, hm] at h'
        cases h'
      | some st =>
        rw [fold_snoc hm] at h'
        have h2 := h'
        unfold nextR at h2
        cases hc : calledR S st.1 st.2 with
        | none => rw [hc] at h2; cases h2
        | some q =>
          rw [hc] at h2
          dsimp only at h2
          obtain ⟨r2, hr2, _⟩ := Option.map_eq_some_iff.mp h2
          obtain ⟨r', hr'⟩ := wayR_take k hr2
          refine ⟨(q, r'), ?_⟩
          exact runR_snoc (ws := w :: ws) (s := st) (by
            show (match wayR S (n + 1) 0 w with | none => none | some r => ws.foldlM (nextR S (n + 1)) (0, r)) = _
            rw [hw]
            exact hm) hc hr'
def It19 (K : PySem.W.Frag) (F : Hp) (P : Prog) (x : V) : Prop := ∃ (t : Addr) (ab : Addr) (sh : List Int) (vr : V) (ws : List (List PyData)) (s : Nat × Nat), x = .ref t ∧ SqT K F t [.ref ab, vr] ∧ SqT K F ab (sh.map V.int) ∧ sh.length = P.shared.length ∧ Dp K F vr (dRun ws) ∧ IsRun 4 ws ∧ ws ≠ [] ∧ runR (shp P) 4 ws = some s
theorem It19.ex {K : PySem.W.Frag} {F F' : Hp} {P : Prog} {x : V} (e : Ex F F') (h : It19 K F P x) : It19 K F' P x := by
  obtain ⟨t, ab, sh, vr, ws, s, e1, s1, s2, l, dr, hr, hn, hs⟩ := h
  exact ⟨t, ab, sh, vr, ws, s, e1, ex_T e s1, ex_T e s2, l, dr.ex e, hr, hn, hs⟩
end CB

set_option Elab.async false
set_option linter.all false
set_option maxRecDepth 100000
set_option maxHeartbeats 4000000
/-! ways otherwise -/
namespace CB
open PySem PySem.Spec PyProof.Rows L2
/-- a way so deep at most, at each depth of at most so many steps -/
def IsWy (b : Nat) : Nat → List PyData → Prop
  | 0, _ => False
  | n + 1, ds => ds.length ≤ b ∧ ∀ x ∈ ds, ∃ t k, x = .tuple [t, .int k] ∧ (t = .none ∨ (∃ i, t = .int i) ∨ ∃ w, t = .tuple w ∧ IsWy b n w)
def IsTd (b n : Nat) (t : PyData) : Prop := t = .none ∨ (∃ i, t = .int i) ∨ ∃ w, t = .tuple w ∧ IsWy b n w
theorem IsWy.mono {b b' : Nat} (hb : b ≤ b') : ∀ {n n' : Nat} {ds : List PyData}, n ≤ n' → IsWy b n ds → IsWy b' n' ds
  | 0, _, _, _, h => h.elim
  | n + 1, 0, _, hn, _ => by omega
  | n + 1, n' + 1, ds, hn, h => ⟨Nat.le_trans h.1 hb, fun x hx => by
    obtain ⟨t, k, e, h1⟩ := h.2 x hx
    refine ⟨t, k, e, ?_⟩
    rcases h1 with h1 | h1 | ⟨w, e2, h1⟩
    · exact .inl h1
    · exact .inr (.inl h1)
    · exact .inr (.inr ⟨w, e2, IsWy.mono hb (by omega) h1⟩)⟩
theorem IsTd.mono {b b' n n' : Nat} {t : PyData} (hb : b ≤ b') (hn : n ≤ n') (h : IsTd b n t) : IsTd b' n' t := by
  rcases h with h | h | ⟨w, e, h⟩
  · exact .inl h
  · exact .inr (.inl h)
  · exact .inr (.inr ⟨w, e, h.mono hb hn⟩)
theorem IsWy.way {b : Nat} (hb : b ≤ 500) : ∀ {n : Nat} {ds : List PyData}, IsWy b n ds → IsWay n ds
  | 0, _, h => h.elim
  | n + 1, ds, h => ⟨Nat.le_trans h.1 hb, fun x hx => by
    obtain ⟨t, k, e, h1⟩ := h.2 x hx
    refine ⟨t, k, e, ?_⟩
    rcases h1 with h1 | h1 | ⟨w, e2, h1⟩
    · exact .inl h1
    · exact .inr (.inl h1)
    · exact .inr (.inr ⟨w, e2, IsWy.way hb h1⟩)⟩
theorem IsWy.told {b n : Nat} {ds : List PyData} {x : PyData} (h : IsWy b (n + 1) ds) (hx : x ∈ ds) : ∃ t k, x = .tuple [t, .int k] ∧ IsTd b n t := h.2 x hx
theorem isWy_snoc {n : Nat} {ds : List PyData} {t : PyData} {k : Int} (h : IsWy 60 (n + 1) ds) (hl : ds.length < 60) (ht : IsTd 60 n t) : IsWy 60 (n + 1) (ds ++ [.tuple [t, .int k]]) := by
  refine ⟨by rw [List.length_append]; show ds.length + 1 ≤ 60; omega, fun x hx => ?_⟩
  rcases List.mem_append.mp hx with h1 | h1
  · exact h.2 x h1
  · exact ⟨t, k, List.mem_singleton.mp h1, ht⟩
def sp_walk6 (K : PySem.W.Frag) : Nat → Sp
  | 0 => fun _ _ _ _ => False
  | n + 1 => fun vs H Q _ => ∃ (d l : Addr) (v : V) (P : Prog) (q : Nat) (p : Part) (m : Addr) (r : Nat) (F : Hp), vs = [.ref d, v, .int (q : Int), .ref m, .int (n : Int)] ∧ Wr d l F H ∧ Dp K F v (dProg P) ∧ LookOk P ∧ P.parts[q]? = some p ∧ Own d l F H m (.lst [.int (r : Int)]) ∧ r ≤ 60 ∧
    ∀ v' F' H' ds at_ r', Gm d l m F H F' H' → Own d l F' H' m (.lst [.int ((r' : Nat) : Int)]) → r' ≤ r → Dp K F' v' (.tuple [.tuple ds, .int ((at_ : Nat) : Int)]) → IsWy 60 (n + 1) ds → ds.length ≤ 60 → wayR (shp P) (n + 1) q ds = some at_ → at_ ≤ p.rows.length → Q v' H'
def IsRn (b n : Nat) (ws : List (List PyData)) : Prop := ws.length ≤ b ∧ ∀ w ∈ ws, IsWy b n w
def sp_run6 (K : PySem.W.Frag) (n : Nat) : Sp := fun vs H Q _ => ∃ (d l : Addr) (v : V) (P : Prog) (m : Addr) (r dn : Nat) (F : Hp), vs = [.ref d, v, .ref m, .int (dn : Int)] ∧ Wr d l F H ∧ Dp K F v (dProg P) ∧ LookOk P ∧ Own d l F H m (.lst [.int (r : Int)]) ∧ r ≤ 60 ∧ 1 ≤ dn ∧ dn ≤ 50 ∧
  ∀ v' F' H' ws r', Gm d l m F H F' H' → Own d l F' H' m (.lst [.int ((r' : Nat) : Int)]) → Dp K F' v' (dRun ws) → IsRn 60 (n + 1) ws → ws ≠ [] → (∃ s, runR (shp P) (n + 1) ws = some s) → Q v' H'
theorem IsRn.mono {b b' n n' : Nat} {ws : List (List PyData)} (hb : b ≤ b') (hn : n ≤ n') (h : IsRn b n ws) : IsRn b' n' ws := ⟨Nat.le_trans h.1 hb, fun w hw => (h.2 w hw).mono hb hn⟩
theorem IsRn.run {b n : Nat} {ws : List (List PyData)} (hb : b ≤ 100) (h : IsRn b n ws) : IsRun n ws := ⟨Nat.le_trans h.1 hb, fun w hw => (h.2 w hw).way (by omega)⟩
/-- promises of what is told, of ways, of runs otherwise -/
def sp_wo (K : PySem.W.Frag) (N : Nat) : Sp := fun vs H Q _ => ∃ (n b : Nat) (d l : Addr) (v : V) (ds : List PyData) (F : Hp), n ≤ N ∧ 1 ≤ b ∧ b ≤ 400 ∧ vs = [.ref d, v] ∧ Wr d l F H ∧ Dp K F v (.tuple ds) ∧ IsWy b n ds ∧
  ∀ v' F' H' ds', Go d l F H F' H' → Dp K F' v' (.tuple ds') → IsWy (b + 1) (n + 1) ds' → Q v' H'
def sp_to (K : PySem.W.Frag) (N : Nat) : Sp := fun vs H Q _ => ∃ (n b : Nat) (d l : Addr) (v : V) (t : PyData) (F : Hp), n ≤ N ∧ 1 ≤ b ∧ b ≤ 400 ∧ vs = [.ref d, v] ∧ Wr d l F H ∧ Dp K F v t ∧ IsTd b n t ∧
  ∀ v' F' H' t', Go d l F H F' H' → Dp K F' v' t' → IsTd (b + 1) (n + 1) t' → Q v' H'
def sp_ro (K : PySem.W.Frag) (N : Nat) : Sp := fun vs H Q _ => ∃ (n b : Nat) (d l : Addr) (v : V) (ws : List (List PyData)) (F : Hp), 1 ≤ n ∧ n ≤ N ∧ 1 ≤ b ∧ b ≤ 400 ∧ vs = [.ref d, v] ∧ Wr d l F H ∧ Dp K F v (dRun ws) ∧ IsRn b n ws ∧
  ∀ v' F' H' ws', Go d l F H F' H' → Dp K F' v' (dRun ws') → IsRn (b + 1) (n + 1) ws' → Q v' H'
theorem wy_one {b n : Nat} : IsWy (b + 1) (n + 1) [.tuple [.none, .int 0]] := ⟨by show 1 ≤ b + 1; omega, fun x hx => ⟨.none, 0, List.mem_singleton.mp hx, .inl rfl⟩⟩
theorem wy_up {b n : Nat} {ds ds' : List PyData} (h : IsWy b n ds) (hl : ds'.length ≤ b + 1) (hd : ∀ x ∈ ds', x ∈ ds ∨ ∃ t k, x = .tuple [t, .int k] ∧ IsTd (b + 1) n t) : IsWy (b + 1) (n + 1) ds' := by
  refine ⟨hl, fun x hx => ?_⟩
  rcases hd x hx with h1 | h1
  · cases n with
    | zero => exact h.elim
    | succ n =>
      obtain ⟨t, k, e, ht⟩ := h.told h1
      exact ⟨t, k, e, IsTd.mono (by omega) (by omega) ht⟩
  · exact h1
end CB
namespace CB
open PySem PySem.Spec PyProof.Rows L2
theorem dpAll_drop {K : PySem.W.Frag} {F : Hp} : ∀ {xs : List V} {ds : List PyData} (k : Nat), DpAll K F xs ds → DpAll K F (xs.drop k) (ds.drop k)
  | _, _, 0, h => h
  | _, _, k + 1, .nil => .nil
  | _, _, k + 1, .cons _ hs => dpAll_drop k hs
theorem IsTd.told {b n : Nat} {t : PyData} (hb : b ≤ 500) (h : IsTd b n t) : IsTold n t := by
  rcases h with h | h | ⟨w, e, h⟩
  · exact .inl h
  · exact .inr (.inl h)
  · exact .inr (.inr ⟨w, e, h.way hb⟩)
theorem cut_dropI (xs : List V) {s : Nat} (h : s + 1 ≤ xs.length) : cutV xs (some ((s : Int) + 1)) none = xs.drop (s + 1) := by
  have : (s : Int) + 1 = ((s + 1 : Nat) : Int) := by omega
  rw [this]
  exact cut_dropV xs h
theorem cut_takeI (xs : List V) {s : Nat} (h : s + 1 ≤ xs.length) : cutV xs none (some ((s : Int) + 1)) = xs.take (s + 1) := by
  have : (s : Int) + 1 = ((s + 1 : Nat) : Int) := by omega
  rw [this]
  exact cut_takeV xs h
def sp_rright (K : PySem.W.Frag) (n : Nat) : Sp := fun vs H Q _ => ∃ (v : V) (P : Prog) (a : Addr) (sh : List Int) (vr : V) (ws : List (List PyData)), vs = [v, .ref a, vr] ∧ Dp K H v (dProg P) ∧ LookOk P ∧ SqT K H a (sh.map V.int) ∧ sh.length = P.shared.length ∧ Dp K H vr (dRun ws) ∧ IsRun (n + 1) ws ∧ ∀ H', Ex H H' → Q (.bl true) H'
def sp_wright (K : PySem.W.Frag) (n : Nat) : Sp := fun vs H Q _ => ∃ (v : V) (P : Prog) (q : Nat) (p : Part) (a : Addr) (bs : List Int) (vw : V) (ds : List PyData), vs = [v, .int (q : Int), .ref a, vw] ∧ Dp K H v (dProg P) ∧ LookOk P ∧ P.parts[q]? = some p ∧ SqT K H a (bs.map V.int) ∧ bs.length = nb P p ∧ Dp K H vw (.tuple ds) ∧ IsWay (n + 1) ds ∧ ∀ H', Ex H H' → Q (.bl true) H'
theorem isWay_up {n m : Nat} {ds : List PyData} (h : IsWay n ds) (k : n ≤ m) : IsWay m ds := by
  induction m with
  | zero =>
    have : n = 0 := by omega
    subst this
    exact h
  | succ m ih =>
    by_cases e : n = m + 1
    · subst e; exact h
    · exact (ih (by omega)).mono
end CB

set_option Elab.async false
set_option linter.all false
set_option maxRecDepth 100000
set_option maxHeartbeats 4000000
/-! own errors without fields; range as a value; classes asked of an error -/
namespace CB
open PySem PySem.Spec PyProof.Rows L2
section
variable {X : Cx} {K : PySem.W.Frag}
/-- X(), X an own exception class without own __init__ -/
theorem pmk_own0 {C : Addr} {bmB : List Value} {B newId initId : String} {x : Str} {p pos : Pos} (F : ExcBaseFacts B newId initId bmB) (q : PySem.W.excIn X.K C bmB newId = true) (gC : X.mg x = some (.ref C))
    (kC : PySem.W.keepIn X.K (.ref C) = true) (r : Raises X (.ref C)) (hg : Gl X x) (hdb : (x == ("__debug__" : Str)) = false := by decide) :
    PMk X (.Call (.Name x p) [] [] pos) (fun _ H Q => Q (.ref C) none H) := by
  intro pins s σ H Q I h
  refine wpAny_Call_Name_kw (ld_glob I hg gC ?_ hdb)
  refine PySem.W.callWith_K0 I.kIn kC ?_
  show wpAny _ _ (call (.ref C) []) _ _ _
  obtain ⟨bm, N, nm, qn, bs, hdct, sn, sub, ab, col, dd, k0, k1, k2, k3, k5, mN, hC, hN, hni, T⟩ := exc_obj I.kIn q
  refine wpAny_call_exc_subT F T hC hN hni (fun h' e hm => ?_) (Nat.zero_le _)
  exact mk_of I hm r h (I.hok.gone hm.new)
/-- isinstance(e, c) and isinstance(e, (c1, ..)), e the exception that the suite holds, its class told at the reading -/
theorem call_isEc {a D : Addr} {cls : Value} {d : Option Addr} {oe : Obj} {pn : List (Addr × Obj)} (C : ExcC K D) (hz : Zc cls d oe) (hf : ∃ vs, oe.data = .fields vs) (hK : X.K = K := by rfl) :
    CallR (X.suite a ((a, oe) :: pn)) (.builtin "isinstance") (fun xs H Q => cls = .ref D ∧ d = none ∧ rIsE K D a xs H Q) := by
  intro pins s σ H xs us Q I r h
  obtain ⟨e1, e2, h⟩ := h
  subst e1 e2 hK
  exact call_isE C hz hf pins s σ H xs us Q I r h
def rIsET (K : PySem.W.Frag) (D a : Addr) : List V → Hp → VK → Prop := fun xs H Q => ∃ (tp : Addr) (cs : List V) (us : List Value) (b : Bool), xs = [.ref a, .ref tp] ∧ H tp = some (.tup cs) ∧ Paired ClsV cs us ∧ PySem.W.kitAny K (.ref D) us = some b ∧ Q (.bl b) H
theorem call_isETc {a D : Addr} {cls : Value} {d : Option Addr} {oe : Obj} {pn : List (Addr × Obj)} (C : ExcC K D) (hz : Zc cls d oe) (hf : ∃ vs, oe.data = .fields vs) (hK : X.K = K := by rfl) :
    CallR (X.suite a ((a, oe) :: pn)) (.builtin "isinstance") (fun xs H Q => cls = .ref D ∧ d = none ∧ rIsET K D a xs H Q) := by
  intro pins s σ H xs us Q I r h
  obtain ⟨e1, e2, tp, cs, ws, b, rfl, hT, k, e, q⟩ := h
  subst e1 e2 hK
  obtain ⟨u1, u2, rfl, r1, r2⟩ := vals2 r
  cases (show u1 = Value.ref a from r1)
  cases (show u2 = Value.ref tp from r2)
  obtain ⟨hget, _⟩ := I.pin (a, oe) (List.mem_append.mpr (.inl List.mem_cons_self))
  obtain ⟨vs, hv⟩ := hf
  have J : PySem.W.InstAt s.heap a oe D none := by
    obtain ⟨oc, od, oda, osl⟩ := oe
    obtain ⟨h1, h2⟩ := hz
    dsimp only at h1 h2 hv
    subst h1 h2 hv
    exact ⟨hget, rfl, rfl, trivial⟩
  obtain ⟨_, its, rv, o, h1, h2, n, h3⟩ := (show ObjOk X.prog X.w H s.heap tp (.tup cs) from I.hok tp _ hT)
  have e3 := ClsV.all k rv
  subst e3
  obtain ⟨oc, od, dt, sl⟩ := o
  simp only at h2 h3
  subst h2 h3
  exact PySem.W.kia_tup (PySem.W.handS_kitx_exc C.hg C.hk C.hs C.hd C.ha C.hn C.ht C.hm) I.kIn J h1 e (fun z => nomatch z) fun tk => ⟨.bl b, H, I.kept (t' := tk) fun _ _ z => z, rfl, q⟩
theorem cr_range1 : CallR X (.type "range") (fun vs H Q => ∃ j, vs = [V.int j] ∧ ∀ p, H p = none → Q (.ref p) (upd H p (.rng 0 j))) := by
  intro pins s σ H vs us Q I r h
  obtain ⟨j, rfl, q⟩ := h
  cases r with
  | cons rj rr =>
    cases rr
    obtain ⟨u, rfl⟩ := rj
    refine call_range_1 ⟨.ref s.heap.objs.size, upd H s.heap.objs.size (.rng 0 j), I.laid (t' := s.toks + 1 + 1) (fun b o e => Heap.get?_push_of_some _ e) (Nat.le_refl _) ?_, rfl, q _ (I.hok.fresh (Nat.le_refl _))⟩
    exact ⟨s.toks, u, s.toks + 1, Heap.get?_push_size _ rfl⟩
theorem bt_range : bootBuiltins "range" = some (.type "range") := by decide +kernel
/-- i not in r -/
theorem op_notin_rng : OpR X (compareOp .NotIn) (fun x y H Q => ∃ i a lo hi, x = V.int i ∧ y = V.ref a ∧ H a = some (.rng lo hi) ∧ Q (.bl (!decide (lo ≤ i ∧ i < hi))) H) := by
  intro pins s σ H x y v u Q I rx ry h
  obtain ⟨i, a, lo, hi, rfl, rfl, ha, q⟩ := h
  obtain ⟨k, rfl⟩ := rx
  obtain rfl : u = Value.ref a := ry
  obtain ⟨t1, t2, t3, ho⟩ := I.hok a _ ha
  show wpAny _ _ (do return Value.bool (!(← contains (Value.ref a) (Value.int i k)))) _ _ s
  refine wpAny_bind (wpAny_contains_slot (T := "range") ⟨_, ho, rfl⟩ F.slot_range_contains (call_meets F.slot_range_contains ⟨_, ho, rfl⟩ F.entry_range_contains (F.args_range_contains_2 _ _) (q_contains a lo hi i t1 t2 t3 k)
    ⟨ho, wpAny_truthy_bool (wpAny_pure ⟨.bl _, H, I, rfl, ?_⟩)⟩))
  rw [place1]
  exact q
end
end CB
namespace CB
open PySem PySem.Spec PyProof.Rows L2
/-! set(a tuple of ints) -/
section
variable {P : Program} {w : World} {A : Around} {E : Value → Shared → Prop} {s : Shared}
set_option maxHeartbeats 6400000 in
theorem set_of_tupI {l : Addr} {items : Array Value} (ns : List Int) {Q : Value → Shared → Prop} (hh : A.handled = none) (hl : s.heap.IsTuple l items) (hit : IntsAre items.toList ns) (hb : ns.length + 1 < scanBound)
    (h : ∀ (h' : Heap) (tk c : Nat), SetR w h' s.heap.objs.size (fun j => decide (j ∈ ns)) c → c ≤ ns.length → (∀ b o, s.heap.get? b = some o → h'.get? b = some o) → Q (.ref s.heap.objs.size) { s with heap := h', toks := tk }) :
    wpAny (model P w) A (call (.type "set") [.ref l]) Q E s := by
  have hisz : items.size = ns.length := by rw [← Array.length_toList]; exact IntsAre.length hit
  obtain ⟨c, tl, hmro⟩ := F.called_set.mro
  have hmade := F.called_set.made; have hsub := F.called_set.sub
  refine wpAny_call (codeAny_of_tree ?_)
  show wpAny _ _ (callAny (.type "set") _) _ _ _
  refine wpAny_pure ⟨Code.quiet_builtin _ (by decide +kernel), codeAny_builtin F.entry_type_call ?_⟩
  rw [Around.under_plain (weight_type_call_type "set" [.ref l] []) rfl]
  have h1 := F.called_set.notType; have h2 := F.called_set.canCreate; have hct := F.typeCall_set_1 (.ref l)
  repeat (any_goals (first | assumption | wp_step))
  refine codeAny_mono (code_set_led1 (.ref l) (E := E) (Q₁ := fun obj s₁ => obj = .ref s.heap.objs.size ∧ s₁ = { s with heap := s.heap.push (nS w) }) ⟨rfl, rfl⟩) fun r s₁ hr => ?_
  cases r with
  | error e => exact hr
  | ok fl =>
    cases fl with
    | ret obj =>
      obtain ⟨rfl, rfl⟩ := hr
      have hS : (s.heap.push (nS w)).get? s.heap.objs.size = some (nS w) := Heap.get?_push_size _ rfl
      have hT : Shared.TypeIs { s with heap := s.heap.push (nS w) } (.ref s.heap.objs.size) "set" := ⟨_, hS, rfl⟩
      have hli := F.called_set.init.lookup; have hbi := F.called_set.init.bind (.ref s.heap.objs.size)
      repeat (any_goals (first | assumption | wp_step))
      refine codeAny_mono (codeAny_call_builtin (R := wants (fun r s₂ => r = .none ∧ ∃ h' tk c, s₂ = { s with heap := h', toks := tk } ∧ SetR w h' s.heap.objs.size (fun j => decide (j ∈ ns)) c ∧ c ≤ ns.length ∧ (∀ b o, s.heap.get? b = some o → h'.get? b = some o)) E) F.called_set.init.plain F.entry_set_init (check_set_init_1 hT ?_)) fun r₂ s₂ hr₂ => ?_
      · obtain ⟨⟨ocls, odict, odata, oslots⟩, hol, hcl, nl, hdl⟩ := hl
        simp only at hcl hdl
        subst hcl; subst hdl
        have hol' : (s.heap.push (nS w)).get? l = some { cls := .type "tuple", dict := odict, data := .seq items nl, slots := oslots } := Heap.get?_push_of_some _ hol
        have hsls := F.sub_tuple_set; have hslf := F.sub_tuple_frozenset
        have hne : (Value.type "tuple" == Value.type "dict") = false := by decide
        have hl1 : (s.heap.push (nS w)).IsTuple l items := ⟨_, hol', rfl, nl, rfl⟩
        unfold Builtin.«set.__init__» noKeywords Builtin.Frozenset.updateFrom
        generalize hPI : pyIter = PI
        wp_walk
        subst hPI
        refine wpAny_pyIter_tuple hl1 (wpAny_bind (wpAny_runValue ?_))
        have hlS : l < s.heap.objs.size := Heap.lt_size hol
        have hh3 : A.in1.in1.in1.handled = none := by simp [hh]
        have hneI : l ≠ (s.heap.push (nS w)).objs.size := by rw [Heap.size_push]; exact Nat.ne_of_lt (Nat.lt_succ_of_lt hlS)
        have hSf : s.heap.objs.size ∉ [(s.heap.push (nS w)).objs.size, l] := by
          rw [Heap.size_push]; simp only [List.mem_cons, List.mem_singleton, List.not_mem_nil, or_false, not_or]; exact ⟨Nat.ne_of_lt (Nat.lt_succ_self _), Nat.ne_of_gt hlS⟩
        have hval : ∀ (i : Nat) (v : Value), items[i]? = some v → ∃ k t, ns[i]? = some k ∧ v = .int k t := fun i v hv => by
          have hi : i < ns.length := by rw [← hisz]; exact (Array.getElem?_eq_some_iff.mp hv).1
          obtain ⟨t, e⟩ := PyProof.Rows.IntsAre.int_at hit i v (by rw [Array.getElem?_toList]; exact hv)
          exact ⟨ns[i], t, List.getElem?_eq_getElem hi, by rw [e, List.getD_eq_getElem?_getD, List.getElem?_eq_getElem hi] <;> rfl⟩
        refine set_update_ints ((Walks.tuple hh3 _ l hneI items).toS) s.heap.objs.size hSf ns hisz hb hval (items.size - 0) 0 _ (by omega) (Nat.zero_le _) ⟨⟨_, Heap.get?_push_size _ rfl, rfl, rfl⟩, (hl1.push _)⟩ ⟨0, Nat.le_refl 0, setR_new_at (Heap.get?_push_of_some _ hS)⟩ fun s' c' hm hc' hS' => ?_
        obtain ⟨h', g2, d', tk', os'⟩ := s'
        obtain rfl : g2 = s.gens := hm.gens
        obtain rfl : d' = s.drawn := hm.drawn
        obtain rfl : os' = s.os := hm.os
        show wpAny _ _ _ _ _ _
        refine wpAny_pure ?_
        show wpAny _ _ (ret Value.none) _ _ _
        rw [hisz] at hc'
        refine wpAny_pure ⟨rfl, h', tk', c', rfl, hS', hc', fun b o e => ?_⟩
        have hb0 : b < s.heap.objs.size := Heap.lt_size e
        have hb2 : b ≠ (s.heap.push (nS w)).objs.size := by rw [Heap.size_push]; exact Nat.ne_of_lt (Nat.lt_succ_of_lt hb0)
        exact hm.heap b o (by simp only [List.mem_cons, List.mem_singleton, List.not_mem_nil, or_false, not_or]; exact ⟨Nat.ne_of_lt hb0, hb2⟩) (Heap.get?_push_of_some _ (Heap.get?_push_of_some _ e))
      · cases r₂ with
        | error e => exact hr₂
        | ok fl₂ =>
          cases fl₂ with
          | ret r =>
            obtain ⟨rfl, h', tk, c', rfl, hS', hc', hk'⟩ := hr₂
            repeat (any_goals (first | assumption | wp_step))
            exact h _ _ _ hS' hc' hk'
          | _ => exact hr₂.elim
    | _ => exact hr.elim
end
section
variable {X : Cx} {K : PySem.W.Frag}
def rSetT (w : World) (K : PySem.W.Frag) : List V → Hp → VK → Prop := fun xs H Q => ∃ (l : Addr) (ns : List Int), xs = [.ref l] ∧ SqT K H l (ns.map V.int) ∧ ns.length ≤ 1000 ∧ ∀ p n, H p = none → n ≤ ns.length → Q (.ref p) (upd H p (SetO w p (fun j => decide (j ∈ ns)) n))
theorem cr_setT (hc : X.calm = true) (hK : X.K = K := by rfl) : CallR X (.type "set") (rSetT X.w K) := by
  subst hK
  intro pins s σ H xs us Q I r h
  obtain ⟨l, ns, rfl, hs, hn, q⟩ := h
  obtain ⟨its, rv, p', hz⟩ := I.tuple hs
  rw [Vals.ref1 r]
  have hi := rv.ints
  refine set_of_tupI ns (I.ok.hd hc) p' (by simpa using hi) (by have e : scanBound = scanBound := rfl; unfold scanBound at e ⊢; omega) fun h' tk c hR hcl hk => ?_
  exact ⟨.ref s.heap.objs.size, upd H s.heap.objs.size _, I.laid (t' := tk) (fun b u e => hk b u e) (Nat.le_refl _) (setO_new hR), rfl, q _ c (I.hok.fresh (Nat.le_refl _)) hcl⟩
end
end CB

set_option Elab.async false
set_option linter.all false
set_option maxRecDepth 100000
set_option maxHeartbeats 4000000
/-! programs made over: a going more -/
namespace CB
open PySem PySem.Spec PyProof.Rows L2
theorem incr_ext : ∀ {xs ys : List Int}, xs.Pairwise (· < ·) → ys.Pairwise (· < ·) → (∀ k : Int, k ∈ xs ↔ k ∈ ys) → xs = ys
  | [], [], _, _, _ => rfl
  | [], y :: ys, _, _, h => by have := (h y).mpr List.mem_cons_self; cases this
  | x :: xs, [], _, _, h => by have := (h x).mp List.mem_cons_self; cases this
  | x :: xs, y :: ys, hx, hy, h => by
    have hx1 := (List.pairwise_cons.mp hx)
    have hy1 := (List.pairwise_cons.mp hy)
    have e : x = y := by
      rcases List.mem_cons.mp ((h x).mp List.mem_cons_self) with e | e
      · exact e
      · rcases List.mem_cons.mp ((h y).mpr List.mem_cons_self) with e2 | e2
        · exact e2.symm
        · have := hy1.1 x e
          have := hx1.1 y e2
          omega
    subst e
    have t : xs = ys := incr_ext hx1.2 hy1.2 fun k => by
      constructor
      · intro hk
        rcases List.mem_cons.mp ((h k).mp (List.mem_cons_of_mem _ hk)) with e | e
        · have := hx1.1 k hk; omega
        · exact e
      · intro hk
        rcases List.mem_cons.mp ((h k).mpr (List.mem_cons_of_mem _ hk)) with e | e
        · have := hy1.1 k hk; omega
        · exact e
    rw [t]
/-- a number put in its place among rising ones -/
def insZ : List Int → Int → List Int
  | [], x => [x]
  | y :: ys, x => if x < y then x :: y :: ys else y :: insZ ys x
theorem insZ_mem : ∀ {l : List Int} {x k : Int}, k ∈ insZ l x ↔ k ∈ l ∨ k = x
  | [], x, k => by simp [insZ]
  | y :: ys, x, k => by
    unfold insZ
    by_cases h : x < y
    · rw [if_pos h]
      simp only [List.mem_cons]
      constructor
      · rintro (h | h | h)
        · exact .inr h
        · exact .inl (.inl h)
        · exact .inl (.inr h)
      · rintro ((h | h) | h)
        · exact .inr (.inl h)
        · exact .inr (.inr h)
        · exact .inl h
    · rw [if_neg h]
      simp only [List.mem_cons, insZ_mem]
      constructor
      · rintro (h | h | h)
        · exact .inl (.inl h)
        · exact .inl (.inr h)
        · exact .inr h
      · rintro ((h | h) | h)
        · exact .inl h
        · exact .inr (.inl h)
        · exact .inr (.inr h)
theorem insZ_incr : ∀ {l : List Int} {x : Int}, l.Pairwise (· < ·) → x ∉ l → (insZ l x).Pairwise (· < ·)
  | [], x, _, _ => List.pairwise_singleton _ _
  | y :: ys, x, h, hn => by
    have h1 := List.pairwise_cons.mp h
    have hne : x ≠ y := fun e => hn (by rw [e]; exact List.mem_cons_self)
    unfold insZ
    by_cases hx : x < y
    · rw [if_pos hx]
      refine List.pairwise_cons.mpr ⟨fun k hk => ?_, h⟩
      rcases List.mem_cons.mp hk with e | e
      · omega
      · have := h1.1 k e; omega
    · rw [if_neg hx]
      refine List.pairwise_cons.mpr ⟨fun k hk => ?_, insZ_incr h1.2 fun e => hn (List.mem_cons_of_mem _ e)⟩
      rcases insZ_mem.mp hk with e | e
      · exact h1.1 k e
      · omega
theorem insZ_len : ∀ {l : List Int} {x : Int}, (insZ l x).length = l.length + 1
  | [], _ => rfl
  | y :: ys, x => by
    unfold insZ
    by_cases h : x < y
    · rw [if_pos h]; rfl
    · rw [if_neg h]; show (insZ ys x).length + 1 = _; rw [insZ_len]; rfl
def atZ {α : Type} (l : List α) (i : Int) : Option α := if 0 ≤ i then l[i.toNat]? else none
theorem atZ_some {α : Type} {l : List α} {i : Int} {x : α} (h : atZ l i = some x) : ∃ j : Nat, i = (j : Int) ∧ l[j]? = some x ∧ j < l.length := by
  unfold atZ at h
  by_cases h0 : 0 ≤ i
  · rw [if_pos h0] at h
    exact ⟨i.toNat, by omega, h, (List.getElem?_eq_some_iff.mp h).1⟩
  · rw [if_neg h0] at h; cases h
theorem atZ_none {α : Type} {l : List α} {i : Int} (h : atZ l i = none) : ¬ (0 ≤ i ∧ i < l.length) := by
  unfold atZ at h
  rintro ⟨h0, h1⟩
  rw [if_pos h0] at h
  have := List.getElem?_eq_none_iff.mp h
  omega
def rowAt (P : Prog) (i k : Int) : Option (Deed × List Int) := (atZ P.parts i).bind fun p => atZ p.rows k
def setRows (P : Prog) (i : Nat) (p : Part) (rows : List (Deed × List Int)) : Prog := ⟨P.shared, P.parts.set i ⟨p.name, p.own, rows⟩⟩
def withGo (P : Prog) (i k x : Int) : Option Prog :=
  match atZ P.parts i with
  | none => none
  | some p => match atZ p.rows k with
    | none => none
    | some r => if x ∈ r.2 ∨ ¬ (0 ≤ x ∧ x ≤ p.rows.length) then none else some (setRows P i.toNat p (p.rows.set k.toNat (r.1, insZ r.2 x)))
def optP : Option Prog → PyData
  | none => .none
  | some P => dProg P
def optRow : Option (Deed × List Int) → PyData
  | none => .none
  | some r => dRow r
def sp_in_order (K : PySem.W.Frag) : Sp := fun vs H Q _ => ∃ (a : Addr) (ns : List Int), vs = [.ref a] ∧ SqT K H a (ns.map V.int) ∧ ns.length ≤ 60 ∧ ∀ (t : Addr) (ms : List Int) H', Ex H H' → ms.Pairwise (· < ·) → (∀ k : Int, k ∈ ms ↔ k ∈ ns) → SqT K H' t (ms.map V.int) → Q (.ref t) H'
def sp_row_there (K : PySem.W.Frag) : Sp := fun vs H Q _ => ∃ (v : V) (P : Prog) (i k : Int), vs = [v, .int i, .int k] ∧ Dp K H v (dProg P) ∧ ∀ v', Dp K H v' (optRow (rowAt P i k)) → Q v' H
def sp_with_row (K : PySem.W.Frag) : Sp := fun vs H Q _ => ∃ (v : V) (P : Prog) (i : Nat) (p : Part) (l : Addr) (xs : List V) (rows : List (Deed × List Int)), vs = [v, .int (i : Int), .ref l] ∧ Dp K H v (dProg P) ∧ P.parts.length ≤ 100 ∧ P.parts[i]? = some p ∧ SqL K H l xs ∧ DpAll K H xs (rows.map dRow) ∧ RetE K H Q (dProg (setRows P i p rows))
theorem in_ints (z : Int) (ys : List Int) : inV (.int z) (ys.map V.int) = decide (z ∈ ys) := by
  unfold inV
  rw [List.any_map]
  rw [Bool.eq_iff_iff, List.any_eq_true, decide_eq_true_eq]
  constructor
  · rintro ⟨y, hy, e⟩
    have : y = z := by simpa [eqV] using e
    rw [← this]; exact hy
  · exact fun h => ⟨z, h, by simp [eqV]⟩
theorem flat_ints' (l : List Int) : (l.map V.int).all flatV = true := by
  rw [List.all_map, List.all_eq_true]
  intro x _
  rfl
def sp_with_going (K : PySem.W.Frag) (C : Addr) : Sp := fun vs H Q E => ∃ (v : V) (P : Prog) (i k x : Int), vs = [v, .int i, .int k, .int x] ∧ Dp K H v (dProg P) ∧ LookOk P ∧
  (withGo P i k x = none → ∀ H', Ex H H' → E (.ref C) none H') ∧ (∀ P', withGo P i k x = some P' → ∀ v' H', Ex H H' → Dp K H' v' (dProg P') → Q v' H')
theorem dpAll_set {K : PySem.W.Frag} {F : Hp} : ∀ {xs : List V} {ds : List PyData} (k : Nat) {x : V} {d : PyData}, DpAll K F xs ds → Dp K F x d → DpAll K F (xs.set k x) (ds.set k d)
  | _, _, _, _, _, .nil, _ => .nil
  | _, _, 0, _, _, .cons _ hs, h => .cons h hs
  | _, _, k + 1, _, _, .cons h0 hs, h => .cons h0 (dpAll_set k hs h)
theorem sqT_mut {K : PySem.W.Frag} {H : Hp} {a p : Addr} {xs ys : List V} {o : HO} (h : SqT K H a xs) (hp : H p = some (.lst ys)) : SqT K (upd H p o) a xs := by
  rcases h with (h | ⟨ob, h⟩) | h
  · have : a ≠ p := fun e => by rw [e, hp] at h; cases h
    exact .inl (.inl (by rw [upd_ne this]; exact h))
  · have : a ≠ p := fun e => by rw [e, hp] at h; cases h
    exact .inl (.inr ⟨ob, by rw [upd_ne this]; exact h⟩)
  · exact .inr h
def sp_never : Sp := fun _ _ _ _ => False
def sp_heard (K : PySem.W.Frag) : Sp := fun vs H Q _ => ∃ (v : V) (P : Prog) (i k x : Int), vs = [v, .int i, .int k, .int x] ∧ Dp K H v (dProg P) ∧ LookOk P ∧
  ∀ (p : Addr) (v' : V) H', Ex H H' → H' p = some (.lst [v', .bl (withGo P i k x).isNone]) → Dp K H' v' (optP (withGo P i k x)) → Q (.ref p) H'
def sp_due (K : PySem.W.Frag) : Sp := fun vs H Q _ => ∃ (v : V) (P : Prog) (i k x : Int), vs = [v, .int i, .int k, .int x] ∧ Dp K H v (dProg P) ∧ LookOk P ∧ RetE K H Q (optP (withGo P i k x))
theorem cr_sortedK {X : Cx} {K : PySem.W.Frag} (hK : X.K = K := by rfl) : CallR X (.builtin "sorted") (rSorted K) := hK ▸ cr_sorted
end CB

set_option Elab.async false
set_option linter.all false
set_option maxRecDepth 100000
set_option maxHeartbeats 4000000
/-! programs shown -/
namespace CB
open PySem PySem.Spec PyProof.Rows L2
/-- data that may be shown: so many signs, so deep -/
structure Shn (n m : Nat) (d : PyData) : Prop where
  lay : PyData.canLay0 d = true
  sh : d.showable = true
  dep : d.depth ≤ m
  len : d.shown.length ≤ n
theorem Shn.mono {n m n' m' : Nat} {d : PyData} (h : Shn n m d) (hn : n ≤ n') (hm : m ≤ m') : Shn n' m' d := ⟨h.lay, h.sh, Nat.le_trans h.dep hm, Nat.le_trans h.len hn⟩
theorem Shn.shaped {n m : Nat} {d : PyData} (h : Shn n m d) (hm : m ≤ 64) : SeqAt.shaped d = true := by
  unfold SeqAt.shaped
  rw [Bool.and_eq_true, decide_eq_true_eq]
  exact ⟨h.lay, Nat.le_trans h.dep hm⟩
theorem shp_int {i : Int} (h : i.natAbs < 10 ^ 12) : Shn 13 0 (.int i) := by
  refine ⟨rfl, ?_, Nat.le_refl _, PyData.shown_int_le h⟩
  show decide (i.natAbs.log2 < 1920) = true
  exact decide_eq_true (sml_of (k := 40) (Nat.lt_trans h (by decide)) (by decide) (by decide))
theorem shp_none : Shn 4 0 .none := ⟨rfl, rfl, Nat.le_refl _, by decide⟩
theorem shp_bool (b : Bool) : Shn 5 0 (.bool b) := ⟨rfl, rfl, Nat.le_refl _, by cases b <;> decide⟩
theorem shp_str {z : Str} {k : Nat} (h : ∀ c ∈ z.cps.toList, c < 0x110000) (hl : z.length ≤ k) : Shn (10 * k + 2) 0 (.str z) := by
  refine ⟨?_, rfl, Nat.le_refl _, ?_⟩
  · show z.cps.all (· < 0x110000) = true
    rw [Array.all_eq_true_iff_forall_mem]
    intro c hc
    exact decide_eq_true (h c (Array.mem_toList_iff.mpr hc))
  · have e := StrLaws.reprText_len z fun c hc => Nat.lt_trans (h c hc) (by decide)
    show (reprText z).length ≤ _
    omega
theorem shp_all {n m : Nat} : ∀ {ds : List PyData}, (∀ d ∈ ds, Shn n m d) → PyData.canLayAll0 ds = true ∧ PyData.showableAll ds = true ∧ PyData.depthAll ds ≤ m ∧ ((PyData.shownAll ds).map (·.length)).sum ≤ n * ds.length
  | [], _ => ⟨rfl, rfl, Nat.zero_le _, Nat.zero_le _⟩
  | d :: ds, h => by
    have h1 := h d List.mem_cons_self
    obtain ⟨a, b, c, e⟩ := shp_all fun x hx => h x (List.mem_cons_of_mem _ hx)
    refine ⟨?_, ?_, ?_, ?_⟩
    · show (d.canLay0 && PyData.canLayAll0 ds) = true
      rw [h1.lay, a]; rfl
    · show (d.showable && PyData.showableAll ds) = true
      rw [h1.sh, b]; rfl
    · show max d.depth (PyData.depthAll ds) ≤ m
      have := h1.dep
      omega
    · show d.shown.length + ((PyData.shownAll ds).map (·.length)).sum ≤ n * (ds.length + 1)
      have := h1.len
      rw [Nat.mul_succ]
      omega
theorem shp_tup {n m k : Nat} {ds : List PyData} (h : ∀ d ∈ ds, Shn n m d) (hl : ds.length ≤ k) : Shn ((n + 2) * k + 3) (m + 1) (.tuple ds) := by
  obtain ⟨a, b, c, e⟩ := shp_all h
  refine ⟨a, b, ?_, ?_⟩
  · show PyData.depthAll ds + 1 ≤ m + 1
    omega
  · have h1 := tupleText_len_le (PyData.shownAll ds)
    have h3 : (PyData.shownAll ds).length = ds.length := by rw [PyData.shownAll_length]
    have h4 : (n + 2) * ds.length = n * ds.length + 2 * ds.length := Nat.add_mul ..
    have h5 : (n + 2) * ds.length ≤ (n + 2) * k := Nat.mul_le_mul_left _ hl
    show (tupleText (PyData.shownAll ds)).length ≤ _
    omega
theorem shp_lst {n m k : Nat} {ds : List PyData} (h : ∀ d ∈ ds, Shn n m d) (hl : ds.length ≤ k) : Shn ((n + 2) * k + 3) (m + 1) (.list ds) := by
  obtain ⟨a, b, c, e⟩ := shp_all h
  refine ⟨a, b, ?_, ?_⟩
  · show PyData.depthAll ds + 1 ≤ m + 1
    omega
  · have h1 := listText_len_le (PyData.shownAll ds)
    have h3 : (PyData.shownAll ds).length = ds.length := by rw [PyData.shownAll_length]
    have h4 : (n + 2) * ds.length = n * ds.length + 2 * ds.length := Nat.add_mul ..
    have h5 : (n + 2) * ds.length ≤ (n + 2) * k := Nat.mul_le_mul_left _ hl
    show (listText (PyData.shownAll ds)).length ≤ _
    omega
theorem shp_map {α : Type} {f : α → PyData} {n m k : Nat} {l : List α} (h : ∀ x ∈ l, Shn n m (f x)) (hl : l.length ≤ k) : Shn ((n + 2) * k + 3) (m + 1) (.tuple (l.map f)) := shp_tup (fun d hd => by
  obtain ⟨x, hx, rfl⟩ := List.mem_map.mp hd
  exact h x hx) (by rw [List.length_map]; exact hl)
/-- names that may be shown -/
def NmS (z : Str) : Prop := z.length ≤ 20 ∧ ∀ c ∈ z.cps.toList, c < 0x110000
theorem nmS_of {z : Str} (h : Nm z) : NmS z := by
  obtain ⟨l, rfl, h1, h6, hl⟩ := h.ex
  refine ⟨by rw [wd_len]; omega, fun c hc => ?_⟩
  have hc' : c ∈ l := by simpa [wd] using hc
  have := hl c hc'
  have h2 := this.2
  omega
/-- programs that may be shown: at most a hundred of each thing -/
structure ShP (a : Nat) (P : Prog) : Prop where
  sl : P.shared.length ≤ a
  sn : ∀ z ∈ P.shared, NmS z
  pl : P.parts.length ≤ a
  pt : ∀ p ∈ P.parts, NmS p.name ∧ p.own.length ≤ a ∧ (∀ z ∈ p.own, NmS z) ∧ p.rows.length ≤ a ∧ ∀ r ∈ p.rows, r.2.length ≤ a ∧ (∀ x ∈ r.2, x.natAbs < 10 ^ 12) ∧
    match r.1 with
    | .call k => k < 10 ^ 12
    | .rest => True
    | .any b => b < 10 ^ 12
    | .set b s => b < 10 ^ 12 ∧ s.length ≤ a ∧ ∀ x ∈ s, x.natAbs < 10 ^ 12
theorem nmS_shp {z : Str} (h : NmS z) : Shn 202 0 (.str z) := shp_str h.2 h.1
theorem ti_shp {a : Nat} {s : List Int} (hl : s.length ≤ a) (h : ∀ x ∈ s, x.natAbs < 10 ^ 12) : Shn (15 * a + 3) 1 (ti s) := shp_map (n := 13) (m := 0) (fun x hx => shp_int (h x hx)) hl
theorem word_shp {z : Str} (h : NmS z := by decide) : Shn 202 0 (.str z) := nmS_shp h
instance {z : Str} : Decidable (NmS z) := inferInstanceAs (Decidable (_ ∧ _))
theorem ShP.row {a : Nat} {P : Prog} (h : ShP a P) {p : Part} (hp : p ∈ P.parts) {r : Deed × List Int} (hr : r ∈ p.rows) : Shn ((((15 * a + 300) + 2) * 3 + 3 + 15 * a + 5) * 2 + 3) 3 (dRow r) := by
  obtain ⟨_, _, _, _, h4⟩ := h.pt p hp
  obtain ⟨h5, h6, h7⟩ := h4 r hr
  refine shp_tup (m := 2) (n := ((15 * a + 300) + 2) * 3 + 3 + 15 * a + 3) (fun d hd => ?_) (by show 2 ≤ 2; omega)
  rcases List.mem_cons.mp hd with rfl | hd
  · have key : ∀ (ds : List PyData), ds.length ≤ 3 → (∀ d ∈ ds, Shn (15 * a + 300) 1 d) → Shn (((15 * a + 300) + 2) * 3 + 3 + 15 * a + 3) 2 (.tuple ds) := fun ds hl hd => (shp_tup hd hl).mono (by omega) (Nat.le_refl _)
    have kc : Shn (15 * a + 300) 1 (.str "call") := (word_shp (z := "call")).mono (by omega) (by omega)
    have kr : Shn (15 * a + 300) 1 (.str "rest") := (word_shp (z := "rest")).mono (by omega) (by omega)
    have ka : Shn (15 * a + 300) 1 (.str "any") := (word_shp (z := "any")).mono (by omega) (by omega)
    have ks : Shn (15 * a + 300) 1 (.str "set") := (word_shp (z := "set")).mono (by omega) (by omega)
    have ki : ∀ n : Nat, n < 10 ^ 12 → Shn (15 * a + 300) 1 (.int (n : Int)) := fun n hn => (shp_int (by omega)).mono (by omega) (by omega)
    cases e : r.1 with
    | call k =>
      rw [e] at h7
      refine key _ (by show 2 ≤ 3; omega) fun d hd => ?_
      rcases List.mem_cons.mp hd with rfl | hd
      · exact kc
      · rw [List.mem_singleton.mp hd]; exact ki _ h7
    | rest =>
      refine key _ (by show 1 ≤ 3; omega) fun d hd => ?_
      rw [List.mem_singleton.mp hd]; exact kr
    | any b =>
      rw [e] at h7
      refine key _ (by show 2 ≤ 3; omega) fun d hd => ?_
      rcases List.mem_cons.mp hd with rfl | hd
      · exact ka
      · rw [List.mem_singleton.mp hd]; exact ki _ h7
    | set b s =>
      rw [e] at h7
      refine key _ (by show 3 ≤ 3; omega) fun d hd => ?_
      rcases List.mem_cons.mp hd with rfl | hd
      · exact ks
      rcases List.mem_cons.mp hd with rfl | hd
      · exact ki _ h7.1
      · rw [List.mem_singleton.mp hd]; exact (ti_shp h7.2.1 h7.2.2).mono (by omega) (Nat.le_refl _)
  · rw [List.mem_singleton.mp hd]
    exact (ti_shp h5 h6).mono (by omega) (by omega)
theorem ShP.part {P : Prog} (h : ShP 20 P) {p : Part} (hp : p ∈ P.parts) : Shn 254100 5 (dPart p) := by
  obtain ⟨h1, h2, h3, h4, _⟩ := h.pt p hp
  refine (shp_tup (n := 84664) (m := 4) (k := 3) (fun d hd => ?_) (by show 3 ≤ 3; omega)).mono (by omega) (by omega)
  rcases List.mem_cons.mp hd with rfl | hd
  · exact (nmS_shp h1).mono (by omega) (by omega)
  rcases List.mem_cons.mp hd with rfl | hd
  · exact (shp_map (n := 202) (m := 0) (fun z hz => nmS_shp (h3 z hz)) h2).mono (by omega) (by omega)
  · rw [List.mem_singleton.mp hd]
    exact (shp_map (fun r hr => h.row hp hr) h4).mono (by omega) (by omega)
theorem ShP.shp {P : Prog} (h : ShP 20 P) : Shn 11000000 7 (dProg P) := by
  refine (shp_tup (n := 5200000) (m := 6) (k := 2) (fun d hd => ?_) (by show 2 ≤ 2; omega)).mono (by omega) (by omega)
  rcases List.mem_cons.mp hd with rfl | hd
  · exact (shp_map (n := 202) (m := 0) (fun z hz => nmS_shp (h.sn z hz)) h.sl).mono (by omega) (by omega)
  · rw [List.mem_singleton.mp hd]
    exact (shp_map (fun p hp => h.part hp) h.pl).mono (by omega) (by omega)
theorem OkProg.shows {mb mp mr : Nat} {P : Prog} (O : OkProg mb mp mr P) (hb : mb ≤ 3) (hp : mp ≤ 3) (hr : mr ≤ 5) : ShP 20 P := by
  have L := (O.look hb hp hr).1
  obtain ⟨ws, lw, nd, hw, sh, es, hsh, p1, p3, parts⟩ := O
  have mem_take : ∀ {k : Nat} {l : List Str} {z : Str}, z ∈ l.take k → z ∈ l := fun h => List.mem_of_mem_take h
  refine ⟨?_, fun z hz => ?_, by omega, fun q hq => ?_⟩
  · rw [es, List.length_take]; omega
  · rw [es] at hz
    exact nmS_of (hw z (List.mem_of_mem_take hz)).1
  · obtain ⟨k, ek⟩ := List.mem_iff_getElem?.mp hq
    obtain ⟨en, ol, o2, eo, ho, r1, r2, r3⟩ := parts k q ek
    refine ⟨nmS_of (hw _ (List.mem_of_getElem? en)).1, ?_, fun z hz => ?_, by omega, fun r hr => ?_⟩
    · rw [eo, List.length_take]; omega
    · rw [eo] at hz
      exact nmS_of (hw z (List.mem_of_mem_drop (List.mem_of_mem_take hz))).1
    · obtain ⟨h1, g1, g3, gp, gx⟩ := r3 r hr
      have lo : q.own.length ≤ ol := by rw [eo, List.length_take]; omega
      refine ⟨by omega, fun x hx => ?_, ?_⟩
      · have := gx x hx; omega
      · cases e : r.1 with
        | call k => rw [e] at h1; show k < _; have h1 : k < _ := h1; omega
        | rest => trivial
        | any b => rw [e] at h1; show b < _; have h1 : b < _ := h1; omega
        | set b s =>
          rw [e] at h1
          obtain ⟨a1, a2, a3⟩ : b < _ ∧ s.length = _ ∧ _ := h1
          refine ⟨by omega, by omega, fun x hx => ?_⟩
          have := a3 x hx
          omega
end CB

set_option Elab.async false
set_option linter.all false
set_option maxRecDepth 100000
set_option maxHeartbeats 4000000
/-! comprehensions of whole numbers; calls written out, plain part -/
namespace CB
open PySem PySem.Spec PyProof.Rows L2
section
variable {K : PySem.W.Frag} {a : Addr} {ns : List Int} {g : TG} {tt : TT} {te : TE} {vs : List Nat} {σ : L2.St} {H1 : Hp} {D : Addr} {Qd : Hp → Prop} {p : Int → Bool} {f : Int → Int}
theorem take_snoc {i : Nat} {z : Int} (ez : ns[i]? = some z) : ns.take (i + 1) = ns.take i ++ [z] := by rw [List.take_add_one, ez]; rfl
theorem filt_yes {i : Nat} {z : Int} (ez : ns[i]? = some z) (hp : p z = true) : ((((ns.take (i + 1)).filter p).map f).map V.int) = ((((ns.take i).filter p).map f).map V.int) ++ [.int (f z)] := by
  rw [take_snoc ez, List.filter_append, List.map_append, List.map_append]
  have : [z].filter p = [z] := by rw [List.filter_cons, if_pos hp, List.filter_nil]
  rw [this]
  rfl
theorem filt_no {i : Nat} {z : Int} (ez : ns[i]? = some z) (hp : p z = false) : ((((ns.take (i + 1)).filter p).map f).map V.int) = ((((ns.take i).filter p).map f).map V.int) := by
  rw [take_snoc ez, List.filter_append]
  have : [z].filter p = [] := by rw [List.filter_cons, if_neg (by rw [hp]; exact Bool.false_ne_true), List.filter_nil]
  rw [this, List.append_nil]
theorem filt_len {i : Nat} (hl : ns.length ≤ 1000) : ((((ns.take i).filter p).map f).map V.int).length ≤ 1000 := by
  rw [List.length_map, List.length_map]
  have h1 := List.length_filter_le p (ns.take i)
  have h2 : (ns.take i).length ≤ ns.length := by rw [List.length_take]; omega
  omega
/-- a comprehension of whole numbers over a tuple of whole numbers -/
theorem lcT_ints (hS : SqT K H1 a (ns.map V.int)) (nD : H1 D = none) (hl : ns.length ≤ 1000)
    (hs : ∀ x ∈ ns, ∀ (H' : Hp), Ex H1 H' → ∀ (R : V → Hp → Prop) (N : Hp → Prop), (p x = true → ∀ H'', Ex H' H'' → R (.int (f x)) H'') → (p x = false → N H') → g (.int x) (wipe σ vs) H' fun σ2 H2 => wipe σ2 vs = wipe σ vs ∧ tt σ2 H2 fun b H3 => if b = true then te σ2 H3 R else N H3)
    (q : ∀ H', Ex H1 H' → H' D = some (.lst (((ns.filter p).map f).map V.int)) → Qd H') :
    ∃ W : Nat → Nat → Hp → Prop, (∃ m, W 0 m (upd H1 D (.lst []))) ∧ ∀ i m H, W i m H → ((Itt K a).stop i H ∧ Qd H) ∨ ((Itt K a).go i H ∧ ∃ Nx : Hp → Prop, (∀ H', Nx H' → ∃ m', m' < m ∧ W (i + 1) m' H') ∧ ∀ x H', (Itt K a).yld i H x H' → g x (wipe σ vs) H' fun σ2 H2 => wipe σ2 vs = wipe σ vs ∧ tt σ2 H2 fun b H3 =>
      if b = true then te σ2 H3 fun y H4 => ∃ acc, H4 D = some (.lst acc) ∧ acc.length < sizeLine ∧ Nx (upd H4 D (.lst (acc ++ [y]))) else Nx H3) := by
  refine lc_tup (K := K) (a := a) (xs := ns.map V.int) (fun i H' => Ex H1 H' ∧ H' D = some (.lst ((((ns.take i).filter p).map f).map V.int))) ⟨Evl.Ex.new nD, by rw [upd_same]; rfl⟩ (fun i H' _ h => ex_T h.1 hS) (fun i x H' hx h => ?_) (fun H' h => ?_)
  · obtain ⟨x1, hD⟩ := h
    obtain ⟨z, ez, rfl⟩ := int_get hx
    exact hs z (List.mem_of_getElem? ez) H' x1 _ _ (fun hp H'' x'' => ⟨_, x'' _ _ hD, small1000 (filt_len hl), Evl.Ex.mut (x1.trans x'') nD, by rw [upd_same, filt_yes ez hp]⟩) (fun hp => ⟨x1, by rw [filt_no ez hp]; exact hD⟩)
  · obtain ⟨x1, hD⟩ := h
    rw [List.length_map, List.take_of_length_le (Nat.le_refl _)] at hD
    exact q H' x1 hD
/-- the same over a list -/
theorem lcL_ints (hS : SqL K H1 a (ns.map V.int)) (nD : H1 D = none) (hl : ns.length ≤ 1000)
    (hs : ∀ x ∈ ns, ∀ (H' : Hp), Ex H1 H' → ∀ (R : V → Hp → Prop) (N : Hp → Prop), (p x = true → ∀ H'', Ex H' H'' → R (.int (f x)) H'') → (p x = false → N H') → g (.int x) (wipe σ vs) H' fun σ2 H2 => wipe σ2 vs = wipe σ vs ∧ tt σ2 H2 fun b H3 => if b = true then te σ2 H3 R else N H3)
    (q : ∀ H', Ex H1 H' → H' D = some (.lst (((ns.filter p).map f).map V.int)) → Qd H') :
    ∃ W : Nat → Nat → Hp → Prop, (∃ m, W 0 m (upd H1 D (.lst []))) ∧ ∀ i m H, W i m H → ((Itl K a).stop i H ∧ Qd H) ∨ ((Itl K a).go i H ∧ ∃ Nx : Hp → Prop, (∀ H', Nx H' → ∃ m', m' < m ∧ W (i + 1) m' H') ∧ ∀ x H', (Itl K a).yld i H x H' → g x (wipe σ vs) H' fun σ2 H2 => wipe σ2 vs = wipe σ vs ∧ tt σ2 H2 fun b H3 =>
      if b = true then te σ2 H3 fun y H4 => ∃ acc, H4 D = some (.lst acc) ∧ acc.length < sizeLine ∧ Nx (upd H4 D (.lst (acc ++ [y]))) else Nx H3) := by
  refine lc_list (K := K) (a := a) (xs := ns.map V.int) (fun i H' => Ex H1 H' ∧ H' D = some (.lst ((((ns.take i).filter p).map f).map V.int))) ⟨Evl.Ex.new nD, by rw [upd_same]; rfl⟩ (fun i H' _ h => ex_L h.1 hS) (fun i x H' hx h => ?_) (fun H' h => ?_)
  · obtain ⟨x1, hD⟩ := h
    obtain ⟨z, ez, rfl⟩ := int_get hx
    exact hs z (List.mem_of_getElem? ez) H' x1 _ _ (fun hp H'' x'' => ⟨_, x'' _ _ hD, small1000 (filt_len hl), Evl.Ex.mut (x1.trans x'') nD, by rw [upd_same, filt_yes ez hp]⟩) (fun hp => ⟨x1, by rw [filt_no ez hp]; exact hD⟩)
  · obtain ⟨x1, hD⟩ := h
    rw [List.length_map, List.take_of_length_le (Nat.le_refl _)] at hD
    exact q H' x1 hD
end
/-! ### data of tuples alone: a list of ours may change beside it -/
def Safe (d : PyData) : Prop := ∀ (K : PySem.W.Frag) (H : Hp) (p : Addr) (ys : List V) (o : HO) (x : V), H p = some (.lst ys) → Dp K H x d → Dp K (upd H p o) x d
theorem safe_int (i : Int) : Safe (.int i) := fun K H p ys o x _ h => by cases h; exact .int _
theorem safe_str (i : Str) : Safe (.str i) := fun K H p ys o x _ h => by cases h; exact .str _
theorem safe_all {K : PySem.W.Frag} {H : Hp} {p : Addr} {ys : List V} {o : HO} (hp : H p = some (.lst ys)) : ∀ {xs : List V} {ds : List PyData}, (∀ d ∈ ds, Safe d) → DpAll K H xs ds → DpAll K (upd H p o) xs ds
  | _, _, _, .nil => .nil
  | _, _, h, .cons h1 h2 => .cons (h _ List.mem_cons_self _ _ _ _ _ _ hp h1) (safe_all hp (fun d hd => h d (List.mem_cons_of_mem _ hd)) h2)
theorem safe_tup {ds : List PyData} (h : ∀ d ∈ ds, Safe d) : Safe (.tuple ds) := fun K H p ys o x hp hd => by
  obtain ⟨a, xs, rfl, s, dx⟩ := hd.tup_inv
  exact .tup (sqT_mut s hp) (safe_all hp h dx)
theorem safe_map {α : Type} {f : α → PyData} {l : List α} (h : ∀ x ∈ l, Safe (f x)) : Safe (.tuple (l.map f)) := safe_tup fun d hd => by
  obtain ⟨x, hx, rfl⟩ := List.mem_map.mp hd
  exact h x hx
theorem safe_deed : ∀ d : Deed, Safe (dDeed d)
  | .call k => safe_tup fun d hd => by
    rcases List.mem_cons.mp hd with rfl | hd
    · exact safe_str _
    · rw [List.mem_singleton.mp hd]; exact safe_int _
  | .rest => safe_tup fun d hd => by rw [List.mem_singleton.mp hd]; exact safe_str _
  | .any b => safe_tup fun d hd => by
    rcases List.mem_cons.mp hd with rfl | hd
    · exact safe_str _
    · rw [List.mem_singleton.mp hd]; exact safe_int _
  | .set b s => safe_tup fun d hd => by
    rcases List.mem_cons.mp hd with rfl | hd
    · exact safe_str _
    rcases List.mem_cons.mp hd with rfl | hd
    · exact safe_int _
    · rw [List.mem_singleton.mp hd]; exact safe_map fun x _ => safe_int x
theorem safe_row (r : Deed × List Int) : Safe (dRow r) := safe_tup fun d hd => by
  rcases List.mem_cons.mp hd with rfl | hd
  · exact safe_deed _
  · rw [List.mem_singleton.mp hd]; exact safe_map fun x _ => safe_int x
theorem safe_part (p : Part) : Safe (dPart p) := safe_tup fun d hd => by
  rcases List.mem_cons.mp hd with rfl | hd
  · exact safe_str _
  rcases List.mem_cons.mp hd with rfl | hd
  · exact safe_map fun x _ => safe_str x
  · rw [List.mem_singleton.mp hd]; exact safe_map fun x _ => safe_row x
theorem safe_prog (p : Prog) : Safe (dProg p) := safe_tup fun d hd => by
  rcases List.mem_cons.mp hd with rfl | hd
  · exact safe_map fun x _ => safe_str x
  · rw [List.mem_singleton.mp hd]; exact safe_map fun x _ => safe_part x
theorem safe_rows {K : PySem.W.Frag} {H : Hp} {p : Addr} {ys : List V} {o : HO} (hp : H p = some (.lst ys)) {xs : List V} {rows : List (Deed × List Int)} (h : DpAll K H xs (rows.map dRow)) : DpAll K (upd H p o) xs (rows.map dRow) := safe_all hp (fun d hd => by
  obtain ⟨r, _, rfl⟩ := List.mem_map.mp hd
  exact safe_row r) h
/-! ### a call written out -/
def srtZ (l : List Int) : List Int := l.foldr (fun x acc => if x ∈ acc then acc else insZ acc x) []
theorem srtZ_mem : ∀ {l : List Int} {k : Int}, k ∈ srtZ l ↔ k ∈ l
  | [], k => Iff.rfl
  | x :: l, k => by
    show k ∈ (if x ∈ srtZ l then srtZ l else insZ (srtZ l) x) ↔ _
    by_cases h : x ∈ srtZ l
    · rw [if_pos h, srtZ_mem, List.mem_cons]
      refine ⟨.inr, fun h2 => h2.elim (fun e => ?_) id⟩
      rw [e]; exact srtZ_mem.mp h
    · rw [if_neg h, insZ_mem, srtZ_mem, List.mem_cons]
      exact Or.comm
theorem srtZ_incr : ∀ {l : List Int}, (srtZ l).Pairwise (· < ·)
  | [] => List.Pairwise.nil
  | x :: l => by
    show (if x ∈ srtZ l then srtZ l else insZ (srtZ l) x).Pairwise (· < ·)
    by_cases h : x ∈ srtZ l
    · rw [if_pos h]; exact srtZ_incr
    · rw [if_neg h]; exact insZ_incr srtZ_incr h
theorem srtZ_len : ∀ {l : List Int}, (srtZ l).length ≤ l.length
  | [] => Nat.le_refl _
  | x :: l => by
    show (if x ∈ srtZ l then srtZ l else insZ (srtZ l) x).length ≤ l.length + 1
    have := srtZ_len (l := l)
    by_cases h : x ∈ srtZ l
    · rw [if_pos h]; omega
    · rw [if_neg h, insZ_len]; omega
theorem srtZ_eq {ms l : List Int} (inc : ms.Pairwise (· < ·)) (h : ∀ k : Int, k ∈ ms ↔ k ∈ l) : ms = srtZ l := incr_ext inc srtZ_incr fun k => by rw [h k, srtZ_mem]
theorem srtZ_congr {l m : List Int} (h : ∀ k : Int, k ∈ l ↔ k ∈ m) : srtZ l = srtZ m := srtZ_eq srtZ_incr fun k => by rw [srtZ_mem, h k]
def mvG (many more g : Int) : Int := g + more * (if g = many then 1 else 0)
def widen : Deed → Nat → Deed
  | .set b s, n => .set b (s ++ List.replicate n 0)
  | d, _ => d
def onwG (many more : Int) (beh g : List Int) : List Int := srtZ ((g.filter fun x => decide (x < more)).map (fun x => x + many) ++ if more ∈ g then beh else [])
def outRows (rows : List (Deed × List Int)) (m : Nat) (g : List Int) (called : List (Deed × List Int)) (no : Nat) : List (Deed × List Int) :=
  (rows.map fun r => (r.1, r.2.map (mvG rows.length called.length))).set m (.rest, [(rows.length : Int)]) ++ called.map fun r => (widen r.1 no, onwG rows.length called.length (g.map (mvG rows.length called.length)) r.2)
def wrOut (P : Prog) (i k : Int) : Option Prog :=
  match atZ P.parts i with
  | none => none
  | some p => match atZ p.rows k with
    | none => none
    | some r => match r.1 with
      | .call q => if (q : Int) = i then none else match P.parts[q]? with
        | none => none
        | some c => if 0 < c.own.length then none else some (setRows P i.toNat p (outRows p.rows k.toNat r.2 c.rows p.own.length))
      | _ => none
theorem wrOut_none1 {P : Prog} {i k : Int} (hp : atZ P.parts i = none) : wrOut P i k = none := by unfold wrOut; rw [hp]
theorem wrOut_none2 {P : Prog} {i k : Int} {p : Part} (hp : atZ P.parts i = some p) (hk : atZ p.rows k = none) : wrOut P i k = none := by unfold wrOut; rw [hp]; dsimp only; rw [hk]
theorem wrOut_none3 {P : Prog} {i k : Int} {p : Part} {r : Deed × List Int} (hp : atZ P.parts i = some p) (hk : atZ p.rows k = some r) (hc : ∀ q, r.1 ≠ .call q) : wrOut P i k = none := by
  unfold wrOut; rw [hp]; dsimp only; rw [hk]; dsimp only
  cases e : r.1 with
  | call q => exact absurd e (hc q)
  | rest => rfl
  | any b => rfl
  | set b s => rfl
theorem wrOut_call {P : Prog} {i k : Int} {p c : Part} {r : Deed × List Int} {q : Nat} (hp : atZ P.parts i = some p) (hk : atZ p.rows k = some r) (hc : r.1 = .call q) (hq : P.parts[q]? = some c) :
    wrOut P i k = if (q : Int) = i then none else if 0 < c.own.length then none else some (setRows P i.toNat p (outRows p.rows k.toNat r.2 c.rows p.own.length)) := by
  unfold wrOut; rw [hp]; dsimp only; rw [hk]; dsimp only; rw [hc]; dsimp only; rw [hq]
def sp_in_orderL (K : PySem.W.Frag) : Sp := fun vs H Q _ => ∃ (a : Addr) (ns : List Int), vs = [.ref a] ∧ SqL K H a (ns.map V.int) ∧ ns.length ≤ 60 ∧ ∀ (t : Addr) H', Ex H H' → SqT K H' t ((srtZ ns).map V.int) → Q (.ref t) H'
def sp_widened (K : PySem.W.Frag) : Sp := fun vs H Q _ => ∃ (v : V) (e : Deed) (n : Nat), vs = [v, .int (n : Int)] ∧ Dp K H v (dDeed e) ∧ n ≤ 100 ∧ (∀ b s, e = .set b s → s.length ≤ 100) ∧ RetE K H Q (dDeed (widen e n))
def sp_written (K : PySem.W.Frag) (C : Addr) : Sp := fun vs H Q E => ∃ (v : V) (P : Prog) (i k : Int), vs = [v, .int i, .int k] ∧ Dp K H v (dProg P) ∧ LookOk P ∧
  (wrOut P i k = none → ∀ H', Ex H H' → E (.ref C) none H') ∧ (∀ P', wrOut P i k = some P' → ∀ v' H', Ex H H' → Dp K H' v' (dProg P') → Q v' H')
def sp_moved (K : PySem.W.Frag) : Sp := fun vs H Q _ => ∃ (a b : Addr) (g o : List Int) (many more : Nat), vs = [.ref a, .int (more : Int), .int (many : Int), .ref b] ∧ SqT K H a (g.map V.int) ∧ SqL K H b (o.map V.int) ∧ g.length ≤ 20 ∧ o.length ≤ 20 ∧ (∀ x ∈ g, x ≤ more) ∧ many ≤ 100 ∧
  ∀ (t : Addr) H', Ex H H' → SqT K H' t ((onwG many more o g).map V.int) → Q (.ref t) H'
def sp_due49 (K : PySem.W.Frag) : Sp := fun vs H Q _ => ∃ (v : V) (P : Prog) (i k : Int), vs = [v, .int i, .int k] ∧ Dp K H v (dProg P) ∧ LookOk P ∧ RetE K H Q (optP (wrOut P i k))
def sp_heard49 (K : PySem.W.Frag) : Sp := fun vs H Q _ => ∃ (v : V) (P : Prog) (i k : Int), vs = [v, .int i, .int k, .non] ∧ Dp K H v (dProg P) ∧ LookOk P ∧
  ∀ (p : Addr) (v' : V) H', Ex H H' → H' p = some (.lst [v', .bl (wrOut P i k).isNone]) → Dp K H' v' (optP (wrOut P i k)) → Q (.ref p) H'
theorem set_snoc {α : Type} {l : List α} {x y : α} {m : Nat} : (l ++ [x]).set m y = l.set m y ++ [if m = l.length then y else x] := by
  rw [List.set_append]
  by_cases h : m < l.length
  · rw [if_pos h, if_neg (by omega)]
  · rw [if_neg h, show l.set m y = l from List.set_eq_of_length_le (by omega)]
    by_cases e : m = l.length
    · rw [if_pos e, e, Nat.sub_self]; rfl
    · rw [if_neg e, List.set_eq_of_length_le (show [x].length ≤ m - l.length by show 1 ≤ _; omega)]
theorem b01 {x y : Int} : (if decide (V.int x = V.int y) = true then (1 : Int) else 0) = if x = y then 1 else 0 := by
  by_cases h : x = y
  · subst h; rw [if_pos (decide_eq_true rfl), if_pos rfl]
  · rw [if_neg (fun e => h (V.int.inj (of_decide_eq_true e))), if_neg h]
theorem mv_at {x a b : Int} : atI [V.int x, V.int (a + b)] (if decide (V.int x = V.int a) = true then 1 else 0) = some (.int (mvG a b x)) := by
  rw [b01]
  unfold mvG
  by_cases h : x = a
  · rw [if_pos h, h, Int.mul_one]; rfl
  · rw [if_neg h, Int.mul_zero, Int.add_zero]; rfl
theorem filt_le {g : List Int} {m : Int} (h : ∀ x ∈ g, x ≤ m) : (g.filter fun x => !decide (x = m)) = g.filter fun x => decide (x < m) := List.filter_congr fun x hx => by
  have := h x hx
  by_cases e : x = m
  · rw [decide_eq_true e, decide_eq_false (by omega)]; rfl
  · rw [decide_eq_false e, decide_eq_true (by omega)]; rfl
theorem onwG_of {g o : List Int} {many more : Int} (h : ∀ x ∈ g, x ≤ more) : srtZ ((g.filter fun x => !decide (x = more)).map (fun x => x + many * (if decide (x < more) = true then 1 else 0)) ++ if more ∈ g then o else []) = onwG many more o g := by
  unfold onwG
  rw [filt_le h]
  refine congrArg (fun l => srtZ (l ++ _)) (List.map_congr_left fun x hx => ?_)
  have := of_decide_eq_true (List.mem_filter.mp hx).2
  rw [if_pos (decide_eq_true this), Int.mul_one]
end CB

set_option Elab.async false
set_option linter.all false
set_option maxRecDepth 100000
set_option maxHeartbeats 4000000
/-! a def called within an except suite, handed the error that is caught -/
namespace CB
open PySem PySem.Spec PyProof.Rows L2
/-- what such a def promises: a is the error's place, D its class -/
structure FnE (P : Program) (w : World) (K : PySem.W.Frag) (mg : Str → Option Value) (base : Heap) (D : Addr) (k : Nat) (f : Addr) (fd : FuncData) (ps : List Str) (sp : Addr → Sp) : Prop where
  len : ∀ a vs H Q E, sp a vs H Q E → vs.length = ps.length
  run : ∀ (A : Around) (outer : List Env) (s : Shared) (H : Hp) (args : Args) (us : List Value) (vs : List V) (Q : VK) (E : XK) (a : Addr) (oe : Obj), L2H.RoomH k A → L2H.PinOk outer H s (a, oe) → Zc (.ref D) none oe → (∃ vs, oe.data = .fields vs) →
    Env0 P w K mg base A outer s H → BindsTo s fd args (ps.zip us) → Vals vs us → sp a vs H Q E → codeAny (model P w) A (.call (.ref f) args) (CR CX0 outer P w H s Q E) s
section
variable {P : Program} {w : World} {K : PySem.W.Frag} {mg : Str → Option Value} {base : Heap} {D : Addr}
theorem okE {x qual : Str} {st : Stmt} {f : Addr} {fd : FuncData} {N ps : List Str} {k : Nat} {sp : Addr → Sp} (F : Fun K x qual st f fd) (S : FnScope N ps (defScope st)) (len : ∀ a vs H Q E, sp a vs H Q E → vs.length = ps.length)
    (body : ∀ (cdv : Value) (A : Around) (outer : List Env) (s : Shared) (H : Hp) (vs : List V) (Q : VK) (E : XK) (a : Addr) (oe : Obj), Zc (.ref D) none oe → (∃ vs, oe.data = .fields vs) → L2H.RoomH k (A.deeper (envOfC qual (defScope st) s.heap.objs.size f cdv)) → sp a vs H Q E →
      ∃ t, PSs (L2H.cxH CX0 P w K mg base N qual (defScope st) f cdv A outer s H E (a, oe)) (defBody st) t ∧ t { nx := fun _ H' => Q .non H', rt := Q } (start N vs) H) : FnE P w K mg base D (k + 1) f fd ps sp := by
  obtain ⟨oc, od, kV, doc, pm, an, cdv, ct, osl, rfl, lk, hcd⟩ := F.ex
  refine ⟨len, fun A outer s H args us vs Q E a oe room pin z fl e0 bnd rel say => ?_⟩
  have still : ∀ b o, base.get? b = some o → s.heap.get? b = some o := fun b o q => (e0.bs b o q).1
  have inK := e0.mod.kin.keeps still
  have kinds : ∀ y ∈ ps.zip us, (defScope st).names.lookup y.1 = some .local ∨ ((defScope st).names.lookup y.1 = some .cell ∧ ((cellsFrom (s.heap.objs.size + 1) (defScope st).names []).lookup y.1).isSome = true) := by
    rintro ⟨nm, v⟩ hy
    exact (S.par nm (List.of_mem_zip hy).1).elim .inl fun q => .inr ⟨q, PySem.W.cellsFrom_some _ _ _ (.inl q)⟩
  refine codeAny_call_function room.depth (inK _ _ lk) rfl S.co S.gen rfl (PySem.W.codeRec_of inK hcd) (bnd _ _ _ _ (wpAny_newFunctionEnv_cells S.kind kinds ?_))
  rintro env rfl s1 made
  obtain ⟨t, ht, hq⟩ := body cdv A outer s H vs Q E a oe z fl (room.deeper _) say
  have I0 := L2H.inv_startH (CX := CX0) (E := E) S pin e0 (len _ _ _ _ _ say) rel made
  refine ⟨(e0.mod.nolimit.keeps still).keeps made.toInCall.keep, codeAny_func (wpAny_mono (ht.run [] s1 (start N vs) H _ I0 hq) (fun fl2 s2 done => ?_) fun e s2 done => done)⟩
  cases fl2 with
  | ret u =>
    obtain ⟨v, σ2, H2, J, rv, q⟩ := done
    exact ⟨v, H2, J.os, J.bare, J.base, J.hok, rv, q⟩
  | next =>
    obtain ⟨σ2, H2, J, q⟩ := done
    exact ⟨V.non, H2, J.os, J.bare, J.base, J.hok, rfl, q⟩
  | brk => exact done.elim fun _ h => h.elim fun _ h => (show False from h.2).elim
  | cont => exact done.elim fun _ h => h.elim fun _ h => (show False from h.2).elim
end
section
variable {X : Cx} {k : Nat} {f a D : Addr} {oe : Obj} {fd : FuncData} {ps : List Str} {sp : Addr → Sp} {x : Str} {p pos : Pos} {e : Expr} {es : List Expr} {t : TA} {E : XK}
theorem pe_callE (F : FnE X.prog X.w X.K X.mg X.base D k f fd ps sp) (room : L2H.RoomH k X.A) (hp : (a, oe) ∈ X.pn) (z : Zc (.ref D) none oe) (fl : ∃ vs, oe.data = .fields vs) (hg : Gl X x) (hm : X.mg x = some (.ref f)) (hk : PySem.W.keepIn X.K (.ref f) = true) (hb : Binds X.K fd ps [])
    (ha : PA X (e :: es) t) (hdb : (x == ("__debug__" : Str)) = false := by decide) (he : starEach (e :: es) X.env = (false, eval e X.env) :: starEach es X.env := by rfl) (hpl : (backTo pos (starEach es X.env)).any (·.1) = false := by rfl) :
    PE X (.Call (.Name x p) (e :: es) [] pos) (fun σ H Q => t σ H fun vs H1 => sp a vs H1 Q E) := by
  refine ⟨fun pins s σ H Q I h => wpAny_Call_Name_kw (ld_glob I hg hm (PySem.W.callWith_K (h₀ := X.base) I.ok.mod.kin hk (thn (ha.run pos pins s σ H _ I h) fun us s1 hus => ?_) he hpl) hdb)⟩
  obtain ⟨vs, H1, I1, r, q⟩ := hus
  refine ⟨I1.kIn, ?_⟩
  have hl : (us ++ []).length = ps.length := by rw [List.append_nil, ← r.length]; exact F.len _ _ _ _ _ q
  have bnd := hb s1 us I1.kIn hl
  rw [List.append_nil] at bnd
  have pinned := I1.pin (a, oe) (List.mem_append_left _ hp)
  have pin : L2H.PinOk X.stack H1 s1 (a, oe) := ⟨pinned.1, pinned.2.1, fun there => (List.mem_cons.mp (I1.stkSub a there)).elim pinned.2.2.1 pinned.2.2.2.1, pinned.2.2.2.2⟩
  refine wpAny_call (codeAny_mono (F.run X.A X.stack s1 H1 ⟨us, []⟩ us vs Q E a oe room pin z fl I1.env0 bnd r q) fun r s' hq => ?_)
  cases r with
  | error e => exact False.elim hq
  | ok fl2 =>
    cases fl2 with
    | ret u => exact I1.after hq
    | next => exact False.elim hq
    | brk => exact False.elim hq
    | cont => exact False.elim hq
theorem inst_of {h : Heap} {D : Addr} (get : h.get? a = some oe) (z : Zc (.ref D) none oe) (fl : ∃ vs, oe.data = .fields vs) : PySem.W.InstAt h a oe D none := by
  obtain ⟨vs, hv⟩ := fl
  obtain ⟨oc, od, oda, osl⟩ := oe
  obtain ⟨h1, h2⟩ := z
  dsimp only at h1 h2 hv
  subst h1 h2 hv
  exact ⟨get, rfl, rfl, trivial⟩
/-- isinstance(e, c), e an error that the context bears -/
theorem isE_pin {K : PySem.W.Frag} (C : ExcC K D) (hp : (a, oe) ∈ X.pn) (z : Zc (.ref D) none oe) (fl : ∃ vs, oe.data = .fields vs) (hK : X.K = K := by rfl) : CallR X (.builtin "isinstance") (rIsE K D a) := by
  subst hK
  intro pins s σ H xs us Q I r h
  obtain ⟨c, cv, b, rfl, hcv, ans, q⟩ := h
  obtain ⟨u1, u2, rfl, r1, r2⟩ := vals2 r
  cases (show u1 = Value.ref a from r1)
  have ec := hcv _ r2
  subst ec
  have J := inst_of (D := D) (I.pin (a, oe) (List.mem_append_left _ hp)).1 z fl
  exact PySem.W.kia_one (PySem.W.handS_kitx_exc C.hg C.hk C.hs C.hd C.ha C.hn C.ht C.hm) I.kIn J ans (fun no => nomatch no) fun tk => ⟨.bl b, H, I.kept (t' := tk) fun _ _ q => q, rfl, q⟩
theorem isET_pin {K : PySem.W.Frag} (C : ExcC K D) (hp : (a, oe) ∈ X.pn) (z : Zc (.ref D) none oe) (fl : ∃ vs, oe.data = .fields vs) (hK : X.K = K := by rfl) : CallR X (.builtin "isinstance") (rIsET K D a) := by
  subst hK
  intro pins s σ H xs us Q I r h
  obtain ⟨tp, cs, ws, b, rfl, hT, k, ans, q⟩ := h
  obtain ⟨u1, u2, rfl, r1, r2⟩ := vals2 r
  cases (show u1 = Value.ref a from r1)
  cases (show u2 = Value.ref tp from r2)
  have J := inst_of (D := D) (I.pin (a, oe) (List.mem_append_left _ hp)).1 z fl
  obtain ⟨_, its, rv, o, h1, h2, n, h3⟩ := (show ObjOk X.prog X.w H s.heap tp (.tup cs) from I.hok tp _ hT)
  have e3 := ClsV.all k rv
  subst e3
  obtain ⟨oc, od, dt, sl⟩ := o
  simp only at h2 h3
  subst h2 h3
  exact PySem.W.kia_tup (PySem.W.handS_kitx_exc C.hg C.hk C.hs C.hd C.ha C.hn C.ht C.hm) I.kIn J h1 ans (fun no => nomatch no) fun tk => ⟨.bl b, H, I.kept (t' := tk) fun _ _ q => q, rfl, q⟩
end
end CB

set_option Elab.async false
set_option linter.all false
set_option maxRecDepth 100000
set_option maxHeartbeats 4000000
/-! sets of texts -/
namespace CB
open PySem PySem.Spec PyProof.Rows L2
/-- how many unlike ones a list has -/
def dst {α : Type} [DecidableEq α] : List α → Nat
  | [] => 0
  | x :: l => if x ∈ l then dst l else dst l + 1
section
variable {α : Type} [DecidableEq α]
theorem dst_snoc : ∀ (l : List α) (z : α), dst (l ++ [z]) = if z ∈ l then dst l else dst l + 1
  | [], z => by simp [dst]
  | x :: l, z => by
    have ih := dst_snoc l z
    show (if x ∈ l ++ [z] then dst (l ++ [z]) else dst (l ++ [z]) + 1) = if z ∈ x :: l then (if x ∈ l then dst l else dst l + 1) else (if x ∈ l then dst l else dst l + 1) + 1
    rw [ih]
    by_cases hx : x ∈ l
    · rw [if_pos (List.mem_append_left _ hx), if_pos hx]
      by_cases hz : z ∈ l
      · rw [if_pos hz, if_pos (List.mem_cons_of_mem _ hz)]
      · rw [if_neg hz, if_neg (fun h => by rcases List.mem_cons.mp h with e | e; exact hz (e ▸ hx); exact hz e)]
    · rw [if_neg hx]
      by_cases hz : z ∈ l
      · rw [if_pos hz, if_pos (List.mem_cons_of_mem _ hz), if_neg (fun h => by rcases List.mem_append.mp h with e | e; exact hx e; exact hx (List.mem_singleton.mp e ▸ hz))]
      · rw [if_neg hz]
        by_cases e : x = z
        · rw [if_pos (List.mem_append_right _ (List.mem_singleton.mpr e)), if_pos (by rw [e]; exact List.mem_cons_self)]
        · rw [if_neg (fun h => by rcases List.mem_append.mp h with k | k; exact hx k; exact e (List.mem_singleton.mp k)), if_neg (fun h => by rcases List.mem_cons.mp h with k | k; exact e k.symm; exact hz k)]
theorem dst_le : ∀ l : List α, dst l ≤ l.length
  | [] => Nat.le_refl _
  | x :: l => by
    have := dst_le l
    show (if x ∈ l then dst l else dst l + 1) ≤ l.length + 1
    by_cases h : x ∈ l
    · rw [if_pos h]; omega
    · rw [if_neg h]; omega
theorem dst_app : ∀ (a b : List α), dst (a ++ b) ≤ a.length + dst b ∧ (dst (a ++ b) = a.length + dst b ↔ a.Nodup ∧ ∀ x ∈ a, x ∉ b)
  | [], b => by
    refine ⟨by show dst b ≤ 0 + dst b; omega, fun _ => ⟨List.nodup_nil, fun x hx => by cases hx⟩, fun _ => by show dst b = 0 + dst b; omega⟩
  | x :: a, b => by
    obtain ⟨h1, h2⟩ := dst_app a b
    have e : dst (x :: a ++ b) = if x ∈ a ++ b then dst (a ++ b) else dst (a ++ b) + 1 := rfl
    rw [e, List.length_cons]
    by_cases h : x ∈ a ++ b
    · rw [if_pos h]
      refine ⟨by omega, fun q => by omega, fun q => ?_⟩
      rcases List.mem_append.mp h with k | k
      · exact absurd k (List.nodup_cons.mp q.1).1
      · exact absurd k (q.2 x List.mem_cons_self)
    · rw [if_neg h]
      refine ⟨by omega, fun q => ?_, fun q => ?_⟩
      · obtain ⟨n, dj⟩ := h2.mp (by omega)
        refine ⟨List.nodup_cons.mpr ⟨fun k => h (List.mem_append_left _ k), n⟩, fun y hy => ?_⟩
        rcases List.mem_cons.mp hy with rfl | hy
        · exact fun k => h (List.mem_append_right _ k)
        · exact dj y hy
      · have := h2.mpr ⟨(List.nodup_cons.mp q.1).2, fun y hy => q.2 y (List.mem_cons_of_mem _ hy)⟩
        omega
theorem dst_nodup (l : List α) : dst l = l.length ↔ l.Nodup := by
  have h := (dst_app l []).2
  rw [List.append_nil] at h
  have e : dst ([] : List α) = 0 := rfl
  rw [e, Nat.add_zero] at h
  rw [h]
  exact ⟨fun q => q.1, fun q => ⟨q, fun x _ k => by cases k⟩⟩
end
/-- which keys are in -/
def inK (ks : List Str) : Key → Bool
  | .inl _ => false
  | .inr x => decide (x ∈ ks)
theorem strs_len : ∀ {us : List Value} {ys : List Str}, StrsAre us ys → us.length = ys.length
  | _, _, .nil => rfl
  | _, _, .cons _ _ r => by rw [List.length_cons, List.length_cons, strs_len r]
theorem strs_at : ∀ {us : List Value} {ys : List Str}, StrsAre us ys → ∀ (i : Nat) (y : Str), ys[i]? = some y → ∃ t, us[i]? = some (.str y t)
  | _, _, .nil, i, y, e => by simp at e
  | _, _, .cons z k r, 0, y, e => by
    rw [List.getElem?_cons_zero] at e
    cases e
    exact ⟨k, rfl⟩
  | _, _, .cons z k r, i + 1, y, e => by
    rw [List.getElem?_cons_succ] at e ⊢
    exact strs_at r i y e
section
variable {P : Program} {w : World} {A : Around} {E : Value → Shared → Prop} {s : Shared}
theorem setS_new {h : Heap} {a : Addr} (ho : h.get? a = some (nS w)) : h.SetOf (mixKind P w) a (inK []) (dst ([] : List Str)) :=
  ⟨_, #[], 0, _, ho, ⟨rfl, rfl, rfl⟩, rfl, (fun e he => by simp at he), (fun k => by cases k <;> simp [inK]), (by decide), (by rfl), rfl⟩
theorem setS_congr {h : Heap} {a : Addr} {S S' : Key → Bool} {n : Nat} (R : h.SetOf (mixKind P w) a S n) (e : ∀ k, S k = S' k) : h.SetOf (mixKind P w) a S' n := by
  have : S = S' := funext e
  rw [← this]
  exact R
theorem set_update_strs {I : Addr} {fp wr : List Addr} {G : Array GenState → Array GenState → Prop} {n : Nat} {Pv : Nat → Value → Prop} {St : Nat → Shared → Prop} {R : Result → Shared → Prop}
    (W : WalksS P w A.in1 I fp wr G n Pv St) (S : Addr) (apart : S ∉ fp) (ks : List Str) (hn : n = ks.length) (room : ks.length + 1 < scanBound) (tells : ∀ i v, Pv i v → ∃ k t, ks[i]? = some k ∧ v = .str k t) :
    ∀ (k i : Nat) (s : Shared), n - i = k → i ≤ n → St i s → s.heap.SetOf (mixKind P w) S (inK (ks.take i)) (dst (ks.take i)) →
      (∀ s', Moved (S :: wr) G s s' → s'.heap.SetOf (mixKind P w) S (inK ks) (dst ks) → R (.ok (.ret .none)) s') →
      codeAny (model P w) A (.builtin "set.update.loop" ⟨[.ref S, .ref I], []⟩) R s := by
  have nw : S ∉ wr := fun h => apart (W.sub _ h)
  have more : ∀ b ∈ wr, b ∈ S :: wr := fun b hb => List.mem_cons_of_mem _ hb
  intro k
  induction k with
  | zero =>
    intro i s hk hi st now hR
    obtain rfl : i = n := by omega
    refine codeAny_builtin F.entry_set_update_loop ?_
    rw [Around.under_plainId F.plain_set_update_loop _]
    show wpAny _ A.in1 (pyNext (.ref I) >>= _) _ _ s
    refine wpAny_bind (W.done s _ _ st fun s2 moved => ?_)
    show wpAny _ A.in1 (ret Value.none) _ _ s2
    rw [List.take_of_length_le (by omega)] at now
    exact wpAny_pure (hR s2 (moved.mono more) (setOf_at now fun o e => moved.heap S o nw e))
  | succ k ih =>
    intro i s hk hi st now hR
    have hlt : i < n := by omega
    refine codeAny_builtin F.entry_set_update_loop ?_
    rw [Around.under_plainId F.plain_set_update_loop _]
    show wpAny _ A.in1 (pyNext (.ref I) >>= _) _ _ s
    refine wpAny_bind (W.item i s _ _ hlt st fun v s2 hv st2 moved => ?_)
    obtain ⟨z, t, ez, rfl⟩ := tells i v hv
    have now2 : s2.heap.SetOf (mixKind P w) S (inK (ks.take i)) (dst (ks.take i)) := setOf_at now fun o e => moved.heap S o nw e
    show wpAny _ A.in1 (holding [Value.str z t] (setAdd S (.str z t)) >>= _) _ _ s2
    refine wpAny_bind (wpAny_holding ?_)
    unfold setAdd
    refine wpAny_holding ?_
    have isk : (mixKind P w).is (Sum.inr z) (.str z t) = true := kV_is (k := Sum.inr z) ⟨t, rfl⟩
    have few := dst_le (ks.take i)
    have lt : (ks.take i).length = i := by rw [List.length_take]; omega
    refine wpAny_bind ((mixKind P w).pyHash isk ?_)
    refine wpAny_setAddHashed_of (s := { s2 with toks := s2.toks + 1 }) isk rfl now2 (by omega) fun h3 same now3 => ?_
    have es : ks.take (i + 1) = ks.take i ++ [z] := by rw [List.take_add_one, ez]; rfl
    have now4 : h3.SetOf (mixKind P w) S (inK (ks.take (i + 1))) (dst (ks.take (i + 1))) := by
      have e1 : (if inK (ks.take i) (Sum.inr z) = true then dst (ks.take i) else dst (ks.take i) + 1) = dst (ks.take (i + 1)) := by
        rw [es, dst_snoc]
        show (if decide (z ∈ ks.take i) = true then _ else _) = _
        by_cases hz : z ∈ ks.take i
        · rw [if_pos (decide_eq_true hz), if_pos hz]
        · rw [if_neg (by simpa using hz), if_neg hz]
      rw [← e1]
      refine setS_congr now3 fun q => ?_
      rw [es]
      cases q with
      | inl _ => rfl
      | inr x => show (decide (x ∈ ks.take i) || decide ((Sum.inr x : Key) = Sum.inr z)) = decide (x ∈ ks.take i ++ [z]); simp
    refine wpAny_pure ⟨plainId_quiet F.plain_set_update_loop _, ih (i + 1) _ (by omega) hlt (W.frame _ s2 _ _ st2 (Nat.le_succ _) fun b hb o e => ?_) now4 fun s5 moved5 now5 => ?_⟩
    · rw [same.2 b (fun h : b = S => apart (by rw [← h]; exact hb))]; exact e
    · refine hR s5 (Moved.trans W.gtrans ((moved.mono more).then_heap (Nat.le_succ _) fun b o hb e => ?_) moved5) now5
      rw [same.2 b (fun h : b = S => hb (by rw [h]; exact List.mem_cons_self))]; exact e
set_option maxHeartbeats 6400000 in
theorem set_of_listS {l : Addr} {items : Array Value} (ks : List Str) {Q : Value → Shared → Prop} (hh : A.handled = none) (hl : s.heap.IsList l items) (hit : StrsAre items.toList ks) (hb : ks.length + 1 < scanBound)
    (h : ∀ (h' : Heap) (tk : Nat), h'.SetOf (mixKind P w) s.heap.objs.size (inK ks) (dst ks) → (∀ b o, s.heap.get? b = some o → h'.get? b = some o) → Q (.ref s.heap.objs.size) { s with heap := h', toks := tk }) :
    wpAny (model P w) A (call (.type "set") [.ref l]) Q E s := by
  have hisz : items.size = ks.length := by rw [← Array.length_toList]; exact strs_len hit
  obtain ⟨c, tl, hmro⟩ := F.called_set.mro
  have hmade := F.called_set.made; have hsub := F.called_set.sub
  refine wpAny_call (codeAny_of_tree ?_)
  show wpAny _ _ (callAny (.type "set") _) _ _ _
  refine wpAny_pure ⟨Code.quiet_builtin _ (by decide +kernel), codeAny_builtin F.entry_type_call ?_⟩
  rw [Around.under_plain (weight_type_call_type "set" [.ref l] []) rfl]
  have h1 := F.called_set.notType; have h2 := F.called_set.canCreate; have hct := F.typeCall_set_1 (.ref l)
  repeat (any_goals (first | assumption | wp_step))
  refine codeAny_mono (code_set_led1 (.ref l) (E := E) (Q₁ := fun obj s₁ => obj = .ref s.heap.objs.size ∧ s₁ = { s with heap := s.heap.push (nS w) }) ⟨rfl, rfl⟩) fun r s₁ hr => ?_
  cases r with
  | error e => exact hr
  | ok fl =>
    cases fl with
    | ret obj =>
      obtain ⟨rfl, rfl⟩ := hr
      have hS : (s.heap.push (nS w)).get? s.heap.objs.size = some (nS w) := Heap.get?_push_size _ rfl
      have hT : Shared.TypeIs { s with heap := s.heap.push (nS w) } (.ref s.heap.objs.size) "set" := ⟨_, hS, rfl⟩
      have hli := F.called_set.init.lookup; have hbi := F.called_set.init.bind (.ref s.heap.objs.size)
      repeat (any_goals (first | assumption | wp_step))
      refine codeAny_mono (codeAny_call_builtin (R := wants (fun r s₂ => r = .none ∧ ∃ h' tk, s₂ = { s with heap := h', toks := tk } ∧ h'.SetOf (mixKind P w) s.heap.objs.size (inK ks) (dst ks) ∧ (∀ b o, s.heap.get? b = some o → h'.get? b = some o)) E) F.called_set.init.plain F.entry_set_init (check_set_init_1 hT ?_)) fun r₂ s₂ hr₂ => ?_
      · obtain ⟨⟨ocls, odict, odata, oslots⟩, hol, hcl, nl, hdl⟩ := hl
        simp only at hcl hdl
        subst hcl; subst hdl
        have hol' : (s.heap.push (nS w)).get? l = some { cls := .type "list", dict := odict, data := .seq items nl, slots := oslots } := Heap.get?_push_of_some _ hol
        have hsls := F.sub_list_set; have hslf := F.sub_list_frozenset
        have hne : (Value.type "list" == Value.type "dict") = false := by decide
        have hl1 : (s.heap.push (nS w)).IsList l items := ⟨_, hol', rfl, nl, rfl⟩
        unfold Builtin.«set.__init__» noKeywords Builtin.Frozenset.updateFrom
        generalize hPI : pyIter = PI
        wp_walk
        subst hPI
        refine wpAny_pyIter_list hl1 (wpAny_bind (wpAny_runValue ?_))
        have hlS : l < s.heap.objs.size := Heap.lt_size hol
        have hh3 : A.in1.in1.in1.handled = none := by simp [hh]
        have hneI : l ≠ (s.heap.push (nS w)).objs.size := by rw [Heap.size_push]; exact Nat.ne_of_lt (Nat.lt_succ_of_lt hlS)
        have hSf : s.heap.objs.size ∉ [(s.heap.push (nS w)).objs.size, l] := by
          rw [Heap.size_push]; simp only [List.mem_cons, List.mem_singleton, List.not_mem_nil, or_false, not_or]; exact ⟨Nat.ne_of_lt (Nat.lt_succ_self _), Nat.ne_of_gt hlS⟩
        have hval : ∀ (i : Nat) (v : Value), items[i]? = some v → ∃ k t, ks[i]? = some k ∧ v = .str k t := fun i v hv => by
          have hi : i < ks.length := by rw [← hisz]; exact (Array.getElem?_eq_some_iff.mp hv).1
          obtain ⟨t, e⟩ := strs_at hit i ks[i] (List.getElem?_eq_getElem hi)
          refine ⟨ks[i], t, List.getElem?_eq_getElem hi, ?_⟩
          rw [Array.getElem?_toList, hv] at e
          exact Option.some.inj e
        refine set_update_strs ((Walks.list hh3 _ l hneI items).toS) s.heap.objs.size hSf ks hisz hb hval (items.size - 0) 0 _ (by omega) (Nat.zero_le _) ⟨⟨_, Heap.get?_push_size _ rfl, rfl, rfl⟩, (hl1.push _)⟩ (setS_new (Heap.get?_push_of_some _ hS)) fun s' hm hS' => ?_
        obtain ⟨h', g2, d', tk', os'⟩ := s'
        obtain rfl : g2 = s.gens := hm.gens
        obtain rfl : d' = s.drawn := hm.drawn
        obtain rfl : os' = s.os := hm.os
        show wpAny _ _ _ _ _ _
        refine wpAny_pure ?_
        show wpAny _ _ (ret Value.none) _ _ _
        refine wpAny_pure ⟨rfl, h', tk', rfl, hS', fun b o e => ?_⟩
        have hb0 : b < s.heap.objs.size := Heap.lt_size e
        have hb2 : b ≠ (s.heap.push (nS w)).objs.size := by rw [Heap.size_push]; exact Nat.ne_of_lt (Nat.lt_succ_of_lt hb0)
        exact hm.heap b o (by simp only [List.mem_cons, List.mem_singleton, List.not_mem_nil, or_false, not_or]; exact ⟨Nat.ne_of_lt hb0, hb2⟩) (Heap.get?_push_of_some _ (Heap.get?_push_of_some _ e))
      · cases r₂ with
        | error e => exact hr₂
        | ok fl₂ =>
          cases fl₂ with
          | ret r =>
            obtain ⟨rfl, h', tk, rfl, hS', hk'⟩ := hr₂
            repeat (any_goals (first | assumption | wp_step))
            exact h _ _ hS' hk'
          | _ => exact hr₂.elim
    | _ => exact hr.elim
set_option maxHeartbeats 6400000 in
theorem set_of_tupS {l : Addr} {items : Array Value} (ks : List Str) {Q : Value → Shared → Prop} (hh : A.handled = none) (hl : s.heap.IsTuple l items) (hit : StrsAre items.toList ks) (hb : ks.length + 1 < scanBound)
    (h : ∀ (h' : Heap) (tk : Nat), h'.SetOf (mixKind P w) s.heap.objs.size (inK ks) (dst ks) → (∀ b o, s.heap.get? b = some o → h'.get? b = some o) → Q (.ref s.heap.objs.size) { s with heap := h', toks := tk }) :
    wpAny (model P w) A (call (.type "set") [.ref l]) Q E s := by
  have hisz : items.size = ks.length := by rw [← Array.length_toList]; exact strs_len hit
  obtain ⟨c, tl, hmro⟩ := F.called_set.mro
  have hmade := F.called_set.made; have hsub := F.called_set.sub
  refine wpAny_call (codeAny_of_tree ?_)
  show wpAny _ _ (callAny (.type "set") _) _ _ _
  refine wpAny_pure ⟨Code.quiet_builtin _ (by decide +kernel), codeAny_builtin F.entry_type_call ?_⟩
  rw [Around.under_plain (weight_type_call_type "set" [.ref l] []) rfl]
  have h1 := F.called_set.notType; have h2 := F.called_set.canCreate; have hct := F.typeCall_set_1 (.ref l)
  repeat (any_goals (first | assumption | wp_step))
  refine codeAny_mono (code_set_led1 (.ref l) (E := E) (Q₁ := fun obj s₁ => obj = .ref s.heap.objs.size ∧ s₁ = { s with heap := s.heap.push (nS w) }) ⟨rfl, rfl⟩) fun r s₁ hr => ?_
  cases r with
  | error e => exact hr
  | ok fl =>
    cases fl with
    | ret obj =>
      obtain ⟨rfl, rfl⟩ := hr
      have hS : (s.heap.push (nS w)).get? s.heap.objs.size = some (nS w) := Heap.get?_push_size _ rfl
      have hT : Shared.TypeIs { s with heap := s.heap.push (nS w) } (.ref s.heap.objs.size) "set" := ⟨_, hS, rfl⟩
      have hli := F.called_set.init.lookup; have hbi := F.called_set.init.bind (.ref s.heap.objs.size)
      repeat (any_goals (first | assumption | wp_step))
      refine codeAny_mono (codeAny_call_builtin (R := wants (fun r s₂ => r = .none ∧ ∃ h' tk, s₂ = { s with heap := h', toks := tk } ∧ h'.SetOf (mixKind P w) s.heap.objs.size (inK ks) (dst ks) ∧ (∀ b o, s.heap.get? b = some o → h'.get? b = some o)) E) F.called_set.init.plain F.entry_set_init (check_set_init_1 hT ?_)) fun r₂ s₂ hr₂ => ?_
      · obtain ⟨⟨ocls, odict, odata, oslots⟩, hol, hcl, nl, hdl⟩ := hl
        simp only at hcl hdl
        subst hcl; subst hdl
        have hol' : (s.heap.push (nS w)).get? l = some { cls := .type "tuple", dict := odict, data := .seq items nl, slots := oslots } := Heap.get?_push_of_some _ hol
        have hsls := F.sub_tuple_set; have hslf := F.sub_tuple_frozenset
        have hne : (Value.type "tuple" == Value.type "dict") = false := by decide
        have hl1 : (s.heap.push (nS w)).IsTuple l items := ⟨_, hol', rfl, nl, rfl⟩
        unfold Builtin.«set.__init__» noKeywords Builtin.Frozenset.updateFrom
        generalize hPI : pyIter = PI
        wp_walk
        subst hPI
        refine wpAny_pyIter_tuple hl1 (wpAny_bind (wpAny_runValue ?_))
        have hlS : l < s.heap.objs.size := Heap.lt_size hol
        have hh3 : A.in1.in1.in1.handled = none := by simp [hh]
        have hneI : l ≠ (s.heap.push (nS w)).objs.size := by rw [Heap.size_push]; exact Nat.ne_of_lt (Nat.lt_succ_of_lt hlS)
        have hSf : s.heap.objs.size ∉ [(s.heap.push (nS w)).objs.size, l] := by
          rw [Heap.size_push]; simp only [List.mem_cons, List.mem_singleton, List.not_mem_nil, or_false, not_or]; exact ⟨Nat.ne_of_lt (Nat.lt_succ_self _), Nat.ne_of_gt hlS⟩
        have hval : ∀ (i : Nat) (v : Value), items[i]? = some v → ∃ k t, ks[i]? = some k ∧ v = .str k t := fun i v hv => by
          have hi : i < ks.length := by rw [← hisz]; exact (Array.getElem?_eq_some_iff.mp hv).1
          obtain ⟨t, e⟩ := strs_at hit i ks[i] (List.getElem?_eq_getElem hi)
          refine ⟨ks[i], t, List.getElem?_eq_getElem hi, ?_⟩
          rw [Array.getElem?_toList, hv] at e
          exact Option.some.inj e
        refine set_update_strs ((Walks.tuple hh3 _ l hneI items).toS) s.heap.objs.size hSf ks hisz hb hval (items.size - 0) 0 _ (by omega) (Nat.zero_le _) ⟨⟨_, Heap.get?_push_size _ rfl, rfl, rfl⟩, (hl1.push _)⟩ (setS_new (Heap.get?_push_of_some _ hS)) fun s' hm hS' => ?_
        obtain ⟨h', g2, d', tk', os'⟩ := s'
        obtain rfl : g2 = s.gens := hm.gens
        obtain rfl : d' = s.drawn := hm.drawn
        obtain rfl : os' = s.os := hm.os
        show wpAny _ _ _ _ _ _
        refine wpAny_pure ?_
        show wpAny _ _ (ret Value.none) _ _ _
        refine wpAny_pure ⟨rfl, h', tk', rfl, hS', fun b o e => ?_⟩
        have hb0 : b < s.heap.objs.size := Heap.lt_size e
        have hb2 : b ≠ (s.heap.push (nS w)).objs.size := by rw [Heap.size_push]; exact Nat.ne_of_lt (Nat.lt_succ_of_lt hb0)
        exact hm.heap b o (by simp only [List.mem_cons, List.mem_singleton, List.not_mem_nil, or_false, not_or]; exact ⟨Nat.ne_of_lt hb0, hb2⟩) (Heap.get?_push_of_some _ (Heap.get?_push_of_some _ e))
      · cases r₂ with
        | error e => exact hr₂
        | ok fl₂ =>
          cases fl₂ with
          | ret r =>
            obtain ⟨rfl, h', tk, rfl, hS', hk'⟩ := hr₂
            repeat (any_goals (first | assumption | wp_step))
            exact h _ _ hS' hk'
          | _ => exact hr₂.elim
    | _ => exact hr.elim
end
section
variable {X : Cx} {K : PySem.W.Frag}
def rSetSL (P : Program) (w : World) (K : PySem.W.Frag) : List V → Hp → VK → Prop := fun xs H Q => ∃ (l : Addr) (ks : List Str), xs = [.ref l] ∧ SqL K H l (ks.map V.str) ∧ ks.length ≤ 1000 ∧ ∀ p, H p = none → Q (.ref p) (upd H p (SetK P w p (inK ks) (dst ks)))
def rSetST (P : Program) (w : World) (K : PySem.W.Frag) : List V → Hp → VK → Prop := fun xs H Q => ∃ (l : Addr) (ks : List Str), xs = [.ref l] ∧ SqT K H l (ks.map V.str) ∧ ks.length ≤ 1000 ∧ ∀ p, H p = none → Q (.ref p) (upd H p (SetK P w p (inK ks) (dst ks)))
theorem cr_setSL (hc : X.calm = true) (hK : X.K = K := by rfl) : CallR X (.type "set") (rSetSL X.prog X.w K) := by
  subst hK
  intro pins s σ H xs us Q I r h
  obtain ⟨l, ks, rfl, hs, hn, q⟩ := h
  obtain ⟨its, rv, p', hz⟩ := I.list hs
  rw [Vals.ref1 r]
  have hi := strsAre_of rv
  refine set_of_listS ks (I.ok.hd hc) p'.isList (by simpa using hi) (by have e : scanBound = scanBound := rfl; unfold scanBound at e ⊢; omega) fun h' tk hR hk => ?_
  exact ⟨.ref s.heap.objs.size, upd H s.heap.objs.size _, I.laid (t' := tk) (fun b u e => hk b u e) (Nat.le_refl _) (setK_new hR), rfl, q _ (I.hok.fresh (Nat.le_refl _))⟩
theorem cr_setST (hc : X.calm = true) (hK : X.K = K := by rfl) : CallR X (.type "set") (rSetST X.prog X.w K) := by
  subst hK
  intro pins s σ H xs us Q I r h
  obtain ⟨l, ks, rfl, hs, hn, q⟩ := h
  obtain ⟨its, rv, p', hz⟩ := I.tuple hs
  rw [Vals.ref1 r]
  have hi := strsAre_of rv
  refine set_of_tupS ks (I.ok.hd hc) p' (by simpa using hi) (by have e : scanBound = scanBound := rfl; unfold scanBound at e ⊢; omega) fun h' tk hR hk => ?_
  exact ⟨.ref s.heap.objs.size, upd H s.heap.objs.size _, I.laid (t' := tk) (fun b u e => hk b u e) (Nat.le_refl _) (setK_new hR), rfl, q _ (I.hok.fresh (Nat.le_refl _))⟩
/-- len(s), s a set of texts -/
theorem call_lenSetK : CallR X (.builtin "len") (fun xs H Q => ∃ (a : Addr) (S : Key → Bool) (n : Nat), xs = [.ref a] ∧ H a = some (SetK X.prog X.w a S n) ∧ Q (.int n) H) := by
  intro pins s σ H xs us Q I r h
  obtain ⟨a, S, n, rfl, ha, q⟩ := h
  rw [Vals.ref1 r]
  obtain ⟨o, es, ep, t, ho, hex, hd, _, _, hb, hf, hn⟩ := setK_get I ha
  have sb : scanBound ≤ 2 ^ 62 := by decide
  refine call_len_set ho hex hd hf (by omega) ?_
  rw [hn]
  exact ⟨.int n, H, I.kept (t' := s.toks + 1 + 1) fun _ _ e => e, ⟨_, rfl⟩, q⟩
end
section
variable {X : Cx} {k : Nat} {f a D : Addr} {cls : Value} {d : Option Addr} {oe : Obj} {fd : FuncData} {ps : List Str} {sp : Addr → Sp} {x : Str} {p pos : Pos} {e : Expr} {es : List Expr} {t : TA} {E : XK}
/-- a def called in the suite, the error's class told at the reading -/
theorem pe_callEc (F : FnE X.prog X.w X.K X.mg X.base D k f fd ps sp) (room : L2H.RoomH k X.A) (hp : (a, oe) ∈ X.pn) (z : Zc cls d oe) (fl : ∃ vs, oe.data = .fields vs) (hg : Gl X x) (hm : X.mg x = some (.ref f)) (hk : PySem.W.keepIn X.K (.ref f) = true) (hb : Binds X.K fd ps [])
    (ha : PA X (e :: es) t) (hdb : (x == ("__debug__" : Str)) = false := by decide) (he : starEach (e :: es) X.env = (false, eval e X.env) :: starEach es X.env := by rfl) (hpl : (backTo pos (starEach es X.env)).any (·.1) = false := by rfl) :
    PE X (.Call (.Name x p) (e :: es) [] pos) (fun σ H Q => cls = .ref D ∧ d = none ∧ t σ H fun vs H1 => sp a vs H1 Q E) := by
  refine ⟨fun pins s σ H Q I h => ?_⟩
  obtain ⟨rfl, rfl, h⟩ := h
  exact (pe_callE F room hp z fl hg hm hk hb ha hdb he hpl).run pins s σ H Q I h
end
end CB

set_option Elab.async false
set_option linter.all false
set_option maxRecDepth 100000
set_option maxHeartbeats 4000000
/-! comprehensions in general; programs between and beside, plain part -/
namespace CB
open PySem PySem.Spec PyProof.Rows L2
section
variable {K : PySem.W.Frag} {J : It} {n : Nat} {G : Hp → Prop} {Y : Nat → Hp → V → Hp → Prop} {g : TG} {tt : TT} {te : TE} {vs : List Nat} {σ : L2.St} {H1 : Hp} {D : Addr} {Qd : Hp → Prop}
/-- what a comprehension asks of a walk -/
abbrev LcOf (J : It) (g : TG) (tt : TT) (te : TE) (vs : List Nat) (σ : L2.St) (H1 : Hp) (D : Addr) (Qd : Hp → Prop) : Prop :=
  ∃ W : Nat → Nat → Hp → Prop, (∃ m, W 0 m (upd H1 D (.lst []))) ∧ ∀ i m H, W i m H →
    (J.stop i H ∧ Qd H) ∨ (J.go i H ∧ ∃ Nx : Hp → Prop, (∀ H', Nx H' → ∃ m', m' < m ∧ W (i + 1) m' H') ∧ ∀ x H', J.yld i H x H' → g x (wipe σ vs) H' fun σ2 H2 => wipe σ2 vs = wipe σ vs ∧ tt σ2 H2 fun b H3 =>
      if b = true then te σ2 H3 fun y H4 => ∃ acc, H4 D = some (.lst acc) ∧ acc.length < sizeLine ∧ Nx (upd H4 D (.lst (acc ++ [y]))) else Nx H3)
theorem range_snoc {α : Type} (f : Nat → α) (i : Nat) : (List.range (i + 1)).map f = (List.range i).map f ++ [f i] := by rw [List.range_succ, List.map_append]; rfl
/-- a comprehension whose items are data of tuples, one for each turn -/
theorem lc_data (w : Walk J n G Y) (fb : Nat → PyData) (nD : H1 D = none) (hn : n ≤ 1000) (hG : ∀ H', Ex H1 H' → G H') (safe : ∀ i, i < n → Safe (fb i))
    (hs : ∀ i x H' H'', i < n → Ex H1 H' → Y i H' x H'' → ∀ (R : V → Hp → Prop) (N : Hp → Prop), (∀ v' H3, Ex H' H3 → Dp K H3 v' (fb i) → R v' H3) →
      g x (wipe σ vs) H'' fun σ2 H2 => wipe σ2 vs = wipe σ vs ∧ tt σ2 H2 fun b H3 => if b = true then te σ2 H3 R else N H3)
    (q : ∀ H' ys, Ex H1 H' → H' D = some (.lst ys) → DpAll K H' ys ((List.range n).map fb) → Qd H') : LcOf J g tt te vs σ H1 D Qd := by
  refine lc_it w (fun i H' => ∃ ys, Ex H1 H' ∧ H' D = some (.lst ys) ∧ DpAll K H' ys ((List.range i).map fb)) ⟨[], Evl.Ex.new nD, upd_same, .nil⟩ (fun i H' _ h => by obtain ⟨_, x, _⟩ := h; exact hG H' x) (fun i x H' H'' hi h y => ?_) (fun H' h => ?_)
  · obtain ⟨ys, x1, hD, dy⟩ := h
    refine hs i x H' H'' hi x1 y _ _ fun v' H3 x3 dv => ⟨ys, x3 _ _ hD, ?_, ys ++ [v'], Evl.Ex.mut (x1.trans x3) nD, upd_same, ?_⟩
    · refine small1000 ?_
      rw [dy.length, List.length_map, List.length_range]
      omega
    · rw [range_snoc]
      have hD3 := x3 _ _ hD
      refine (safe_all hD3 (fun d hd => ?_) (dy.ex x3)).append (.cons (safe i hi _ _ _ _ _ _ hD3 dv) .nil)
      obtain ⟨j, hj, rfl⟩ := List.mem_map.mp hd
      exact safe j (Nat.lt_trans (List.mem_range.mp hj) hi)
  · obtain ⟨ys, x1, hD, dy⟩ := h
    exact q H' ys x1 hD dy
/-- a comprehension whose items stand by themselves (numbers, texts), some left out -/
theorem lc_flat (w : Walk J n G Y) (out : Nat → Option V) (nD : H1 D = none) (hn : n ≤ 1000) (hG : ∀ H', Ex H1 H' → G H')
    (hs : ∀ i x H' H'', i < n → Ex H1 H' → Y i H' x H'' → ∀ (R : V → Hp → Prop) (N : Hp → Prop), (∀ v H3, out i = some v → Ex H' H3 → R v H3) → (∀ H3, out i = none → Ex H' H3 → N H3) →
      g x (wipe σ vs) H'' fun σ2 H2 => wipe σ2 vs = wipe σ vs ∧ tt σ2 H2 fun b H3 => if b = true then te σ2 H3 R else N H3)
    (q : ∀ H', Ex H1 H' → H' D = some (.lst ((List.range n).filterMap out)) → Qd H') : LcOf J g tt te vs σ H1 D Qd := by
  have step : ∀ i, (List.range (i + 1)).filterMap out = (List.range i).filterMap out ++ (out i).toList := fun i => by
    rw [List.range_succ, List.filterMap_append]
    cases e : out i with
    | none => rw [List.filterMap_cons_none e]; rfl
    | some v => rw [List.filterMap_cons_some e]; rfl
  refine lc_it w (fun i H' => Ex H1 H' ∧ H' D = some (.lst ((List.range i).filterMap out))) ⟨Evl.Ex.new nD, upd_same⟩ (fun i H' _ h => hG H' h.1) (fun i x H' H'' hi h y => ?_) (fun H' h => q H' h.1 h.2)
  obtain ⟨x1, hD⟩ := h
  refine hs i x H' H'' hi x1 y _ _ (fun v H3 e x3 => ⟨_, x3 _ _ hD, ?_, Evl.Ex.mut (x1.trans x3) nD, ?_⟩) fun H3 e x3 => ⟨x1.trans x3, ?_⟩
  · refine small1000 (Nat.le_trans (List.length_filterMap_le _ _) ?_)
    rw [List.length_range]
    omega
  · rw [upd_same, step, e]; rfl
  · rw [step, e]
    show _ = some (HO.lst (_ ++ []))
    rw [List.append_nil]
    exact x3 _ _ hD
end
/-- what stays of a list, told by places -/
theorem filterMap_at {α β : Type} (l : List α) (h : α → Option β) : (List.range l.length).filterMap (fun i => l[i]?.bind h) = l.filterMap h := by
  have key : ∀ k, k ≤ l.length → (List.range k).filterMap (fun i => l[i]?.bind h) = (l.take k).filterMap h := by
    intro k
    induction k with
    | zero => intro _; rfl
    | succ k ih =>
      intro hk
      rw [List.range_succ, List.filterMap_append, ih (by omega), List.take_add_one, List.filterMap_append]
      have e : l[k]? = some l[k] := List.getElem?_eq_getElem (by omega)
      rw [e]
      show _ ++ List.filterMap (fun i => l[i]?.bind h) [k] = _ ++ List.filterMap h [l[k]]
      refine congrArg (fun z => List.filterMap h (List.take k l) ++ z) ?_
      have e2 : l[k]?.bind h = h l[k] := by rw [e]; rfl
      cases e3 : h l[k] with
      | none => rw [List.filterMap_cons_none (f := fun i => l[i]?.bind h) (e2.trans e3), List.filterMap_cons_none e3]; rfl
      | some v => rw [List.filterMap_cons_some (f := fun i => l[i]?.bind h) (e2.trans e3), List.filterMap_cons_some e3]; rfl
  rw [key l.length (Nat.le_refl _), List.take_of_length_le (Nat.le_refl _)]
theorem range_at {α β : Type} (l : List α) (d : α) (f : α → β) : (List.range l.length).map (fun i => f (l.getD i d)) = l.map f := by
  refine List.ext_getElem? fun i => ?_
  rw [List.getElem?_map, List.getElem?_map]
  by_cases h : i < l.length
  · rw [List.getElem?_range h, List.getElem?_eq_getElem h]
    show some (f (l.getD i d)) = some (f l[i])
    rw [List.getD_eq_getElem?_getD, List.getElem?_eq_getElem h]
    rfl
  · rw [List.getElem?_eq_none (by rw [List.length_range]; omega), List.getElem?_eq_none (by omega)]
    rfl
/-! ### programs moved -/
def mvB (at_ many b : Nat) : Nat := if at_ ≤ b then b + many else b
def movS (at_ many : Nat) (s : List Int) : List Int := s.take (at_ + 1) ++ List.replicate many 0 ++ s.drop (at_ + 1)
def movD (at_ many calls : Nat) : Deed → Deed
  | .call k => .call (k + calls)
  | .rest => .rest
  | .any b => .any (mvB at_ many b)
  | .set b s => .set (mvB at_ many b) (movS at_ many s)
def movR (at_ many calls : Nat) (r : Deed × List Int) : Deed × List Int := (movD at_ many calls r.1, r.2)
def movP (at_ many calls : Nat) (p : Part) : Part := ⟨p.name, p.own, p.rows.map (movR at_ many calls)⟩
def bxsOf (P : Prog) : List Str := P.shared ++ P.parts.flatMap Part.own
def inRow (ds : List Deed) : List (Deed × List Int) := (List.range ds.length).map fun i => (ds.getD i .rest, [(i : Int) + 1])
/-- a sum of so many boxes that is one of them -/
def oneS (many b : Nat) : List Int := (List.replicate (1 + 2 * many) 0).set (1 + b) 1
def btwD (many i : Nat) : List Deed := (List.range many).map .any ++ (List.range many).map (fun b => .set (many + b) (oneS many b)) ++ [.call (i + 1)]
def btwOk (P : Prog) (names : List Str) (name : Str) : Prop := names.length = P.shared.length ∧ (names.Nodup ∧ ∀ x ∈ names, x ∉ bxsOf P) ∧ name ∉ P.parts.map Part.name
instance {P : Prog} {names : List Str} {name : Str} : Decidable (btwOk P names name) := inferInstanceAs (Decidable (_ ∧ _))
def btw (P : Prog) (i : Nat) (names : List Str) (name : Str) : Option Prog :=
  if btwOk P names name then some ⟨P.shared ++ names, ⟨name, [], inRow (btwD P.shared.length i)⟩ :: P.parts.map (movP P.shared.length P.shared.length 1)⟩ else none
def bsdOk (P O : Prog) (name : Str) : Prop := (∀ x ∈ bxsOf P, x ∉ bxsOf O) ∧ name ∉ P.parts.map Part.name ++ O.parts.map Part.name ∧ (P.parts.map Part.name ++ O.parts.map Part.name).Nodup
instance {P O : Prog} {name : Str} : Decidable (bsdOk P O name) := inferInstanceAs (Decidable (_ ∧ _))
def bsd (P O : Prog) (name : Str) : Option Prog :=
  if bsdOk P O name then some ⟨P.shared ++ O.shared, ⟨name, [], inRow [.call 1, .call (1 + P.parts.length)]⟩ :: (P.parts.map (movP P.shared.length O.shared.length 1) ++ O.parts.map (movP 0 P.shared.length (1 + P.parts.length)))⟩ else none
/-- a part that may be moved -/
def MvOk (p : Part) : Prop := p.rows.length ≤ 20 ∧ ∀ r ∈ p.rows, ∀ b s, r.1 = .set b s → s.length ≤ 20
/-- how great a program is, whatever it is called -/
structure StOk (p : Prog) : Prop where
  p1 : 1 ≤ p.parts.length
  p3 : p.parts.length ≤ 3
  part : ∀ q ∈ p.parts, True ∧ p.shared.length + q.own.length ≤ 3 ∧ OkRows (p.shared.length + q.own.length) p.parts.length 5 q.rows
theorem LookOk.st {P : Prog} (L : LookOk P) : StOk P := ⟨L.p1, L.p3, fun q hq => ⟨trivial, (L.part q hq).2.1, (L.part q hq).2.2⟩⟩
theorem StOk.mv {P : Prog} (L : StOk P) : ∀ p ∈ P.parts, MvOk p := fun p hp => by
  obtain ⟨_, l2, _, l5, lr⟩ := L.part p hp
  refine ⟨by omega, fun r hr b s e => ?_⟩
  have h := (lr r hr).1
  rw [e] at h
  have := h.2.1
  omega
def sp_movD (K : PySem.W.Frag) : Sp := fun vs H Q _ => ∃ (v : V) (e : Deed) (at_ many calls : Nat), vs = [v, .int (at_ : Int), .int (many : Int), .int (calls : Int)] ∧ Dp K H v (dDeed e) ∧ at_ ≤ 20 ∧ many ≤ 20 ∧ (∀ b s, e = .set b s → s.length ≤ 20) ∧ RetE K H Q (dDeed (movD at_ many calls e))
def sp_movPs (K : PySem.W.Frag) : Sp := fun vs H Q _ => ∃ (v : V) (ps : List Part) (at_ many calls : Nat), vs = [v, .int (at_ : Int), .int (many : Int), .int (calls : Int)] ∧ Dp K H v (.tuple (ps.map dPart)) ∧ ps.length ≤ 20 ∧ at_ ≤ 20 ∧ many ≤ 20 ∧ (∀ p ∈ ps, MvOk p) ∧ RetE K H Q (.tuple ((ps.map (movP at_ many calls)).map dPart))
def sp_shPs (K : PySem.W.Frag) : Sp := fun vs H Q _ => ∃ (v : V) (P : Prog) (at_ many calls : Nat), vs = [v, .int (at_ : Int), .int (many : Int), .int (calls : Int)] ∧ Dp K H v (dProg P) ∧ P.parts.length ≤ 20 ∧ at_ ≤ 20 ∧ many ≤ 20 ∧ (∀ p ∈ P.parts, MvOk p) ∧
  ∀ (p : Addr) (xs : List V) H', Ex H H' → H' p = some (.lst xs) → DpAll K H' xs ((P.parts.map (movP at_ many calls)).map dPart) → Q (.ref p) H'
def sp_allB (K : PySem.W.Frag) : Sp := fun vs H Q _ => ∃ (v : V) (P : Prog), vs = [v] ∧ Dp K H v (dProg P) ∧ StOk P ∧ ∀ (p : Addr) H', Ex H H' → H' p = some (.lst ((bxsOf P).map V.str)) → Q (.ref p) H'
def sp_inRow (K : PySem.W.Frag) : Sp := fun vs H Q _ => ∃ (l : Addr) (xs : List V) (ds : List Deed), vs = [.ref l] ∧ SqL K H l xs ∧ DpAll K H xs (ds.map dDeed) ∧ ds.length ≤ 100 ∧ RetE K H Q (.tuple ((inRow ds).map dRow))
def sp_between (K : PySem.W.Frag) (C : Addr) : Sp := fun vs H Q E => ∃ (v : V) (P : Prog) (i : Nat) (an : Addr) (names : List Str) (name : Str), vs = [v, .int (i : Int), .ref an, .str name] ∧ Dp K H v (dProg P) ∧ LookOk P ∧ SqT K H an (names.map V.str) ∧ names.length ≤ 20 ∧
  (btw P i names name = none → ∀ H', Ex H H' → E (.ref C) none H') ∧ (∀ P', btw P i names name = some P' → ∀ v' H', Ex H H' → Dp K H' v' (dProg P') → Q v' H')
def sp_due51 (K : PySem.W.Frag) : Sp := fun vs H Q _ => ∃ (v : V) (P : Prog) (i : Nat) (an : Addr) (names : List Str) (name : Str), vs = [v, .int (i : Int), .ref an, .str name] ∧ Dp K H v (dProg P) ∧ LookOk P ∧ SqT K H an (names.map V.str) ∧ names.length ≤ 20 ∧ RetE K H Q (optP (btw P i names name))
def sp_heard51 (K : PySem.W.Frag) : Sp := fun vs H Q _ => ∃ (v : V) (P : Prog) (i : Nat) (an : Addr) (names : List Str) (name : Str), vs = [v, .int (i : Int), .ref an, .str name] ∧ Dp K H v (dProg P) ∧ LookOk P ∧ SqT K H an (names.map V.str) ∧ names.length ≤ 20 ∧
  ∀ (p : Addr) (v' : V) H', Ex H H' → H' p = some (.lst [v', .bl (btw P i names name).isNone]) → Dp K H' v' (optP (btw P i names name)) → Q (.ref p) H'
def sp_beside (K : PySem.W.Frag) (C : Addr) : Sp := fun vs H Q E => ∃ (v u : V) (P O : Prog) (name : Str), vs = [v, u, .str name] ∧ Dp K H v (dProg P) ∧ Dp K H u (dProg O) ∧ StOk P ∧ StOk O ∧
  (bsd P O name = none → ∀ H', Ex H H' → E (.ref C) none H') ∧ (∀ P', bsd P O name = some P' → ∀ v' H', Ex H H' → Dp K H' v' (dProg P') → Q v' H')
def sp_due52 (K : PySem.W.Frag) : Sp := fun vs H Q _ => ∃ (v u : V) (P O : Prog) (name : Str), vs = [v, u, .str name] ∧ Dp K H v (dProg P) ∧ Dp K H u (dProg O) ∧ StOk P ∧ StOk O ∧ ShP 20 P ∧ RetE K H Q (optP (bsd P O name))
def sp_heard52 (K : PySem.W.Frag) : Sp := fun vs H Q _ => ∃ (v u : V) (P O : Prog) (name : Str), vs = [v, u, .str name] ∧ Dp K H v (dProg P) ∧ Dp K H u (dProg O) ∧ StOk P ∧ StOk O ∧
  ∀ (p : Addr) (v' : V) H', Ex H H' → H' p = some (.lst [v', .bl (bsd P O name).isNone]) → Dp K H' v' (optP (bsd P O name)) → Q (.ref p) H'
def sp_called (K : PySem.W.Frag) : Sp := fun vs H Q _ => ∃ (v : V) (P : Prog) (pn : Addr) (nms : List Str), vs = [v, .ref pn] ∧ Dp K H v (dProg P) ∧ StOk P ∧ ShP 20 P ∧ P.parts.length ≤ 2 ∧ SqL K H pn (nms.map V.str) ∧ nms.length = 11 ∧ (∀ z ∈ nms, NmS z) ∧
  ∀ v' H' P', Ex H H' → Dp K H' v' (dProg P') → StOk P' → ShP 20 P' → Q v' H'
def sp_alone (a : Addr) : Sp := fun vs H Q _ => vs = [.ref a] ∧ ∀ H', Ex H H' → Q (.bl true) H'
theorem hotRoom {k : Nat} {A : Around} {h : Option Value} (r : Room k A) : L2H.RoomH k (A.mark h) := ⟨r.dp, r.un⟩
theorem allB_len {P : Prog} (L : StOk P) : (bxsOf P).length ≤ 20 := by
  have key : ∀ l : List Part, (∀ q ∈ l, q.own.length ≤ 3) → (l.flatMap Part.own).length ≤ 3 * l.length := by
    intro l
    induction l with
    | nil => intro _; exact Nat.le_refl _
    | cons p l ih =>
      intro h
      have h1 := h p List.mem_cons_self
      have h2 := ih fun q hq => h q (List.mem_cons_of_mem _ hq)
      rw [List.flatMap_cons, List.length_append, List.length_cons]
      omega
  have h1 := key P.parts fun q hq => by have := (L.part q hq).2.1; omega
  have h2 := L.p3
  have h3 := (L.part _ (List.getElem_mem L.p1)).2.1
  unfold bxsOf
  rw [List.length_append]
  omega
theorem mt_indexK {X : Cx} {K : PySem.W.Frag} (hK : X.K = K := by rfl) : MtR X "list.index" (rIndex K) := hK ▸ mt_index
end CB

set_option Elab.async false
set_option linter.all false
set_option maxRecDepth 100000
set_option maxHeartbeats 4000000
/-! errors that are caught and kept behind the suite -/
namespace CB
open PySem PySem.Spec PyProof.Rows L2
/-- at a: an error of the class cls, its dict at d -/
def xo (a : Addr) (cls : Value) (d : Option Addr) : HO := .ext fun h => ∃ (oe : Obj) (vs : Array Value), h.get? a = some oe ∧ Zc cls d oe ∧ oe.data = .fields vs
theorem xo_ok {P : Program} {w : World} {H : Hp} {h : Heap} {a : Addr} {cls : Value} {d : Option Addr} {oe : Obj} {vs : Array Value} (e : h.get? a = some oe) (z : Zc cls d oe) (f : oe.data = .fields vs) : ObjOk P w H h a (xo a cls d) :=
  ⟨⟨oe, vs, e, z, f⟩, ⟨_, e⟩, fun h1 h2 q k => by
    obtain ⟨o, us, e1, z1, f1⟩ := q
    exact ⟨o, us, k _ e1, z1, f1⟩⟩
theorem xo_at {P : Program} {w : World} {H : Hp} {h : Heap} {a : Addr} {cls : Value} {d : Option Addr} (hok : HOk P w H h) (e : H a = some (xo a cls d)) : ∃ (oe : Obj) (vs : Array Value), h.get? a = some oe ∧ Zc cls d oe ∧ oe.data = .fields vs := by
  have x : ObjOk P w H h a (.ext fun h => ∃ (oe : Obj) (vs : Array Value), h.get? a = some oe ∧ Zc cls d oe ∧ oe.data = .fields vs) := hok a _ e
  exact x.1
section
variable {X : Cx} {pins : List (Addr × Obj)} {σ : L2.St} {H : Hp} {s : Shared} {a : Addr} {oe : Obj} {o : HO}
/-- a pinned object that is new since the entry becomes a tracked one -/
theorem keepx (I : Inv X ((a, oe) :: pins) σ H s) (new0 : X.s_0.heap.get? a = none) (apart : ∀ p ∈ X.pn ++ pins, p.1 ≠ a) (good : ObjOk X.prog X.w (upd H a o) s.heap a o) : Inv X pins σ (upd H a o) s := by
  obtain ⟨got, free, nloc, nfs, ncell⟩ := I.pin (a, oe) (List.mem_append_right _ List.mem_cons_self)
  have B := I.base
  refine ⟨I.ok, I.os, I.bare, ⟨B.keep, B.slot, fun b ob e n x => ?_, B.there, fun b xs e => ?_, fun b ob u e => ?_, fun b ps e => ?_⟩, I.loc, I.cell, ?_, fun x c e => ?_, fun p hp => ?_, ?_, I.len⟩
  · have ne : b ≠ a := fun z => by rw [z, new0] at e; cases e
    rw [upd_ne ne]
    exact B.free b ob e n x
  · have q := B.tups b xs e
    have ne : b ≠ a := fun z => by rw [z, free] at q; cases q
    rw [upd_ne ne]
    exact q
  · have q := B.frzs b ob u e
    have ne : b ≠ a := fun z => by rw [z, free] at q; cases q
    rw [upd_ne ne]
    exact q
  · obtain ⟨more, q⟩ := B.tbls b ps e
    have ne : b ≠ a := fun z => by rw [z, free] at q; cases q
    exact ⟨more, by rw [upd_ne ne]; exact q⟩
  · rw [upd_ne nloc.symm]
    exact I.free
  · have ne : c ≠ a := fun z => by
      obtain ⟨v, ob, q, dd⟩ := I.cell x c e
      rw [z, got] at q
      rw [← Option.some.inj q] at dd
      exact ncell _ dd
    rw [upd_ne ne]
    exact I.freeC x c e
  · obtain ⟨q1, q2, q3⟩ := I.pin p (by
      rcases List.mem_append.mp hp with h | h
      · exact List.mem_append_left _ h
      · exact List.mem_append_right _ (List.mem_cons_of_mem _ h))
    exact ⟨q1, by rw [upd_ne (apart p hp)]; exact q2, q3⟩
  · exact I.hok.laidN (fun _ _ e => e) free good
end
/-- what 'except x as n' wishes where the error stays behind the suite: slot i is n's -/
def wKp (K : PySem.W.Frag) (c : Value) (i : Nat) (ts : Addr → Value → Option Addr → TS) (Wout : WX) (D : Ends) : WX := fun cls d σ H =>
  ∃ b, PySem.W.exmOne K cls c = some b ∧ (b = true → ∀ a, H a = none → ts a cls d { nx := fun σ' H' => D.nx (σ'.set i none) (upd H' a (xo a cls d)), rt := fun _ _ => False, bk := fun _ _ => False, ct := fun _ _ => False } (σ.set i (some (.ref a))) H) ∧ (b = false → Wout cls d σ H)
section
variable {X : Cx} {x n : Str} {c : Value} {i : Nat} {body suite : List Stmt} {b₀ : Stmt} {np pos pos' : Pos} {tb : WX → TS} {ts : Addr → Value → Option Addr → TS} {Wout : WX}
theorem ps_try_keep (stk : X.stack = X.env :: X.outer) (frm : X.env.frame = some X.env.locals) (hN : X.N.Nodup) (hi : X.N[i]? = some n) (lcl : X.env.kindOf n = some .local) (nms : Names X x c) (tk : Takes X Wout)
    (tryb : ∀ (W : WX) (pn : List (Addr × Obj)) (xe : Value → Shared → Prop), Takes (X.tr pn xe) W → PassesOwn (model X.prog X.w) X.A X.env xe → PSs (X.tr pn xe) body (tb W))
    (suit : ∀ (a : Addr) (oe : Obj) (cls : Value) (d : Option Addr) (pn : List (Addr × Obj)), Zc cls d oe → (∃ vs, oe.data = .fields vs) → PSs (X.suite a ((a, oe) :: pn)) (b₀ :: suite) (ts a cls d)) (noex : X.ex = [] := by rfl) :
    PS X (.Try body [.ExceptHandler (some (.Name x np)) (some n) (b₀ :: suite) pos'] [] [] pos) (fun D σ H => tb (wKp X.K c i ts Wout D) D σ H) := by
  refine ⟨fun pins s σ H D I h => ?_⟩
  have okX := I.ok
  have frames : X.A.frames = some (X.env :: X.outer) := by rw [okX.frames, stk]
  have isloc : Loc X.env.scope n := .inl lcl
  refine wpAny_Try_except ?_
  refine wpAny_mono ((tryb (wKp X.K c i ts Wout D) (X.pn ++ pins) (fun e s₁ => wpAny (model X.prog X.w) X.A (noteFrame e X.env) (fun _ s₂ => wpAny (model X.prog X.w) X.A (setFlight e none) (fun _ s₃ =>
    wpAny (model X.prog X.w) X.A (handleBy e X.env [.ExceptHandler (some (.Name x np)) (some n) (b₀ :: suite) pos']) (SP X pins D) X.xe s₃) X.xe s₂) X.xe s₁) (fun u s2 air => ?_) PassesOwn.looking).run [] s σ H D (I.toTry _) h) (fun fl s2 went => ?_) (fun e s2 he => he)
  · obtain ⟨a, B, sI, pins2, σ2, H2, cls, d, rfl, inAir, below, up, sky, free, os, ag, b, ans, yes, no⟩ := air
    have J : Inv X pins σ2 H2 sI := inAir.ofTry okX
    have sky2 : Sky B (X.env :: X.outer) a (Zc cls d) X.env.locals s2.heap := by rw [← stk]; exact sky
    show wpAny (model X.prog X.w) X.A (noteFrame (.ref a) X.env) _ _ _
    refine Sky.land Zc.steady frames frm sky2 fun h3 fl3 up3 => ?_
    have J3 : Inv X pins σ2 H2 { s2 with heap := h3 } := J.landed below fl3.1 (up.trans up3) os ag
    obtain ⟨oe3, vs3, at3, z3, f3⟩ := fl3.there
    have apartFr : ∀ {hh : Heap} {ob : Obj} {us : Array Value}, hh.FunFrames B (X.env :: X.outer) → hh.get? a = some ob → ob.data = .fields us → a ∉ frs (X.env :: X.outer) := fun {hh ob us} ff e dd there => by
      obtain ⟨_, o2, e2, nf⟩ := ff.mem there
      rw [e] at e2
      cases e2
      exact nf _ dd
    have nfr := apartFr fl3.2.2.1 at3 f3
    have nloc : a ≠ X.env.locals := fun z => nfr (List.mem_filterMap.mpr ⟨X.env, List.mem_cons_self, by rw [frm, z]⟩)
    have nfs : a ∉ X.fs := fun there => by
      obtain ⟨e, he, q⟩ := List.mem_filterMap.mp there
      exact nfr (List.mem_filterMap.mpr ⟨e, List.mem_cons_of_mem _ he, q⟩)
    have newI : sI.heap.get? a = none := by
      cases e : sI.heap.get? a with
      | none => rfl
      | some ob =>
        have q := below a ob e (by rw [stk]; exact nfr)
        have := fl3.2.1
        rw [this] at q
        cases q
    have new0 : X.s_0.heap.get? a = none := by
      cases e : X.s_0.heap.get? a with
      | none => rfl
      | some ob =>
        obtain ⟨o2, q⟩ := J.base.there a ob e (by rw [noex]; exact fun z => by cases z)
        rw [newI] at q
        cases q
    have apart : ∀ p ∈ X.pn ++ pins, p.1 ≠ a := fun p hp z => by
      have q := (J.pin p hp).1
      rw [z, newI] at q
      cases q
    have S3 := J3.suite at3 f3 free nloc nfs
    refine wpAny_handleBy_cons (codeAny_handlers_test ?_) (by intro q; cases q)
    have look : PySem.W.Looks (model X.prog X.w) h3 (typeOf (.ref a)) cls := fun A Q E s k q => wpAny_typeOf_ref (k _ _ at3) (by rw [z3.1]; exact q)
    have meets := PySem.W.exm_one (M := model X.prog X.w) (J3.kIn) look ans
    have asks : ∀ {Q : Value → Shared → Prop} {E : Value → Shared → Prop}, Q c { s2 with heap := h3 } → wpAny (model X.prog X.w) (X.A.mark (some (.ref a))) (eval (.Name x np) X.env) Q E { s2 with heap := h3 } := fun {Q E} q => by
      obtain ⟨hg, hdbg, hm | ⟨hm, hv, hnn⟩⟩ := nms
      · exact ld_glob (X := X.suite a ((a, oe3) :: (X.pn ++ pins))) S3 hg hm q hdbg
      · exact ld_blt (X := X.suite a ((a, oe3) :: (X.pn ++ pins))) S3 hg hm hv q hnn hdbg
    refine asks (meets.here ?_)
    cases b with
    | true =>
      refine codeAny_handlers_suite_as ?_
      refine HandSPX.lands_againZ fl3 fun h4 fl4 up4 => ?_
      have J4 : Inv X pins σ2 H2 { s2 with heap := h4 } := J.landed below fl4.1 ((up.trans up3).trans up4) os ag
      obtain ⟨oe4, vs4, at4, z4, f4⟩ := fl4.there
      have S4 := J4.suite at4 f4 free nloc nfs
      refine store_ok (X := X.suite a ((a, oe4) :: (X.pn ++ pins))) (v := .ref a) S4 hN hi isloc rfl (fun s5 S5 => ?_) (.inr lcl)
      refine wpAny_mono ((suit a oe4 cls d (X.pn ++ pins) z4 ⟨_, f4⟩).run [] s5 _ H2 _ S5 (yes rfl a free)) (fun fl6 s6 went6 => ?_) (fun _ _ q => False.elim q)
      cases fl6 with
      | next =>
        obtain ⟨σ6, H6, S6, q6⟩ := went6
        have J6 : Inv X ((a, oe4) :: pins) σ6 H6 s6 := ⟨okX, S6.os, S6.bare, S6.base, S6.loc, S6.cell, S6.free, S6.freeC, fun p hp => S6.pin p (by
          rw [List.append_nil]
          rcases List.mem_append.mp hp with k | k
          · exact List.mem_cons_of_mem _ (List.mem_append_left _ k)
          · rcases List.mem_cons.mp k with rfl | k
            · exact List.mem_cons_self
            · exact List.mem_cons_of_mem _ (List.mem_append_right _ k)), S6.hok, S6.len⟩
        refine gone_ok J6 hN hi lcl fun s7 J7 => ?_
        have got := (J7.pin (a, oe4) (List.mem_append_right _ List.mem_cons_self)).1
        exact ⟨_, _, keepx J7 new0 apart (xo_ok got z4 f4), q6⟩
      | brk => exact went6.elim fun _ q => q.elim fun _ q => (show False from q.2).elim
      | cont => exact went6.elim fun _ q => q.elim fun _ q => (show False from q.2).elim
      | ret u => exact went6.elim fun _ q => q.elim fun _ q => q.elim fun _ q => (show False from q.2.2).elim
    | false =>
      show wpAny _ X.A (handleBy (.ref a) X.env []) _ _ _
      refine wpAny_handleBy_nil ?_
      obtain ⟨k1, k2, k3, ob, us, tr, ot, more, at5, z5, f5, g5, r5⟩ := id fl3
      unfold PySem.passOn
      refine wpAny_bind (wpAny_field at5 f5 g5 ?_)
      rw [if_neg (show ¬ ((Value.ref tr == Value.none) = true) from by simp)]
      have last : wpAny (model X.prog X.w) X.A (setFlight (.ref a) X.env.frame) (fun _ s4 => wpAny (model X.prog X.w) X.A (throw (.ref a) : Sem Flow) (SP X pins D) X.xe s4) X.xe { s2 with heap := h3 } := by
        rw [frm]
        refine HandSPX.setFlight_upZ fl3 fun h4 held4 up4 => wpAny_throw (tk _ _ ?_)
        exact ⟨a, B, sI, pins, σ2, H2, cls, d, rfl, J, below, (up.trans up3).trans up4, .inr (.inr (by rw [stk]; exact held4)), free, os, ag, no rfl⟩
      first
        | exact wpAny_bind (wpAny_pure (wpAny_bind last))
        | exact wpAny_bind last
  · cases fl with
    | next =>
      obtain ⟨σ2, H2, J2, q⟩ := went
      exact wpAny_execs_nil ⟨σ2, H2, J2.ofTry okX, q⟩
    | brk =>
      obtain ⟨σ2, H2, J2, q⟩ := went
      exact ⟨σ2, H2, J2.ofTry okX, q⟩
    | cont =>
      obtain ⟨σ2, H2, J2, q⟩ := went
      exact ⟨σ2, H2, J2.ofTry okX, q⟩
    | ret u =>
      obtain ⟨v, σ2, H2, J2, r, q⟩ := went
      exact ⟨v, σ2, H2, J2.ofTry okX, r, q⟩
end
/-! ### the kept error asked -/
section
variable {X : Cx} {K : PySem.W.Frag}
theorem instX {P : Program} {w : World} {H : Hp} {h : Heap} {a D : Addr} {d : Option Addr} (hok : HOk P w H h) (e : H a = some (xo a (.ref D) d)) (dd : ∀ x, d = some x → ∃ fs, H x = some (.xd fs)) : ∃ (oe : Obj) (od : Option Obj), PySem.W.InstAt h a oe D od := by
  obtain ⟨oe, vs, at1, z, f⟩ := xo_at hok e
  cases d with
  | none =>
    refine ⟨oe, none, ?_⟩
    obtain ⟨oc, od, oda, osl⟩ := oe
    obtain ⟨h1, h2⟩ := z
    dsimp only at h1 h2 f
    subst h1 h2 f
    exact ⟨at1, rfl, rfl, trivial⟩
  | some x =>
    obtain ⟨fs, hx⟩ := dd x rfl
    have ox : ObjOk P w H h x (.xd fs) := hok x _ hx
    obtain ⟨mA, hns, hr⟩ := ox
    obtain ⟨od, ho, hl⟩ := lookIn_ns hns
    exact ⟨oe, some od, at1, z.1, by unfold PySem.W.notCls; rw [f] <;> rfl, by rw [z.2]; exact ho⟩
/-- what the class says, so that its instances may be asked -/
theorem kitK {D a : Addr} {oe : Obj} {od : Option Obj} (C : ExcC K D) : PySem.W.KitX K (.ref a) (.ref D) (fun h => PySem.W.InstAt h a oe D od) :=
  PySem.W.kitx_exc (by obtain ⟨cd, hc, _⟩ := PySem.W.any_some C.hd; rw [hc]; rfl) C.hg C.hk C.hs C.ha C.hn C.ht C.hm
def rIsX (K : PySem.W.Frag) : List V → Hp → VK → Prop := fun xs H Q => ∃ (a D : Addr) (d : Option Addr) (c : V) (cv : Value) (b : Bool), xs = [.ref a, c] ∧ H a = some (xo a (.ref D) d) ∧ (∀ x, d = some x → ∃ fs, H x = some (.xd fs)) ∧ ExcC K D ∧ (∀ u, RelV c u → u = cv) ∧ PySem.W.kitOne K (.ref D) cv = some b ∧ Q (.bl b) H
def rIsXT (K : PySem.W.Frag) : List V → Hp → VK → Prop := fun xs H Q => ∃ (a D : Addr) (d : Option Addr) (tp : Addr) (cs : List V) (us : List Value) (b : Bool), xs = [.ref a, .ref tp] ∧ H a = some (xo a (.ref D) d) ∧ (∀ x, d = some x → ∃ fs, H x = some (.xd fs)) ∧ ExcC K D ∧ H tp = some (.tup cs) ∧ Paired ClsV cs us ∧ PySem.W.kitAny K (.ref D) us = some b ∧ Q (.bl b) H
theorem isX (hK : X.K = K := by rfl) : CallR X (.builtin "isinstance") (rIsX K) := by
  subst hK
  intro pins s σ H xs us Q I r h
  obtain ⟨a, D, d, c, cv, b, rfl, ha, dd, C, hcv, ans, q⟩ := h
  obtain ⟨u1, u2, rfl, r1, r2⟩ := vals2 r
  cases (show u1 = Value.ref a from r1)
  have ec := hcv _ r2
  subst ec
  obtain ⟨oe, od, J⟩ := instX I.hok ha dd
  exact PySem.W.kia_one (kitK C) I.kIn J ans (fun no => nomatch no) fun tk => ⟨.bl b, H, I.kept (t' := tk) fun _ _ q => q, rfl, q⟩
theorem isXT (hK : X.K = K := by rfl) : CallR X (.builtin "isinstance") (rIsXT K) := by
  subst hK
  intro pins s σ H xs us Q I r h
  obtain ⟨a, D, d, tp, cs, ws, b, rfl, ha, dd, C, hT, k, ans, q⟩ := h
  obtain ⟨u1, u2, rfl, r1, r2⟩ := vals2 r
  cases (show u1 = Value.ref a from r1)
  cases (show u2 = Value.ref tp from r2)
  obtain ⟨oe, od, J⟩ := instX I.hok ha dd
  obtain ⟨_, its, rv, o, h1, h2, n, h3⟩ := (show ObjOk X.prog X.w H s.heap tp (.tup cs) from I.hok tp _ hT)
  have e3 := ClsV.all k rv
  subst e3
  obtain ⟨oc, od2, dt, sl⟩ := o
  simp only at h2 h3
  subst h2 h3
  exact PySem.W.kia_tup (kitK C) I.kIn J h1 ans (fun no => nomatch no) fun tk => ⟨.bl b, H, I.kept (t' := tk) fun _ _ q => q, rfl, q⟩
/-- err.f, err kept -/
theorem pe_xk {C : Addr} {e : Expr} {te : TE} {pos : Pos} {n : Str} (T : XfC X.K C) (hno : PySem.W.findIn X.K (.ref C) n = some none) (he : PE X e te) (hb : attributeBase e n X.env (eval e X.env) = eval e X.env := by rfl) :
    PE X (.Attribute e n pos) (fun σ H Q => te σ H fun x H1 => ∃ (a dd : Addr) (fs : List (Str × V)) (v : V), x = .ref a ∧ H1 a = some (xo a (.ref C) (some dd)) ∧ H1 dd = some (.xd fs) ∧ fs.lookup n = some v ∧ Q v H1) := by
  refine ⟨fun pins s σ H Q I h => ?_⟩
  refine attr_of hb (thn (he.run pins s σ H _ I h) fun u s1 there => ?_)
  obtain ⟨x, H1, I1, rx, a, dd, fs, v, rfl, ha, hd, l, q⟩ := there
  obtain rfl : u = Value.ref a := rx
  obtain ⟨oe, vs, at1, z, f⟩ := xo_at I1.hok ha
  have ox : ObjOk X.prog X.w H1 s1.heap dd (.xd fs) := I1.hok dd _ hd
  obtain ⟨mA, hns, hr⟩ := ox
  obtain ⟨od, ho, hl⟩ := lookIn_ns hns
  obtain ⟨u, hu, ru⟩ := RelO.some_of (v := v) (o := mA n) (by rw [← l]; exact hr n)
  have J : PySem.W.InstAt s1.heap a oe C (some od) := ⟨at1, z.1, by unfold PySem.W.notCls; rw [f] <;> rfl, by rw [z.2]; exact ho⟩
  exact HandSPX.exc_get I1.kIn J T.ga T.gg T.exC (PySem.W.findObj_own T.hdC hno rfl (by rw [hl, hu])) (handed_of ru) ⟨v, H1, I1.tok _, ru, q⟩
end
end CB

set_option Elab.async false
set_option linter.all false
set_option maxRecDepth 100000
set_option maxHeartbeats 4000000
/-! greatest and least of a tuple; programs of any numbers and their first fault -/
namespace CB
open PySem PySem.Spec PyProof.Rows L2
section
variable {X : Cx} {K : PySem.W.Frag}
def rMaxT (K : PySem.W.Frag) : List V → Hp → VK → Prop := fun vs H Q => ∃ (a : Addr) (ns : List Int), vs = [V.ref a] ∧ SqT K H a (ns.map V.int) ∧ 0 < ns.length ∧ ∀ m, m ∈ ns → (∀ y, y ∈ ns → y ≤ m) → Q (.int m) H
def rMinT (K : PySem.W.Frag) : List V → Hp → VK → Prop := fun vs H Q => ∃ (a : Addr) (ns : List Int), vs = [V.ref a] ∧ SqT K H a (ns.map V.int) ∧ 0 < ns.length ∧ ∀ m, m ∈ ns → (∀ y, y ∈ ns → m ≤ y) → Q (.int m) H
theorem tup_walk {pins : List (Addr × Obj)} {σ : L2.St} {H : Hp} {s : Shared} {a : Addr} {ns : List Int} (I : Inv X pins σ H s) (hs : SqT X.K H a (ns.map V.int)) : ∃ xs : Array (Int × Tok), (xs.toList.map Prod.fst) = ns ∧ s.heap.IsTuple a (intItems xs) := by
  obtain ⟨its, rv, hl, _⟩ := I.tuple hs
  have hi := rv.ints
  obtain ⟨xs, e⟩ := hi.allInts.items
  have hn : numsOf (intItems xs).toList = ns := by rw [← e]; exact hi.numsOf
  rw [nums_intItems] at hn
  rw [e] at hl
  exact ⟨xs, hn, hl⟩
theorem cr_maxT (hc : X.calm = true) (hK : X.K = K := by rfl) : CallR X (.builtin "max") (rMaxT K) := by
  subst hK
  intro pins s σ H vs us Q I r h
  obtain ⟨a, ns, rfl, hs, hne, q⟩ := h
  obtain ⟨xs, hn, hT⟩ := tup_walk I hs
  rw [Vals.ref1 r]
  subst hn
  have hlt : a < s.heap.objs.size := by obtain ⟨_, e, _⟩ := hT; exact Heap.lt_size e
  have hsz : 0 < xs.size := by simpa using hne
  refine call_max_walk (wpAny_pyIter_tuple hT ⟨_, [_, a], [_], _, _, _, _, rfl, Walks.tuple (A := X.A.in1) (I.ok.hd hc) _ a (Nat.ne_of_lt hlt) (intItems xs), ⟨⟨_, Heap.get?_push_size _ rfl, rfl, rfl⟩, hT.push _⟩, fun b hb => ?_, by simpa [intItems] using hsz, CmpOf.ints_gt (numAt xs) (fun _ _ => intItems_at), fun v h' tk hv hk => ?_⟩)
  · show b < (s.heap.push _).objs.size
    rw [Heap.size_push]
    rcases List.mem_cons.mp hb with rfl | hb
    · exact Nat.lt_succ_self _
    · rw [List.mem_singleton.mp hb]
      exact Nat.lt_succ_of_lt hlt
  · have hv : (intItems xs)[argBest (fun i j => decide (numAt xs i > numAt xs j)) (xs.size - 1)]? = some v := by simpa [intItems] using hv
    obtain ⟨t, rfl⟩ := intItems_at hv
    obtain ⟨h1, h2⟩ := argBest_gt (numAt xs) (xs.size - 1)
    refine ⟨.int _, H, I.kept (t' := tk) fun b o eb => hk b o (fun hm => ?_) (Heap.get?_push_of_some _ eb), ⟨_, rfl⟩, q _ ?_ fun y hy => ?_⟩
    · rw [List.mem_singleton.mp hm] at eb
      exact absurd (Heap.lt_size eb) (Nat.lt_irrefl _)
    · rw [numAt_eq]; exact PySem.getD_mem (by rw [List.length_map, Array.length_toList]; omega)
    · obtain ⟨j, hj, rfl⟩ := mem_getD hy
      rw [List.length_map, Array.length_toList] at hj
      rw [← numAt_eq]; exact h2 j (by omega)
theorem cr_minT (hc : X.calm = true) (hK : X.K = K := by rfl) : CallR X (.builtin "min") (rMinT K) := by
  subst hK
  intro pins s σ H vs us Q I r h
  obtain ⟨a, ns, rfl, hs, hne, q⟩ := h
  obtain ⟨xs, hn, hT⟩ := tup_walk I hs
  rw [Vals.ref1 r]
  subst hn
  have hlt : a < s.heap.objs.size := by obtain ⟨_, e, _⟩ := hT; exact Heap.lt_size e
  have hsz : 0 < xs.size := by simpa using hne
  refine call_min_walk (wpAny_pyIter_tuple hT ⟨_, [_, a], [_], _, _, _, _, rfl, Walks.tuple (A := X.A.in1) (I.ok.hd hc) _ a (Nat.ne_of_lt hlt) (intItems xs), ⟨⟨_, Heap.get?_push_size _ rfl, rfl, rfl⟩, hT.push _⟩, fun b hb => ?_, by simpa [intItems] using hsz, CmpOf.ints_lt (numAt xs) (fun _ _ => intItems_at), fun v h' tk hv hk => ?_⟩)
  · show b < (s.heap.push _).objs.size
    rw [Heap.size_push]
    rcases List.mem_cons.mp hb with rfl | hb
    · exact Nat.lt_succ_self _
    · rw [List.mem_singleton.mp hb]
      exact Nat.lt_succ_of_lt hlt
  · have hv : (intItems xs)[argBest (fun i j => decide (numAt xs i < numAt xs j)) (xs.size - 1)]? = some v := by simpa [intItems] using hv
    obtain ⟨t, rfl⟩ := intItems_at hv
    obtain ⟨h1, h2⟩ := argBest_lt (numAt xs) (xs.size - 1)
    refine ⟨.int _, H, I.kept (t' := tk) fun b o eb => hk b o (fun hm => ?_) (Heap.get?_push_of_some _ eb), ⟨_, rfl⟩, q _ ?_ fun y hy => ?_⟩
    · rw [List.mem_singleton.mp hm] at eb
      exact absurd (Heap.lt_size eb) (Nat.lt_irrefl _)
    · rw [numAt_eq]; exact PySem.getD_mem (by rw [List.length_map, Array.length_toList]; omega)
    · obtain ⟨j, hj, rfl⟩ := mem_getD hy
      rw [List.length_map, Array.length_toList] at hj
      rw [← numAt_eq]; exact h2 j (by omega)
end
/-! ### programs of any numbers -/
inductive GD where
  | call (k : Int)
  | rest
  | any (b : Int)
  | set (b : Int) (s : List Int)
structure GPart where
  name : Str
  own : List Str
  rows : List (GD × List Int)
structure GProg where
  shared : List Str
  parts : List GPart
def gDeed : GD → PyData
  | .call k => .tuple [.str "call", .int k]
  | .rest => .tuple [.str "rest"]
  | .any b => .tuple [.str "any", .int b]
  | .set b s => .tuple [.str "set", .int b, ti s]
def gRow (r : GD × List Int) : PyData := .tuple [gDeed r.1, ti r.2]
def gPart (p : GPart) : PyData := .tuple [.str p.name, ts p.own, .tuple (p.rows.map gRow)]
def gProg (p : GProg) : PyData := .tuple [ts p.shared, .tuple (p.parts.map gPart)]
def upD : Deed → GD
  | .call k => .call k
  | .rest => .rest
  | .any b => .any b
  | .set b s => .set b s
def upP (p : Part) : GPart := ⟨p.name, p.own, p.rows.map fun r => (upD r.1, r.2)⟩
def upG (P : Prog) : GProg := ⟨P.shared, P.parts.map upP⟩
theorem gDeed_up (d : Deed) : gDeed (upD d) = dDeed d := by cases d <;> rfl
theorem gPart_up (p : Part) : gPart (upP p) = dPart p := by
  unfold gPart dPart upP
  dsimp only
  rw [List.map_map]
  refine congrArg (fun l => PyData.tuple [.str p.name, ts p.own, .tuple l]) (List.map_congr_left fun r _ => ?_)
  show PyData.tuple [gDeed (upD r.1), ti r.2] = dRow r
  rw [gDeed_up]
  rfl
theorem gProg_up (P : Prog) : gProg (upG P) = dProg P := by
  unfold gProg dProg upG
  dsimp only
  rw [List.map_map]
  exact congrArg (fun l => PyData.tuple [ts P.shared, .tuple l]) (List.map_congr_left fun p _ => gPart_up p)
/-! ### the first fault -/
abbrev Flt := Str × Int × Int
def orE : Option Flt → Option Flt → Option Flt
  | some f, _ => some f
  | none, o => o
def firstF : Nat → (Nat → Option Flt) → Option Flt
  | 0, _ => none
  | n + 1, f => orE (firstF n f) (f n)
theorem firstF_none {n : Nat} {f : Nat → Option Flt} : firstF n f = none → ∀ i, i < n → f i = none := by
  induction n with
  | zero => intro _ i hi; omega
  | succ n ih =>
    intro h i hi
    have h : orE (firstF n f) (f n) = none := h
    cases e : firstF n f with
    | some x => rw [e] at h; cases h
    | none =>
      rw [e] at h
      by_cases hn : i = n
      · rw [hn]; exact h
      · exact ih e i (by omega)
theorem firstF_at {n : Nat} {f : Nat → Option Flt} {i : Nat} {x : Flt} (hi : i < n) (h0 : firstF i f = none) (hx : f i = some x) : firstF n f = some x := by
  induction n with
  | zero => omega
  | succ n ih =>
    show orE (firstF n f) (f n) = some x
    by_cases hn : i = n
    · rw [← hn, h0]; exact hx
    · rw [ih (by omega)]; rfl
def goOk (nr : Nat) (g : List Int) : Prop := (1 ≤ g.length ∧ g.length ≤ 3 ∧ g.Pairwise (· < ·)) ∧ ∀ x ∈ g, 0 ≤ x ∧ x ≤ nr
instance {nr : Nat} {g : List Int} : Decidable (goOk nr g) := inferInstanceAs (Decidable (_ ∧ _))
def fDeed (many np : Nat) (p k : Int) : GD → Option Flt
  | .call c => if 0 ≤ c ∧ c < np then none else some ("part", p, k)
  | .rest => none
  | .any b => if 0 ≤ b ∧ b < many then none else some ("box", p, k)
  | .set b s => if 0 ≤ b ∧ b < many then (if s.length = many + 1 ∧ ∀ x ∈ s, x.natAbs ≤ 9 then none else some ("sum", p, k)) else some ("box", p, k)
def fRow (many np nr : Nat) (p k : Int) (r : GD × List Int) : Option Flt := orE (fDeed many np p k r.1) (if goOk nr r.2 then none else some ("goings", p, k))
abbrev gpart0 : GPart := ⟨"", [], []⟩
abbrev grow0 : GD × List Int := (.rest, [])
def fTwice (ns : List Str) (p : Int) (b : Nat) : Option Flt := if ns.getD b "" ∈ ns.take b then some ("twice", p, b) else none
def fPart (P : GProg) (i : Nat) : Option Flt :=
  let q := P.parts.getD i gpart0
  orE (if q.name ∈ (P.parts.take i).map GPart.name then some ("twice", i, -1) else none)
    (orE (firstF q.own.length fun j => fTwice (P.shared ++ q.own) i (P.shared.length + j))
      (orE (if (1 ≤ q.rows.length ∧ q.rows.length ≤ 5) ∧ P.shared.length + q.own.length ≤ 3 then none else some ("sizes", i, -1))
        (firstF q.rows.length fun k => fRow (P.shared.length + q.own.length) P.parts.length q.rows.length i k (q.rows.getD k grow0))))
def fProg (P : GProg) : Option Flt :=
  orE (if 1 ≤ P.parts.length ∧ P.parts.length ≤ 3 then none else some ("sizes", 0, 0)) (orE (firstF P.shared.length fun b => fTwice P.shared 0 b) (firstF P.parts.length (fPart P)))
/-- how great they are -/
structure GOk (P : GProg) : Prop where
  sl : P.shared.length ≤ 100
  pl : P.parts.length ≤ 100
  pt : ∀ p ∈ P.parts, p.own.length ≤ 100 ∧ p.rows.length ≤ 100 ∧ ∀ r ∈ p.rows, r.2.length ≤ 20 ∧ ∀ b s, r.1 = .set b s → s.length ≤ 100
/-! ### what is promised -/
def Flds (fs : List (Str × V)) (f : Flt) : Prop := fs.lookup ("word" : Str) = some (.str f.1) ∧ fs.lookup ("part" : Str) = some (.int f.2.1) ∧ fs.lookup ("row" : Str) = some (.int f.2.2)
/-- the way out by a fault -/
def OutF (C : Addr) (H : Hp) (E : XK) (f : Flt) : Prop := ∀ (d : Addr) (fs : List (Str × V)) (H' : Hp), Ex H H' → H' d = some (.xd fs) → Flds fs f → E (.ref C) (some d) H'
def sp_needX (C : Addr) : Sp := fun vs H Q E => ∃ (g : Bool) (f : Flt), vs = [.bl g, .str f.1, .int f.2.1, .int f.2.2] ∧ (g = true → Q .non H) ∧ (g = false → OutF C H E f)
def sp_npinit (K : PySem.W.Frag) (C : Addr) : Sp := fun vs H Q _ => ∃ (a : Addr) (x y z : V), vs = [.ref a, x, y, z] ∧ H a = some (exo a C none) ∧
  ∀ d H', d ≠ a → H d = none → H' a = some (exo a C (some d)) → H' d = some (exd d [("row", z), ("part", y), ("word", x)]) → (∀ b, b ≠ a → b ≠ d → H' b = H b) → Q .non H'
def sp_risingX (K : PySem.W.Frag) : Sp := fun vs H Q _ => ∃ (a : Addr) (g : List Int), vs = [.ref a] ∧ SqT K H a (g.map V.int) ∧ g.length ≤ 100 ∧ ∀ H', Ex H H' → Q (.bl (decide (g.Pairwise (· < ·)))) H'
def sp_lrowX (K : PySem.W.Frag) (C : Addr) : Sp := fun vs H Q E => ∃ (v : V) (P : GProg) (i k : Nat) (q : GPart) (r : GD × List Int), vs = [v, .int (i : Int), .int (k : Int)] ∧ Dp K H v (gProg P) ∧ GOk P ∧ P.parts[i]? = some q ∧ q.rows[k]? = some r ∧
  (fRow (P.shared.length + q.own.length) P.parts.length q.rows.length i k r = none → ∀ H', Ex H H' → Q .non H') ∧ (∀ f, fRow (P.shared.length + q.own.length) P.parts.length q.rows.length i k r = some f → OutF C H E f)
def sp_lpartX (K : PySem.W.Frag) (C : Addr) : Sp := fun vs H Q E => ∃ (v : V) (P : GProg) (i : Nat), vs = [v, .int (i : Int)] ∧ Dp K H v (gProg P) ∧ GOk P ∧ i < P.parts.length ∧ (fPart P i = none → ∀ H', Ex H H' → Q .non H') ∧ (∀ f, fPart P i = some f → OutF C H E f)
def sp_lookX (K : PySem.W.Frag) (C : Addr) : Sp := fun vs H Q E => ∃ (v : V) (P : GProg), vs = [v] ∧ Dp K H v (gProg P) ∧ GOk P ∧ (fProg P = none → ∀ H', Ex H H' → Q (.bl true) H') ∧ (∀ f, fProg P = some f → OutF C H E f)
def dFlt (f : Flt) : PyData := .tuple [.str f.1, .int f.2.1, .int f.2.2]
def oFlt : Option Flt → PyData
  | none => .none
  | some f => dFlt f
def tFlt : Option Flt → PyData
  | none => .tuple [.str "told", .bool true]
  | some f => .tuple [.str "refused", .str f.1, .int f.2.1, .int f.2.2]
def sp_rdue (K : PySem.W.Frag) : Sp := fun vs H Q _ => ∃ (v : V) (P : GProg) (i k : Nat) (q : GPart) (r : GD × List Int), vs = [v, .int (i : Int), .int (k : Int)] ∧ Dp K H v (gProg P) ∧ GOk P ∧ P.parts[i]? = some q ∧ q.rows[k]? = some r ∧ RetE K H Q (oFlt (fRow (P.shared.length + q.own.length) P.parts.length q.rows.length i k r))
def sp_gdue (K : PySem.W.Frag) : Sp := fun vs H Q _ => ∃ (v : V) (P : GProg), vs = [v] ∧ Dp K H v (gProg P) ∧ GOk P ∧ RetE K H Q (oFlt (fProg P))
def sp_gtold (K : PySem.W.Frag) : Sp := fun vs H Q _ => ∃ (v : V) (P : GProg), vs = [v] ∧ Dp K H v (gProg P) ∧ GOk P ∧ RetE K H Q (tFlt (fProg P))
def sp_gright (K : PySem.W.Frag) : Sp := fun vs H Q _ => ∃ (v : V) (P : GProg), vs = [v] ∧ Dp K H v (gProg P) ∧ GOk P ∧ ∀ H', Ex H H' → Q (.bl true) H'
section
variable {K : PySem.W.Frag} {F : Hp} {v : V}
theorem gp_prog {p : GProg} (h : Dp K F v (gProg p)) : ∃ a as ap xp, v = .ref a ∧ SqT K F a [.ref as, .ref ap] ∧ SqT K F as (p.shared.map V.str) ∧ SqT K F ap xp ∧ DpAll K F xp (p.parts.map gPart) ∧ xp.length = p.parts.length := by
  obtain ⟨a, x, y, rfl, s, hx, hy⟩ := dp2 h
  obtain ⟨as, rfl, ss⟩ := dp_ts hx
  obtain ⟨ap, xp, rfl, sp, dx, lx⟩ := dp_map hy
  exact ⟨a, as, ap, xp, rfl, s, ss, sp, dx, lx⟩
theorem gp_part {p : GPart} (h : Dp K F v (gPart p)) : ∃ a ao ar xr, v = .ref a ∧ SqT K F a [.str p.name, .ref ao, .ref ar] ∧ SqT K F ao (p.own.map V.str) ∧ SqT K F ar xr ∧ DpAll K F xr (p.rows.map gRow) ∧ xr.length = p.rows.length := by
  obtain ⟨a, x, y, z, rfl, s, hx, hy, hz⟩ := dp3 h
  cases hx.str_inv
  obtain ⟨ao, rfl, so⟩ := dp_ts hy
  obtain ⟨ar, xr, rfl, sr, dx, lx⟩ := dp_map hz
  exact ⟨a, ao, ar, xr, rfl, s, so, sr, dx, lx⟩
theorem gp_row {r : GD × List Int} (h : Dp K F v (gRow r)) : ∃ a ad ag, v = .ref a ∧ SqT K F a [.ref ad, .ref ag] ∧ Dp K F (.ref ad) (gDeed r.1) ∧ SqT K F ag (r.2.map V.int) := by
  obtain ⟨a, x, y, rfl, s, hx, hy⟩ := dp2 h
  obtain ⟨ag, rfl, sg⟩ := hy.ti_inv
  have : ∃ ad, x = .ref ad := by
    cases e : r.1 with
    | call k => rw [e] at hx; obtain ⟨p, _, _, rfl, _⟩ := dp2 hx; exact ⟨p, rfl⟩
    | rest => rw [e] at hx; obtain ⟨p, _, rfl, _⟩ := dp1 hx; exact ⟨p, rfl⟩
    | any b => rw [e] at hx; obtain ⟨p, _, _, rfl, _⟩ := dp2 hx; exact ⟨p, rfl⟩
    | set b s => rw [e] at hx; obtain ⟨p, _, _, _, rfl, _⟩ := dp3 hx; exact ⟨p, rfl⟩
  obtain ⟨ad, rfl⟩ := this
  exact ⟨a, ad, ag, rfl, s, hx, sg⟩
end
end CB

set_option Elab.async false
set_option linter.all false
set_option maxRecDepth 100000
set_option maxHeartbeats 4000000
/-! tuple(reversed(a tuple)) -/
namespace CB
open PySem PySem.Spec PyProof.Rows L2 RT
theorem nolen_rt : typeLookup (.type "reversed") "__len__" = pure none := by rw [typeLookup_type, builtinLookup_eq_fast]; kernel_rfl
theorem hint_rt : typeLookup (.type "reversed") "__length_hint__" = pure (some (.builtin "reversed.__length_hint__")) := by rw [typeLookup_type, builtinLookup_eq_fast]; kernel_rfl
theorem slot_rt_hint : Slot "reversed" "__length_hint__" "reversed.__length_hint__" :=
  .of (owner := "reversed") (n := "__length_hint__") (by rw [typeLookup_type, builtinLookup_eq_fast]; kernel_rfl) (by decide +kernel) (by decide +kernel) (by decide +kernel)
    (by first | exact .inl (by decide +kernel) | exact .inr (by decide +kernel)) (by rw [isSubtype_type]; kernel_rfl)
theorem entry_rt_hint : entryFor table "reversed.__length_hint__" = some Builtin.«reversed.__length_hint__» := entryFor_of_tree (by kernel_rfl)
theorem args_rt_hint (a : Value) : argsOk "reversed.__length_hint__" ⟨[a], []⟩ := by
  unfold argsOk; rw [signature?_of (id := "reversed.__length_hint__") (n := "__length_hint__".toList.reverse) (o := ['d', 'e', 's', 'r', 'e', 'v', 'e', 'r']) (by kernel_rfl) owner_rt]; kernel_rfl
section
variable {prog : Program} {w : World} {A : Around} {E : Value → Shared → Prop} {s : Shared}
theorem walks_rt (hh : A.handled = none) (I t : Addr) (hne : t ≠ I) (items : Array Value) (hsz : items.size ≤ sizeLine) :
    Walks prog w A I [I, t] [I] items.size (fun i v => items[items.size - 1 - i]? = some v) (fun i h => i ≤ items.size ∧ IsRt h I t ((items.size : Int) - 1 - (i : Int)) ∧ IsTup h t items) where
  sub := fun b hb => by simp at hb; simp [hb]
  frame := fun _ _ _ x hk => ⟨x.1, x.2.1.at fun o e => hk I (by simp) o e, let ⟨o, ho, r⟩ := x.2.2; ⟨o, hk t (by simp) o ho, r⟩⟩
  item := fun i s Q E hi x hQ => by
    have e : (items.size : Int) - 1 - (i : Int) = ((items.size - 1 - i : Nat) : Int) := by omega
    have hit := x.2.1
    rw [e] at hit
    have hx : items[items.size - 1 - i]? = some (items[items.size - 1 - i]'(by omega)) := Array.getElem?_eq_getElem (by omega)
    refine next_rt_item hit x.2.2 hx hsz fun h' hit' hs' => ?_
    have e2 : ((items.size - 1 - i : Nat) : Int) - 1 = (items.size : Int) - 1 - ((i + 1 : Nat) : Int) := by omega
    rw [e2] at hit'
    exact hQ _ h' (s.toks + 1) hx ⟨hi, hit', let ⟨o, ho, r⟩ := x.2.2; ⟨o, (hs'.2 t hne).trans ho, r⟩⟩ fun b o hb eo => hs'.extBut b o (fun h => hb (by simp [h])) eo
  done := fun s Q E x hQ => by
    have e : (items.size : Int) - 1 - (items.size : Int) = -1 := by omega
    have hit := x.2.1
    rw [e] at hit
    exact next_rt_end hh hit fun h' he' => hQ h' s.toks fun b o hb eo => he' b o (fun h => hb (by simp [h])) eo
  self := fun _ _ _ _ x hQ => iter_rt x.2.1 hQ
theorem hint_run {it t : Addr} {items : Array Value} {Q : Bool → Shared → Prop} (hit : IsRt s.heap it t ((items.size : Int) - 1)) (ht : IsTup s.heap t items) (hn : items.size ≤ 1000)
    (hQ : ∀ b tk, Q b { s with toks := tk }) : wpAny (model prog w) A (Builtin.List.listLengthHint (.ref it)) Q E s := by
  have hT := hit.typeIs
  obtain ⟨o, ho, hc, hd⟩ := id hit
  unfold Builtin.List.listLengthHint
  refine wpAny_bind (wpAny_specialOf hT nolen_rt ?_)
  show wpAny _ A (specialOf (Value.ref it) (Str.ofString "__length_hint__") >>= _) _ _ _
  refine wpAny_bind (wpAny_specialOf hT hint_rt ?_)
  generalize hid : ("reversed.__length_hint__" : String) = id0
  wp_delta
  rw [show splitId id0 = some ("reversed", "__length_hint__") from by subst hid; decide +kernel]
  subst hid
  refine wpAny_bind (wpAny_isInstance (b := true) hT (by rw [isSubtype_type]; kernel_rfl) ?_)
  rw [if_neg (by decide)]
  dsimp only
  rw [if_neg (by decide +kernel)]
  refine wpAny_bind (wpAny_rule ?_)
  refine wpAny_bind (wpAny_of_eq (slot_rt_hint.bind _) ?_)
  dsimp only
  refine wpAny_bind (wpAny_attempt (wpAny_call_entry slot_rt_hint hT entry_rt_hint ?_ (args_rt_hint _)))
  unfold Builtin.«reversed.__length_hint__»
  refine wpAny_bind (wpAny_of_eq (a := Value.ref it) rfl ?_)
  try dsimp only
  refine wpAny_bind (wpAny_field ho hd (x := .ref t) rfl ?_)
  try dsimp only
  rw [if_neg (fun z => by cases z)]
  refine wpAny_bind (len_tuple ht (by omega) ?_)
  refine wpAny_bind (wpAny_of_eq (a := some (items.size : Int)) rfl ?_)
  try dsimp only
  refine wpAny_bind (wpAny_field (s := { s with toks := s.toks + 1 + 1 }) ho hd (x := rawInt ((items.size : Int) - 1)) rfl ?_)
  show wpAny _ _ (if (items.size : Int) < ((items.size : Int) - 1) + 1 then _ else _) _ _ _
  rw [if_neg (by omega), show (items.size : Int) - 1 + 1 = (items.size : Int) by omega]
  unfold retInt
  refine wpAny_bind (wpAny_mkInt ?_)
  refine wpAny_pure ⟨_, rfl, ?_⟩
  have f0 : ∀ (tk : Nat) (k : Option Int → Sem Bool) (s' : Shared), wpAny (model prog w) A (k (some (items.size : Int))) Q E s' → wpAny (model prog w) A (asInt? (Value.int (items.size : Int) tk) >>= k) Q E s' := fun tk k s' h => wpAny_bind (wpAny_pure h)
  refine f0 _ _ _ ?_
  dsimp only
  have f1 : Builtin.List.listFitsIndex (items.size : Int) = true := by
    unfold Builtin.List.listFitsIndex
    rw [Bool.and_eq_true]
    exact ⟨decide_eq_true (by omega), decide_eq_true (by omega)⟩
  have f2 : Builtin.List.listTooLong (items.size : Int).toNat = false := by
    unfold Builtin.List.listTooLong
    have := small1000 hn
    exact decide_eq_false (by omega)
  rw [f1, if_neg (fun z => by cases z), if_neg (by omega), f2, if_neg (fun z => by cases z)]
  exact wpAny_pure (hQ _ _)
theorem collect_rt {it t : Addr} {items : Array Value} {Q : List Value → Shared → Prop} (hh : A.handled = none) (hit : IsRt s.heap it t ((items.size : Int) - 1)) (ht : IsTup s.heap t items) (hne : t ≠ it) (hn : items.size ≤ 1000)
    (hQ : ∀ (h' : Heap) (tk : Nat) (acc : Array Value), (∀ b o, b ≠ it → s.heap.get? b = some o → h'.get? b = some o) → ItemsOf (fun i v => items[items.size - 1 - i]? = some v) acc items.size → Q acc.toList { s with heap := h', toks := tk }) :
    wpAny (model prog w) A (collect (.ref it)) Q E s := by
  have hn' : items.size ≤ sizeLine := Nat.le_of_lt (small1000 hn)
  have W := (walks_rt (prog := prog) (w := w) (A := A.in1) hh it t hne items hn').toS
  obtain ⟨oi, hoi, _⟩ := id hit
  obtain ⟨ol, hol, rt⟩ := id ht
  have hSi : s.heap.objs.size ≠ it := Nat.ne_of_gt (Heap.lt_size hoi)
  have hSl : s.heap.objs.size ≠ t := Nat.ne_of_gt (Heap.lt_size hol)
  have hSf : s.heap.objs.size ∉ [it, t] := by simp only [List.mem_cons, List.not_mem_nil, or_false, not_or]; exact ⟨hSi, hSl⟩
  unfold collect
  refine wpAny_bind (wpAny_runValue (codeAny_builtin F.entry_proto_collect ?_))
  rw [Around.under_plainId F.plain_proto_collect _]
  show wpAny _ A.in1 (newList [] >>= fun l' => again (.builtin "list.__iadd__" ⟨[l', .ref it], []⟩)) _ _ s
  refine wpAny_bind (wpAny_newObj_type ?_)
  refine wpAny_pure ⟨plainId_quiet F.plain_list_iadd _, codeAny_builtin F.entry_list_iadd ?_⟩
  rw [Around.under_plainId F.plain_list_iadd _]
  have hS₁ : (s.heap.push { cls := .type "list", data := .seq ([] : List Value).toArray }).get? s.heap.objs.size = some { cls := .type "list", data := .seq ([] : List Value).toArray } := Heap.get?_push_size _ rfl
  have hit1 : IsRt (s.heap.push { cls := .type "list", data := .seq ([] : List Value).toArray }) it t ((items.size : Int) - 1) := hit.at fun o e => Heap.get?_push_of_some _ e
  have hl1 : IsTup (s.heap.push { cls := .type "list", data := .seq ([] : List Value).toArray }) t items := ⟨ol, Heap.get?_push_of_some _ hol, rt⟩
  have hT : ({ s with heap := s.heap.push { cls := .type "list", data := .seq ([] : List Value).toArray } } : Shared).TypeIs (.ref it) "reversed" := IsRt.typeIs (s := { s with heap := s.heap.push { cls := .type "list", data := .seq ([] : List Value).toArray } }) hit1
  have h1 : Builtin.List.listSameRef (.ref s.heap.objs.size) (.ref it) = false := by simp [Builtin.List.listSameRef, hSi]
  show wpAny _ A.in1 (Builtin.List.listExtendWith (.ref s.heap.objs.size) (.ref it) (.ref s.heap.objs.size)) _ _ _
  unfold Builtin.List.listExtendWith
  refine wpAny_bind (wpAny_typeOf hT ?_)
  rw [if_neg (by rw [h1]; decide)]
  refine wpAny_bind (iter_rt (s := { s with heap := s.heap.push { cls := .type "list", data := .seq ([] : List Value).toArray } }) hit1 ?_)
  refine wpAny_bind (wpAny_holding (hint_run (s := { s with heap := s.heap.push { cls := .type "list", data := .seq ([] : List Value).toArray } }) hit1 hl1 hn fun b tk => ?_))
  have e0 : ((items.size : Nat) : Int) - 1 - ((0 : Nat) : Int) = (items.size : Int) - 1 := by omega
  cases b with
  | false =>
    rw [if_neg (by decide)]
    refine wpAny_pure ⟨plainId_quiet F.plain_extend_loop _, codeAny_extend_loopS W hn' _ hSf _ items.size 0 _ _ _ rfl (Nat.zero_le _) ⟨Nat.zero_le _, by rw [e0]; exact hit1, hl1⟩ hS₁ (ItemsOf.nil _) fun s' acc' c' hm hS' hacc => ?_⟩
    show wpAny _ A (load s.heap.objs.size >>= _) _ _ s'
    refine wpAny_bind (wpAny_load hS' ?_)
    refine wpAny_pure ?_
    rw [Moved.eq_with hm]
    refine hQ s'.heap s'.toks acc' (fun b o hb e => hm.heap b o (fun hmem => ?_) (Heap.get?_push_of_some _ e)) hacc
    rcases List.mem_cons.mp hmem with e' | hmem
    · exact absurd (Heap.lt_size e) (by rw [e']; exact Nat.lt_irrefl _)
    · exact hb (List.mem_singleton.mp hmem)
  | true =>
    show wpAny _ A.in1 (rule "list.extend.makes-room" >>= fun _ => Builtin.List.listTouch (.ref s.heap.objs.size) >>= fun _ =>
      again (.builtin "list.extend.loop" ⟨[.ref s.heap.objs.size, .ref it, .ref s.heap.objs.size], []⟩)) _ _ _
    refine wpAny_bind (wpAny_rule ?_)
    refine wpAny_bind ?_
    show wpAny _ A.in1 (updateSeq s.heap.objs.size (·.push .none) >>= fun _ => updateSeq s.heap.objs.size (·.pop)) _ _ _
    refine wpAny_bind (wpAny_updateSeq hS₁ rfl ?_)
    have hS₂ := Heap.get?_update_self (Obj.mapSeq (·.push Value.none)) hS₁ rfl
    refine wpAny_updateSeq hS₂ rfl ?_
    have hS₃ := Heap.get?_update_self (Obj.mapSeq (·.pop)) hS₂ rfl
    have oth : ∀ b o, b ≠ s.heap.objs.size → (s.heap.push { cls := .type "list", data := .seq ([] : List Value).toArray }).get? b = some o →
        (((s.heap.push { cls := .type "list", data := .seq ([] : List Value).toArray }).update s.heap.objs.size (Obj.mapSeq (·.push Value.none))).update s.heap.objs.size (Obj.mapSeq (·.pop))).get? b = some o :=
      fun b o hb e => (Heap.get?_update_other _ _ (Ne.symm hb)).trans ((Heap.get?_update_other _ _ (Ne.symm hb)).trans e)
    refine wpAny_pure ⟨plainId_quiet F.plain_extend_loop _, codeAny_extend_loopS W hn' _ hSf _ items.size 0 _ _ _ rfl (Nat.zero_le _) ⟨Nat.zero_le _, by rw [e0]; exact hit1.at fun o e => oth _ _ hSi.symm e, ol, oth _ _ hSl.symm (Heap.get?_push_of_some _ hol), rt⟩ hS₃ (ItemsOf.nil _) fun s' acc' c' hm hS' hacc => ?_⟩
    show wpAny _ A (load s.heap.objs.size >>= _) _ _ s'
    refine wpAny_bind (wpAny_load hS' ?_)
    refine wpAny_pure ?_
    rw [Moved.eq_with hm]
    refine hQ s'.heap s'.toks acc' (fun b o hb e => hm.heap b o (fun hmem => ?_) (oth b o (fun e' => absurd (Heap.lt_size e) (by rw [e']; exact Nat.lt_irrefl _)) (Heap.get?_push_of_some _ e))) hacc
    rcases List.mem_cons.mp hmem with e' | hmem
    · exact absurd (Heap.lt_size e) (by rw [e']; exact Nat.lt_irrefl _)
    · exact hb (List.mem_singleton.mp hmem)
theorem code_tuple_new_rt {it t : Addr} {items : Array Value} {Q₁ : Value → Shared → Prop} (hh : A.handled = none) (hit : IsRt s.heap it t ((items.size : Int) - 1)) (ht : IsTup s.heap t items) (hne : t ≠ it) (hn : items.size ≤ 1000)
    (h : ∀ (h' : Heap) (tk : Nat) (acc : Array Value), (∀ b o, b ≠ it → s.heap.get? b = some o → h'.get? b = some o) → ItemsOf (fun i v => items[items.size - 1 - i]? = some v) acc items.size →
      Q₁ (.ref h'.objs.size) { s with heap := h'.push { cls := .type "tuple", data := .seq acc }, toks := tk }) :
    codeAny (model prog w) A (.call (.builtin "tuple.__new__") ⟨[.type "tuple", .ref it], []⟩) (wants Q₁ E) s := by
  refine codeAny_of_tree ?_
  show wpAny _ A.in1 (do checkBuiltinCall "tuple.__new__" ⟨[.type "tuple", .ref it], []⟩; again (.builtin "tuple.__new__" ⟨[.type "tuple", .ref it], []⟩)) _ _ s
  refine wpAny_bind (wpAny_of_eq (F.newCall_tuple_1 _) (wpAny_pure ⟨plainId_quiet F.plain_tuple_new _, codeAny_builtin F.entry_tuple_new ?_⟩))
  rw [Around.under_plainId F.plain_tuple_new _]
  have hsub := sub_tuple_self
  have hinit := init_tuple_lookup
  have hmh := madeHere_tuple
  have hTI : s.TypeIs (.ref it) "reversed" := hit.typeIs
  have hh1 : A.in1.handled = none := hh
  wp_walk using wpAny_typeOf hTI, collect_rt (A := A.in1) hh1 hit ht hne hn
  intro h' tk acc hk hacc
  show wpAny _ _ (Builtin.Tuple.tupleExact acc.toList.toArray >>= fun v => ret v) _ _ _
  unfold Builtin.Tuple.tupleExact
  refine wpAny_bind (wpAny_newObj_type ?_ (by show acc.toList.toArray.size ≤ sizeLine; simp only [Array.toArray_toList]; rw [hacc.1]; exact Nat.le_of_lt (small1000 hn)))
  refine wpAny_pure ?_
  have e : acc.toList.toArray = acc := by simp
  rw [e]
  exact h h' tk acc hk hacc
theorem call_tuple_rt {it t : Addr} {items : Array Value} {Q : Value → Shared → Prop} (hh : A.handled = none) (hit : IsRt s.heap it t ((items.size : Int) - 1)) (ht : IsTup s.heap t items) (hne : t ≠ it) (hn : items.size ≤ 1000)
    (hQ : ∀ (h' : Heap) (tk : Nat) (acc : Array Value), (∀ b o, b ≠ it → s.heap.get? b = some o → h'.get? b = some o) → ItemsOf (fun i v => items[items.size - 1 - i]? = some v) acc items.size →
      Q (.ref h'.objs.size) { s with heap := h'.push { cls := .type "tuple", data := .seq acc }, toks := tk }) :
    wpAny (model prog w) A (call (.type "tuple") [.ref it]) Q E s := by
  refine callType_codes (Q₁ := fun obj s₁ => s₁.TypeIs obj "tuple" ∧ Q obj s₁) F.called_tuple (F.typeCall_tuple_1 _) F.entry_object_init
    (code_tuple_new_rt (A := A.in1) hh hit ht hne hn fun h' tk acc hk hacc => ⟨⟨_, Heap.get?_push_size _ rfl, rfl⟩, hQ h' tk acc hk hacc⟩) fun obj s₁ h₁ => ?_
  exact ⟨h₁.1, F.args_object_init_2 obj _, object_init_meets F.called_tuple.init.lookup F.called_tuple.made (by decide) prog w A.in1 _ s₁ ⟨h₁.1, rfl, h₁.2⟩⟩
end
/-- tuple(reversed(x)), x a tuple: a new tuple -/
def tTupRevT (K : PySem.W.Frag) (te : TE) : TE := fun σ H Q => te σ H fun v H1 => ∃ (a : Addr) (xs : List V), v = .ref a ∧ SqT K H1 a xs ∧ xs.length ≤ 1000 ∧ ∀ q, H1 q = none → Q (.ref q) (upd H1 q (.tup xs.reverse))
section
variable {X : Cx}
theorem pe_tupRevT {K : PySem.W.Frag} {e : Expr} {te : TE} {p p2 pos pos2 : Pos} (hc : X.calm = true) (hg : Gl X "tuple") (hm : X.mg "tuple" = none) (hg2 : Gl X "reversed") (hm2 : X.mg "reversed" = none) (he : PE X e te)
    (hs : starEach [e] X.env = (false, eval e X.env) :: starEach [] X.env := by rfl)
    (hs2 : starEach [.Call (.Name "reversed" p2) [e] [] pos2] X.env = (false, eval (.Call (.Name "reversed" p2) [e] [] pos2) X.env) :: starEach [] X.env := by rfl) (hK : X.K = K := by rfl) :
    PE X (.Call (.Name "tuple" p) [.Call (.Name "reversed" p2) [e] [] pos2] [] pos) (tTupRevT K te) := by
  subst hK
  refine ⟨fun pins s σ H Q I h => ?_⟩
  refine Call_ (ld_blt I hg hm boot_tuple (PyProof.Rows.callWith_type1 (args_cons (Call_ (ld_blt I hg2 hm2 PyProof.Rows.boot_reversed (PyProof.Rows.callWith_type1 (args_cons (thn (he.run pins s σ H _ I h) fun u s1 ⟨v, H1, I1, r1, q1⟩ => args_nil ?_) hs) hs rfl))) hs2) hs2 rfl))
  obtain ⟨a, xs, ev, hq, hl1, q⟩ := q1
  subst ev
  obtain rfl : u = Value.ref a := r1
  obtain ⟨its, rv, p', hz⟩ := I1.tuple hq
  have hl := rv.length
  have hn : its.toArray.size ≤ 1000 := by rw [List.size_toArray, ← hl]; exact hl1
  refine call_reversed_tup p' (fun A E Q k => PyProof.Rows.len_tuple p' (by omega) k) (args_nil ?_)
  have k0 : ∀ b o, s1.heap.get? b = some o → (s1.heap.push (rtObj a ((its.toArray.size : Int) - 1))).get? b = some o := fun b o e => Heap.get?_push_of_some _ e
  have I2 : Inv X pins σ H1 { s1 with heap := s1.heap.push (rtObj a ((its.toArray.size : Int) - 1)), toks := s1.toks + 1 + 1 } := I1.kept (t' := s1.toks + 1 + 1) k0
  obtain ⟨f0, f1, f2, f3, f4, f5⟩ := I1.fpOk (H' := H1) (b := s1.heap.objs.size) (Nat.le_refl _) (I1.hok.fresh (Nat.le_refl _))
  obtain ⟨ol, hol, rt⟩ := id p'
  have hne : a ≠ s1.heap.objs.size := Nat.ne_of_lt (Heap.lt_size hol)
  refine call_tuple_rt (s := { s1 with heap := s1.heap.push (rtObj a ((its.toArray.size : Int) - 1)), toks := s1.toks + 1 + 1 }) (I1.ok.hd hc) ⟨_, Heap.get?_push_size _ rfl, rfl, rfl⟩ ⟨ol, k0 _ _ hol, rt⟩ hne hn fun h' tk acc hk hi => ?_
  have I3 : Inv X pins σ H1 { s1 with heap := h', toks := tk } := I2.turned (t' := tk) (fun b o hb e => hk b o hb e) f0 f1 f3 f4 f5
  refine ⟨.ref h'.objs.size, upd H1 h'.objs.size (.tup xs.reverse), I3.laid (t' := tk) (fun c o e => Heap.get?_push_of_some _ e) (Nat.le_refl _) (show ObjOk X.prog X.w _ _ _ (.tup xs.reverse) from ⟨by rw [List.length_reverse]; exact hz, acc.toList, vals_rev rv hi, ?_⟩), rfl, q _ (I3.hok.fresh (Nat.le_refl _))⟩
  rw [Array.toArray_toList]
  exact IsTup.new _ _
end
end CB

set_option Elab.async false
set_option linter.all false
set_option maxRecDepth 100000
set_option maxHeartbeats 4000000
/-! dicts whose keys are tuples: displays, dict(list of pairs), walks over d.items(); a lock for good -/
namespace CB
open PySem PySem.Spec PyProof.Rows L2
section
variable {X : Cx}
/-- behind e its object is locked for good -/
def tLk (te : TE) : TE := fun σ H Q => te σ H fun v H1 => ∃ a u, v = .ref a ∧ H1 a = some u ∧ Mut (some u) ∧ ∀ od, Q v (upd H1 a (.frz od u))
theorem pe_lk {e : Expr} {te : TE} (h : PE X e te) : PE X e (tLk te) := by
  refine ⟨fun pins s σ H Q I hw => ?_⟩
  refine thn (h.run pins s σ H _ I hw) fun v s1 ⟨x, H1, I1, r, a, u, e1, e2, mu, q⟩ => ?_
  obtain ⟨od, I2⟩ := I1.lock e2 mu
  exact ⟨x, _, I2, r, q od⟩
/-- {k: v}, the key a tuple -/
def tDispT (tk tv : TE) : TE := fun σ H Q => ∀ p, H p = none → tk σ (upd H p (.dT [])) fun x H1 => tv σ H1 fun y H2 => H2 p = some (.dT []) ∧ ∃ (b : Addr) (ks : List L2.Key), x = .ref b ∧ H2 b = some (.tup (ks.map kV)) ∧ Q (.ref p) (upd H2 p (.dT [(ks, y)]))
theorem pe_dispT {k v : Expr} {tk tv : TE} {pos : Pos} (hu : X.A.units + 1 < cLine) (hk : PE X k tk) (hv : PE X v tv) : PE X (.Dict [some k] [v] pos) (tDispT tk tv) := by
  refine ⟨fun pins s σ H Q I q => ?_⟩
  have hn := I.hok.fresh (Nat.le_refl s.heap.objs.size)
  have I1 := I.laid (a := s.heap.objs.size) (o := .dT []) (h' := s.heap.push { cls := .type "dict", data := .dict #[] }) (t' := s.toks) (fun _ _ q => Heap.get?_push_of_some _ q) (Nat.le_refl _) (dt_empty s.heap I.big)
  have hp := pps_cons (pos := pos) hk hv (pps_nil (X := X) (pos := pos))
  have hm : (s.heap.objs.size == sysModules) = false := beq_eq_false_iff_ne.mpr (Nat.ne_of_gt I.big)
  have hlen : (pairTrees [some k] [v] X.env pos).length = 1 := rfl
  rw [arm_eval_Dict, zip_pairTrees [some k] [v] X.env pos rfl rfl, dictDisplay_pairs _ (by rw [pairTrees]; exact List.cons_ne_nil _ _) (by rw [hlen]; decide)]
  refine wpAny_bind (wpAny_standAt (wpAny_bind (wpAny_subDictH (knd := tupleKind (mixKind X.prog X.w)) (Q := fun d s' => wpAny (model X.prog X.w) X.A (pure (Value.ref d)) _ X.xe s') (show X.A.units < cLine by omega) (by rw [hlen]; decide) ?_)))
  refine thn (hp.run pins _ σ _ (fun ps H2 => match ps with
    | [(x, y)] => H2 s.heap.objs.size = some (.dT []) ∧ ∃ (b : Addr) (ks : List L2.Key), x = .ref b ∧ H2 b = some (.tup (ks.map kV)) ∧ Q (.ref s.heap.objs.size) (upd H2 s.heap.objs.size (.dT [(ks, y)]))
    | _ => False) I1 (q _ hn)) fun ws s2 ⟨ps, H2, I2, rel, q2⟩ => ?_
  cases rel with
  | nil => exact q2.elim
  | @cons pa pb _ _ h1 t =>
    cases t with
    | cons _ _ => exact q2.elim
    | nil =>
      obtain ⟨a1, a2⟩ := pa
      obtain ⟨e, b, ks, ea, eb, q2⟩ := q2
      subst ea
      obtain ⟨b1, b2⟩ := pb
      obtain ⟨hb1, hb2⟩ := h1
      cases (show b1 = Value.ref b from hb1)
      obtain ⟨z, _, xs0, r0, dd⟩ := dt_of I2.hok e
      cases r0
      refine ⟨[(ks, b, b2)], ⟨rfl, rfl, key_of I2.hok eb, trivial⟩, dd, fun h' tk dd' hs => wpAny_pure ⟨.ref s.heap.objs.size, _, ?_, rfl, q2⟩⟩
      obtain ⟨o', es', ep', ho', hc', hd', he', _, hn'⟩ := id dd'
      refine d_write I2 (by rw [e]; exact True.intro) hs ⟨o', ho'⟩ ?_
      have ne : b ≠ s.heap.objs.size := fun z => by rw [z, e] at eb; cases eb
      exact ⟨by show 1 ≤ sizeLine; decide, hm, [(ks, b, b2)], .cons ⟨rfl, by show upd H2 s.heap.objs.size _ b = _; rw [upd_ne ne]; exact eb, hb2⟩ .nil, o', es', ep', ho', hc', hd', he', hn'⟩
end
/-! ### dict(list of pairs), keys tuples -/
def mergeT (kvs more : List (List L2.Key × V)) : List (List L2.Key × V) := more.foldl (fun acc kv => putK acc kv.1 kv.2) kvs
def mergedH (acc more : List (List L2.Key × Addr × Value)) : List (List L2.Key × Addr × Value) := more.foldl (fun acc q => storedH acc q.1 q.2.1 q.2.2) acc
theorem KT.merge {H : Hp} : ∀ {more : List (List L2.Key × V)} {rs : List (List L2.Key × Addr × Value)} {kvs : List (List L2.Key × V)} {vs : List (List L2.Key × Addr × Value)}, KT H more rs → KT H kvs vs → KT H (mergeT kvs more) (mergedH vs rs) := by
  intro more rs kvs vs r
  induction r generalizing kvs vs with
  | nil => intro q; exact q
  | @cons p q ps qs h t ih =>
    intro r0
    have e : KT H (putK kvs p.1 p.2) (storedH vs q.1 q.2.1 q.2.2) := by
      have := r0.put p.1 (b := q.2.1) h.2.1 h.2.2
      rw [← h.1]; exact this
    exact ih e
theorem length_mergeT : ∀ (more kvs : List (List L2.Key × V)), (mergeT kvs more).length ≤ kvs.length + more.length
  | [], kvs => by show kvs.length ≤ kvs.length + 0; omega
  | p :: r, kvs => by
    have h1 := length_mergeT r (putK kvs p.1 p.2)
    have h2 := length_putK kvs p.1 p.2
    show (mergeT (putK kvs p.1 p.2) r).length ≤ _
    rw [List.length_cons]; omega
section
variable {prog : Program} {w : World} {A : Around} {E : Value → Shared → Prop}
theorem upd_loopT {R : Result → Shared → Prop} {S I l : Addr} {items : Array Value} {res : Value} (hu : A.units + 2 < cLine) (hh : A.handled = none) (hlI : l ≠ I) (hSI : S ≠ I) (hSl : S ≠ l) :
    ∀ (rest : List (List L2.Key × Addr × Value)) (i : Nat) (acc : List (List L2.Key × Addr × Value)) (ix : Int) (t : Tok) (s : Shared), items.size = i + rest.length → acc.length + rest.length ≤ sizeLine →
      (∀ (j : Nat) (q : List L2.Key × Addr × Value), rest[j]? = some q → ∃ (b : Addr), items[i + j]? = some (.ref b) ∧ b ≠ S ∧ b ≠ I ∧ q.2.1 ≠ S ∧ q.2.1 ≠ I ∧ IsTup s.heap b #[.ref q.2.1, q.2.2] ∧ (tupleKind (mixKind prog w)).is s.heap q.1 q.2.1) →
      s.heap.IsListIter I l i → s.heap.IsList l items → s.heap.DictOfH (tupleKind (mixKind prog w)) S acc →
      (∀ x ∈ acc, x.2.1 ≠ I) →
      (∀ h' tk, h'.DictOfH (tupleKind (mixKind prog w)) S (mergedH acc rest) → (∀ b o, b ≠ S → b ≠ I → s.heap.get? b = some o → h'.get? b = some o) → R (.ok (.ret res)) { s with heap := h', toks := tk }) →
      codeAny (model prog w) A (.builtin "dict.update.loop" ⟨[.ref S, .ref I, .int ix t, res], []⟩) R s
  | [], i, acc, ix, t, s, hsz, hln, ht, hit, hl, hm, hai, hR => by
    refine codeAny_builtin ud_entry ?_
    rw [Around.under_plainId ud_plain _]
    show wpAny _ A.in1 (pyNext (.ref I) >>= _) _ _ s
    refine wpAny_bind (wpAny_pyNext_list_end (A := A.in1) hh hit hl (by first | exact Array.getElem?_eq_none (Nat.le_of_eq hsz) | (simp at hsz; simp; omega)) fun h' he => ?_)
    show wpAny _ A.in1 (Builtin.Dict.addKeywords S [] >>= _) _ _ _
    refine wpAny_bind (wpAny_pure (wpAny_pure ?_))
    refine hR h' s.toks ?_ fun b o _ hb e => he b o hb e
    obtain ⟨o, es, ep, ho, hc, hd, he', his, hn⟩ := hm
    exact ⟨o, es, ep, he S o hSI ho, hc, hd, he', fun x hx => by
      obtain ⟨ox, its, n, e1, e2, e3, e4⟩ := his x hx
      exact ⟨ox, its, n, he _ _ (hai x hx) e1, e2, e3, e4⟩, hn⟩
  | q :: rest, i, acc, ix, t, s, hsz, hln, ht, hit, hl, hm, hai, hR => by
    obtain ⟨b, hb, hbS, hbI, hqS, hqI, htup, hk⟩ := ht 0 q rfl
    rw [List.length_cons] at hsz hln
    refine codeAny_builtin ud_entry ?_
    rw [Around.under_plainId ud_plain _]
    show wpAny _ A.in1 (pyNext (.ref I) >>= _) _ _ s
    refine wpAny_bind (wpAny_pyNext_list_item (x := .ref b) hit hl (by simpa using hb) fun h1 hit1 hs1 => ?_)
    have keepK : ∀ {ks : List L2.Key} {a : Addr}, a ≠ I → (tupleKind (mixKind prog w)).is s.heap ks a → (tupleKind (mixKind prog w)).is h1 ks a := fun ha h => by
      obtain ⟨ox, its, n, e1, e2, e3, e4⟩ := h
      exact ⟨ox, its, n, hs1.extBut _ _ ha e1, e2, e3, e4⟩
    have ht1 : IsTup h1 b #[.ref q.2.1, q.2.2] := htup.extBut hs1.extBut hbI
    have hl1 : h1.IsList l items := hl.extBut hs1.extBut hlI
    have hm1 : h1.DictOfH (tupleKind (mixKind prog w)) S acc := by
      obtain ⟨o, es, ep, ho, hc, hd, he', his, hn⟩ := hm
      exact ⟨o, es, ep, hs1.extBut S o hSI ho, hc, hd, he', fun x hx => keepK (hai x hx) (his x hx), hn⟩
    obtain ⟨o, ho, hc, n, hd⟩ := id ht1
    show wpAny _ A.in1 (holding [Value.ref b] _ >>= _) _ _ _
    refine wpAny_bind (wpAny_holding ?_)
    refine wpAny_bind (wpAny_tryCatch ?_)
    unfold Builtin.Dict.pairItems
    refine wpAny_bind (wpAny_typeOf (T := "tuple") ⟨o, ho, hc⟩ ?_)
    rw [if_pos (by first | decide | rfl | simp)]
    refine wpAny_bind (wpAny_seqItems ho hd (wpAny_pure ?_))
    show wpAny _ A.in1 (holding [Value.ref q.2.1, q.2.2] (dictSet S (.ref q.2.1) q.2.2)) _ _ _
    refine wpAny_holding (wpAny_dictSet_heap (knd := tupleKind (mixKind prog w)) (k := q.1) (hsz := by omega) (tupleKind_room_in1 (by omega)) (keepK hqI hk) hm1 (fun h2 hm2 hs2 => ?_))
    obtain ⟨od, esd, epd, hod, hcd, hdd, _⟩ := id hm1
    refine wpAny_pure ⟨plainId_quiet ud_plain _, upd_loopT (items := items) hu hh hlI hSI hSl rest (i + 1) (storedH acc q.1 q.2.1 q.2.2) (ix + 1) 0 _ (show items.size = i + 1 + rest.length by omega) ?_ (fun j q' e => ?_) ?_ ?_ hm2 ?_ fun h' tk hd' k => ?_⟩
    · have z := storedH_length acc q.1 q.2.1 q.2.2
      omega
    · obtain ⟨b', hb', hbS', hbI', hqS', hqI', htup', hk'⟩ := ht (j + 1) q' (by simpa using e)
      refine ⟨b', ?_, hbS', hbI', hqS', hqI', (htup'.extBut hs1.extBut hbI').extBut hs2.extBut hbS', (tupleKind (mixKind prog w)).keeps (keepK hqI' hk') hod hdd hs2⟩
      rw [show i + 1 + j = i + (j + 1) by omega]
      exact hb'
    · exact hit1.at fun o' e => hs2.extBut I o' (Ne.symm hSI) e
    · exact hl1.extBut hs2.extBut (Ne.symm hSl)
    · intro x hx
      rcases mem_storedH hx with ⟨y, hy, e1, e2⟩ | ⟨e1, e2⟩
      · rw [e2]; exact hai y hy
      · rw [e2]; exact hqI
    · exact hR h' tk hd' fun c oc h3 h4 e => k c oc h3 h4 (hs2.extBut c oc h3 (hs1.extBut c oc h4 e))
end
section
variable {prog : Program} {w : World} {A : Around} {E : Value → Shared → Prop}
theorem call_dict_pairsT {s : Shared} {l : Addr} {ol : Obj} {items : Array Value} {n : Nat} {prs : List (List L2.Key × Addr × Value)} {Q : Value → Shared → Prop} (hu : A.units + 3 < cLine) (hh : A.handled = none) (hl : s.heap.get? l = some ol) (hc : ol.cls = .type "list") (hd : ol.dict = none)
    (hdat : ol.data = .seq items n) (hsz : items.size = prs.length) (hln : prs.length ≤ sizeLine)
    (ht : ∀ (j : Nat) (q : List L2.Key × Addr × Value), prs[j]? = some q → ∃ (b : Addr), items[j]? = some (.ref b) ∧ IsTup s.heap b #[.ref q.2.1, q.2.2] ∧ (tupleKind (mixKind prog w)).is s.heap q.1 q.2.1)
    (h : ∀ h' tk, h'.DictOfH (tupleKind (mixKind prog w)) s.heap.objs.size (mergedH [] prs) → (∀ b o, s.heap.get? b = some o → h'.get? b = some o) → Q (.ref s.heap.objs.size) { s with heap := h', toks := tk }) :
    wpAny (model prog w) A (call (.type "dict") [.ref l]) Q E s := by
  refine callType_codes (Q₁ := fun obj s₁ => obj = .ref s.heap.objs.size ∧ s₁ = { s with heap := s.heap.push { cls := .type "dict", data := .dict #[] } }) PySem.F.kt_called_dict (PySem.F.kt_typeCall_dict_1 _) PySem.F.entry_dict_init (kt_code_dict_new _ ⟨rfl, rfl⟩) ?_
  rintro obj s₁ ⟨rfl, rfl⟩
  have hnew : (s.heap.push { cls := .type "dict", data := .dict #[] }).DictOfH (tupleKind (mixKind prog w)) s.heap.objs.size [] := Heap.DictOfH.new s.heap
  have hnewK : (s.heap.push { cls := .type "dict", data := .dict #[] }).DictOf (mixKind prog w) s.heap.objs.size [] := Heap.DictOf.new s.heap
  have k0 : ∀ b o, s.heap.get? b = some o → (s.heap.push { cls := .type "dict", data := .dict #[] }).get? b = some o := fun b o e => Heap.get?_push_of_some _ e
  refine ⟨hnewK.typeIs, PySem.F.args_dict_init_2 _ _, ?_⟩
  unfold Builtin.«dict.__init__»
  refine wpAny_bind ?_
  unfold Builtin.Dict.selfAndRest
  refine wpAny_bind (wpAny_notOrdered_dict hnewK.typeIs ?_)
  show wpAny _ _ (pure (s.heap.objs.size, [Value.ref l])) _ _ _
  refine wpAny_pure ?_
  show wpAny _ _ (Builtin.Dict.updateFrom "dict.__init__" s.heap.objs.size (.ref l) [] .none) _ _ _
  unfold Builtin.Dict.updateFrom
  refine wpAny_bind (wpAny_typeOf (T := "list") ⟨ol, k0 _ _ hl, hc⟩ ?_)
  rw [if_pos (by first | decide | rfl | simp)]
  refine wpAny_bind (miss_list (k0 _ _ hl) hc hdat hd hh fun h1 tk1 hk1 => ?_)
  rw [if_pos (show (none : Option Value).isNone = true from rfl)]
  refine wpAny_bind (wpAny_rule ?_)
  have hl1 : h1.IsList l items := ⟨ol, hk1 _ _ (k0 _ _ hl), hc, n, hdat⟩
  have hS1 : s.heap.objs.size < h1.objs.size := by
    have e : (s.heap.push { cls := .type "dict", data := .dict #[] }).get? s.heap.objs.size = some { cls := .type "dict", data := .dict #[] } := Heap.get?_push_size _ rfl
    exact Heap.lt_size (hk1 _ _ e)
  refine wpAny_bind (wpAny_pyIter_list hl1 ?_)
  have k2 : ∀ b o, h1.get? b = some o → (h1.push { cls := .type "list_iterator", data := .fields #[.ref l, .int 0 0] }).get? b = some o := fun b o e => Heap.get?_push_of_some _ e
  have hlt : l < s.heap.objs.size := Heap.lt_size hl
  have key := upd_loopT (prog := prog) (w := w) (A := A.in1) (R := wants (fun r s₂ => r = .none ∧ Q (.ref s.heap.objs.size) s₂) E) (S := s.heap.objs.size) (I := h1.objs.size) (l := l) (items := items) (res := Value.none) (by simp only [Around.in1_units]; omega) hh
    (Nat.ne_of_lt (Nat.lt_trans hlt hS1)) (Nat.ne_of_lt hS1) (Nat.ne_of_gt hlt) prs 0 [] 0 0
    { s with heap := h1.push { cls := .type "list_iterator", data := .fields #[.ref l, .int 0 0] }, toks := tk1 } (by rw [hsz, Nat.zero_add]) (by rw [List.length_nil, Nat.zero_add]; exact hln)
    (fun j q e => by
      obtain ⟨b, e1, e2, e3⟩ := ht j q e
      have hb : b < s.heap.objs.size := e2.lt
      obtain ⟨ox, its, nn, x1, x2, x3, x4⟩ := e3
      have hq : q.2.1 < s.heap.objs.size := Heap.lt_size x1
      exact ⟨b, by rw [Nat.zero_add]; exact e1, Nat.ne_of_lt hb, Nat.ne_of_lt (Nat.lt_trans hb hS1), Nat.ne_of_lt hq, Nat.ne_of_lt (Nat.lt_trans hq hS1), e2.keeps fun c o z => k2 _ _ (hk1 _ _ (k0 _ _ z)), ⟨ox, its, nn, k2 _ _ (hk1 _ _ (k0 _ _ x1)), x2, x3, x4⟩⟩)
    ⟨_, Heap.get?_push_size _ rfl, rfl, rfl⟩ (hl1.at fun o e => k2 _ _ e) (by
      obtain ⟨o, es, ep, ho, hc', hd', he', his, hn⟩ := hnew
      exact ⟨o, es, ep, k2 _ _ (hk1 _ _ ho), hc', hd', he', (fun x hx => absurd hx List.not_mem_nil), hn⟩) (fun x hx => absurd hx List.not_mem_nil)
    (fun h' tk hd' k => ⟨rfl, h h' tk hd' fun b o e => k b o (Nat.ne_of_lt (Heap.lt_size e)) (Nat.ne_of_lt (Nat.lt_trans (Heap.lt_size e) hS1)) (k2 _ _ (hk1 _ _ (k0 _ _ e)))⟩)
  first
    | exact wpAny_pure ⟨plainId_quiet ud_plain _, key⟩
    | exact wpAny_bind (wpAny_pure (wpAny_pure ⟨plainId_quiet ud_plain _, key⟩))
end
section
variable {X : Cx} {K : PySem.W.Frag}
/-- a pair (key, value) at p -/
def PrT (K : PySem.W.Frag) (H : Hp) (p : Addr) (kv : List L2.Key × V) : Prop := ∃ b, SqT K H p [.ref b, kv.2] ∧ H b = some (.tup (kv.1.map kV))
theorem pairs_ofT {pins : List (Addr × Obj)} {σ : L2.St} {H : Hp} {s : Shared} (I : L2.Inv X pins σ H s) : ∀ {ps : List Addr} {kvs : List (List L2.Key × V)}, Paired (PrT X.K H) ps kvs →
    ∃ prs : List (List L2.Key × Addr × Value), KT H kvs prs ∧ prs.length = ps.length ∧ ∀ (j : Nat) (q : List L2.Key × Addr × Value), prs[j]? = some q → ∃ (b : Addr), ps[j]? = some b ∧ IsTup s.heap b #[.ref q.2.1, q.2.2] ∧ (tupleKind (mixKind X.prog X.w)).is s.heap q.1 q.2.1
  | _, _, .nil => ⟨[], .nil, rfl, fun j q e => by simp at e⟩
  | _, _, .cons (a := p) (b := kv) h t => by
    obtain ⟨prs, r, hl, hp⟩ := pairs_ofT I t
    obtain ⟨b, hs, hb⟩ := h
    obtain ⟨its, rv, ht, _⟩ := I.tuple hs
    obtain ⟨u, y, ei, ru, ry⟩ := vals2 rv
    subst ei
    cases (show u = Value.ref b from ru)
    refine ⟨(kv.1, b, y) :: prs, .cons ⟨rfl, hb, ry⟩ r, by rw [List.length_cons, List.length_cons, hl], fun j q e => ?_⟩
    cases j with
    | zero =>
      have e' : (kv.1, b, y) = q := Option.some.inj e
      subst e'
      exact ⟨p, rfl, ht, key_of I.hok hb⟩
    | succ j =>
      obtain ⟨b, e1, e2, e3⟩ := hp j q (by simpa using e)
      exact ⟨b, by simpa using e1, e2, e3⟩
def rDictT (K : PySem.W.Frag) : List V → Hp → VK → Prop := fun xs H Q => ∃ (a : Addr) (ps : List Addr) (kvs : List (List L2.Key × V)), xs = [.ref a] ∧ SqL K H a (ps.map V.ref) ∧ Paired (PrT K H) ps kvs ∧
    ∀ p, H p = none → Q (.ref p) (upd H p (.dT (mergeT [] kvs)))
theorem call_dictT (hu : X.A.units + 3 < cLine) (hcalm : X.calm = true) (hK : X.K = K := by rfl) : CallR X (.type "dict") (rDictT K) := by
  subst hK
  intro pins s σ H xs us Q I r q
  obtain ⟨a, ps, kvs, ex, hq, hp, q⟩ := q
  subst ex
  obtain ⟨u, eu, rx⟩ := vals1 r
  subst eu
  cases rx
  obtain ⟨its, rv, pl, hz⟩ := I.list hq
  have ei := refs_at rv
  subst ei
  rw [List.length_map] at hz
  obtain ⟨prs, rel, hl, hpr⟩ := pairs_ofT I hp
  obtain ⟨o, n, ho, hc, hd, hdat⟩ := pl
  refine call_dict_pairsT (prs := prs) hu (I.ok.hd hcalm) ho hc hd hdat (by simp [hl]) (by rw [hl]; exact hz) (fun j q' e => ?_) fun h' tk hd' k => ?_
  · obtain ⟨b, e1, e2, e3⟩ := hpr j q' e
    exact ⟨b, by simp [e1], e2, e3⟩
  · have hm : (s.heap.objs.size == sysModules) = false := beq_eq_false_iff_ne.mpr (Nat.ne_of_gt I.big)
    have hlen : (mergeT [] kvs).length ≤ sizeLine := by
      refine Nat.le_trans (length_mergeT kvs []) ?_
      rw [List.length_nil, Nat.zero_add, Paired.length rel, hl]
      exact hz
    have hn := I.hok.fresh (Nat.le_refl s.heap.objs.size)
    obtain ⟨o', es', ep', ho', hc', hd'', he', _, hn'⟩ := id hd'
    have km : KT (upd H s.heap.objs.size (.dT (mergeT [] kvs))) (mergeT [] kvs) (mergedH [] prs) := (KT.merge rel .nil).keeps fun b ys e => by rw [upd_ne (ne_of_none e hn)]; exact e
    exact ⟨.ref s.heap.objs.size, upd H s.heap.objs.size (.dT (mergeT [] kvs)), I.laid (t' := tk) k (Nat.le_refl _) (show ObjOk X.prog X.w _ _ _ (.dT (mergeT [] kvs)) from ⟨hlen, hm, mergedH [] prs, km, o', es', ep', ho', hc', hd'', he', hn'⟩), rfl, q _ hn⟩
/-! ### d.items(), keys tuples -/
def ItiT (d : Addr) (o : Obj) (kvs : List (List L2.Key × V)) : It :=
  ⟨fun i H => H d = some (.frz o (.dT kvs)) ∧ i < kvs.length, fun i H x H' => ∃ (T : Addr) (k : List L2.Key) (v : V) (q : Addr), kvs[i]? = some (k, v) ∧ x = .ref T ∧ H T = none ∧ H q = some (.tup (k.map kV)) ∧ H' = upd H T (.tup [.ref q, v]), fun i H => H d = some (.frz o (.dT kvs)) ∧ kvs.length ≤ i⟩
theorem frzT' {pins : List (Addr × Obj)} {σ : L2.St} {H : Hp} {s : Shared} {d : Addr} {o : Obj} {kvs : List (List L2.Key × V)} (I : L2.Inv X pins σ H s) (h : H d = some (.frz o (.dT kvs))) :
    (d == sysModules) = false ∧ s.heap.get? d = some o ∧ o.ExactDict ∧ ∃ (es : Array DictEntry) (ep : Nat), o.data = .dict es ep ∧ es.size = kvs.length ∧
      ∀ (i : Nat) (k : List L2.Key) (v : V), kvs[i]? = some (k, v) → ∃ (en : DictEntry) (q : Addr), es[i]? = some en ∧ en.key = .ref q ∧ H q = some (.tup (k.map kV)) ∧ RelV v en.val := by
  obtain ⟨hd, z, hs, xs, pr, o', es, ep, ho, hx, hdt, he, _⟩ := I.hok d _ h
  rw [hd] at ho
  cases ho
  refine ⟨hs, hd, hx, es, ep, hdt, ?_, fun i k v e => ?_⟩
  · have l1 : es.size = xs.length := size_of_entries he
    have l2 : kvs.length = xs.length := Paired.length pr
    omega
  · obtain ⟨b, hb, e1, e2, e3⟩ := paired_get pr e
    have q := entry_at he i
    rw [hb] at q
    exact ⟨_, b.2.1, q, rfl, e2, e3⟩
theorem turn_itemsT {P : Program} {w : World} {d : Addr} {o : Obj} {es : Array DictEntry} {ep : Nat} {kvs : List (List L2.Key × V)} {elts : List Expr} {kk : Nat} {tpos : Pos} (it : Addr) (hod : o.data = .dict es ep) :
    Turn P w K (.Tuple elts kk tpos) (ItiT d o kvs) [it] it (fun i h => ∃ ok ov, IsItemIter h it d i es.size ep ok ov) where
  mem := by simp
  obj := fun i h st b hb => by
    have e : b = it := by simpa using hb
    subst e
    obtain ⟨ok, ov, e⟩ := st
    exact ⟨_, e, fun v z => nomatch z⟩
  keep := fun i h h' st k => let ⟨ok, ov, e⟩ := st; ⟨ok, ov, k it (by simp) _ e⟩
  item := by
    intro X hP hw hK hc i pins s σ H E I hf st hg
    subst hP hw hK
    obtain ⟨hd, hi⟩ := hg
    obtain ⟨hs, hgd, hx, es', ep', hdt, hsz, ent⟩ := frzT' I hd
    obtain ⟨rfl, rfl⟩ := dict_ep hod hdt
    obtain ⟨⟨k, v⟩, hkv⟩ : ∃ p, kvs[i]? = some p := ⟨kvs[i], List.getElem?_eq_getElem hi⟩
    obtain ⟨en, q, hen, hkey, hq, hval⟩ := ent i k v hkv
    obtain ⟨ok, ov, he⟩ := st
    have hlt : it < s.heap.objs.size := Heap.lt_size he
    have hi' : i < es'.size := by omega
    have een : es'[i] = en := by
      rw [Array.getElem?_eq_getElem hi'] at hen
      exact Option.some.inj hen
    refine wpAny_pyNext_items_item_raw he ⟨o, hgd, hx, hod⟩ hi' fun h' ho hT hz hk => ?_
    rw [een] at ho hT
    refine ⟨_, rfl, wpAny_letOwnedTupleGo_items (s := { s with heap := h' }) ho fun h'' he' sb => ?_⟩
    have hT2 : h''.get? s.heap.objs.size = some { cls := .type "tuple", data := .seq #[en.key, en.val] } := (sb.2 _ (Nat.ne_of_gt hlt)).trans hT
    have new : ObjOk X.prog X.w (upd H s.heap.objs.size (.tup [.ref q, v])) h'' s.heap.objs.size (.tup [.ref q, v]) :=
      ⟨by show 2 ≤ sizeLine; decide, [en.key, en.val], .cons hkey (.cons hval .nil), ⟨_, hT2, rfl, _, rfl⟩⟩
    have I1 : L2.Inv X pins σ (upd H s.heap.objs.size (.tup [.ref q, v])) { s with heap := h'' } :=
      I.turnedNew (t' := s.toks) (ch := [it]) (fun b ob hb e => (sb.2 b (by simpa using hb)).trans (hk b ob (by simpa using hb) e)) hf (Nat.le_refl _) new
    refine ⟨.ref s.heap.objs.size, _, I1, rfl, ⟨_, k, v, q, hkv, rfl, I.hok.fresh (Nat.le_refl _), hq, rfl⟩, ⟨en.key, en.val, he'⟩, fun b hb => ?_⟩
    have e : b = it := by simpa using hb
    rw [e, upd_ne (Nat.ne_of_lt hlt)]
    exact (hf it (by simp)).1
  done := by
    intro X hP hw hK hc i pins s σ H E I hf st hg
    subst hP hw hK
    obtain ⟨hd, hi⟩ := hg
    obtain ⟨f0, f1, f2, f3, f4, f5⟩ := hf it (by simp)
    obtain ⟨hs, hgd, hx, es', ep', hdt, hsz, ent⟩ := frzT' I hd
    obtain ⟨rfl, rfl⟩ := dict_ep hod hdt
    obtain ⟨ok, ov, he⟩ := st
    exact wpAny_pyNext_items_end_raw (I.ok.hd hc) he ⟨o, hgd, hx, hod⟩ (by omega) fun h' eb => ⟨rfl, I.turned (t' := s.toks) (fun b ob hb e => eb b ob hb e) f0 f1 f3 f4 f5⟩
  self := fun A i s Q E st h => let ⟨_, _, e⟩ := st; PySem.W.kcp_self e h
def iItemsT (td : TE) : TI := fun σ H R => td σ H fun x H1 => ∃ d o kvs, x = .ref d ∧ H1 d = some (.frz o (.dT kvs)) ∧ R (ItiT d o kvs) H1
theorem pi_itemsT {e : Expr} {td : TE} {apos cpos : Pos} {elts : List Expr} {kk : Nat} {tpos : Pos} (he : PE X e td) (hbase : attributeBase e "items" X.env (eval e X.env) = eval e X.env := by rfl) (hline : (apos.endLine == cpos.line) = true := by rfl) :
    PI X (.Tuple elts kk tpos) (.Call (.Attribute e "items" apos) [] [] cpos) (iItemsT td) := by
  refine ⟨fun pins s σ H R I h => ?_⟩
  refine wpAny_Call_method (T := "dict") (id := "dict.items") hbase rfl hline F.plainAttrs_dict F.slot_dict_items F.type_dict_items (thn (he.run pins s σ H _ I h) fun u s1 ⟨x, H1, I1, rx, d, o, kvs, ex, hd, q⟩ => ?_)
  subst ex
  obtain rfl : u = Value.ref d := rx
  obtain ⟨hs, hgd, hx, es, ep, hdt, hsz, ent⟩ := frzT' I1 hd
  have raw : s1.heap.DictRaw d es ep := ⟨o, hgd, hx, hdt⟩
  refine ⟨raw.typeIs, fun b eb => ⟨o, by cases eb; exact hgd, hx.2.1⟩, ?_⟩
  have I2 : L2.Inv X pins σ H1 { s1 with heap := s1.heap.push { cls := .type "dict_items", data := .fields #[.ref d] } } := I1.kept (t' := s1.toks) fun b ob q => Heap.get?_push_of_some _ q
  have fin : wpAny (model X.prog X.w) X.A (pyIter (.ref s1.heap.objs.size)) (PIE X pins σ (.Tuple elts kk tpos) R) X.xe { s1 with heap := s1.heap.push { cls := .type "dict_items", data := .fields #[.ref d] } } := by
    refine wpAny_pyIter_items_raw (d := d) ⟨_, Heap.get?_push_size _ rfl, rfl, rfl⟩ (raw.at fun o e => Heap.get?_push_of_some _ e) (pi_one (tk := s1.toks) I2 _ (turn_itemsT _ hdt) ⟨.none, .none, ?_⟩ q)
    exact Heap.get?_push_size _ rfl
  show wpAny _ _ (callWith cpos (.builtin "dict.items") [.ref d] [] []) _ X.xe s1
  exact method_meetsIn F.slot_dict_items F.entry_dict_items rfl (PySem.evalArgs_none ⟨rfl, raw.typeIs, F.args_dict_items_1 _, _, meets_dict_items_raw d hs, ⟨es, ep, raw⟩, fin⟩)
end
end CB

set_option Elab.async false
set_option linter.all false
set_option maxRecDepth 100000
set_option maxHeartbeats 4000000
/-! The data layer: what a def does to data, without the heap. Values SV, a store of objects that may change, readings TD. -/
namespace DL
open PySem PySem.Spec PyProof.Rows L2 CB

/-- a value: data; an object of the store, by its number (r: named, t: for the moment); the deal -/
inductive SV where
  | d (x : PyData) | r (k : Nat) | t (k : Nat) | dl
/-- an object that may change -/
inductive OV where
  | lst (ds : List PyData) | dT (es : List (List Key × PyData)) | dK (es : List (Key × PyData)) | fz (x : PyData) | gone
abbrev DEnv := List (Option SV)
abbrev Sto := List OV

def kD : Key → PyData
  | .inl i => .int i
  | .inr x => .str x
def kt (ks : List Key) : PyData := .tuple (ks.map kD)
abbrev dictD (es : List (List Key × PyData)) : PyData := .dict (es.map fun p => (kt p.1, p.2))
mutual
inductive Rp (F : Hp) : V → PyData → Prop
  | non : Rp F .non .none
  | bl (b : Bool) : Rp F (.bl b) (.bool b)
  | int (i : Int) : Rp F (.int i) (.int i)
  | str (x : Str) : Rp F (.str x) (.str x)
  | lst {a : Addr} {xs : List V} {ds : List PyData} : F a = some (.lst xs) → RpAll F xs ds → Rp F (.ref a) (.list ds)
  | tup {a : Addr} {xs : List V} {ds : List PyData} : F a = some (.tup xs) → RpAll F xs ds → Rp F (.ref a) (.tuple ds)
  | dT {a : Addr} {o : Obj} {xs : List V} {es : List (List Key × PyData)} : F a = some (.frz o (.dT ((es.map Prod.fst).zip xs))) → RpAll F xs (es.map Prod.snd) → Rp F (.ref a) (dictD es)
inductive RpAll (F : Hp) : List V → List PyData → Prop
  | nil : RpAll F [] []
  | cons {v : V} {vs : List V} {d : PyData} {ds : List PyData} : Rp F v d → RpAll F vs ds → RpAll F (v :: vs) (d :: ds)
end
section
variable {K : PySem.W.Frag} {F F' H : Hp}
mutual
theorem Rp.ex (e : Ex F F') : ∀ {v : V} {d : PyData}, Rp F v d → Rp F' v d
  | _, _, .non => .non
  | _, _, .bl b => .bl b
  | _, _, .int i => .int i
  | _, _, .str x => .str x
  | _, _, .lst h hs => .lst (e _ _ h) (RpAll.ex e hs)
  | _, _, .tup h hs => .tup (e _ _ h) (RpAll.ex e hs)
  | _, _, .dT h hs => .dT (e _ _ h) (RpAll.ex e hs)
theorem RpAll.ex (e : Ex F F') : ∀ {vs : List V} {ds : List PyData}, RpAll F vs ds → RpAll F' vs ds
  | _, _, .nil => .nil
  | _, _, .cons h hs => .cons (Rp.ex e h) (RpAll.ex e hs)
end
mutual
theorem Rp.dp : ∀ {v : V} {d : PyData}, Rp F v d → d.canLay0 = true → Dp K F v d
  | _, _, .non, _ => .non
  | _, _, .bl b, _ => .bl b
  | _, _, .int i, _ => .int i
  | _, _, .str x, _ => .str x
  | _, _, .lst h hs, c => .lst (SqL.of h) (RpAll.dp hs (by simpa [PyData.canLay0] using c))
  | _, _, .tup h hs, c => .tup (SqT.of h) (RpAll.dp hs (by simpa [PyData.canLay0] using c))
  | _, _, .dT h hs, c => by simp [PyData.canLay0] at c
theorem RpAll.dp : ∀ {vs : List V} {ds : List PyData}, RpAll F vs ds → PyData.canLayAll0 ds = true → DpAll K F vs ds
  | _, _, .nil, _ => .nil
  | _, _, .cons (d := x) (ds := xs) h hs, c => by
    have h' : x.canLay0 = true ∧ PyData.canLayAll0 xs = true := by simpa [PyData.canLayAll0] using c
    exact .cons (Rp.dp h h'.1) (RpAll.dp hs h'.2)
end
theorem RpAll.length : ∀ {vs : List V} {ds : List PyData}, RpAll F vs ds → vs.length = ds.length
  | _, _, .nil => rfl
  | _, _, .cons _ h => by rw [List.length_cons, List.length_cons, RpAll.length h]
theorem RpAll.get : ∀ {vs : List V} {ds : List PyData} {i : Nat} {d : PyData}, RpAll F vs ds → ds[i]? = some d → ∃ v, vs[i]? = some v ∧ Rp F v d
  | _, _, _, _, .nil, e => by simp at e
  | _, _, 0, _, .cons h _, e => by simp at e; subst e; exact ⟨_, rfl, h⟩
  | _, _, i + 1, _, .cons _ h, e => by
    obtain ⟨d, e1, e2⟩ := RpAll.get (i := i) h (by simpa using e)
    exact ⟨d, by simpa using e1, e2⟩
theorem RpAll.append : ∀ {vs ws : List V} {ds es : List PyData}, RpAll F vs ds → RpAll F ws es → RpAll F (vs ++ ws) (ds ++ es)
  | _, _, _, _, .nil, h => h
  | _, _, _, _, .cons h hs, k => .cons h (RpAll.append hs k)
theorem RpAll.take : ∀ {vs : List V} {ds : List PyData} (n : Nat), RpAll F vs ds → RpAll F (vs.take n) (ds.take n)
  | _, _, 0, _ => by rw [List.take_zero, List.take_zero]; exact .nil
  | _, _, _ + 1, .nil => .nil
  | _, _, n + 1, .cons h t => .cons h (RpAll.take n t)
theorem RpAll.drop : ∀ {vs : List V} {ds : List PyData} (n : Nat), RpAll F vs ds → RpAll F (vs.drop n) (ds.drop n)
  | _, _, 0, h => h
  | _, _, _ + 1, .nil => .nil
  | _, _, n + 1, .cons _ t => RpAll.drop n t
theorem RpAll.set {v : V} {d : PyData} (r : Rp F v d) : ∀ {vs : List V} {ds : List PyData} (i : Nat), RpAll F vs ds → RpAll F (vs.set i v) (ds.set i d)
  | _, _, _, .nil => .nil
  | _, _, 0, .cons _ t => .cons r t
  | _, _, i + 1, .cons q t => .cons q (RpAll.set r i t)
theorem RpAll.reverse : ∀ {vs : List V} {ds : List PyData}, RpAll F vs ds → RpAll F vs.reverse ds.reverse
  | _, _, .nil => .nil
  | _, _, .cons h t => by rw [List.reverse_cons, List.reverse_cons]; exact (RpAll.reverse t).append (.cons h .nil)
theorem RpAll.rep {vs : List V} {ds : List PyData} (h : RpAll F vs ds) : ∀ n : Nat, RpAll F (List.replicate n vs).flatten (List.replicate n ds).flatten
  | 0 => .nil
  | n + 1 => by
    rw [List.replicate_succ, List.replicate_succ, List.flatten_cons, List.flatten_cons]
    exact h.append (RpAll.rep h n)
theorem RpAll.ints : ∀ ns : List Int, RpAll F (ns.map V.int) (ns.map PyData.int)
  | [] => .nil
  | n :: r => .cons (.int n) (RpAll.ints r)
theorem RpAll.strs : ∀ ns : List Str, RpAll F (ns.map V.str) (ns.map PyData.str)
  | [] => .nil
  | n :: r => .cons (.str n) (RpAll.strs r)
theorem rp_ints_of : ∀ {vs : List V} {ns : List Int}, RpAll F vs (ns.map PyData.int) → vs = ns.map V.int
  | _, [], h => by cases h; rfl
  | _, n :: r, h => by
    cases h with
    | cons h1 h2 => cases h1; rw [rp_ints_of h2]; rfl
theorem rp_strs_of : ∀ {vs : List V} {ns : List Str}, RpAll F vs (ns.map PyData.str) → vs = ns.map V.str
  | _, [], h => by cases h; rfl
  | _, n :: r, h => by
    cases h with
    | cons h1 h2 => cases h1; rw [rp_strs_of h2]; rfl
theorem rp_bools_of : ∀ {vs : List V} {ns : List Bool}, RpAll F vs (ns.map PyData.bool) → vs = ns.map V.bl
  | _, [], h => by cases h; rfl
  | _, n :: r, h => by
    cases h with
    | cons h1 h2 => cases h1; rw [rp_bools_of h2]; rfl
end

/-! ### the store and the frame -/
def isDl (dl : Option (Addr × Addr)) (a : Addr) : Prop := ∃ d l, dl = some (d, l) ∧ (a = d ∨ a = l)
def ObR (F H : Hp) (a : Addr) : OV → Prop
  | .lst ds => F a = none ∧ ∃ xs, H a = some (.lst xs) ∧ RpAll F xs ds
  | .dT es => F a = none ∧ ∃ xs, H a = some (.dT ((es.map Prod.fst).zip xs)) ∧ RpAll F xs (es.map Prod.snd)
  | .dK es => F a = none ∧ ∃ xs, H a = some (.dK ((es.map Prod.fst).zip xs)) ∧ RpAll F xs (es.map Prod.snd)
  | .fz x => Rp F (.ref a) x
  | .gone => True
def SvR (dl : Option (Addr × Addr)) (adr : List Addr) (F : Hp) (v : V) : SV → Prop
  | .d x => Rp F v x
  | .r k => ∃ a, adr[k]? = some a ∧ v = .ref a
  | .t k => ∃ a, adr[k]? = some a ∧ v = .ref a
  | .dl => ∃ d l, dl = some (d, l) ∧ v = .ref d
structure Sts (dl : Option (Addr × Addr)) (μ : Sto) (adr : List Addr) (F H : Hp) : Prop where
  ex : Ex F H
  len : adr.length = μ.length
  obs : ∀ (k : Nat) (a : Addr) (o : OV), adr[k]? = some a → μ[k]? = some o → ObR F H a o
  nd : adr.Nodup
  al : ∀ a ∈ adr, H a ≠ none
  dl : ∀ d l, dl = some (d, l) → IsDeal H d l ∧ F d = none ∧ F l = none ∧ d ∉ adr ∧ l ∉ adr
def Slo (dl : Option (Addr × Addr)) (adr : List Addr) (F : Hp) (σ : L2.St) (ρ : DEnv) : Prop :=
  ρ.length = σ.length ∧ ∀ (i : Nat) (x : SV), ρ[i]? = some (some x) → ∃ v, σ[i]? = some (some v) ∧ SvR dl adr F v x
/-- no slot holds an object of the moment; those named are below n -/
def SB (ρ : DEnv) (n : Nat) : Prop := ∀ (i : Nat) (x : SV), ρ[i]? = some (some x) → (∀ k, x = .r k → k < n) ∧ ∀ k, x ≠ .t k
/-- no tuple stands at a -/
def NT (H : Hp) (a : Addr) : Prop := ∀ xs, H a ≠ some (.tup xs)
structure Fr (dl : Option (Addr × Addr)) (n : Nat) (F H : Hp) (adr : List Addr) (F' H' : Hp) (adr' : List Addr) : Prop where
  ex : Ex F F'
  kp : ∀ a o, a ∉ adr → ¬ isDl dl a → H a = some o → H' a = some o
  nf : ∀ a, F a = none → H a ≠ none → NT H a → a ∉ adr → F' a = none
  al : ∀ a, H a ≠ none → H' a ≠ none
  tp : ∀ a xs, H' a = some (.tup xs) → H a = none ∨ H a = some (.tup xs)
  st : ∀ k, k < n → adr'[k]? = adr[k]?
  fr : ∀ a ∈ adr', a ∈ adr ∨ H a = none
section
variable {dl : Option (Addr × Addr)} {n m : Nat} {F H F1 H1 F2 H2 : Hp} {adr adr1 adr2 : List Addr} {μ : Sto}
theorem Fr.refl : Fr dl n F H adr F H adr := ⟨fun _ _ e => e, fun _ _ _ _ e => e, fun _ e _ _ _ => e, fun _ e => e, fun _ _ e => .inr e, fun _ _ => rfl, fun _ e => .inl e⟩
theorem Fr.nt (f : Fr dl n F H adr F1 H1 adr1) {a : Addr} (h : H a ≠ none) (t : NT H a) : NT H1 a := fun xs e => by
  rcases f.tp a xs e with z | z
  · exact h z
  · exact t xs z
theorem Fr.trans (f : Fr dl n F H adr F1 H1 adr1) (g : Fr dl m F1 H1 adr1 F2 H2 adr2) (h : n ≤ m) : Fr dl n F H adr F2 H2 adr2 := by
  have out : ∀ a, a ∉ adr → H a ≠ none → a ∉ adr1 := fun a e1 e2 e3 => by
    rcases f.fr a e3 with h | h
    · exact e1 h
    · exact e2 h
  refine ⟨f.ex.trans g.ex, fun a o e1 e2 e => g.kp a o (out a e1 (by rw [e]; exact fun z => by cases z)) e2 (f.kp a o e1 e2 e), fun a e1 e2 e4 e3 => g.nf a (f.nf a e1 e2 e4 e3) (f.al a e2) (f.nt e2 e4) (out a e3 e2), fun a e => g.al a (f.al a e), fun a xs e => ?_, fun k hk => (g.st k (by omega)).trans (f.st k hk), fun a e => ?_⟩
  · rcases g.tp a xs e with z | z
    · refine .inl ?_
      cases e : H a with
      | none => rfl
      | some o => exact absurd z (f.al a (by rw [e]; exact Option.some_ne_none _))
    · exact f.tp a xs z
  rcases g.fr a e with h | h
  · exact f.fr a h
  · refine .inr ?_
    cases e : H a with
    | none => rfl
    | some o => exact absurd h (f.al a (by rw [e]; exact fun z => by cases z))
theorem Fr.mono (f : Fr dl n F H adr F1 H1 adr1) (h : m ≤ n) : Fr dl m F H adr F1 H1 adr1 := ⟨f.ex, f.kp, f.nf, f.al, f.tp, fun k hk => f.st k (by omega), f.fr⟩
theorem SvR.fr {v : V} {x : SV} (r : SvR dl adr F v x) (f : Fr dl n F H adr F1 H1 adr1) (h : ∀ k, x = .r k ∨ x = .t k → k < n) : SvR dl adr1 F1 v x := by
  cases x with
  | d x => exact Rp.ex f.ex r
  | r k => obtain ⟨a, e1, e2⟩ := r; exact ⟨a, by rw [f.st k (h k (.inl rfl))]; exact e1, e2⟩
  | t k => obtain ⟨a, e1, e2⟩ := r; exact ⟨a, by rw [f.st k (h k (.inr rfl))]; exact e1, e2⟩
  | dl => exact r
theorem Slo.fr {σ : L2.St} {ρ : DEnv} (s : Slo dl adr F σ ρ) (b : SB ρ n) (f : Fr dl n F H adr F1 H1 adr1) : Slo dl adr1 F1 σ ρ :=
  ⟨s.1, fun i x e => by
    obtain ⟨v, h1, h2⟩ := s.2 i x e
    refine ⟨v, h1, h2.fr f fun k hk => ?_⟩
    rcases hk with rfl | rfl
    · exact (b i _ e).1 k rfl
    · exact absurd rfl ((b i _ e).2 k)⟩
theorem SvR.lt {v : V} {x : SV} (r : SvR dl adr F v x) (s : Sts dl μ adr F H) : ∀ k, x = .r k ∨ x = .t k → k < μ.length := by
  intro k hk
  rw [← s.len]
  rcases hk with rfl | rfl <;> (obtain ⟨a, e, _⟩ := r; exact (List.getElem?_eq_some_iff.mp e).1)
end

/-! ### readings -/
abbrev TD := DEnv → Sto → (SV → Sto → Prop) → Prop
abbrev TDb := DEnv → Sto → (Bool → Sto → Prop) → Prop
abbrev TDa := DEnv → Sto → (List SV → Sto → Prop) → Prop
abbrev TDo := DEnv → Sto → (Option Int → Sto → Prop) → Prop
abbrev TDi := DEnv → Sto → (List PyData → Sto → Prop) → Prop
/-- where one stands -/
structure At (dl : Option (Addr × Addr)) (n : Nat) (σ : L2.St) (ρ : DEnv) (μ : Sto) (adr : List Addr) (F H : Hp) : Prop where
  s : Sts dl μ adr F H
  l : Slo dl adr F σ ρ
  b : SB ρ n
  n : n ≤ μ.length
def tmp (n : Nat) : SV → Prop
  | .t k => n ≤ k
  | .r k => k < n
  | _ => True
def DE (te : TE) (t : TD) : Prop := ∀ dl n σ ρ μ adr F H (Qd : SV → Sto → Prop) (Q : VK), At dl n σ ρ μ adr F H → t ρ μ Qd →
  (∀ v x μ' adr' F' H', Fr dl μ.length F H adr F' H' adr' → Sts dl μ' adr' F' H' → μ.length ≤ μ'.length → SvR dl adr' F' v x → (∀ k, x = .r k → k < n) → (∀ k, x = .t k → μ.length ≤ k) → Qd x μ' → Q v H') → te σ H Q
def DB (tt : TT) (t : TDb) : Prop := ∀ dl n σ ρ μ adr F H (Qd : Bool → Sto → Prop) (Q : Bool → Hp → Prop), At dl n σ ρ μ adr F H → t ρ μ Qd →
  (∀ b μ' adr' F' H', Fr dl μ.length F H adr F' H' adr' → Sts dl μ' adr' F' H' → μ.length ≤ μ'.length → Qd b μ' → Q b H') → tt σ H Q
inductive SvA (dl : Option (Addr × Addr)) (adr : List Addr) (F : Hp) : List V → List SV → Prop
  | nil : SvA dl adr F [] []
  | cons {v : V} {vs : List V} {x : SV} {xs : List SV} : SvR dl adr F v x → SvA dl adr F vs xs → SvA dl adr F (v :: vs) (x :: xs)
/-- the objects of the moment stand in order, from n on -/
def Ord (L : Nat) : Nat → List SV → Prop
  | _, [] => True
  | n, x :: xs => (∀ k, x = .t k → n ≤ k) ∧ ∃ m, n ≤ m ∧ m ≤ L ∧ (∀ k, x = .r k ∨ x = .t k → k < m) ∧ Ord L m xs
def DA (m : Nat) (ta : TA) (t : TDa) : Prop := ∀ dl n σ ρ μ adr F H (Qd : List SV → Sto → Prop) (Q : List V → Hp → Prop), At dl n σ ρ μ adr F H → t ρ μ Qd →
  (∀ vs xs μ' adr' F' H', Fr dl μ.length F H adr F' H' adr' → Sts dl μ' adr' F' H' → μ.length ≤ μ'.length → SvA dl adr' F' vs xs → (∀ x ∈ xs, ∀ k, x = .r k → k < n) → Ord μ'.length μ.length xs → xs.length = m → Qd xs μ' → Q vs H') → ta σ H Q
theorem At.fr {dl : Option (Addr × Addr)} {n : Nat} {σ : L2.St} {ρ : DEnv} {μ μ1 : Sto} {adr adr1 : List Addr} {F H F1 H1 : Hp} (a : At dl n σ ρ μ adr F H) (f : Fr dl μ.length F H adr F1 H1 adr1) (s : Sts dl μ1 adr1 F1 H1) (h : μ.length ≤ μ1.length) : At dl n σ ρ μ1 adr1 F1 H1 :=
  ⟨s, a.l.fr (fun i x e => ⟨fun k hk => Nat.lt_of_lt_of_le ((a.b i x e).1 k hk) a.n, (a.b i x e).2⟩) f, a.b, Nat.le_trans a.n h⟩
theorem SvA.fr {dl : Option (Addr × Addr)} {n : Nat} {F H F1 H1 : Hp} {adr adr1 : List Addr} {vs : List V} {xs : List SV} (r : SvA dl adr F vs xs) (f : Fr dl n F H adr F1 H1 adr1) (h : ∀ x ∈ xs, ∀ k, x = .r k ∨ x = .t k → k < n) : SvA dl adr1 F1 vs xs := by
  induction r with
  | nil => exact .nil
  | cons a _ ih => exact .cons (a.fr f (h _ List.mem_cons_self)) (ih fun x hx => h x (List.mem_cons_of_mem _ hx))
end DL

set_option Elab.async false
set_option linter.all false
set_option maxRecDepth 100000
set_option maxHeartbeats 4000000
/-! The data layer: operators, displays, subscripts. -/
namespace DL
open PySem PySem.Spec PyProof.Rows L2 CB

def gt {α : Type} : List α → Nat → Option α
  | [], _ => none
  | x :: _, 0 => some x
  | _ :: r, n + 1 => gt r n
theorem gt_eq {α : Type} : ∀ (l : List α) (n : Nat), gt l n = l[n]?
  | [], n => by simp [gt]
  | x :: _, 0 => rfl
  | _ :: r, n + 1 => by rw [gt, gt_eq r n]; simp
def dropAt {α : Type} : Nat → List α → List α
  | 0, [_] => []
  | n + 1, x :: r => x :: dropAt n r
  | _, l => l
theorem dropAt_eq {α : Type} : ∀ (k : Nat) (l : List α), dropAt k l = if k + 1 = l.length then l.take k else l
  | 0, [] => by simp [dropAt]
  | 0, [x] => by simp [dropAt]
  | 0, x :: y :: r => by simp [dropAt]
  | n + 1, [] => by simp [dropAt]
  | n + 1, x :: r => by
    rw [dropAt, dropAt_eq n r]
    by_cases h : n + 1 = r.length
    · rw [if_pos h, if_pos (by rw [List.length_cons]; omega)]; rfl
    · rw [if_neg h, if_neg (by rw [List.length_cons]; omega)]
def setAt {α : Type} : Nat → α → List α → List α
  | 0, y, _ :: r => y :: r
  | n + 1, y, x :: r => x :: setAt n y r
  | _, _, [] => []
theorem setAt_eq {α : Type} (y : α) : ∀ (k : Nat) (l : List α), setAt k y l = l.set k y
  | 0, [] => rfl
  | 0, x :: r => rfl
  | n + 1, [] => rfl
  | n + 1, x :: r => by rw [setAt, setAt_eq y n r]; rfl
def dr (x : SV) (μ : Sto) : Sto := match x with
  | .t k => dropAt k μ
  | _ => μ
def drA (x : SV) (adr : List Addr) : List Addr := match x with
  | .t k => dropAt k adr
  | _ => adr
/-- new things, none of the old ones changed -/
structure Nw (F H F' H' : Hp) : Prop where
  ex : Ex F F'
  up : Ex H H'
  sub : Ex F' H'
  nf : ∀ a, F a = none → H a ≠ none → NT H a → F' a = none
  tp : ∀ a xs, H' a = some (.tup xs) → H a = none ∨ H a = some (.tup xs)
section
variable {dl : Option (Addr × Addr)} {n n0 : Nat} {F H F' H' F2 H2 : Hp} {adr adr' : List Addr} {μ μ' : Sto} {v : V} {x : SV} {p : Addr} {o : HO}
theorem Nw.refl (e : Ex F H) : Nw F H F H := ⟨fun _ _ e => e, fun _ _ e => e, e, fun _ e _ _ => e, fun _ _ e => .inr e⟩
theorem Nw.new (e : Ex F H) (hp : H p = none) : Nw F H (upd F p o) (upd H p o) := by
  have hf : F p = none := sub_none e hp
  refine ⟨Evl.Ex.new hf, Evl.Ex.new hp, fun a u e2 => ?_, fun a e1 e2 _ => ?_, fun a xs e1 => ?_⟩
  · by_cases h : a = p
    · subst h; rw [upd_same] at e2 ⊢; exact e2
    · rw [upd_ne h] at e2 ⊢; exact e a u e2
  · rw [upd_ne (fun h => e2 (by rw [h]; exact hp))]; exact e1
  · by_cases h : a = p
    · rw [h]; exact .inl hp
    · rw [upd_ne h] at e1; exact .inr e1
theorem Nw.trans (a : Nw F H F' H') (b : Nw F' H' F2 H2) : Nw F H F2 H2 := by
  have al : ∀ x, H x ≠ none → H' x ≠ none := fun x e2 z => by
    cases e : H x with
    | none => exact e2 e
    | some o => rw [a.up x o e] at z; cases z
  refine ⟨a.ex.trans b.ex, a.up.trans b.up, b.sub, fun x e1 e2 t => b.nf x (a.nf x e1 e2 t) (al x e2) (fun xs e => ?_), fun x xs e => ?_⟩
  · rcases a.tp x xs e with z | z
    · exact e2 z
    · exact t xs z
  · rcases b.tp x xs e with z | z
    · refine .inl ?_
      cases e : H x with
      | none => rfl
      | some o => exact absurd z (al x (by rw [e]; exact Option.some_ne_none _))
    · exact a.tp x xs z
theorem Nw.fr (w : Nw F H F' H') : Fr dl n F H adr F' H' adr := ⟨w.ex, fun a o _ _ e => w.up a o e, fun a e1 e2 t _ => w.nf a e1 e2 t, fun a e z => by
  cases h : H a with
  | none => exact e h
  | some o => (rw [w.up a o h] at z; exact Option.some_ne_none _ z), w.tp, fun _ _ => rfl, fun _ e => .inl e⟩
theorem ObR.nw {a : Addr} : ∀ {o : OV}, ObR F H a o → Nw F H F' H' → ObR F' H' a o
  | .lst ds, ⟨f, xs, h, r⟩, w => ⟨w.nf a f (by rw [h]; exact Option.some_ne_none _) (fun ys z => by rw [h] at z; cases z), xs, w.up _ _ h, r.ex w.ex⟩
  | .dT es, ⟨f, xs, h, r⟩, w => ⟨w.nf a f (by rw [h]; exact Option.some_ne_none _) (fun ys z => by rw [h] at z; cases z), xs, w.up _ _ h, r.ex w.ex⟩
  | .dK es, ⟨f, xs, h, r⟩, w => ⟨w.nf a f (by rw [h]; exact Option.some_ne_none _) (fun ys z => by rw [h] at z; cases z), xs, w.up _ _ h, r.ex w.ex⟩
  | .fz x, r, w => Rp.ex w.ex r
  | .gone, _, _ => trivial
theorem deal_ne {d l : Addr} (D : IsDeal H d l) : H d ≠ none ∧ H l ≠ none := by
  obtain ⟨s, n, ls, h⟩ := D
  exact ⟨by rw [h.hd]; exact Option.some_ne_none _, by rw [h.hl]; exact Option.some_ne_none _⟩
theorem deal_nt {d l : Addr} (D : IsDeal H d l) : NT H d ∧ NT H l := by
  obtain ⟨s, n, ls, h⟩ := D
  exact ⟨fun xs z => by (rw [h.hd] at z; cases z), fun xs z => by (rw [h.hl] at z; cases z)⟩
theorem Sts.nw (s : Sts dl μ adr F H) (w : Nw F H F' H') : Sts dl μ adr F' H' :=
  ⟨w.sub, s.len, fun k a o e1 e2 => (s.obs k a o e1 e2).nw w, s.nd, fun a e z => by
    cases h : H a with
    | none => exact s.al a e h
    | some o => (rw [w.up a o h] at z; exact Option.some_ne_none _ z), fun d l e => by
    obtain ⟨D, f1, f2, n1, n2⟩ := s.dl d l e
    exact ⟨D.ex w.up, w.nf d f1 (deal_ne D).1 (deal_nt D).1, w.nf l f2 (deal_ne D).2 (deal_nt D).2, n1, n2⟩⟩
theorem Sts.drop (s : Sts dl μ adr F H) (k : Nat) : Sts dl (dropAt k μ) (dropAt k adr) F H := by
  rw [dropAt_eq, dropAt_eq, s.len]
  by_cases h : k + 1 = μ.length
  · rw [if_pos h, if_pos h]
    refine ⟨s.ex, by rw [List.length_take, List.length_take, s.len], fun i a o e1 e2 => ?_, (List.take_sublist k adr).nodup s.nd, fun a e => s.al a (List.mem_of_mem_take e), fun d l e => ?_⟩
    · have hi : i < k := by
        have := (List.getElem?_eq_some_iff.mp e1).1
        rw [List.length_take] at this
        omega
      rw [List.getElem?_take_of_lt hi] at e1 e2
      exact s.obs i a o e1 e2
    · obtain ⟨D, f1, f2, n1, n2⟩ := s.dl d l e
      exact ⟨D, f1, f2, fun z => n1 (List.mem_of_mem_take z), fun z => n2 (List.mem_of_mem_take z)⟩
  · rw [if_neg h, if_neg h]; exact s
theorem Sts.dr (s : Sts dl μ adr F H) (x : SV) : Sts dl (dr x μ) (drA x adr) F H := by
  cases x with
  | t k => exact s.drop k
  | _ => exact s
theorem Fr.dr (x : SV) (h : ∀ k, x = .t k → n0 ≤ k) : Fr dl n0 F H adr F H (drA x adr) := by
  cases x with
  | t k =>
    refine ⟨fun _ _ e => e, fun _ _ _ _ e => e, fun _ e _ _ _ => e, fun _ e => e, fun _ _ e => .inr e, fun i hi => ?_, fun a e => ?_⟩
    · show (dropAt k adr)[i]? = _
      have := h k rfl
      rw [dropAt_eq]
      split
      · rw [List.getElem?_take_of_lt (by omega)]
      · rfl
    · replace e : a ∈ dropAt k adr := e
      rw [dropAt_eq] at e
      split at e
      · exact .inl (List.mem_of_mem_take e)
      · exact .inl e
  | _ => exact Fr.refl
theorem dr_len (x : SV) (h : ∀ k, x = .t k → n0 ≤ k) (hn : n0 ≤ μ.length) : n0 ≤ (DL.dr x μ).length := by
  cases x with
  | t k =>
    show n0 ≤ (dropAt k μ).length
    have := h k rfl
    rw [dropAt_eq]
    split
    · rw [List.length_take]; omega
    · exact hn
  | _ => exact hn
/-- a new object of the moment -/
theorem Sts.push (s : Sts dl μ adr F H) (hp : H p = none) (w : ObR F (upd H p o) p b) : Sts dl (μ ++ [b]) (adr ++ [p]) F (upd H p o) := by
  have np : p ∉ adr := fun z => s.al p z hp
  refine ⟨s.ex.trans (Evl.Ex.new hp), by rw [List.length_append, List.length_append, s.len]; rfl, fun k a q e1 e2 => ?_, ?_, fun a e => ?_, fun d l e => ?_⟩
  · by_cases hk : k < μ.length
    · rw [List.getElem?_append_left (by rw [s.len]; exact hk)] at e1
      rw [List.getElem?_append_left hk] at e2
      have hx := s.obs k a q e1 e2
      have : a ≠ p := fun z => np (z ▸ List.mem_of_getElem? e1)
      cases q with
      | lst ds => obtain ⟨f, xs, h, r⟩ := hx; exact ⟨f, xs, by rw [upd_ne this]; exact h, r⟩
      | dT es => obtain ⟨f, xs, h, r⟩ := hx; exact ⟨f, xs, by rw [upd_ne this]; exact h, r⟩
      | dK es => obtain ⟨f, xs, h, r⟩ := hx; exact ⟨f, xs, by rw [upd_ne this]; exact h, r⟩
      | fz x => exact hx
      | gone => trivial
    · have e3 := (List.getElem?_eq_some_iff.mp e2).1
      rw [List.length_append] at e3
      have hk2 : k = μ.length := by
        have : [b].length = 1 := rfl
        omega
      subst hk2
      rw [List.getElem?_append_right (Nat.le_refl _), Nat.sub_self] at e2
      rw [← s.len, List.getElem?_append_right (Nat.le_refl _), Nat.sub_self] at e1
      cases e1
      cases e2
      exact w
  · rw [List.nodup_append]
    exact ⟨s.nd, List.nodup_cons.mpr ⟨List.not_mem_nil, List.nodup_nil⟩, fun a ha b hb => by
      rw [List.mem_singleton.mp hb]; exact fun z => np (z ▸ ha)⟩
  · rcases List.mem_append.mp e with h | h
    · by_cases z : a = p
      · subst z; rw [upd_same]; exact Option.some_ne_none _
      · rw [upd_ne z]; exact s.al a h
    · rw [List.mem_singleton.mp h, upd_same]; exact Option.some_ne_none _
  · obtain ⟨D, f1, f2, n1, n2⟩ := s.dl d l e
    have nd := D.nd hp
    refine ⟨D.upd nd.1 nd.2, f1, f2, fun z => ?_, fun z => ?_⟩
    · rcases List.mem_append.mp z with h | h
      · exact n1 h
      · exact nd.1 (List.mem_singleton.mp h).symm
    · rcases List.mem_append.mp z with h | h
      · exact n2 h
      · exact nd.2 (List.mem_singleton.mp h).symm
theorem Fr.push (hp : H p = none) (hn : n ≤ adr.length) : Fr dl n F H adr F (upd H p o) (adr ++ [p]) :=
  ⟨fun _ _ e => e, fun a o _ _ e => by rw [upd_ne (ne_of_none e hp)]; exact e, fun _ e _ _ _ => e, fun a e => by
    by_cases z : a = p
    · subst z; rw [upd_same]; exact Option.some_ne_none _
    · rw [upd_ne z]; exact e, fun a xs e => by
    by_cases z : a = p
    · rw [z]; exact .inl hp
    · rw [upd_ne z] at e; exact .inr e, fun k hk => by rw [List.getElem?_append_left (by omega)], fun a e => by
    rcases List.mem_append.mp e with h | h
    · exact .inl h
    · exact .inr (by rw [List.mem_singleton.mp h]; exact hp)⟩
end

/-! ### contents -/
def sq (μ : Sto) : SV → Option (List PyData)
  | .d (.tuple ds) => some ds
  | .d (.list ds) => some ds
  | .r k => match gt μ k with
    | some (.lst ds) => some ds
    | some (.fz (.list ds)) => some ds
    | _ => none
  | .t k => match gt μ k with
    | some (.lst ds) => some ds
    | some (.fz (.list ds)) => some ds
    | _ => none
  | _ => none
/-- as data -/
def dat (μ : Sto) : SV → Option PyData
  | .d x => some x
  | .r k => match gt μ k with
    | some (.lst ds) => some (.list ds)
    | some (.fz x) => some x
    | _ => none
  | .t k => match gt μ k with
    | some (.lst ds) => some (.list ds)
    | some (.fz x) => some x
    | _ => none
  | .dl => none
section
variable {dl : Option (Addr × Addr)} {F H : Hp} {adr : List Addr} {μ : Sto} {v : V} {x : SV} {ds : List PyData} {y : PyData}
theorem Sts.at (s : Sts dl μ adr F H) {k : Nat} {a : Addr} {o : OV} (e1 : adr[k]? = some a) (e2 : gt μ k = some o) : ObR F H a o := s.obs k a o e1 (by rw [← gt_eq]; exact e2)
theorem sq_ref (s : Sts dl μ adr F H) {k : Nat} {a : Addr} (e : adr[k]? = some a) (h : (match gt μ k with | some (.lst ds) => some ds | some (.fz (.list ds)) => some ds | _ => none) = some ds) : ∃ xs, H a = some (.lst xs) ∧ RpAll F xs ds := by
  cases e2 : gt μ k with
  | none => rw [e2] at h; cases h
  | some o =>
    rw [e2] at h
    have ob := s.at e e2
    cases o with
    | lst ds => cases h; obtain ⟨_, xs, h1, h2⟩ := ob; exact ⟨xs, h1, h2⟩
    | fz z =>
      cases z with
      | list ds => cases h; cases ob with | lst h1 h2 => exact ⟨_, s.ex _ _ h1, h2⟩
      | _ => cases h
    | _ => cases h
theorem sq_inv (s : Sts dl μ adr F H) (r : SvR dl adr F v x) (h : sq μ x = some ds) : ∃ a xs, v = .ref a ∧ (H a = some (.lst xs) ∨ H a = some (.tup xs)) ∧ RpAll F xs ds := by
  cases x with
  | d z =>
    cases z with
    | tuple ds => cases h; cases r with | tup h1 h2 => exact ⟨_, _, rfl, .inr (s.ex _ _ h1), h2⟩
    | list ds => cases h; cases r with | lst h1 h2 => exact ⟨_, _, rfl, .inl (s.ex _ _ h1), h2⟩
    | _ => cases h
  | r k => obtain ⟨a, e, rfl⟩ := r; obtain ⟨xs, h1, h2⟩ := sq_ref s e h; exact ⟨a, xs, rfl, .inl h1, h2⟩
  | t k => obtain ⟨a, e, rfl⟩ := r; obtain ⟨xs, h1, h2⟩ := sq_ref s e h; exact ⟨a, xs, rfl, .inl h1, h2⟩
  | dl => cases h
theorem dat_ref (s : Sts dl μ adr F H) {k : Nat} {a : Addr} (e : adr[k]? = some a) (h : (match gt μ k with | some (.lst ds) => some (.list ds) | some (.fz x) => some x | _ => none) = some y) : Rp H (.ref a) y := by
  cases e2 : gt μ k with
  | none => rw [e2] at h; cases h
  | some o =>
    rw [e2] at h
    have ob := s.at e e2
    cases o with
    | lst ds => cases h; obtain ⟨_, xs, h1, h2⟩ := ob; exact .lst h1 (h2.ex s.ex)
    | fz z => cases h; exact Rp.ex s.ex ob
    | _ => cases h
theorem dat_inv (s : Sts dl μ adr F H) (r : SvR dl adr F v x) (h : dat μ x = some y) : Rp H v y := by
  cases x with
  | d z => cases h; exact Rp.ex s.ex r
  | r k => obtain ⟨a, e, rfl⟩ := r; exact dat_ref s e h
  | t k => obtain ⟨a, e, rfl⟩ := r; exact dat_ref s e h
  | dl => cases h
end
/-- what becomes data for good -/
def frz (x : SV) (μ : Sto) (Q : PyData → Sto → Prop) : Prop := match x with
  | .d y => Q y μ
  | .r k => match gt μ k with
    | some (.lst ds) => Q (.list ds) (setAt k (.fz (.list ds)) μ)
    | some (.fz y) => Q y μ
    | _ => False
  | .t k => match gt μ k with
    | some (.lst ds) => Q (.list ds) (dropAt k (setAt k (.fz (.list ds)) μ))
    | some (.fz y) => Q y (dropAt k μ)
    | _ => False
  | .dl => False
section
variable {dl : Option (Addr × Addr)} {n0 : Nat} {F H : Hp} {adr : List Addr} {μ : Sto} {v : V} {x : SV} {ds : List PyData} {y : PyData}
/-- an object is frozen -/
theorem Sts.freeze (s : Sts dl μ adr F H) {k : Nat} {a : Addr} {o : HO} (e : adr[k]? = some a) (hF : F a = none) (hH : H a = some o) (r : Rp (upd F a o) (.ref a) y) : Sts dl (μ.set k (.fz y)) adr (upd F a o) H := by
  refine ⟨fun b u e2 => ?_, by rw [List.length_set]; exact s.len, fun i b q e1 e2 => ?_, s.nd, s.al, fun d l e2 => ?_⟩
  · by_cases h : b = a
    · subst h; rw [upd_same] at e2; cases e2; exact hH
    · rw [upd_ne h] at e2; exact s.ex b u e2
  · by_cases h : i = k
    · subst h
      rw [e] at e1
      cases e1
      have := (List.getElem?_eq_some_iff.mp e2).1
      rw [List.length_set] at this
      rw [List.getElem?_set_self this] at e2
      cases e2
      exact r
    · rw [List.getElem?_set_ne (fun z => h z.symm)] at e2
      have hx := s.obs i b q e1 e2
      have ne : b ≠ a := fun z => by
        subst z
        obtain ⟨l1, l2⟩ := List.getElem?_eq_some_iff.mp e
        obtain ⟨l3, l4⟩ := List.getElem?_eq_some_iff.mp e1
        exact h ((List.getElem_inj s.nd).mp (l4.trans l2.symm))
      have up := Evl.Ex.new (o := o) hF
      cases q with
      | lst ds => obtain ⟨f, xs, h, r⟩ := hx; exact ⟨by rw [upd_ne ne]; exact f, xs, h, r.ex up⟩
      | dT es => obtain ⟨f, xs, h, r⟩ := hx; exact ⟨by rw [upd_ne ne]; exact f, xs, h, r.ex up⟩
      | dK es => obtain ⟨f, xs, h, r⟩ := hx; exact ⟨by rw [upd_ne ne]; exact f, xs, h, r.ex up⟩
      | fz x => exact Rp.ex up hx
      | gone => trivial
  · obtain ⟨D, f1, f2, n1, n2⟩ := s.dl d l e2
    have m := List.mem_of_getElem? e
    refine ⟨D, ?_, ?_, n1, n2⟩
    · rw [upd_ne (fun z => n1 (by rw [z]; exact m))]; exact f1
    · rw [upd_ne (fun z => n2 (by rw [z]; exact m))]; exact f2
theorem Fr.freeze {k : Nat} {a : Addr} {o : HO} (e : adr[k]? = some a) (hF : F a = none) : Fr dl n0 F H adr (upd F a o) H adr :=
  ⟨Evl.Ex.new hF, fun _ _ _ _ e => e, fun b e1 e2 _ e3 => by rw [upd_ne (fun z => e3 (by rw [z]; exact List.mem_of_getElem? e))]; exact e1, fun _ e => e, fun _ _ e => .inr e, fun _ _ => rfl, fun _ e => .inl e⟩
theorem ob_fz {a : Addr} {k : Nat} (s : Sts dl μ adr F H) (e : adr[k]? = some a) (ob : ObR F H a (.lst ds)) :
    ∃ F', Fr dl n0 F H adr F' H adr ∧ Sts dl (μ.set k (.fz (.list ds))) adr F' H ∧ Rp F' (.ref a) (.list ds) := by
  obtain ⟨f, xs, h, r⟩ := ob
  have up := Evl.Ex.new (o := HO.lst xs) f
  have rr : Rp (upd F a (.lst xs)) (.ref a) (.list ds) := .lst upd_same (r.ex up)
  exact ⟨_, Fr.freeze e f, s.freeze e f h rr, rr⟩
theorem frz_ok {Qd : PyData → Sto → Prop} (s : Sts dl μ adr F H) (r : SvR dl adr F v x) (hn : n0 ≤ μ.length) (ht : ∀ k, x = .t k → n0 ≤ k) (h : frz x μ Qd) : ∃ y μ' adr' F', Fr dl n0 F H adr F' H adr' ∧ Sts dl μ' adr' F' H ∧ n0 ≤ μ'.length ∧ Rp F' v y ∧ Qd y μ' := by
  cases x with
  | d z => exact ⟨z, μ, adr, F, Fr.refl, s, hn, r, h⟩
  | dl => exact h.elim
  | r k =>
    obtain ⟨a, e, rfl⟩ := r
    unfold frz at h
    cases e2 : gt μ k with
    | none => simp only [e2] at h
    | some o =>
      have ob := s.at e e2
      cases o with
      | lst ds =>
        simp only [e2] at h
        obtain ⟨F', f, s', rr⟩ := ob_fz (n0 := n0) s e ob
        exact ⟨_, _, _, _, f, s', by rw [List.length_set]; exact hn, rr, by rw [← setAt_eq]; exact h⟩
      | dT es => simp only [e2] at h
      | fz z =>
        simp only [e2] at h
        exact ⟨z, _, _, _, Fr.refl, s, hn, ob, h⟩
      | dK es => simp only [e2] at h
      | gone => simp only [e2] at h
  | t k =>
    obtain ⟨a, e, rfl⟩ := r
    have hk := ht k rfl
    unfold frz at h
    cases e2 : gt μ k with
    | none => simp only [e2] at h
    | some o =>
      have ob := s.at e e2
      cases o with
      | lst ds =>
        simp only [e2] at h
        obtain ⟨F', f, s', rr⟩ := ob_fz (n0 := n0) s e ob
        rw [← setAt_eq] at s'
        exact ⟨_, _, _, _, f.trans (Fr.dr (.t k) ht) (Nat.le_refl _), s'.dr (.t k), dr_len (.t k) ht (by rw [setAt_eq, List.length_set]; exact hn), rr, h⟩
      | dT es => simp only [e2] at h
      | fz z =>
        simp only [e2] at h
        exact ⟨z, _, _, _, Fr.dr (.t k) ht, s.dr (.t k), dr_len (.t k) ht hn, ob, h⟩
      | dK es => simp only [e2] at h
      | gone => simp only [e2] at h
end
end DL

set_option Elab.async false
set_option linter.all false
set_option maxRecDepth 100000
set_option maxHeartbeats 4000000
/-! The data layer: expressions. -/
namespace DL
open PySem PySem.Spec PyProof.Rows L2 CB

def dVar (i : Nat) : TD := fun ρ μ Q => match gt ρ i with
  | some (some x) => Q x μ
  | _ => False
def dC (y : PyData) : TD := fun _ μ Q => Q (.d y) μ
section
variable {K : PySem.W.Frag} {ta tb tc : TE} {t1 t2 t3 : TD}
theorem de_var (i : Nat) : DE (tVar i) (dVar i) := by
  intro dl n σ ρ μ adr F H Qd Q a h c
  unfold dVar at h
  rw [gt_eq] at h
  cases e : ρ[i]? with
  | none => rw [e] at h; exact h.elim
  | some y =>
    cases y with
    | none => rw [e] at h; exact h.elim
    | some x =>
      rw [e] at h
      obtain ⟨v, h1, h2⟩ := a.l.2 i x e
      have b := a.b i x e
      exact ⟨v, h1, c v x μ adr F H Fr.refl a.s (Nat.le_refl _) h2 b.1 (fun k hk => absurd hk (b.2 k)) h⟩
theorem de_c {v : V} {y : PyData} (r : ∀ F, Rp F v y) : DE (tC v) (dC y) := by
  intro dl n σ ρ μ adr F H Qd Q a h c
  exact c v (.d y) μ adr F H Fr.refl a.s (Nat.le_refl _) (r F) (fun _ z => by cases z) (fun _ z => by cases z) h
theorem de_int {i : Int} : DE (tC (.int i)) (dC (.int i)) := de_c fun _ => .int i
theorem de_str {i : Str} : DE (tC (.str i)) (dC (.str i)) := de_c fun _ => .str i
theorem de_bl {i : Bool} : DE (tC (.bl i)) (dC (.bool i)) := de_c fun _ => .bl i
theorem de_non : DE (tC .non) (dC .none) := de_c fun _ => .non

/-! #### by values -/
abbrev G1 := SV → Sto → (SV → Sto → Prop) → Prop
abbrev G2 := SV → SV → Sto → (SV → Sto → Prop) → Prop
abbrev GA := List SV → Sto → (SV → Sto → Prop) → Prop
def D2 (r : R2) (g : G2) : Prop := ∀ dl n0 μ adr F H v1 v2 x1 x2 (Qd : SV → Sto → Prop) (Q : VK), Sts dl μ adr F H → n0 ≤ μ.length → SvR dl adr F v1 x1 → SvR dl adr F v2 x2 → (∀ k, x1 = .t k → n0 ≤ k) → (∀ k, x2 = .t k → n0 ≤ k) → g x1 x2 μ Qd →
  (∀ v x μ' adr' F' H', Fr dl n0 F H adr F' H' adr' → Sts dl μ' adr' F' H' → n0 ≤ μ'.length → SvR dl adr' F' v x → (∀ k, x ≠ .r k) → (∀ k, x = .t k → n0 ≤ k) → Qd x μ' → Q v H') → r v1 v2 H Q
def D1 (r : V → Hp → VK → Prop) (g : G1) : Prop := ∀ dl n0 μ adr F H v1 x1 (Qd : SV → Sto → Prop) (Q : VK), Sts dl μ adr F H → n0 ≤ μ.length → SvR dl adr F v1 x1 → (∀ k, x1 = .t k → n0 ≤ k) → g x1 μ Qd →
  (∀ v x μ' adr' F' H', Fr dl n0 F H adr F' H' adr' → Sts dl μ' adr' F' H' → n0 ≤ μ'.length → SvR dl adr' F' v x → (∀ k, x ≠ .r k) → (∀ k, x = .t k → n0 ≤ k) → Qd x μ' → Q v H') → r v1 H Q
def DC (m : Nat) (r : List V → Hp → VK → Prop) (g : GA) : Prop := ∀ dl n0 μ adr F H vs xs (Qd : SV → Sto → Prop) (Q : VK), Sts dl μ adr F H → n0 ≤ μ.length → SvA dl adr F vs xs → Ord μ.length n0 xs → xs.length = m → g xs μ Qd →
  (∀ v x μ' adr' F' H', Fr dl n0 F H adr F' H' adr' → Sts dl μ' adr' F' H' → n0 ≤ μ'.length → SvR dl adr' F' v x → (∀ k, x ≠ .r k) → (∀ k, x = .t k → n0 ≤ k) → Qd x μ' → Q v H') → r vs H Q
def dOp (g : G2) (t1 t2 : TD) : TD := fun ρ μ Q => t1 ρ μ fun x1 μ1 => t2 ρ μ1 fun x2 μ2 => g x1 x2 μ2 Q
def dUn (g : G1) (t1 : TD) : TD := fun ρ μ Q => t1 ρ μ fun x1 μ1 => g x1 μ1 Q
theorem de_op {r : R2} {g : G2} (o : D2 r g) (ha : DE ta t1) (hb : DE tb t2) : DE (tOp r ta tb) (dOp g t1 t2) := by
  intro dl n σ ρ μ adr F H Qd Q a h c
  refine ha dl n σ ρ μ adr F H _ _ a h fun v1 x1 μ1 adr1 F1 H1 f1 s1 l1 r1 n1 m1 h1 => ?_
  refine hb dl n σ ρ μ1 adr1 F1 H1 _ _ (a.fr f1 s1 l1) h1 fun v2 x2 μ2 adr2 F2 H2 f2 s2 l2 r2 n2 m2 h2 => ?_
  refine o dl μ.length μ2 adr2 F2 H2 v1 v2 x1 x2 Qd Q s2 (Nat.le_trans l1 l2) (r1.fr f2 (r1.lt s1)) r2 m1 (fun k hk => Nat.le_trans l1 (m2 k hk)) h2 fun v x μ3 adr3 F3 H3 f3 s3 l3 r3 n3 m3 h3 => ?_
  exact c v x μ3 adr3 F3 H3 ((f1.trans f2 l1).trans f3 (Nat.le_refl _)) s3 l3 r3 (fun k hk => absurd hk (n3 k)) m3 h3
theorem de_un {r : V → Hp → VK → Prop} {g : G1} (o : D1 r g) (ha : DE ta t1) : DE (tUn r ta) (dUn g t1) := by
  intro dl n σ ρ μ adr F H Qd Q a h c
  refine ha dl n σ ρ μ adr F H _ _ a h fun v1 x1 μ1 adr1 F1 H1 f1 s1 l1 r1 n1 m1 h1 => ?_
  refine o dl μ.length μ1 adr1 F1 H1 v1 x1 Qd Q s1 l1 r1 m1 h1 fun v x μ3 adr3 F3 H3 f3 s3 l3 r3 n3 m3 h3 => ?_
  exact c v x μ3 adr3 F3 H3 (f1.trans f3 (Nat.le_refl _)) s3 l3 r3 (fun k hk => absurd hk (n3 k)) m3 h3
/-! #### arguments -/
def dNil : TDa := fun _ μ Q => Q [] μ
def dCons (t : TD) (u : TDa) : TDa := fun ρ μ Q => t ρ μ fun x μ1 => u ρ μ1 fun xs μ2 => Q (x :: xs) μ2
theorem da_nil : DA 0 tNil dNil := by
  intro dl n σ ρ μ adr F H Qd Q a h c
  exact c [] [] μ adr F H Fr.refl a.s (Nat.le_refl _) .nil (fun _ z => by cases z) trivial rfl h
theorem SvA.lt {dl : Option (Addr × Addr)} {F H : Hp} {adr : List Addr} {μ : Sto} {vs : List V} {xs : List SV} (r : SvA dl adr F vs xs) (s : Sts dl μ adr F H) : ∀ x ∈ xs, ∀ k, x = .r k ∨ x = .t k → k < μ.length := by
  induction r with
  | nil => intro x hx; cases hx
  | cons a _ ih =>
    intro x hx
    rcases List.mem_cons.mp hx with rfl | hx
    · exact a.lt s
    · exact ih x hx
theorem da_cons {m : Nat} {te : TE} {ua : TA} {t : TD} {u : TDa} (ha : DE te t) (hb : DA m ua u) : DA (m + 1) (tCons te ua) (dCons t u) := by
  intro dl n σ ρ μ adr F H Qd Q a h c
  refine ha dl n σ ρ μ adr F H _ _ a h fun v1 x1 μ1 adr1 F1 H1 f1 s1 l1 r1 n1 m1 h1 => ?_
  refine hb dl n σ ρ μ1 adr1 F1 H1 _ _ (a.fr f1 s1 l1) h1 fun vs xs μ2 adr2 F2 H2 f2 s2 l2 r2 n2 o2 e2 h2 => ?_
  refine c (v1 :: vs) (x1 :: xs) μ2 adr2 F2 H2 (f1.trans f2 l1) s2 (Nat.le_trans l1 l2) (.cons (r1.fr f2 (r1.lt s1)) r2) (fun x hx => ?_) ⟨m1, _, l1, l2, r1.lt s1, o2⟩ (by rw [List.length_cons, e2]) h2
  rcases List.mem_cons.mp hx with rfl | hx
  · exact n1
  · exact n2 x hx
def dCall (g : GA) (t : TDa) : TD := fun ρ μ Q => t ρ μ fun xs μ1 => g xs μ1 Q
theorem de_args {m : Nat} {ua : TA} {u : TDa} {r : List V → Hp → VK → Prop} {g : GA} (o : DC m r g) (ha : DA m ua u) : DE (fun σ H Q => ua σ H fun vs H1 => r vs H1 Q) (dCall g u) := by
  intro dl n σ ρ μ adr F H Qd Q a h c
  refine ha dl n σ ρ μ adr F H _ _ a h fun vs xs μ1 adr1 F1 H1 f1 s1 l1 r1 n1 o1 e1 h1 => ?_
  refine o dl μ.length μ1 adr1 F1 H1 vs xs Qd Q s1 l1 r1 o1 e1 h1 fun v x μ3 adr3 F3 H3 f3 s3 l3 r3 n3 m3 h3 => ?_
  exact c v x μ3 adr3 F3 H3 (f1.trans f3 (Nat.le_refl _)) s3 l3 r3 (fun k hk => absurd hk (n3 k)) m3 h3
/-! #### all frozen, the last first -/
def frzA : List SV → Sto → (List PyData → Sto → Prop) → Prop
  | [], μ, Q => Q [] μ
  | x :: xs, μ, Q => frzA xs μ fun ys μ1 => frz x μ1 fun y μ2 => Q (y :: ys) μ2
theorem Ord.mono {L n0 n : Nat} {xs : List SV} (h : Ord L n xs) (hn : n0 ≤ n) : Ord L n0 xs := by
  cases xs with
  | nil => trivial
  | cons x xs =>
    obtain ⟨h1, m, h2, h3, h4, h5⟩ := h
    exact ⟨fun k hk => Nat.le_trans hn (h1 k hk), m, Nat.le_trans hn h2, h3, h4, h5⟩
theorem frzA_ok {dl : Option (Addr × Addr)} : ∀ {xs : List SV} {vs : List V} {n0 : Nat} {F H : Hp} {adr : List Addr} {μ : Sto} {Qd : List PyData → Sto → Prop} (s : Sts dl μ adr F H) (r : SvA dl adr F vs xs) (hn : n0 ≤ μ.length) (ht : Ord μ.length n0 xs) (h : frzA xs μ Qd),
    ∃ ys μ' adr' F', Fr dl n0 F H adr F' H adr' ∧ Sts dl μ' adr' F' H ∧ n0 ≤ μ'.length ∧ RpAll F' vs ys ∧ Qd ys μ' := by
  intro xs
  induction xs with
  | nil =>
    intro vs n0 F H adr μ Qd s r hn ht h
    cases r
    exact ⟨[], μ, adr, F, Fr.refl, s, hn, .nil, h⟩
  | cons x xs ih =>
    intro vs n0 F H adr μ Qd s r hn ht h
    cases r with
    | cons r1 r2 =>
      obtain ⟨h1, m, h2, h3, h4, h5⟩ := ht
      obtain ⟨ys, μ1, adr1, F1, f1, s1, l1, q1, g1⟩ := ih s r2 h3 h5 h
      obtain ⟨y, μ2, adr2, F2, f2, s2, l2, q2, g2⟩ := frz_ok s1 (r1.fr f1 h4) (Nat.le_trans h2 l1) h1 g1
      exact ⟨_, μ2, adr2, F2, (f1.mono h2).trans f2 (Nat.le_refl _), s2, l2, .cons q2 (q1.ex f2.ex), g2⟩
end
end DL

set_option Elab.async false
set_option linter.all false
set_option maxRecDepth 100000
set_option maxHeartbeats 4000000
/-! The data layer: operators by kind of value. -/
namespace DL
open PySem PySem.Spec PyProof.Rows L2 CB

theorem big {n : Nat} (h : n ≤ 100000) : n < sizeLine := Nat.lt_of_le_of_lt h (by decide)
theorem bigL {n : Nat} (h : n ≤ 100000) : n ≤ sizeLine := Nat.le_of_lt (big h)
def psh (o : OV) (μ : Sto) (Q : SV → Sto → Prop) : Prop := Q (.t μ.length) (μ ++ [o])
/-- the contents of a list (no tuple) -/
def sqL (μ : Sto) : SV → Option (List PyData)
  | .d (.list ds) => some ds
  | .r k => match gt μ k with
    | some (.lst ds) => some ds
    | some (.fz (.list ds)) => some ds
    | _ => none
  | .t k => match gt μ k with
    | some (.lst ds) => some ds
    | some (.fz (.list ds)) => some ds
    | _ => none
  | _ => none
section
variable {dl : Option (Addr × Addr)} {n0 : Nat} {F H : Hp} {adr : List Addr} {μ : Sto} {v : V} {x : SV} {ds : List PyData} {y : PyData}
theorem sqL_inv (s : Sts dl μ adr F H) (r : SvR dl adr F v x) (h : sqL μ x = some ds) : ∃ a xs, v = .ref a ∧ H a = some (.lst xs) ∧ RpAll F xs ds := by
  cases x with
  | d z =>
    cases z with
    | list ds => cases h; cases r with | lst h1 h2 => exact ⟨_, _, rfl, s.ex _ _ h1, h2⟩
    | _ => cases h
  | r k => obtain ⟨a, e, rfl⟩ := r; obtain ⟨xs, h1, h2⟩ := sq_ref s e h; exact ⟨a, xs, rfl, h1, h2⟩
  | t k => obtain ⟨a, e, rfl⟩ := r; obtain ⟨xs, h1, h2⟩ := sq_ref s e h; exact ⟨a, xs, rfl, h1, h2⟩
  | dl => cases h
/-- what is asked at the end of an operation -/
abbrev Cn (dl : Option (Addr × Addr)) (n0 : Nat) (F H : Hp) (adr : List Addr) (Qd : SV → Sto → Prop) (Q : VK) : Prop :=
  ∀ v x μ' adr' F' H', Fr dl n0 F H adr F' H' adr' → Sts dl μ' adr' F' H' → n0 ≤ μ'.length → SvR dl adr' F' v x → (∀ k, x ≠ .r k) → (∀ k, x = .t k → n0 ≤ k) → Qd x μ' → Q v H'
variable {Qd : SV → Sto → Prop} {Q : VK}
/-- data come, things of the moment go -/
theorem Cn.fin {F' H' : Hp} (c : Cn dl n0 F H adr Qd Q) (s : Sts dl μ adr F H) (hn : n0 ≤ μ.length) (w : Nw F H F' H') (r : Rp F' v y) (h : Qd (.d y) μ) : Q v H' :=
  c v (.d y) μ adr F' H' w.fr (s.nw w) hn r (fun _ z => by cases z) (fun _ z => by cases z) h
theorem Cn.fin1 {F' H' : Hp} (c : Cn dl n0 F H adr Qd Q) (s : Sts dl μ adr F H) (hn : n0 ≤ μ.length) (x1 : SV) (m1 : ∀ k, x1 = .t k → n0 ≤ k) (w : Nw F H F' H') (r : Rp F' v y) (h : Qd (.d y) (dr x1 μ)) : Q v H' :=
  c v (.d y) (dr x1 μ) (drA x1 adr) F' H' (w.fr.trans (Fr.dr x1 m1) (Nat.le_refl _)) ((s.nw w).dr x1) (dr_len x1 m1 hn) r (fun _ z => by cases z) (fun _ z => by cases z) h
theorem Cn.fin2 {F' H' : Hp} (c : Cn dl n0 F H adr Qd Q) (s : Sts dl μ adr F H) (hn : n0 ≤ μ.length) (x1 x2 : SV) (m1 : ∀ k, x1 = .t k → n0 ≤ k) (m2 : ∀ k, x2 = .t k → n0 ≤ k) (w : Nw F H F' H') (r : Rp F' v y) (h : Qd (.d y) (dr x1 (dr x2 μ))) : Q v H' :=
  c v (.d y) (dr x1 (dr x2 μ)) (drA x1 (drA x2 adr)) F' H' ((w.fr.trans (Fr.dr x2 m2) (Nat.le_refl _)).trans (Fr.dr x1 m1) (Nat.le_refl _)) (((s.nw w).dr x2).dr x1) (dr_len x1 m1 (dr_len x2 m2 hn)) r (fun _ z => by cases z) (fun _ z => by cases z) h
/-- a new object comes -/
theorem Cn.new {p : Addr} {o : HO} {b : OV} (c : Cn dl n0 F H adr Qd Q) (s : Sts dl μ adr F H) (hn : n0 ≤ μ.length) (hp : H p = none) (w : ObR F (upd H p o) p b) (h : psh b μ Qd) : Q (.ref p) (upd H p o) := by
  refine c (.ref p) (.t μ.length) (μ ++ [b]) (adr ++ [p]) F (upd H p o) (Fr.push hp (by rw [s.len]; exact hn)) (s.push hp w) (by rw [List.length_append]; omega) ⟨p, ?_, rfl⟩ (fun _ z => by cases z) (fun k z => by cases z; exact hn) h
  rw [← s.len, List.getElem?_append_right (Nat.le_refl _), Nat.sub_self]
  rfl
/-- first some things of the moment go -/
theorem Cn.after {F' H' : Hp} {adr' : List Addr} (c : Cn dl n0 F H adr Qd Q) (f : Fr dl n0 F H adr F' H' adr') : Cn dl n0 F' H' adr' Qd Q :=
  fun v x μ2 adr2 F2 H2 f2 s2 l2 r2 m2 k2 h2 => c v x μ2 adr2 F2 H2 (f.trans f2 (Nat.le_refl _)) s2 l2 r2 m2 k2 h2
theorem ob_lst {p : Addr} {xs : List V} (s : Sts dl μ adr F H) (hp : H p = none) (r : RpAll F xs ds) : ObR F (upd H p (.lst xs)) p (.lst ds) := ⟨sub_none s.ex hp, xs, upd_same, r⟩
theorem Cn.newL {p : Addr} {xs : List V} (c : Cn dl n0 F H adr Qd Q) (s : Sts dl μ adr F H) (hn : n0 ≤ μ.length) (hp : H p = none) (r : RpAll F xs ds) (h : psh (.lst ds) μ Qd) : Q (.ref p) (upd H p (.lst xs)) :=
  c.new s hn hp (ob_lst s hp r) h
theorem Cn.newL1 {p : Addr} {xs : List V} (c : Cn dl n0 F H adr Qd Q) (s : Sts dl μ adr F H) (hn : n0 ≤ μ.length) (x1 : SV) (m1 : ∀ k, x1 = .t k → n0 ≤ k) (hp : H p = none) (r : RpAll F xs ds) (h : psh (.lst ds) (dr x1 μ) Qd) : Q (.ref p) (upd H p (.lst xs)) :=
  (c.after (Fr.dr x1 m1)).newL (s.dr x1) (dr_len x1 m1 hn) hp r h
theorem Cn.newL2 {p : Addr} {xs : List V} (c : Cn dl n0 F H adr Qd Q) (s : Sts dl μ adr F H) (hn : n0 ≤ μ.length) (x1 x2 : SV) (m1 : ∀ k, x1 = .t k → n0 ≤ k) (m2 : ∀ k, x2 = .t k → n0 ≤ k) (hp : H p = none) (r : RpAll F xs ds) (h : psh (.lst ds) (dr x1 (dr x2 μ)) Qd) : Q (.ref p) (upd H p (.lst xs)) :=
  ((c.after (Fr.dr x2 m2)).after (Fr.dr x1 m1)).newL ((s.dr x2).dr x1) (dr_len x1 m1 (dr_len x2 m2 hn)) hp r h
/-- a tuple comes: a new one -/
theorem tup_new {p : Addr} {xs : List V} (s : Sts dl μ adr F H) (hp : H p = none) (r : RpAll F xs ds) : Nw F H (upd F p (.tup xs)) (upd H p (.tup xs)) ∧ Rp (upd F p (.tup xs)) (.ref p) (.tuple ds) :=
  ⟨Nw.new s.ex hp, .tup upd_same (r.ex (Evl.Ex.new (sub_none s.ex hp)))⟩
end
/-! ### displays -/
def gTp : GA := fun xs μ Q => frzA xs μ fun ys μ1 => Q (.d (.tuple ys)) μ1
def gLst : GA := fun xs μ Q => frzA xs μ fun ys μ1 => psh (.lst ys) μ1 Q
section
variable {K : PySem.W.Frag} {ta tb tc : TE} {t1 t2 t3 : TD} {m : Nat} {ua : TA} {u : TDa}
theorem SvA.length {dl : Option (Addr × Addr)} {adr : List Addr} {F : Hp} {vs : List V} {xs : List SV} (h : SvA dl adr F vs xs) : vs.length = xs.length := by
  induction h with
  | nil => rfl
  | cons _ _ ih => rw [List.length_cons, List.length_cons, ih]
theorem de_tup (h : DA m ua u) (hm : m ≤ 1000 := by decide) : DE (tTup ua) (dCall gTp u) := by
  refine de_args (r := fun xs H1 Q => xs.length ≤ sizeLine ∧ ∀ p, H1 p = none → Q (.ref p) (upd H1 p (.tup xs))) ?_ h
  intro dl n0 μ adr F H vs xs Qd Q s hn r o e h c
  obtain ⟨ys, μ', adr', F', f, s', l', q, g⟩ := frzA_ok s r hn o h
  refine ⟨bigL (by rw [r.length]; omega), fun p hp => ?_⟩
  obtain ⟨w, rr⟩ := tup_new s' hp q
  exact Cn.fin (Cn.after c f) s' l' w rr g
theorem de_lst (h : DA m ua u) (hm : m ≤ 1000 := by decide) : DE (tLst ua) (dCall gLst u) := by
  refine de_args (r := fun xs H1 Q => xs.length ≤ sizeLine ∧ ∀ p, H1 p = none → Q (.ref p) (upd H1 p (.lst xs))) ?_ h
  intro dl n0 μ adr F H vs xs Qd Q s hn r o e h c
  obtain ⟨ys, μ', adr', F', f, s', l', q, g⟩ := frzA_ok s r hn o h
  exact ⟨bigL (by rw [r.length]; omega), fun p hp => Cn.newL (Cn.after c f) s' l' hp q g⟩
/-! ### whole numbers -/
def gI (C : Int → Int → Prop) (f : Int → Int → PyData) : G2 := fun x y μ Q => match x, y with
  | .d (.int i), .d (.int j) => C i j ∧ Q (.d (f i j)) μ
  | _, _ => False
def gI0 (f : Int → Int → PyData) : G2 := fun x y μ Q => match x, y with
  | .d (.int i), .d (.int j) => Q (.d (f i j)) μ
  | _, _ => False
theorem gI_inv {C : Int → Int → Prop} {f : Int → Int → PyData} {x y : SV} {μ : Sto} {Q : SV → Sto → Prop} (h : gI C f x y μ Q) : ∃ i j, x = .d (.int i) ∧ y = .d (.int j) ∧ C i j ∧ Q (.d (f i j)) μ := by
  unfold gI at h
  split at h
  · exact ⟨_, _, rfl, rfl, h.1, h.2⟩
  · exact h.elim
theorem gI0_inv {f : Int → Int → PyData} {x y : SV} {μ : Sto} {Q : SV → Sto → Prop} (h : gI0 f x y μ Q) : ∃ i j, x = .d (.int i) ∧ y = .d (.int j) ∧ Q (.d (f i j)) μ := by
  unfold gI0 at h
  split at h
  · exact ⟨_, _, rfl, rfl, h⟩
  · exact h.elim
theorem d2_I {C : Int → Int → Prop} {f : Int → Int → V} {f' : Int → Int → PyData} (hf : ∀ i j F, Rp F (f i j) (f' i j)) : D2 (rI C f) (gI C f') := by
  intro dl n0 μ adr F H v1 v2 x1 x2 Qd Q s hn r1 r2 m1 m2 h c
  obtain ⟨i, j, rfl, rfl, hc, h⟩ := gI_inv h
  cases r1
  cases r2
  exact ⟨i, j, rfl, rfl, hc, Cn.fin c s hn (Nw.refl s.ex) (hf i j F) h⟩
theorem d2_I0 {f : Int → Int → V} {f' : Int → Int → PyData} (hf : ∀ i j F, Rp F (f i j) (f' i j)) : D2 (rI0 f) (gI0 f') := by
  intro dl n0 μ adr F H v1 v2 x1 x2 Qd Q s hn r1 r2 m1 m2 h c
  obtain ⟨i, j, rfl, rfl, h⟩ := gI0_inv h
  cases r1
  cases r2
  exact ⟨i, j, rfl, rfl, Cn.fin c s hn (Nw.refl s.ex) (hf i j F) h⟩
end
end DL

set_option Elab.async false
set_option linter.all false
set_option maxRecDepth 100000
set_option maxHeartbeats 4000000
/-! The data layer: + * // % == in, subscripts, slices. -/
namespace DL
open PySem PySem.Spec PyProof.Rows L2 CB
open AutoSeq1 (wpAny_loadPart')

section
variable {X : Cx} {K : PySem.W.Frag}
theorem opr_or {f : Value → Value → Sem Value} {r r' : R2} (h : OpR X f r) (h' : OpR X f r') : OpR X f (fun x y H Q => r x y H Q ∨ r' x y H Q) := by
  intro pins s σ H x y v u Q I rx ry q
  rcases q with q | q
  · exact h pins s σ H x y v u Q I rx ry q
  · exact h' pins s σ H x y v u Q I rx ry q
/-! ### () * n -/
theorem tuple_mulE (l : Addr) (n : Nat) (dd : Option Addr) (sl : Array (Option Value)) (x : Int) (u : Tok) (c0 : (decide (x < -(2 ^ 63)) || decide (x ≥ 2 ^ 63)) = false) :
    Meets (Builtin.«tuple.__mul__» ⟨[.ref l, .int x u], []⟩) (fun _ R s => s.heap.get? l = some { cls := .type "tuple", dict := dd, data := .seq #[] n, slots := sl } ∧ R (.ok (.ret (Value.ref l))) s) :=
  .of_wp fun prog w A R s h => by
    obtain ⟨hp, g, d, tk, os⟩ := s
    obtain ⟨hl, h⟩ := h
    have f1 := AutoSeq1.idx_int
    wp_walk using wpAny_loadPart' hl
    repeat (first
      | (refine wpAny_ite_false (decide_eq_false (by rw [c0]; exact Bool.false_ne_true)) ?_; wp_walk using wpAny_loadPart' hl))
    exact ⟨_, rfl, h⟩
def rRepTE (K : PySem.W.Frag) : R2 := fun x y H Q => ∃ l k, x = .ref l ∧ y = .int k ∧ SqT K H l [] ∧ -1000 ≤ k ∧ k ≤ 1000 ∧ Q (.ref l) H
theorem op_repTE (hK : X.K = K := by rfl) : OpR X (binaryOp .Mult) (rRepTE K) := by
  subst hK
  intro pins s σ H x y v u Q I rx ry h
  obtain ⟨l, k, rfl, rfl, hT, h1, h2, q⟩ := h
  cases rx
  obtain ⟨t, rfl⟩ := ry
  obtain ⟨its, r, ⟨⟨cls, dd, data, sl⟩, ho, hc, n, hd⟩, hs⟩ := I.tuple hT
  cases r
  simp only at hc hd
  subst hc hd
  exact wpAny_binaryOp_repeat_ref (T := "tuple") (U := "int") (by decide) ⟨_, ho, rfl⟩ (fun s' => typeIs_int s' k t) noFill_tuple_mul F.fills_int_mul F.slot_int_rmul repeat_tuple F.slot_int_index.lookup
      (call_meets F.slot_int_rmul (typeIs_int s k t) F.entry_int_rmul (F.args_int_rmul_2 _ _) (int_rmul_tuple k t l #[] n dd sl)
        ⟨ho, rfl, ⟨_, ho, rfl⟩, call_meets F.slot_tuple_mul ⟨_, ho, rfl⟩ F.entry_tuple_mul (F.args_tuple_mul_2 _ _) (tuple_mulE l n dd sl k t (by
          have e : (2 : Int) ^ 63 = 9223372036854775808 := by decide
          rw [e, decide_eq_false (by omega), decide_eq_false (by omega)]; rfl)) ⟨ho, ⟨.ref l, H, I, rfl, q⟩⟩⟩)
/-- // of great numbers, by any divisor below 2 ^ 9000 -/
def CDivG (_ j : Int) : Prop := j ≠ 0 ∧ j.natAbs.log2 < 9000
theorem op_fdivG : OpR X (binaryOp .FloorDiv) (rI CDivG fun i j => .int (i.fdiv j)) := opI fun i j _ _ _ _ _ hc q => floordiv_int hc.1 q (.inl (PyProof.noPylong_of_log2 hc.2))
/-! ### the rules, by any kind of value -/
def rAddU (K : PySem.W.Frag) : R2 := fun x y H Q => (rI0 (fun i j => .int (i + j)) x y H Q ∨ (∃ i j, x = .str i ∧ y = .str j ∧ i.length + j.length ≤ sizeLine ∧ Q (.str (i ++ j)) H)) ∨ (rCat x y H Q ∨ rCatA K x y H Q)
theorem op_addU (hK : X.K = K := by rfl) : OpR X (binaryOp .Add) (rAddU K) := opr_or (opr_or op_add op_add_str) (opr_or op_cat (op_catK hK))
def rMulU (K : PySem.W.Frag) : R2 := fun x y H Q => (rI CMulW (fun i j => .int (i * j)) x y H Q ∨ rRep x y H Q) ∨ (rRepT0 K x y H Q ∨ rRepTE K x y H Q)
theorem op_mulU (hK : X.K = K := by rfl) : OpR X (binaryOp .Mult) (rMulU K) := opr_or (opr_or op_mulW op_rep) (opr_or (op_repT0 hK) (op_repTE hK))
def rEqU (K : PySem.W.Frag) : R2 := fun x y H Q => rEq x y H Q ∨ rEqD K x y H Q
theorem op_eqU (hu : X.A.units + 64 < cLine) (hK : X.K = K := by rfl) : OpR X (compareOp .Eq) (rEqU K) := opr_or op_eq (op_eqDK hu hK)
def rNeU (K : PySem.W.Frag) : R2 := fun x y H Q => rNe x y H Q ∨ rNeD K x y H Q
theorem op_neU (hu : X.A.units + 64 < cLine) (hK : X.K = K := by rfl) : OpR X (compareOp .NotEq) (rNeU K) := opr_or op_ne (op_neDK hu hK)
theorem ix_seqK (hK : X.K = K := by rfl) : IxR X (rIx K) := hK ▸ ix_seq
end

section
variable {K : PySem.W.Frag}
def gAdd : G2 := fun x y μ Q => match x, y with
  | .d (.int i), .d (.int j) => Q (.d (.int (i + j))) μ
  | .d (.str a), .d (.str b) => a.length + b.length ≤ 100000 ∧ Q (.d (.str (a ++ b))) μ
  | .d (.tuple a), .d (.tuple b) => a.length + b.length ≤ 100000 ∧ Q (.d (.tuple (a ++ b))) μ
  | x, y => match sqL μ x, sqL μ y with
    | some a, some b => a.length + b.length ≤ 100000 ∧ psh (.lst (a ++ b)) (dr x (dr y μ)) Q
    | _, _ => False
theorem d2_add : D2 (rAddU K) gAdd := by
  intro dl n0 μ adr F H v1 v2 x1 x2 Qd Q s hn r1 r2 m1 m2 h c
  unfold gAdd at h
  split at h
  · cases r1; cases r2
    exact .inl (.inl ⟨_, _, rfl, rfl, Cn.fin c s hn (Nw.refl s.ex) (.int _) h⟩)
  · cases r1; cases r2
    exact .inl (.inr ⟨_, _, rfl, rfl, bigL h.1, Cn.fin c s hn (Nw.refl s.ex) (.str _) h.2⟩)
  · cases r1 with
    | tup h1 q1 =>
      cases r2 with
      | tup h2 q2 =>
        refine .inr (.inr ⟨_, _, _, _, rfl, rfl, SqT.of (s.ex _ _ h1), SqT.of (s.ex _ _ h2), bigL (by rw [q1.length, q2.length]; exact h.1), fun e => ?_, fun e1 e2 => ?_, fun e1 e2 p hp => ?_⟩)
        · subst e
          cases q1
          exact Cn.fin c s hn (Nw.refl s.ex) (.tup h2 q2) h.2
        · subst e2
          cases q2
          refine Cn.fin c s hn (Nw.refl s.ex) (.tup h1 q1) ?_
          have := h.2
          rw [List.append_nil] at this
          exact this
        · obtain ⟨w, rr⟩ := tup_new s hp (q1.append q2)
          exact Cn.fin c s hn w rr h.2
  · split at h
    · rename_i a b e1 e2
      obtain ⟨a1, xs1, rfl, h1, q1⟩ := sqL_inv s r1 e1
      obtain ⟨a2, xs2, rfl, h2, q2⟩ := sqL_inv s r2 e2
      exact .inr (.inl ⟨_, _, _, _, rfl, rfl, h1, h2, bigL (by rw [q1.length, q2.length]; exact h.1), fun p hp => Cn.newL2 c s hn x1 x2 m1 m2 hp (q1.append q2) h.2⟩)
    · exact h.elim
def gMul : G2 := fun x y μ Q => match x, y with
  | .d (.int i), .d (.int j) => CMulW i j ∧ Q (.d (.int (i * j))) μ
  | .d (.tuple a), .d (.int k) => (a.length ≤ 1000 ∧ 0 ≤ k ∧ k ≤ 1000) ∧ Q (.d (.tuple (List.replicate k.toNat a).flatten)) μ
  | x, .d (.int k) => match sqL μ x with
    | some a => (a.length ≤ 100 ∧ -1000 ≤ k ∧ k ≤ 1000) ∧ psh (.lst (List.replicate k.toNat a).flatten) (dr x μ) Q
    | none => False
  | _, _ => False
theorem d2_mul : D2 (rMulU K) gMul := by
  intro dl n0 μ adr F H v1 v2 x1 x2 Qd Q s hn r1 r2 m1 m2 h c
  unfold gMul at h
  split at h
  · cases r1; cases r2
    exact .inl (.inl ⟨_, _, rfl, rfl, h.1, Cn.fin c s hn (Nw.refl s.ex) (.int _) h.2⟩)
  · cases r1 with
    | tup h1 q1 =>
      cases r2
      obtain ⟨⟨l1, k0, k1⟩, h⟩ := h
      rename_i a k addr xs
      by_cases e : xs = []
      · subst e
        cases q1
        refine .inr (.inr ⟨_, _, rfl, rfl, SqT.of (s.ex _ _ h1), by omega, k1, Cn.fin c s hn (Nw.refl s.ex) (.tup h1 .nil) ?_⟩)
        have e2 : (List.replicate k.toNat ([] : List PyData)).flatten = [] := by simp
        rw [e2] at h
        exact h
      · refine .inr (.inl ⟨_, _, _, rfl, rfl, SqT.of (s.ex _ _ h1), e, k0, k1, by rw [q1.length]; exact l1, fun e1 => ?_, fun p hp => ?_⟩)
        · subst e1
          refine Cn.fin c s hn (Nw.refl s.ex) (.tup h1 q1) ?_
          have e2 : (List.replicate (1 : Int).toNat a).flatten = a := by simp [List.replicate]
          rw [e2] at h
          exact h
        · obtain ⟨w, rr⟩ := tup_new s hp (q1.rep k.toNat)
          exact Cn.fin c s hn w rr h
  · cases r2
    split at h
    · rename_i x1 k _ _ _ a e1
      obtain ⟨⟨l1, k0, k1⟩, h⟩ := h
      obtain ⟨a1, xs1, rfl, h1, q1⟩ := sqL_inv s r1 e1
      refine .inl (.inr ⟨_, _, _, rfl, rfl, h1, ?_, ?_, ?_, fun p hp => Cn.newL1 c s hn _ m1 hp (q1.rep k.toNat) h⟩)
      · have e : (2 : Int) ^ 63 = 9223372036854775808 := by decide
        rw [e]; omega
      · have e : (2 : Int) ^ 63 = 9223372036854775808 := by decide
        rw [e]; omega
      · have hk : k.toNat ≤ 1000 := by omega
        have : xs1.length ≤ 100 := by rw [q1.length]; exact l1
        exact bigL (Nat.le_trans (Nat.mul_le_mul this hk) (by decide))
    · exact h.elim
  · exact h.elim
/-! ### == and != -/
def gEq (neg : Bool) : G2 := fun x y μ Q => match x, y with
  | .d (.int i), .d (.int j) => Q (.d (.bool (neg ^^ decide (i = j)))) μ
  | .d (.str a), .d (.str b) => Q (.d (.bool (neg ^^ decide (a = b)))) μ
  | x, y => match dat μ x, dat μ y with
    | some a, some b => (SeqAt.shaped a = true ∧ SeqAt.shaped b = true) ∧ Q (.d (.bool (neg ^^ PyData.eqv a b))) (dr x (dr y μ))
    | _, _ => False
theorem shaped_lay {a : PyData} (h : SeqAt.shaped a = true) : a.canLay0 = true := by
  unfold SeqAt.shaped at h
  rw [Bool.and_eq_true] at h
  exact h.1
theorem d2_eq : D2 (rEqU K) (gEq false) := by
  intro dl n0 μ adr F H v1 v2 x1 x2 Qd Q s hn r1 r2 m1 m2 h c
  unfold gEq at h
  simp only [Bool.false_xor] at h
  split at h
  · cases r1; cases r2
    rename_i i j
    refine .inl ⟨rfl, ?_⟩
    have e : decide (V.int i = V.int j) = decide (i = j) := by
      by_cases e : i = j
      · subst e; simp
      · rw [decide_eq_false e, decide_eq_false (fun z => e (V.int.inj z))]
    rw [e]
    exact Cn.fin c s hn (Nw.refl s.ex) (.bl _) h
  · cases r1; cases r2
    rename_i i j
    refine .inl ⟨rfl, ?_⟩
    have e : decide (V.str i = V.str j) = decide (i = j) := by
      by_cases e : i = j
      · subst e; simp
      · rw [decide_eq_false e, decide_eq_false (fun z => e (V.str.inj z))]
    rw [e]
    exact Cn.fin c s hn (Nw.refl s.ex) (.bl _) h
  · split at h
    · rename_i a b e1 e2
      obtain ⟨⟨s1, s2⟩, h⟩ := h
      exact .inr ⟨a, b, (dat_inv s r1 e1).dp (shaped_lay s1), (dat_inv s r2 e2).dp (shaped_lay s2), s1, s2, Cn.fin2 c s hn x1 x2 m1 m2 (Nw.refl s.ex) (.bl _) h⟩
    · exact h.elim
theorem d2_ne : D2 (rNeU K) (gEq true) := by
  intro dl n0 μ adr F H v1 v2 x1 x2 Qd Q s hn r1 r2 m1 m2 h c
  unfold gEq at h
  simp only [Bool.true_xor] at h
  split at h
  · cases r1; cases r2
    rename_i i j
    refine .inl ⟨rfl, ?_⟩
    have e : decide (V.int i = V.int j) = decide (i = j) := by
      by_cases e : i = j
      · subst e; simp
      · rw [decide_eq_false e, decide_eq_false (fun z => e (V.int.inj z))]
    rw [e]
    exact Cn.fin c s hn (Nw.refl s.ex) (.bl _) h
  · cases r1; cases r2
    rename_i i j
    refine .inl ⟨rfl, ?_⟩
    have e : decide (V.str i = V.str j) = decide (i = j) := by
      by_cases e : i = j
      · subst e; simp
      · rw [decide_eq_false e, decide_eq_false (fun z => e (V.str.inj z))]
    rw [e]
    exact Cn.fin c s hn (Nw.refl s.ex) (.bl _) h
  · split at h
    · rename_i a b e1 e2
      obtain ⟨⟨s1, s2⟩, h⟩ := h
      exact .inr ⟨a, b, (dat_inv s r1 e1).dp (shaped_lay s1), (dat_inv s r2 e2).dp (shaped_lay s2), s1, s2, Cn.fin2 c s hn x1 x2 m1 m2 (Nw.refl s.ex) (.bl _) h⟩
    · exact h.elim
/-! ### is None -/
def isNon : SV → Bool
  | .d .none => true
  | _ => false
theorem isNon_v {dl : Option (Addr × Addr)} {adr : List Addr} {F : Hp} {v : V} {x : SV} (r : SvR dl adr F v x) : decide (v = .non) = isNon x := by
  cases x with
  | d y => cases r <;> first | rfl | simp [isNon]
  | r k => obtain ⟨a, _, rfl⟩ := r; simp [isNon]
  | t k => obtain ⟨a, _, rfl⟩ := r; simp [isNon]
  | dl => obtain ⟨a, _, _, rfl⟩ := r; simp [isNon]
def gIs (neg : Bool) : G2 := fun x y μ Q => match y with
  | .d .none => Q (.d (.bool (neg ^^ isNon x))) (dr x μ)
  | _ => False
theorem d2_is : D2 (fun x y H Q => y = .non ∧ Q (.bl (decide (x = .non))) H) (gIs false) := by
  intro dl n0 μ adr F H v1 v2 x1 x2 Qd Q s hn r1 r2 m1 m2 h c
  unfold gIs at h
  simp only [Bool.false_xor] at h
  split at h
  · cases r2
    refine ⟨rfl, ?_⟩
    rw [isNon_v r1]
    exact Cn.fin1 c s hn x1 m1 (Nw.refl s.ex) (.bl _) h
  · exact h.elim
theorem d2_isNot : D2 (fun x y H Q => y = .non ∧ Q (.bl (!decide (x = .non))) H) (gIs true) := by
  intro dl n0 μ adr F H v1 v2 x1 x2 Qd Q s hn r1 r2 m1 m2 h c
  unfold gIs at h
  simp only [Bool.true_xor] at h
  split at h
  · cases r2
    refine ⟨rfl, ?_⟩
    rw [isNon_v r1]
    exact Cn.fin1 c s hn x1 m1 (Nw.refl s.ex) (.bl _) h
  · exact h.elim
/-! ### subscripts -/
def gIx : G2 := fun x y μ Q => match x, y with
  | .d (.str z), .d (.int i) => z.length ≤ 100000 ∧ ∃ c, atI z.cps.toList i = some c ∧ Q (.d (.str ⟨#[c]⟩)) μ
  | x, .d (.int i) => match sq μ x with
    | some ds => ∃ z, atI ds i = some z ∧ Q (.d z) (dr x μ)
    | none => False
  | _, _ => False
theorem atI_rp {F : Hp} {xs : List V} {ds : List PyData} {i : Int} {z : PyData} (h : RpAll F xs ds) (e : atI ds i = some z) : ∃ v, atI xs i = some v ∧ Rp F v z := by
  unfold atI at e ⊢
  rw [h.length]
  cases e2 : ixN ds.length i with
  | none => rw [e2] at e; cases e
  | some j =>
    rw [e2] at e
    exact h.get e
theorem d2_ix : D2 (rIx K) gIx := by
  intro dl n0 μ adr F H v1 v2 x1 x2 Qd Q s hn r1 r2 m1 m2 h c
  unfold gIx at h
  split at h
  · cases r1; cases r2
    obtain ⟨l, cc, e, h⟩ := h
    exact .inr (.inr ⟨_, _, cc, rfl, rfl, bigL l, e, Cn.fin c s hn (Nw.refl s.ex) (.str _) h⟩)
  · cases r2
    split at h
    · rename_i ds e
      obtain ⟨z, ez, h⟩ := h
      obtain ⟨a, xs, rfl, hh, q⟩ := sq_inv s r1 e
      obtain ⟨v, ev, rv⟩ := atI_rp q ez
      rcases hh with hh | hh
      · exact .inl ⟨a, xs, _, v, rfl, rfl, SqL.of hh, ev, Cn.fin1 c s hn _ m1 (Nw.refl s.ex) rv h⟩
      · exact .inr (.inl ⟨a, xs, _, v, rfl, rfl, SqT.of hh, ev, Cn.fin1 c s hn _ m1 (Nw.refl s.ex) rv h⟩)
    · exact h.elim
  · exact h.elim
end
end DL

set_option Elab.async false
set_option linter.all false
set_option maxRecDepth 100000
set_option maxHeartbeats 4000000
/-! The data layer: tests, slices, built-ins. -/
namespace DL
open PySem PySem.Spec PyProof.Rows L2 CB

section
variable {K : PySem.W.Frag} {ta tb tc : TE} {t1 t2 t3 : TD} {tA tB' : TT} {u1 u2 : TDb}
/-! ### and, or, not, conditional expressions, tests -/
def bool? : SV → Option Bool
  | .d (.bool b) => some b
  | _ => none
theorem bool_inv {dl : Option (Addr × Addr)} {adr : List Addr} {F : Hp} {v : V} {x : SV} {b : Bool} (r : SvR dl adr F v x) (h : bool? x = some b) : v = .bl b ∧ x = .d (.bool b) := by
  cases x with
  | d y => cases y with
    | bool c => cases h; cases r; exact ⟨rfl, rfl⟩
    | _ => cases h
  | _ => cases h
def onB (x : SV) (Q : Bool → Prop) : Prop := match x with
  | .d (.bool b) => Q b
  | _ => False
theorem onB_inv {x : SV} {Q : Bool → Prop} (h : onB x Q) : ∃ b, x = .d (.bool b) ∧ Q b := by
  unfold onB at h
  split at h
  · exact ⟨_, rfl, h⟩
  · exact h.elim
def dNotV (t : TD) : TD := fun ρ μ Q => t ρ μ fun x μ1 => onB x fun b => Q (.d (.bool (!b))) μ1
def dAndV (t u : TD) : TD := fun ρ μ Q => t ρ μ fun x μ1 => onB x fun b => if b = true then u ρ μ1 Q else Q (.d (.bool false)) μ1
def dOrV (t u : TD) : TD := fun ρ μ Q => t ρ μ fun x μ1 => onB x fun b => if b = true then Q (.d (.bool true)) μ1 else u ρ μ1 Q
theorem de_not (ha : DE ta t1) : DE (tNotV ta) (dNotV t1) := by
  intro dl n σ ρ μ adr F H Qd Q a h c
  refine ha dl n σ ρ μ adr F H _ _ a h fun v1 x1 μ1 adr1 F1 H1 f1 s1 l1 r1 n1 m1 h1 => ?_
  replace h1 := onB_inv h1
  obtain ⟨b, rfl, h1⟩ := h1
  cases r1
  exact ⟨b, rfl, c _ (.d (.bool _)) μ1 adr1 F1 H1 f1 s1 l1 (Rp.bl _) (fun _ z => by cases z) (fun _ z => by cases z) h1⟩
theorem de_and (ha : DE ta t1) (hb : DE tb t2) : DE (tAndV ta tb) (dAndV t1 t2) := by
  intro dl n σ ρ μ adr F H Qd Q a h c
  refine ha dl n σ ρ μ adr F H _ _ a h fun v1 x1 μ1 adr1 F1 H1 f1 s1 l1 r1 n1 m1 h1 => ?_
  replace h1 := onB_inv h1
  obtain ⟨b, rfl, h1⟩ := h1
  cases r1
  refine ⟨b, rfl, ?_⟩
  cases b with
  | true =>
    rw [if_pos rfl] at h1 ⊢
    refine hb dl n σ ρ μ1 adr1 F1 H1 _ _ (a.fr f1 s1 l1) h1 fun v2 x2 μ2 adr2 F2 H2 f2 s2 l2 r2 n2 m2 h2 => ?_
    exact c v2 x2 μ2 adr2 F2 H2 (f1.trans f2 l1) s2 (Nat.le_trans l1 l2) r2 n2 (fun k hk => Nat.le_trans l1 (m2 k hk)) h2
  | false =>
    rw [if_neg (by decide)] at h1 ⊢
    exact c _ (.d (.bool _)) μ1 adr1 F1 H1 f1 s1 l1 (Rp.bl _) (fun _ z => by cases z) (fun _ z => by cases z) h1
theorem de_or (ha : DE ta t1) (hb : DE tb t2) : DE (tOrV ta tb) (dOrV t1 t2) := by
  intro dl n σ ρ μ adr F H Qd Q a h c
  refine ha dl n σ ρ μ adr F H _ _ a h fun v1 x1 μ1 adr1 F1 H1 f1 s1 l1 r1 n1 m1 h1 => ?_
  replace h1 := onB_inv h1
  obtain ⟨b, rfl, h1⟩ := h1
  cases r1
  refine ⟨b, rfl, ?_⟩
  cases b with
  | false =>
    rw [if_neg (by decide)] at h1 ⊢
    refine hb dl n σ ρ μ1 adr1 F1 H1 _ _ (a.fr f1 s1 l1) h1 fun v2 x2 μ2 adr2 F2 H2 f2 s2 l2 r2 n2 m2 h2 => ?_
    exact c v2 x2 μ2 adr2 F2 H2 (f1.trans f2 l1) s2 (Nat.le_trans l1 l2) r2 n2 (fun k hk => Nat.le_trans l1 (m2 k hk)) h2
  | true =>
    rw [if_pos rfl] at h1 ⊢
    exact c _ (.d (.bool _)) μ1 adr1 F1 H1 f1 s1 l1 (Rp.bl _) (fun _ z => by cases z) (fun _ z => by cases z) h1
def dIf (c : TDb) (t u : TD) : TD := fun ρ μ Q => c ρ μ fun b μ1 => if b = true then t ρ μ1 Q else u ρ μ1 Q
theorem de_if (hc : DB tA u1) (ha : DE ta t1) (hb : DE tb t2) : DE (tIf tA ta tb) (dIf u1 t1 t2) := by
  intro dl n σ ρ μ adr F H Qd Q a h c
  refine hc dl n σ ρ μ adr F H _ _ a h fun b μ1 adr1 F1 H1 f1 s1 l1 h1 => ?_
  cases b with
  | true =>
    rw [if_pos rfl] at h1 ⊢
    refine ha dl n σ ρ μ1 adr1 F1 H1 _ _ (a.fr f1 s1 l1) h1 fun v2 x2 μ2 adr2 F2 H2 f2 s2 l2 r2 n2 m2 h2 => ?_
    exact c v2 x2 μ2 adr2 F2 H2 (f1.trans f2 l1) s2 (Nat.le_trans l1 l2) r2 n2 (fun k hk => Nat.le_trans l1 (m2 k hk)) h2
  | false =>
    rw [if_neg (by decide)] at h1 ⊢
    refine hb dl n σ ρ μ1 adr1 F1 H1 _ _ (a.fr f1 s1 l1) h1 fun v2 x2 μ2 adr2 F2 H2 f2 s2 l2 r2 n2 m2 h2 => ?_
    exact c v2 x2 μ2 adr2 F2 H2 (f1.trans f2 l1) s2 (Nat.le_trans l1 l2) r2 n2 (fun k hk => Nat.le_trans l1 (m2 k hk)) h2
/-- two comparisons in a chain; the middle is data -/
def dChain (g g' : G2) (t u w : TD) : TD := fun ρ μ Q => t ρ μ fun x μ1 => u ρ μ1 fun y μ2 => g x y μ2 fun z μ3 => onB z fun b => if b = true then w ρ μ3 fun x2 μ4 => (match y with | .d _ => True | _ => False) ∧ g' y x2 μ4 Q else Q (.d (.bool false)) μ3
theorem de_chain {r r' : R2} {g g' : G2} (o : D2 r g) (o' : D2 r' g') (ha : DE ta t1) (hb : DE tb t2) (hc : DE tc t3) : DE (tChain r r' ta tb tc) (dChain g g' t1 t2 t3) := by
  intro dl n σ ρ μ adr F H Qd Q a h c
  refine ha dl n σ ρ μ adr F H _ _ a h fun v1 x1 μ1 adr1 F1 H1 f1 s1 l1 r1 n1 m1 h1 => ?_
  refine hb dl n σ ρ μ1 adr1 F1 H1 _ _ (a.fr f1 s1 l1) h1 fun v2 x2 μ2 adr2 F2 H2 f2 s2 l2 r2 n2 m2 h2 => ?_
  refine o dl μ.length μ2 adr2 F2 H2 v1 v2 x1 x2 _ _ s2 (Nat.le_trans l1 l2) (r1.fr f2 (r1.lt s1)) r2 m1 (fun k hk => Nat.le_trans l1 (m2 k hk)) h2 fun v x μ3 adr3 F3 H3 f3 s3 l3 r3 n3 m3 h3 => ?_
  replace h3 := onB_inv h3
  obtain ⟨b, rfl, h3⟩ := h3
  cases r3
  refine ⟨b, rfl, ?_⟩
  have fa := (f1.trans f2 l1).trans f3 (Nat.le_refl _)
  cases b with
  | false =>
    rw [if_neg (by decide)] at h3 ⊢
    exact c _ (.d (.bool _)) μ3 adr3 F3 H3 fa s3 l3 (Rp.bl _) (fun _ z => by cases z) (fun _ z => by cases z) h3
  | true =>
    rw [if_pos rfl] at h3 ⊢
    refine hc dl n σ ρ μ3 adr3 F3 H3 _ _ (a.fr fa s3 l3) h3 fun v4 x4 μ4 adr4 F4 H4 f4 s4 l4 r4 n4 m4 h4 => ?_
    cases x2 with
    | d y =>
      refine o' dl μ.length μ4 adr4 F4 H4 v2 v4 (.d y) x4 _ _ s4 (Nat.le_trans l3 l4) ((r2.fr f3 (fun k hk => by rcases hk with hk | hk <;> cases hk)).fr f4 (fun k hk => by rcases hk with hk | hk <;> cases hk)) r4 (fun k hk => by cases hk) (fun k hk => Nat.le_trans l3 (m4 k hk)) h4.2 fun v x μ5 adr5 F5 H5 f5 s5 l5 r5 n5 m5 h5 => ?_
      exact c v x μ5 adr5 F5 H5 ((fa.trans f4 l3).trans f5 (Nat.le_refl _)) s5 l5 r5 (fun k hk => absurd hk (n5 k)) m5 h5
    | r k => exact h4.1.elim
    | t k => exact h4.1.elim
    | dl => exact h4.1.elim
/-! tests -/
def dTest (t : TD) : TDb := fun ρ μ Q => t ρ μ fun x μ1 => onB x fun b => Q b μ1
theorem db_test (ha : DE ta t1) : DB (tTest ta) (dTest t1) := by
  intro dl n σ ρ μ adr F H Qd Q a h c
  refine ha dl n σ ρ μ adr F H _ _ a h fun v1 x1 μ1 adr1 F1 H1 f1 s1 l1 r1 n1 m1 h1 => ?_
  replace h1 := onB_inv h1
  obtain ⟨b, rfl, h1⟩ := h1
  cases r1
  exact ⟨b, rfl, c b μ1 adr1 F1 H1 f1 s1 l1 h1⟩
theorem db_val (ha : DE ta t1) : DB (L2.tB ta) (dTest t1) := db_test ha
def dAnd (t u : TDb) : TDb := fun ρ μ Q => t ρ μ fun b μ1 => if b = true then u ρ μ1 Q else Q false μ1
def dOr (t u : TDb) : TDb := fun ρ μ Q => t ρ μ fun b μ1 => if b = true then Q true μ1 else u ρ μ1 Q
def dNot (t : TDb) : TDb := fun ρ μ Q => t ρ μ fun b μ1 => Q (!b) μ1
theorem db_not (ha : DB tA u1) : DB (tNot tA) (dNot u1) := by
  intro dl n σ ρ μ adr F H Qd Q a h c
  exact ha dl n σ ρ μ adr F H _ _ a h fun b μ1 adr1 F1 H1 f1 s1 l1 h1 => c (!b) μ1 adr1 F1 H1 f1 s1 l1 h1
theorem db_and (ha : DB tA u1) (hb : DB tB' u2) : DB (tAnd tA tB') (dAnd u1 u2) := by
  intro dl n σ ρ μ adr F H Qd Q a h c
  refine ha dl n σ ρ μ adr F H _ _ a h fun b μ1 adr1 F1 H1 f1 s1 l1 h1 => ?_
  cases b with
  | true =>
    rw [if_pos rfl] at h1 ⊢
    exact hb dl n σ ρ μ1 adr1 F1 H1 _ _ (a.fr f1 s1 l1) h1 fun b μ2 adr2 F2 H2 f2 s2 l2 h2 => c b μ2 adr2 F2 H2 (f1.trans f2 l1) s2 (Nat.le_trans l1 l2) h2
  | false =>
    rw [if_neg (by decide)] at h1 ⊢
    exact c _ μ1 adr1 F1 H1 f1 s1 l1 h1
theorem db_or (ha : DB tA u1) (hb : DB tB' u2) : DB (tOr tA tB') (dOr u1 u2) := by
  intro dl n σ ρ μ adr F H Qd Q a h c
  refine ha dl n σ ρ μ adr F H _ _ a h fun b μ1 adr1 F1 H1 f1 s1 l1 h1 => ?_
  cases b with
  | false =>
    rw [if_neg (by decide)] at h1 ⊢
    exact hb dl n σ ρ μ1 adr1 F1 H1 _ _ (a.fr f1 s1 l1) h1 fun b μ2 adr2 F2 H2 f2 s2 l2 h2 => c b μ2 adr2 F2 H2 (f1.trans f2 l1) s2 (Nat.le_trans l1 l2) h2
  | true =>
    rw [if_pos rfl] at h1 ⊢
    exact c _ μ1 adr1 F1 H1 f1 s1 l1 h1
def dYes : TDb := fun _ μ Q => Q true μ
theorem db_yes : DB tYes dYes := by
  intro dl n σ ρ μ adr F H Qd Q a h c
  exact c true μ adr F H Fr.refl a.s (Nat.le_refl _) h
/-- the truth of a value -/
def tTru (K : PySem.W.Frag) (ta : TE) : TT := fun σ H Q => ta σ H fun x H' => ∃ k, TruV K x H' k ∧ Q k H'
def tru (μ : Sto) : SV → Option Bool
  | .d .none => some false
  | .d (.bool b) => some b
  | .d (.int i) => some (i != 0)
  | .d (.str y) => if y.length ≤ 100000 then some ((y.length : Int) != 0) else none
  | x => (sq μ x).map fun ds => !ds.isEmpty
def dTru (t : TD) : TDb := fun ρ μ Q => t ρ μ fun x μ1 => match tru μ1 x with
  | some b => Q b (dr x μ1)
  | none => False
theorem tru_sq {dl : Option (Addr × Addr)} {F H : Hp} {adr : List Addr} {μ : Sto} {v : V} {x : SV} {b : Bool} (s : Sts dl μ adr F H) (r : SvR dl adr F v x) (h : ((sq μ x).map fun ds => !ds.isEmpty) = some b) : TruV K v H b := by
  cases e : sq μ x with
  | none => rw [e] at h; cases h
  | some ds =>
    rw [e] at h
    obtain ⟨a, xs, rfl, hh, q⟩ := sq_inv s r e
    have eb : b = !xs.isEmpty := by
      have : (!ds.isEmpty) = b := Option.some.inj h
      rw [← this]
      cases q <;> rfl
    rcases hh with hh | hh
    · exact .inl ⟨xs, SqL.of hh, eb⟩
    · exact .inr (.inl ⟨xs, SqT.of hh, eb⟩)
theorem db_tru (ha : DE ta t1) : DB (tTru K ta) (dTru t1) := by
  intro dl n σ ρ μ adr F H Qd Q a h c
  refine ha dl n σ ρ μ adr F H _ _ a h fun v1 x1 μ1 adr1 F1 H1 f1 s1 l1 r1 n1 m1 h1 => ?_
  split at h1
  · rename_i b e
    refine ⟨b, ?_, c b _ _ F1 H1 (f1.trans (Fr.dr x1 m1) (Nat.le_refl _)) (s1.dr x1) (dr_len x1 m1 l1) h1⟩
    unfold tru at e
    split at e
    · cases r1; cases e; rfl
    · cases r1; cases e; rfl
    · cases r1; cases e; rfl
    · cases r1
      split at e
      · rename_i hl
        cases e
        exact ⟨bigL hl, rfl⟩
      · cases e
    · exact tru_sq s1 r1 e
  · exact h1.elim
/-! ### slices -/
def DO (to : TO) (t : TDo) : Prop := ∀ dl n σ ρ μ adr F H (Qd : Option Int → Sto → Prop) (Q : Option Int → Hp → Prop), At dl n σ ρ μ adr F H → t ρ μ Qd →
  (∀ o μ' adr' F' H', Fr dl μ.length F H adr F' H' adr' → Sts dl μ' adr' F' H' → μ.length ≤ μ'.length → Qd o μ' → Q o H') → to σ H Q
def dNoPart : TDo := fun _ μ Q => Q none μ
def dPt (t : TD) : TDo := fun ρ μ Q => t ρ μ fun x μ1 => match x with
  | .d (.int i) => Q (some i) μ1
  | _ => False
theorem do_none : DO tNoPart dNoPart := by
  intro dl n σ ρ μ adr F H Qd Q a h c
  exact c none μ adr F H Fr.refl a.s (Nat.le_refl _) h
theorem do_some (ha : DE ta t1) : DO (tPart ta) (dPt t1) := by
  intro dl n σ ρ μ adr F H Qd Q a h c
  refine ha dl n σ ρ μ adr F H _ _ a h fun v1 x1 μ1 adr1 F1 H1 f1 s1 l1 r1 n1 m1 h1 => ?_
  split at h1
  · cases r1
    exact ⟨_, rfl, c _ μ1 adr1 F1 H1 f1 s1 l1 h1⟩
  · exact h1.elim
def cutP (ds : List PyData) (lo hi : Option Int) : List PyData := (ds.drop (HT.sIx ds.length 0 lo)).take (HT.sIx ds.length ds.length hi - HT.sIx ds.length 0 lo)
theorem cut_rp {F : Hp} {xs : List V} {ds : List PyData} {lo hi : Option Int} (h : RpAll F xs ds) : RpAll F (cutV xs lo hi) (cutP ds lo hi) := by
  unfold cutV cutP
  rw [h.length]
  exact (h.drop _).take _
def rSlU (K : PySem.W.Frag) : V → Option Int → Option Int → Hp → VK → Prop := fun x lo hi H Q => rSlL K x lo hi H Q ∨ (rSlA K x lo hi H Q ∨ rSlS x lo hi H Q)
theorem sl_U {X : Cx} (hK : X.K = K := by rfl) : SlR X (rSlU K) := SlR.or (sl_listK hK) (SlR.or (sl_tupK hK) sl_str)
abbrev GS := SV → Option Int → Option Int → Sto → (SV → Sto → Prop) → Prop
def gSl : GS := fun x lo hi μ Q => match x with
  | .d (.tuple ds) => Q (.d (.tuple (cutP ds lo hi))) μ
  | .d (.str z) => z.length ≤ 100000 ∧ Q (.d (.str (cutS z lo hi))) μ
  | x => match sqL μ x with
    | some ds => psh (.lst (cutP ds lo hi)) (dr x μ) Q
    | none => False
def dSl (t : TD) (l h : TDo) : TD := fun ρ μ Q => t ρ μ fun x μ1 => l ρ μ1 fun lo μ2 => h ρ μ2 fun hi μ3 => gSl x lo hi μ3 Q
theorem cutP_whole {ds : List PyData} {lo hi : Option Int} (h : HT.sIx ds.length 0 lo = 0 ∧ HT.sIx ds.length ds.length hi = ds.length) : cutP ds lo hi = ds := by
  unfold cutP
  rw [h.1, h.2, Nat.sub_zero, List.drop_zero, List.take_length]
theorem de_slice {tl th : TO} {l h : TDo} (ha : DE ta t1) (hl : DO tl l) (hh : DO th h) : DE (tSl (rSlU K) ta tl th) (dSl t1 l h) := by
  intro dl n σ ρ μ adr F H Qd Q a hd c
  refine ha dl n σ ρ μ adr F H _ _ a hd fun v1 x1 μ1 adr1 F1 H1 f1 s1 l1 r1 n1 m1 h1 => ?_
  refine hl dl n σ ρ μ1 adr1 F1 H1 _ _ (a.fr f1 s1 l1) h1 fun lo μ2 adr2 F2 H2 f2 s2 l2 h2 => ?_
  refine hh dl n σ ρ μ2 adr2 F2 H2 _ _ ((a.fr f1 s1 l1).fr f2 s2 l2) h2 fun hi μ3 adr3 F3 H3 f3 s3 l3 h3 => ?_
  have r3 := (r1.fr f2 (r1.lt s1)).fr (f3.mono l2) (r1.lt s1)
  have fa := (f1.trans f2 l1).trans f3 (Nat.le_trans l1 l2)
  have la := Nat.le_trans l1 (Nat.le_trans l2 l3)
  have cn : Cn dl μ.length F3 H3 adr3 Qd Q := fun v x μ' adr' F' H' f s l r n' m' hq => c v x μ' adr' F' H' (fa.trans f (Nat.le_refl _)) s l r (fun k hk => absurd hk (n' k)) m' hq
  unfold gSl at h3
  split at h3
  · cases r3 with
    | tup hx q =>
      refine .inr (.inl ⟨_, _, rfl, SqT.of (s3.ex _ _ hx), fun e => ?_, fun e p hp => ?_⟩)
      · rw [q.length] at e
        rw [cutP_whole e] at h3
        exact Cn.fin cn s3 la (Nw.refl s3.ex) (.tup hx q) h3
      · obtain ⟨w, rr⟩ := tup_new s3 hp (cut_rp (lo := lo) (hi := hi) q)
        exact Cn.fin cn s3 la w rr h3
  · cases r3
    exact .inr (.inr ⟨_, rfl, bigL h3.1, Cn.fin cn s3 la (Nw.refl s3.ex) (.str _) h3.2⟩)
  · split at h3
    · rename_i ds e
      obtain ⟨b, xs, rfl, hx, q⟩ := sqL_inv s3 r3 e
      exact .inl ⟨b, xs, rfl, SqL.of hx, fun p hp => Cn.newL1 cn s3 la _ m1 hp (cut_rp q) h3⟩
    · exact h3.elim
/-- the whole turned round, of a list -/
def dRev (t : TD) : TD := fun ρ μ Q => t ρ μ fun x μ1 => match sqL μ1 x with
  | some ds => psh (.lst ds.reverse) (dr x μ1) Q
  | none => False
theorem de_rev (ha : DE ta t1) : DE (tRevL K ta) (dRev t1) := by
  intro dl n σ ρ μ adr F H Qd Q a h c
  refine ha dl n σ ρ μ adr F H _ _ a h fun v1 x1 μ1 adr1 F1 H1 f1 s1 l1 r1 n1 m1 h1 => ?_
  have cn : Cn dl μ.length F1 H1 adr1 Qd Q := fun v x μ' adr' F' H' f s l r n' m' hq => c v x μ' adr' F' H' (f1.trans f (Nat.le_refl _)) s l r (fun k hk => absurd hk (n' k)) m' hq
  split at h1
  · rename_i ds e
    obtain ⟨b, xs, rfl, hx, q⟩ := sqL_inv s1 r1 e
    exact ⟨b, xs, rfl, SqL.of hx, fun p hp => Cn.newL1 cn s1 l1 _ m1 hp q.reverse h1⟩
  · exact h1.elim
theorem de_listRev (ha : DE ta t1) : DE (tListRev K ta) (dRev t1) := de_rev ha
def dTupRev (t : TD) : TD := fun ρ μ Q => t ρ μ fun x μ1 => match x with
  | .d (.tuple ds) => ds.length ≤ 1000 ∧ Q (.d (.tuple ds.reverse)) μ1
  | _ => False
theorem de_tupRevT (ha : DE ta t1) : DE (tTupRevT K ta) (dTupRev t1) := by
  intro dl n σ ρ μ adr F H Qd Q a h c
  refine ha dl n σ ρ μ adr F H _ _ a h fun v1 x1 μ1 adr1 F1 H1 f1 s1 l1 r1 n1 m1 h1 => ?_
  have cn : Cn dl μ.length F1 H1 adr1 Qd Q := fun v x μ' adr' F' H' f s l r n' m' hq => c v x μ' adr' F' H' (f1.trans f (Nat.le_refl _)) s l r (fun k hk => absurd hk (n' k)) m' hq
  split at h1
  · cases r1 with
    | tup hx q =>
      refine ⟨_, _, rfl, SqT.of (s1.ex _ _ hx), by rw [q.length]; exact h1.1, fun p hp => ?_⟩
      obtain ⟨w, rr⟩ := tup_new s1 hp q.reverse
      exact Cn.fin cn s1 l1 w rr h1.2
  · exact h1.elim
end
/-! ### built-ins of one value -/
def g1 (f : SV → Sto → (SV → Sto → Prop) → Prop) : GA := fun xs μ Q => match xs with
  | [x] => f x μ Q
  | _ => False
/-- a rule for one argument -/
theorem dc_1 {r : List V → Hp → VK → Prop} {f : SV → Sto → (SV → Sto → Prop) → Prop} (o : D1 (fun v H Q => r [v] H Q) f) : DC 1 r (g1 f) := by
  intro dl n0 μ adr F H vs xs Qd Q s hn r1 od e h c
  cases r1 with
  | nil => exact h.elim
  | cons a b =>
    cases b with
    | nil => exact o dl n0 μ adr F H _ _ Qd Q s hn a od.1 h c
    | cons _ _ => cases e
section
variable {K : PySem.W.Frag} {ta tb tc : TE} {t1 t2 t3 : TD}
def fLen : SV → Sto → (SV → Sto → Prop) → Prop := fun x μ Q => match x with
  | .d (.str z) => z.length ≤ 100000 ∧ Q (.d (.int z.length)) μ
  | x => match sq μ x with
    | some ds => Q (.d (.int ds.length)) (dr x μ)
    | none => False
def rLenU (K : PySem.W.Frag) : List V → Hp → VK → Prop := fun xs H Q => rLenQ K xs H Q ∨ (∃ z, xs = [.str z] ∧ z.length ≤ sizeLine ∧ Q (.int z.length) H)
theorem call_lenU {X : Cx} (hK : X.K = K := by rfl) : CallR X (.builtin "len") (rLenU K) := CallR.or (call_lenK hK) call_len_str
theorem d1_len : D1 (fun v H Q => rLenU K [v] H Q) fLen := by
  intro dl n0 μ adr F H v1 x1 Qd Q s hn r1 m1 h c
  unfold fLen at h
  split at h
  · cases r1
    exact .inr ⟨_, rfl, bigL h.1, Cn.fin c s hn (Nw.refl s.ex) (.int _) h.2⟩
  · split at h
    · rename_i ds e
      obtain ⟨a, xs, rfl, hh, q⟩ := sq_inv s r1 e
      refine .inl ⟨a, xs, rfl, ?_, ?_⟩
      · rcases hh with hh | hh
        · exact .inl (SqL.of hh)
        · exact .inr (SqT.of hh)
      · rw [q.length]
        exact Cn.fin1 c s hn _ m1 (Nw.refl s.ex) (.int _) h
    · exact h.elim
def fList : SV → Sto → (SV → Sto → Prop) → Prop := fun x μ Q => match sq μ x with
  | some ds => psh (.lst ds) (dr x μ) Q
  | none => False
theorem d1_list : D1 (fun v H Q => rListQ K [v] H Q) fList := by
  intro dl n0 μ adr F H v1 x1 Qd Q s hn r1 m1 h c
  unfold fList at h
  split at h
  · rename_i ds e
    obtain ⟨a, xs, rfl, hh, q⟩ := sq_inv s r1 e
    refine ⟨a, xs, rfl, ?_, fun p hp => Cn.newL1 c s hn _ m1 hp q h⟩
    rcases hh with hh | hh
    · exact .inl (SqL.of hh)
    · exact .inr (SqT.of hh)
  · exact h.elim
def fTuple : SV → Sto → (SV → Sto → Prop) → Prop := fun x μ Q => match sq μ x with
  | some ds => Q (.d (.tuple ds)) (dr x μ)
  | none => False
theorem sq_tup {dl : Option (Addr × Addr)} {F H : Hp} {adr : List Addr} {μ : Sto} {v : V} {x : SV} {ds : List PyData} (s : Sts dl μ adr F H) (r : SvR dl adr F v x) (h : sq μ x = some ds) : (∃ a xs, v = .ref a ∧ H a = some (.lst xs) ∧ RpAll F xs ds) ∨ (x = .d (.tuple ds)) := by
  cases x with
  | d z =>
    cases z with
    | tuple ds => cases h; exact .inr rfl
    | list ds => cases h; cases r with | lst h1 h2 => exact .inl ⟨_, _, rfl, s.ex _ _ h1, h2⟩
    | _ => cases h
  | r k => obtain ⟨a, e, rfl⟩ := r; obtain ⟨xs, h1, h2⟩ := sq_ref s e h; exact .inl ⟨a, xs, rfl, h1, h2⟩
  | t k => obtain ⟨a, e, rfl⟩ := r; obtain ⟨xs, h1, h2⟩ := sq_ref s e h; exact .inl ⟨a, xs, rfl, h1, h2⟩
  | dl => cases h
theorem d1_tuple : D1 (fun v H Q => rTupleQ K [v] H Q) fTuple := by
  intro dl n0 μ adr F H v1 x1 Qd Q s hn r1 m1 h c
  unfold fTuple at h
  split at h
  · rename_i ds e
    rcases sq_tup s r1 e with ⟨a, xs, rfl, hh, q⟩ | rfl
    · refine ⟨a, xs, rfl, .inl ⟨SqL.of hh, fun p hp => ?_⟩⟩
      obtain ⟨w, rr⟩ := tup_new s hp q
      exact Cn.fin1 c s hn _ m1 w rr h
    · cases r1 with
      | tup hx q => exact ⟨_, _, rfl, .inr ⟨SqT.of (s.ex _ _ hx), Cn.fin1 c s hn _ m1 (Nw.refl s.ex) (.tup hx q) h⟩⟩
  · exact h.elim
/-- whole numbers of a sequence -/
def intsD : List PyData → Option (List Int)
  | [] => some []
  | .int i :: r => (intsD r).map (i :: ·)
  | _ :: _ => none
theorem intsD_map : ∀ ns : List Int, intsD (ns.map PyData.int) = some ns
  | [] => rfl
  | n :: r => by rw [List.map_cons, intsD, intsD_map r]; rfl
theorem intsD_inv : ∀ {ds : List PyData} {ns : List Int}, intsD ds = some ns → ds = ns.map PyData.int
  | [], ns, h => by cases h; rfl
  | d :: r, ns, h => by
    cases d with
    | int i =>
      rw [intsD] at h
      cases e : intsD r with
      | none => rw [e] at h; cases h
      | some ms => rw [e] at h; cases h; rw [intsD_inv e]; rfl
    | _ => cases h
def fSum : SV → Sto → (SV → Sto → Prop) → Prop := fun x μ Q => match sq μ x with
  | some ds => ∃ ns : List Int, ds = ns.map PyData.int ∧ Q (.d (.int ns.sum)) (dr x μ)
  | none => False
def rSumU (K : PySem.W.Frag) : List V → Hp → VK → Prop := fun vs H Q => rSum K vs H Q ∨ (∃ (a : Addr) (ns : List Int), vs = [V.ref a] ∧ SqT K H a (ns.map V.int) ∧ Q (.int ns.sum) H)
theorem cr_sumU {X : Cx} (hc : X.calm = true) (hK : X.K = K := by rfl) : CallR X (.builtin "sum") (rSumU K) := CallR.or (cr_sumK hc hK) (cr_sumT hc hK)
theorem d1_sum : D1 (fun v H Q => rSumU K [v] H Q) fSum := by
  intro dl n0 μ adr F H v1 x1 Qd Q s hn r1 m1 h c
  unfold fSum at h
  split at h
  · rename_i ds e
    obtain ⟨ns, rfl, h⟩ := h
    obtain ⟨a, xs, rfl, hh, q⟩ := sq_inv s r1 e
    cases rp_ints_of q
    have z := Cn.fin1 c s hn _ m1 (Nw.refl s.ex) (.int _) h
    rcases hh with hh | hh
    · exact .inl ⟨a, ns, rfl, SqL.of hh, z⟩
    · exact .inr ⟨a, ns, rfl, SqT.of hh, z⟩
  · exact h.elim
def fAbs : SV → Sto → (SV → Sto → Prop) → Prop := fun x μ Q => match x with
  | .d (.int i) => Q (.d (.int (if i < 0 then -i else i))) μ
  | _ => False
theorem d1_abs : D1 (fun v H Q => ∃ i, [v] = [V.int i] ∧ Q (.int (if i < 0 then -i else i)) H) fAbs := by
  intro dl n0 μ adr F H v1 x1 Qd Q s hn r1 m1 h c
  unfold fAbs at h
  split at h
  · cases r1
    exact ⟨_, rfl, Cn.fin c s hn (Nw.refl s.ex) (.int _) h⟩
  · exact h.elim
def fInt : SV → Sto → (SV → Sto → Prop) → Prop := fun x μ Q => match x with
  | .d (.int i) => Q (.d (.int i)) μ
  | .d (.bool b) => Q (.d (.int (if b then 1 else 0))) μ
  | _ => False
theorem d1_int : D1 (fun v H Q => (∃ i, [v] = [V.int i] ∧ Q (.int i) H) ∨ ∃ k, [v] = [V.bl k] ∧ Q (.int (if k then 1 else 0)) H) fInt := by
  intro dl n0 μ adr F H v1 x1 Qd Q s hn r1 m1 h c
  unfold fInt at h
  split at h
  · cases r1
    exact .inl ⟨_, rfl, Cn.fin c s hn (Nw.refl s.ex) (.int _) h⟩
  · cases r1
    exact .inr ⟨_, rfl, Cn.fin c s hn (Nw.refl s.ex) (.int _) h⟩
  · exact h.elim
def fNeg : SV → Sto → (SV → Sto → Prop) → Prop := fun x μ Q => match x with
  | .d (.int i) => Q (.d (.int (-i))) μ
  | _ => False
theorem d1_neg : D1 (rU fun i => .int (-i)) fNeg := by
  intro dl n0 μ adr F H v1 x1 Qd Q s hn r1 m1 h c
  unfold fNeg at h
  split at h
  · cases r1
    exact ⟨_, rfl, Cn.fin c s hn (Nw.refl s.ex) (.int _) h⟩
  · exact h.elim
/-- all, any -/
def fAll : SV → Sto → (SV → Sto → Prop) → Prop := fun x μ Q => match sqL μ x with
  | some ds => ∃ bs : List Bool, ds = bs.map PyData.bool ∧ Q (.d (.bool (bs.all id))) (dr x μ)
  | none => False
def fAny : SV → Sto → (SV → Sto → Prop) → Prop := fun x μ Q => match sqL μ x with
  | some ds => ∃ bs : List Bool, ds = bs.map PyData.bool ∧ Q (.d (.bool (bs.any id))) (dr x μ)
  | none => False
theorem d1_all : D1 (fun v H Q => rAll K [v] H Q) fAll := by
  intro dl n0 μ adr F H v1 x1 Qd Q s hn r1 m1 h c
  unfold fAll at h
  split at h
  · rename_i ds e
    obtain ⟨ns, rfl, h⟩ := h
    obtain ⟨a, xs, rfl, hh, q⟩ := sqL_inv s r1 e
    cases rp_bools_of q
    exact ⟨a, ns, rfl, SqL.of hh, Cn.fin1 c s hn _ m1 (Nw.refl s.ex) (.bl _) h⟩
  · exact h.elim
theorem d1_any : D1 (fun v H Q => rAny K [v] H Q) fAny := by
  intro dl n0 μ adr F H v1 x1 Qd Q s hn r1 m1 h c
  unfold fAny at h
  split at h
  · rename_i ds e
    obtain ⟨ns, rfl, h⟩ := h
    obtain ⟨a, xs, rfl, hh, q⟩ := sqL_inv s r1 e
    cases rp_bools_of q
    exact ⟨a, ns, rfl, SqL.of hh, Cn.fin1 c s hn _ m1 (Nw.refl s.ex) (.bl _) h⟩
  · exact h.elim
end
end DL

set_option Elab.async false
set_option linter.all false
set_option maxRecDepth 100000
set_option maxHeartbeats 4000000
/-! The data layer: what loops walk, comprehensions, calls of one's own defs. -/
namespace DL
open PySem PySem.Spec PyProof.Rows L2 CB

/-! ### walks by any kind of sequence -/
section
variable {X : Cx} {tg e e2 : Expr} {K : PySem.W.Frag}
def iSeqU (K : PySem.W.Frag) (tl : TE) : TI := fun σ H R => tl σ H fun x H1 => (∃ a xs, x = .ref a ∧ SqL K H1 a xs ∧ R (Itl K a) H1) ∨ (∃ a xs, x = .ref a ∧ SqT K H1 a xs ∧ R (Itt K a) H1) ∨ ∃ z, x = .str z ∧ R (Its z) H1
theorem pi_seqU {tl : TE} (hl : PE X e tl) (hK : X.K = K := by rfl) : PI X tg e (iSeqU K tl) := by
  subst hK
  refine ⟨fun pins s σ H R I h => ?_⟩
  refine thn (hl.run pins s σ H _ I h) fun v s1 ⟨x, H1, I1, r1, q1⟩ => ?_
  rcases q1 with ⟨a, xs, rfl, hq, q⟩ | ⟨a, xs, rfl, hq, q⟩ | ⟨x, rfl, q⟩
  · cases r1
    obtain ⟨its, rv, p, hz⟩ := I1.list hq
    exact wpAny_pyIter_list p.isList (pi_one (tk := s1.toks) I1 _ (turn_list a _) ⟨_, Heap.get?_push_size _ rfl, rfl, rfl⟩ q)
  · cases r1
    obtain ⟨its, rv, p, hz⟩ := I1.tuple hq
    exact wpAny_pyIter_tuple (show s1.heap.IsTuple a its.toArray from p) (pi_one (tk := s1.toks) I1 _ (turn_tuple a _) ⟨_, Heap.get?_push_size _ rfl, rfl, rfl⟩ q)
  · obtain ⟨t, rfl⟩ := r1
    cases ha : x.cps.all (· < 128)
    · exact wpAny_pyIter_wide ha (pi_one (tk := s1.toks) I1 _ (turn_str _ x t "str_iterator" (.inr rfl)) ⟨_, Heap.get?_push_size _ rfl, rfl, rfl⟩ q)
    · exact wpAny_pyIter_ascii ha (pi_one (tk := s1.toks) I1 _ (turn_str _ x t "str_ascii_iterator" (.inl rfl)) ⟨_, Heap.get?_push_size _ rfl, rfl, rfl⟩ q)
def iZipU (K : PySem.W.Frag) (ta : TA) : TI := fun σ H R => ta σ H fun vs H1 => ∃ k1 k2 a b xs ys, vs = [.ref a, .ref b] ∧ SqK k1 K H1 a xs ∧ SqK k2 K H1 b ys ∧ R (ItzK k1 k2 K a b) H1
theorem pi_zipU {ta : TA} {p pos tpos : Pos} {elts : List Expr} {kk : Nat} (hg : Gl X "zip") (hm : X.mg "zip" = none) (ha : PA X [e, e2] ta)
    (hs : starEach [e, e2] X.env = (false, eval e X.env) :: starEach [e2] X.env := by rfl) (hpl : (backTo pos (starEach [e2] X.env)).any (·.1) = false := by rfl) (hK : X.K = K := by rfl) :
    PI X (.Tuple elts kk tpos) (.Call (.Name "zip" p) [e, e2] [] pos) (iZipU K ta) := by
  subst hK
  refine ⟨fun pins s σ H R I h => ?_⟩
  refine Call_ (ld_blt I hg hm PyProof.Rows.boot_zip (PyProof.Rows.callWith_type1 (thn (ha.run pos pins s σ H _ I h) fun us s1 hus => ?_) hs hpl))
  obtain ⟨vs, H1, I1, r1, k1, k2, a, b, xs, ys, rfl, hqx, hqy, q⟩ := hus
  obtain ⟨u1, u2, rfl, ra, rb⟩ := vals2 r1
  obtain rfl : u1 = Value.ref a := ra
  obtain rfl : u2 = Value.ref b := rb
  obtain ⟨its, rv, p1, _⟩ := InvK I1 hqx
  obtain ⟨its2, rv2, p2, _⟩ := InvK I1 hqy
  refine zip_begins2 (beginsK k1 a its.toArray) (beginsK k2 b its2.toArray) p1 p2 fun h' hz hTI hTO h1 h2 hsz hk => wpAny_pyIter_zip hz ?_
  have I2 : Inv X pins σ H1 { s1 with heap := h' } := I1.kept (t' := s1.toks) hk
  have la : a < s1.heap.objs.size := p1.lt
  have lb : b < s1.heap.objs.size := p2.lt
  have S : ZipSep2 (s1.heap.objs.size + 4) (s1.heap.objs.size + 2) (s1.heap.objs.size + 3) s1.heap.objs.size (s1.heap.objs.size + 1) (s1.heap.objs.size :: [a]) ((s1.heap.objs.size + 1) :: [b]) :=
    zip_sep2 (fun c hc => by rw [List.mem_singleton.mp hc]; exact la) (fun c hc => by rw [List.mem_singleton.mp hc]; exact lb)
  refine ⟨s1.heap.objs.size + 4, [s1.heap.objs.size + 4, s1.heap.objs.size + 2, s1.heap.objs.size + 3, s1.heap.objs.size, s1.heap.objs.size + 1], _, _, H1, rfl, I2, turn_zipK S (Nat.ne_of_lt la) (Nat.ne_of_lt (Nat.lt_succ_of_lt lb)), ⟨hz, hTI, ⟨_, _, hTO⟩, IterK.start h1, IterK.start h2⟩, fun c hc => ?_, q⟩
  have hle : s1.heap.objs.size ≤ c := by
    simp only [List.mem_cons, List.not_mem_nil, or_false] at hc
    rcases hc with rfl | rfl | rfl | rfl | rfl
    · exact Nat.le_add_right _ _
    · exact Nat.le_add_right _ _
    · exact Nat.le_add_right _ _
    · exact Nat.le_refl _
    · exact Nat.le_add_right _ _
  have := I1.fpOk (H' := H1) hle (I1.hok.fresh hle)
  exact this
def iEnumU (K : PySem.W.Frag) (ta : TA) : TI := fun σ H R => ta σ H fun vs H1 => (∃ a xs, vs = [.ref a] ∧ SqL K H1 a xs ∧ R (Ite K a) H1) ∨ (∃ a xs, vs = [.ref a] ∧ SqT K H1 a xs ∧ R (IteT K a) H1)
theorem pi_enumU {ta : TA} {p pos tpos : Pos} {elts : List Expr} {kk : Nat} (hg : Gl X "enumerate") (hm : X.mg "enumerate" = none) (ha : PA X [e] ta) (hs : starEach [e] X.env = [(false, eval e X.env)] := by rfl) (hK : X.K = K := by rfl) :
    PI X (.Tuple elts kk tpos) (.Call (.Name "enumerate" p) [e] [] pos) (iEnumU K ta) := by
  subst hK
  refine ⟨fun pins s σ H R I h => ?_⟩
  refine Call_ (ld_blt I hg hm boot_enumerate (PyProof.Rows.callWith_type1 (thn (ha.run pos pins s σ H _ I h) fun us s1 ⟨vs, H1, I1, r1, q1⟩ => ?_) hs rfl))
  rcases q1 with ⟨a, xs, ex, hq, q⟩ | ⟨a, xs, ex, hq, q⟩
  · subst ex
    cases r1 with
    | cons r rr =>
      cases rr
      cases r
      obtain ⟨its, rv, p', hz⟩ := I1.list hq
      refine call_enumerate_list p'.isList fun h' he hit hsz hk => wpAny_pyIter_enum he ?_
      have I2 : Inv X pins σ H1 { s1 with heap := h' } := I1.kept (t' := s1.toks) hk
      refine ⟨s1.heap.objs.size + 1, [s1.heap.objs.size + 1, s1.heap.objs.size], _, _, H1, rfl, I2, turn_enum a (s1.heap.objs.size + 1) s1.heap.objs.size, ⟨⟨.none, he⟩, hit, Nat.succ_ne_self _⟩, fun b hb => ?_, q⟩
      have e' : b = s1.heap.objs.size + 1 ∨ b = s1.heap.objs.size := by simpa using hb
      have hle : s1.heap.objs.size ≤ b := by
        rcases e' with z | z
        · rw [z]; exact Nat.le_add_right _ _
        · rw [z]; exact Nat.le_refl _
      exact I1.fpOk hle (I1.hok.fresh hle)
  · subst ex
    cases r1 with
    | cons r rr =>
      cases rr
      cases r
      obtain ⟨its, rv, p', hz⟩ := InvK (k := .T) I1 hq
      have hal : a < s1.heap.objs.size := HasK.lt (k := .T) p'
      refine call_enumT p' fun h' he hit hk => wpAny_pyIter_enum he ?_
      have I2 : Inv X pins σ H1 { s1 with heap := h' } := I1.kept (t' := s1.toks) hk
      refine ⟨s1.heap.objs.size + 1, [s1.heap.objs.size + 1, s1.heap.objs.size], _, _, H1, rfl, I2, turn_enumT a (s1.heap.objs.size + 1) s1.heap.objs.size (Nat.ne_of_lt hal) (Nat.ne_of_gt (Nat.lt_succ_of_lt hal)), ⟨⟨.none, he⟩, hit, Nat.succ_ne_self _⟩, fun b hb => ?_, q⟩
      have hle : s1.heap.objs.size ≤ b := by
        rcases (by simpa using hb : b = s1.heap.objs.size + 1 ∨ b = s1.heap.objs.size) with z | z
        · rw [z]; exact Nat.le_add_right _ _
        · rw [z]; exact Nat.le_refl _
      exact I1.fpOk hle (I1.hok.fresh hle)
end
/-! ### what is walked, as data -/
structure ItD (J : It) (F0 : Hp) (its : List PyData) : Prop where
  go : ∀ i H, Ex F0 H → i < its.length → J.go i H
  stop : ∀ H, Ex F0 H → J.stop its.length H
  yld : ∀ i H x H' F, Ex F0 F → Ex F H → J.yld i H x H' → i < its.length → ∃ F' y, its[i]? = some y ∧ Nw F H F' H' ∧ Rp F' x y
def DI (wi : TI) (t : TDi) : Prop := ∀ dl n σ ρ μ adr F H (Qd : List PyData → Sto → Prop) (R : It → Hp → Prop), At dl n σ ρ μ adr F H → t ρ μ Qd →
  (∀ J its μ' adr' F' H', Fr dl μ.length F H adr F' H' adr' → Sts dl μ' adr' F' H' → μ.length ≤ μ'.length → ItD J F' its → Qd its μ' → R J H') → wi σ H R
def strD (z : Str) : List PyData := z.cps.toList.map fun c => .str ⟨#[c]⟩
def enumD : Nat → List PyData → List PyData
  | _, [] => []
  | k, d :: ds => .tuple [.int k, d] :: enumD (k + 1) ds
def zipD : List PyData → List PyData → List PyData
  | a :: r, b :: s => .tuple [a, b] :: zipD r s
  | _, _ => []
def rngD (lo : Int) (n : Nat) : List PyData := (List.range n).map fun i => .int (lo + (i : Nat))
theorem enumD_len : ∀ (ds : List PyData) (k : Nat), (enumD k ds).length = ds.length
  | [], _ => rfl
  | d :: ds, k => by rw [enumD, List.length_cons, List.length_cons, enumD_len ds]
theorem enumD_get : ∀ {ds : List PyData} {k i : Nat} {d : PyData}, ds[i]? = some d → (enumD k ds)[i]? = some (.tuple [.int ((k + i : Nat) : Int), d])
  | [], _, _, _, h => by simp at h
  | d :: ds, k, 0, _, h => by cases h; rfl
  | d :: ds, k, i + 1, _, h => by
    rw [enumD, List.getElem?_cons_succ, enumD_get (k := k + 1) (i := i) (by simpa using h)]
    have : k + 1 + i = k + (i + 1) := by omega
    rw [this]
theorem zipD_len : ∀ (a b : List PyData), (zipD a b).length = min a.length b.length
  | [], _ => by simp [zipD]
  | _ :: _, [] => by simp [zipD]
  | a :: r, b :: s => by
    rw [zipD, List.length_cons, List.length_cons, List.length_cons, zipD_len r s]
    omega
theorem zipD_get : ∀ {a b : List PyData} {i : Nat} {x y : PyData}, a[i]? = some x → b[i]? = some y → (zipD a b)[i]? = some (.tuple [x, y])
  | [], _, _, _, _, h, _ => by simp at h
  | _ :: _, [], _, _, _, _, h => by simp at h
  | a :: r, b :: s, 0, _, _, h, k => by cases h; cases k; rfl
  | a :: r, b :: s, i + 1, _, _, h, k => by
    rw [zipD, List.getElem?_cons_succ]
    exact zipD_get (by simpa using h) (by simpa using k)
section
variable {K : PySem.W.Frag} {F0 : Hp} {a b : Addr} {xs ys : List V} {ds es : List PyData}
theorem itd_list (h : F0 a = some (.lst xs)) (r : RpAll F0 xs ds) : ItD (Itl K a) F0 ds := by
  refine ⟨fun i H e hi => ?_, fun H e => ⟨xs, SqL.of (e _ _ h), by rw [r.length]; exact Nat.le_refl _⟩, fun i H x H' F e1 e2 y hi => ?_⟩
  · obtain ⟨v, h1, _⟩ := r.get (List.getElem?_eq_getElem hi)
    exact ⟨xs, v, SqL.of (e _ _ h), h1⟩
  · obtain ⟨rfl, y⟩ := y
    obtain ⟨v, h1, h2⟩ := r.get (List.getElem?_eq_getElem hi)
    have := y xs (SqL.of (e2 _ _ (e1 _ _ h)))
    rw [h1] at this
    cases this
    exact ⟨F, _, List.getElem?_eq_getElem hi, Nw.refl e2, Rp.ex e1 h2⟩
theorem itd_tup (h : F0 a = some (.tup xs)) (r : RpAll F0 xs ds) : ItD (Itt K a) F0 ds := by
  refine ⟨fun i H e hi => ?_, fun H e => ⟨xs, SqT.of (e _ _ h), by rw [r.length]; exact Nat.le_refl _⟩, fun i H x H' F e1 e2 y hi => ?_⟩
  · obtain ⟨v, h1, _⟩ := r.get (List.getElem?_eq_getElem hi)
    exact ⟨xs, v, SqT.of (e _ _ h), h1⟩
  · obtain ⟨rfl, y⟩ := y
    obtain ⟨v, h1, h2⟩ := r.get (List.getElem?_eq_getElem hi)
    have := y xs (SqT.of (e2 _ _ (e1 _ _ h)))
    rw [h1] at this
    cases this
    exact ⟨F, _, List.getElem?_eq_getElem hi, Nw.refl e2, Rp.ex e1 h2⟩
theorem itd_str (z : Str) : ItD (Its z) F0 (strD z) := by
  have l : (strD z).length = z.cps.size := by unfold strD; rw [List.length_map, Array.length_toList]
  refine ⟨fun i H e hi => by rw [l] at hi; exact hi, fun H e => by rw [l]; exact Nat.le_refl _, fun i H x H' F e1 e2 y hi => ?_⟩
  obtain ⟨rfl, c, hc, rfl⟩ := y
  refine ⟨F, .str ⟨#[c]⟩, ?_, Nw.refl e2, .str _⟩
  unfold strD
  rw [List.getElem?_map, Array.getElem?_toList, hc]
  rfl
theorem itd_rng (lo : Int) (n : Nat) : ItD (Itr lo n) F0 (rngD lo n) := by
  have l : (rngD lo n).length = n := by unfold rngD; rw [List.length_map, List.length_range]
  refine ⟨fun i H e hi => by rw [l] at hi; exact hi, fun H e => by rw [l]; exact Nat.le_refl _, fun i H x H' F e1 e2 y hi => ?_⟩
  obtain ⟨rfl, rfl⟩ := y
  rw [l] at hi
  refine ⟨F, _, ?_, Nw.refl e2, .int _⟩
  unfold rngD
  rw [List.getElem?_map, List.getElem?_range hi]
  rfl
def rngC (lo c : Int) (n : Nat) : List PyData := (List.range n).map fun i => .int (lo + (i : Nat) * c)
theorem itd_rngC (lo c : Int) (n : Nat) : ItD (Itc lo c n) F0 (rngC lo c n) := by
  have l : (rngC lo c n).length = n := by unfold rngC; rw [List.length_map, List.length_range]
  refine ⟨fun i H e hi => by rw [l] at hi; exact hi, fun H e => by rw [l]; exact Nat.le_refl _, fun i H x H' F e1 e2 y hi => ?_⟩
  obtain ⟨rfl, rfl⟩ := y
  rw [l] at hi
  refine ⟨F, _, ?_, Nw.refl e2, .int _⟩
  unfold rngC
  rw [List.getElem?_map, List.getElem?_range hi]
  rfl
/-- a list or a tuple, frozen -/
def FzK (k : SK) (F : Hp) (a : Addr) (xs : List V) : Prop := match k with | .L => F a = some (.lst xs) | .T => F a = some (.tup xs)
theorem FzK.sq {k : SK} {F H : Hp} (h : FzK k F a xs) (e : Ex F H) : SqK k K H a xs := by
  cases k with
  | L => exact SqL.of (e _ _ h)
  | T => exact SqT.of (e _ _ h)
theorem itd_zip {k1 k2 : SK} (h1 : FzK k1 F0 a xs) (r1 : RpAll F0 xs ds) (h2 : FzK k2 F0 b ys) (r2 : RpAll F0 ys es) : ItD (ItzK k1 k2 K a b) F0 (zipD ds es) := by
  have l := zipD_len ds es
  have l1 := r1.length
  have l2 := r2.length
  refine ⟨fun i H e hi => ?_, fun H e => ⟨xs, ys, h1.sq e, h2.sq e, by omega, by omega, by omega⟩, fun i H x H' F e1 e2 y hi => ?_⟩
  · obtain ⟨v, q1, _⟩ := r1.get (i := i) (List.getElem?_eq_getElem (by omega))
    obtain ⟨w, q2, _⟩ := r2.get (i := i) (List.getElem?_eq_getElem (by omega))
    exact ⟨xs, ys, v, w, h1.sq e, h2.sq e, q1, q2⟩
  · obtain ⟨T, x1, y1, rfl, nT, rfl, z1, z2⟩ := y
    have g1 : ds[i]? = some ds[i] := List.getElem?_eq_getElem (by omega)
    have g2 : es[i]? = some es[i] := List.getElem?_eq_getElem (by omega)
    obtain ⟨v, q1, p1⟩ := r1.get g1
    obtain ⟨w, q2, p2⟩ := r2.get g2
    have w1 := z1 xs (h1.sq (e1.trans e2))
    have w2 := z2 ys (h2.sq (e1.trans e2))
    rw [q1] at w1
    rw [q2] at w2
    cases w1
    cases w2
    have nf := sub_none e2 nT
    have up := e1.trans (Evl.Ex.new (o := HO.tup [x1, y1]) nf)
    exact ⟨_, _, zipD_get g1 g2, Nw.new e2 nT, .tup upd_same (.cons (Rp.ex up p1) (.cons (Rp.ex up p2) .nil))⟩
theorem itd_enumL (h1 : F0 a = some (.lst xs)) (r1 : RpAll F0 xs ds) : ItD (Ite K a) F0 (enumD 0 ds) := by
  have l := enumD_len ds 0
  have l1 := r1.length
  refine ⟨fun i H e hi => ?_, fun H e => ⟨xs, SqL.of (e _ _ h1), by omega⟩, fun i H x H' F e1 e2 y hi => ?_⟩
  · obtain ⟨v, q1, _⟩ := r1.get (i := i) (List.getElem?_eq_getElem (by omega))
    exact ⟨xs, v, SqL.of (e _ _ h1), q1⟩
  · obtain ⟨T, x1, rfl, nT, rfl, z1⟩ := y
    have g1 : ds[i]? = some ds[i] := List.getElem?_eq_getElem (by omega)
    obtain ⟨v, q1, p1⟩ := r1.get g1
    have w1 := z1 xs (SqL.of (e2 _ _ (e1 _ _ h1)))
    rw [q1] at w1
    cases w1
    have nf := sub_none e2 nT
    have up := e1.trans (Evl.Ex.new (o := HO.tup [.int (i : Nat), x1]) nf)
    have := enumD_get (k := 0) g1
    rw [Nat.zero_add] at this
    exact ⟨_, _, this, Nw.new e2 nT, .tup upd_same (.cons (.int _) (.cons (Rp.ex up p1) .nil))⟩
theorem itd_enumT (h1 : F0 a = some (.tup xs)) (r1 : RpAll F0 xs ds) : ItD (IteT K a) F0 (enumD 0 ds) := by
  have l := enumD_len ds 0
  have l1 := r1.length
  refine ⟨fun i H e hi => ?_, fun H e => ⟨xs, SqT.of (e _ _ h1), by omega⟩, fun i H x H' F e1 e2 y hi => ?_⟩
  · obtain ⟨v, q1, _⟩ := r1.get (i := i) (List.getElem?_eq_getElem (by omega))
    exact ⟨xs, v, SqT.of (e _ _ h1), q1⟩
  · obtain ⟨T, x1, rfl, nT, rfl, z1⟩ := y
    have g1 : ds[i]? = some ds[i] := List.getElem?_eq_getElem (by omega)
    obtain ⟨v, q1, p1⟩ := r1.get g1
    have w1 := z1 xs (SqT.of (e2 _ _ (e1 _ _ h1)))
    rw [q1] at w1
    cases w1
    have nf := sub_none e2 nT
    have up := e1.trans (Evl.Ex.new (o := HO.tup [.int (i : Nat), x1]) nf)
    have := enumD_get (k := 0) g1
    rw [Nat.zero_add] at this
    exact ⟨_, _, this, Nw.new e2 nT, .tup upd_same (.cons (.int _) (.cons (Rp.ex up p1) .nil))⟩
end
section
variable {K : PySem.W.Frag} {ta tb tc : TE} {t1 t2 t3 : TD} {m : Nat} {ua : TA} {u : TDa}
def items : PyData → Option (List PyData)
  | .list ds => some ds
  | .tuple ds => some ds
  | .str z => some (strD z)
  | _ => none
def dSeq (t : TD) : TDi := fun ρ μ Q => t ρ μ fun x μ1 => frz x μ1 fun y μ2 => match items y with
  | some ds => Q ds μ2
  | none => False
theorem fzk_of {F : Hp} {v : V} {y : PyData} {ds : List PyData} (r : Rp F v y) (h : y = .list ds ∨ y = .tuple ds) : ∃ k a xs, v = .ref a ∧ FzK k F a xs ∧ RpAll F xs ds := by
  rcases h with rfl | rfl
  · cases r with | lst h1 h2 => exact ⟨.L, _, _, rfl, h1, h2⟩
  · cases r with | tup h1 h2 => exact ⟨.T, _, _, rfl, h1, h2⟩
theorem di_seq (ha : DE ta t1) : DI (iSeqU K ta) (dSeq t1) := by
  intro dl n σ ρ μ adr F H Qd R a h c
  refine ha dl n σ ρ μ adr F H _ _ a h fun v1 x1 μ1 adr1 F1 H1 f1 s1 l1 r1 n1 m1 h1 => ?_
  obtain ⟨y, μ2, adr2, F2, f2, s2, l2, r2, h2⟩ := frz_ok s1 r1 l1 m1 h1
  have fa := f1.trans f2 (Nat.le_refl _)
  cases y with
  | list ds => cases r2 with | lst q1 q2 => exact .inl ⟨_, _, rfl, SqL.of (s2.ex _ _ q1), c _ ds μ2 adr2 F2 H1 fa s2 l2 (itd_list q1 q2) h2⟩
  | tuple ds => cases r2 with | tup q1 q2 => exact .inr (.inl ⟨_, _, rfl, SqT.of (s2.ex _ _ q1), c _ ds μ2 adr2 F2 H1 fa s2 l2 (itd_tup q1 q2) h2⟩)
  | str z => cases r2; exact .inr (.inr ⟨_, rfl, c _ (strD z) μ2 adr2 F2 H1 fa s2 l2 (itd_str z) h2⟩)
  | none => exact h2.elim
  | bool _ => exact h2.elim
  | int _ => exact h2.elim
  | dict _ => exact h2.elim
/-- lists or tuples alone -/
def seqs : PyData → Option (List PyData)
  | .list ds => some ds
  | .tuple ds => some ds
  | _ => none
theorem seqs_inv {y : PyData} {ds : List PyData} (h : seqs y = some ds) : y = .list ds ∨ y = .tuple ds := by
  cases y <;> first | (cases h; exact .inl rfl) | (cases h; exact .inr rfl) | cases h
def dEnum (u : TDa) : TDi := fun ρ μ Q => u ρ μ fun xs μ1 => frzA xs μ1 fun ys μ2 => match ys with
  | [y] => match seqs y with
    | some ds => Q (enumD 0 ds) μ2
    | none => False
  | _ => False
theorem di_enum (ha : DA 1 ua u) : DI (iEnumU K ua) (dEnum u) := by
  intro dl n σ ρ μ adr F H Qd R a h c
  refine ha dl n σ ρ μ adr F H _ _ a h fun vs xs μ1 adr1 F1 H1 f1 s1 l1 r1 n1 o1 e1 h1 => ?_
  obtain ⟨ys, μ2, adr2, F2, f2, s2, l2, r2, h2⟩ := frzA_ok s1 r1 l1 o1 h1
  have fa := f1.trans f2 (Nat.le_refl _)
  split at h2
  · split at h2
    · rename_i y ds e
      cases r2 with
      | cons q1 q2 =>
        cases q2
        rcases seqs_inv e with rfl | rfl
        · cases q1 with | lst z1 z2 => exact .inl ⟨_, _, rfl, SqL.of (s2.ex _ _ z1), c _ _ μ2 adr2 F2 H1 fa s2 l2 (itd_enumL z1 z2) h2⟩
        · cases q1 with | tup z1 z2 => exact .inr ⟨_, _, rfl, SqT.of (s2.ex _ _ z1), c _ _ μ2 adr2 F2 H1 fa s2 l2 (itd_enumT z1 z2) h2⟩
    · exact h2.elim
  · exact h2.elim
def dZip (u : TDa) : TDi := fun ρ μ Q => u ρ μ fun xs μ1 => frzA xs μ1 fun ys μ2 => match ys with
  | [y, z] => match seqs y, seqs z with
    | some ds, some es => Q (zipD ds es) μ2
    | _, _ => False
  | _ => False
theorem di_zip (ha : DA 2 ua u) : DI (iZipU K ua) (dZip u) := by
  intro dl n σ ρ μ adr F H Qd R a h c
  refine ha dl n σ ρ μ adr F H _ _ a h fun vs xs μ1 adr1 F1 H1 f1 s1 l1 r1 n1 o1 e1 h1 => ?_
  obtain ⟨ys, μ2, adr2, F2, f2, s2, l2, r2, h2⟩ := frzA_ok s1 r1 l1 o1 h1
  have fa := f1.trans f2 (Nat.le_refl _)
  split at h2
  · split at h2
    · rename_i y z ds es e e'
      cases r2 with
      | cons q1 q2 =>
        cases q2 with
        | cons q2 q3 =>
          cases q3
          obtain ⟨k1, a1, xs1, rfl, z1, z2⟩ := fzk_of q1 (seqs_inv e)
          obtain ⟨k2, a2, xs2, rfl, w1, w2⟩ := fzk_of q2 (seqs_inv e')
          exact ⟨k1, k2, a1, a2, xs1, xs2, rfl, z1.sq s2.ex, w1.sq s2.ex, c _ _ μ2 adr2 F2 H1 fa s2 l2 (itd_zip z1 z2 w1 w2) h2⟩
    · exact h2.elim
  · exact h2.elim
/-- range of one, two, three numbers -/
def dRng1 (u : TDa) : TDi := fun ρ μ Q => u ρ μ fun xs μ1 => match xs with
  | [.d (.int j)] => (-1000000 ≤ j ∧ j ≤ 1000000) ∧ Q (rngD 0 j.toNat) μ1
  | _ => False
def dRng2 (u : TDa) : TDi := fun ρ μ Q => u ρ μ fun xs μ1 => match xs with
  | [.d (.int i), .d (.int j)] => (-1000000 ≤ i ∧ i ≤ 1000000 ∧ -1000000 ≤ j ∧ j ≤ 1000000) ∧ Q (rngD i (j - i).toNat) μ1
  | _ => False
/-- range(i, j, -1) -/
def dRng3 (u : TDa) : TDi := fun ρ μ Q => u ρ μ fun xs μ1 => match xs with
  | [.d (.int i), .d (.int j), .d (.int c)] => (-1000000 ≤ i ∧ i ≤ 1000000 ∧ -1000000 ≤ j ∧ j ≤ 1000000 ∧ c = -1) ∧ Q (rngC i (-1) (i - j).toNat) μ1
  | _ => False
theorem e62 : (2 : Int) ^ 62 = 4611686018427387904 := by decide
theorem di_rng1 (ha : DA 1 ua u) : DI (iRng1 ua) (dRng1 u) := by
  intro dl n σ ρ μ adr F H Qd R a h c
  refine ha dl n σ ρ μ adr F H _ _ a h fun vs xs μ1 adr1 F1 H1 f1 s1 l1 r1 n1 o1 e1 h1 => ?_
  split at h1
  · cases r1 with
    | cons q1 q2 =>
      cases q1
      cases q2
      exact ⟨_, rfl, by rw [e62]; omega, by rw [e62]; omega, c _ _ μ1 adr1 F1 H1 f1 s1 l1 (itd_rng _ _) h1.2⟩
  · exact h1.elim
theorem di_rng2 (ha : DA 2 ua u) : DI (iRng2 ua) (dRng2 u) := by
  intro dl n σ ρ μ adr F H Qd R a h c
  refine ha dl n σ ρ μ adr F H _ _ a h fun vs xs μ1 adr1 F1 H1 f1 s1 l1 r1 n1 o1 e1 h1 => ?_
  split at h1
  · cases r1 with
    | cons q1 q2 =>
      cases q2 with
      | cons q2 q3 =>
        cases q1
        cases q2
        cases q3
        exact ⟨_, _, rfl, by rw [e62]; omega, c _ _ μ1 adr1 F1 H1 f1 s1 l1 (itd_rng _ _) h1.2⟩
  · exact h1.elim
theorem di_rng3 (ha : DA 3 ua u) : DI (iRng3 ua) (dRng3 u) := by
  intro dl n σ ρ μ adr F H Qd R a h c
  refine ha dl n σ ρ μ adr F H _ _ a h fun vs xs μ1 adr1 F1 H1 f1 s1 l1 r1 n1 o1 e1 h1 => ?_
  split at h1
  · obtain ⟨⟨i0, i1, j0, j1, rfl⟩, h1⟩ := h1
    cases r1 with
    | cons q1 q2 =>
      cases q2 with
      | cons q2 q3 =>
        cases q3 with
        | cons q3 q4 =>
          cases q1
          cases q2
          cases q3
          cases q4
          exact ⟨_, _, _, _, rfl, RgC.neg (by rw [e62]; omega) (by rw [e62]; omega) (by rw [e62]; omega) (by rw [e62]; omega), c _ _ μ1 adr1 F1 H1 f1 s1 l1 (itd_rngC _ _ _) h1⟩
  · exact h1.elim
end
end DL

set_option Elab.async false
set_option linter.all false
set_option maxRecDepth 100000
set_option maxHeartbeats 4000000
/-! The data layer: targets, comprehensions, calls of one's own defs. -/
namespace DL
open PySem PySem.Spec PyProof.Rows L2 CB

/-! ### targets -/
abbrev TDg := PyData → DEnv → (DEnv → Prop) → Prop
def DG (vs : List Nat) (g : TG) (t : TDg) : Prop := ∀ dl adr F H σ ρ v y (Qd : DEnv → Prop) (Q : L2.St → Hp → Prop), Ex F H → Slo dl adr F σ ρ → Rp F v y → t y ρ Qd →
  (∀ σ' ρ', Slo dl adr F σ' ρ' → (∀ n, SB ρ n → SB ρ' n) → (∀ i, i ∉ vs → σ'[i]? = σ[i]?) → σ'.length = σ.length → Qd ρ' → Q σ' H) → g v σ H Q
section
variable {dl : Option (Addr × Addr)} {adr : List Addr} {F : Hp} {σ : L2.St} {ρ : DEnv} {v : V} {x : SV}
theorem Slo.set (s : Slo dl adr F σ ρ) (i : Nat) (r : SvR dl adr F v x) : Slo dl adr F (σ.set i (some v)) (ρ.set i (some x)) := by
  refine ⟨by rw [List.length_set, List.length_set]; exact s.1, fun j y e => ?_⟩
  by_cases h : i = j
  · subst h
    have hl := (List.getElem?_eq_some_iff.mp e).1
    rw [List.length_set] at hl
    rw [List.getElem?_set_self hl] at e
    cases e
    exact ⟨v, List.getElem?_set_self (by rw [← s.1]; exact hl), r⟩
  · rw [List.getElem?_set_ne h] at e ⊢
    exact s.2 j y e
theorem SB.set {n : Nat} (b : SB ρ n) (i : Nat) (h : ∀ k, x = .r k → k < n) (h2 : ∀ k, x ≠ .t k) : SB (ρ.set i (some x)) n := by
  intro j y e
  by_cases hij : i = j
  · subst hij
    have hl := (List.getElem?_eq_some_iff.mp e).1
    rw [List.length_set] at hl
    rw [List.getElem?_set_self hl] at e
    cases e
    exact ⟨h, h2⟩
  · rw [List.getElem?_set_ne hij] at e
    exact b j y e
end
def dgName (i : Nat) : TDg := fun y ρ Q => Q (setAt i (some (.d y)) ρ)
theorem dg_name (i : Nat) : DG [i] (gName i) (dgName i) := by
  intro dl adr F H σ ρ v y Qd Q e s r h c
  unfold dgName at h
  rw [setAt_eq] at h
  refine c _ _ (s.set i (x := .d y) r) (fun n b => b.set i (fun _ z => by cases z) (fun _ z => by cases z)) (fun j hj => ?_) (by rw [List.length_set]) h
  rw [List.getElem?_set_ne (fun z => hj (by rw [z]; exact List.mem_singleton.mpr rfl))]
section
variable {K : PySem.W.Frag} {va vb vc vd ve : List Nat} {g1 g2 g3 g4 g5 : TG} {t1 t2 t3 t4 t5 : TDg}
theorem DG.two (h1 : DG va g1 t1) (h2 : DG vb g2 t2) : ∀ dl adr F H σ ρ v y w z (Qd : DEnv → Prop) (Q : L2.St → Hp → Prop), Ex F H → Slo dl adr F σ ρ → Rp F v y → Rp F w z → (t1 y ρ fun ρ1 => t2 z ρ1 Qd) →
    (∀ σ' ρ', Slo dl adr F σ' ρ' → (∀ n, SB ρ n → SB ρ' n) → (∀ i, i ∉ va ++ vb → σ'[i]? = σ[i]?) → σ'.length = σ.length → Qd ρ' → Q σ' H) → g1 v σ H fun σ1 H1 => g2 w σ1 H1 Q := by
  intro dl adr F H σ ρ v y w z Qd Q e s r r' h c
  refine h1 dl adr F H σ ρ v y _ _ e s r h fun σ1 ρ1 s1 b1 k1 l1 q1 => ?_
  refine h2 dl adr F H σ1 ρ1 w z _ _ e s1 r' q1 fun σ2 ρ2 s2 b2 k2 l2 q2 => ?_
  exact c σ2 ρ2 s2 (fun n b => b2 n (b1 n b)) (fun i hi => (k2 i (fun z => hi (List.mem_append.mpr (.inr z)))).trans (k1 i (fun z => hi (List.mem_append.mpr (.inl z))))) (l2.trans l1) q2
def dgTup2 (t1 t2 : TDg) : TDg := fun y ρ Q => match y with
  | .tuple [a, b] => t1 a ρ fun ρ1 => t2 b ρ1 Q
  | _ => False
def dgTup3 (t1 t2 t3 : TDg) : TDg := fun y ρ Q => match y with
  | .tuple [a, b, c] => t1 a ρ fun ρ1 => t2 b ρ1 fun ρ2 => t3 c ρ2 Q
  | _ => False
def dgTup4 (t1 t2 t3 t4 : TDg) : TDg := fun y ρ Q => match y with
  | .tuple [a, b, c, d] => t1 a ρ fun ρ1 => t2 b ρ1 fun ρ2 => t3 c ρ2 fun ρ3 => t4 d ρ3 Q
  | _ => False
theorem dg_tup2 (h1 : DG va g1 t1) (h2 : DG vb g2 t2) : DG (va ++ vb) (L2.gTup K 2 (gCons g1 (gCons g2 gNil))) (dgTup2 t1 t2) := by
  intro dl adr F H σ ρ v y Qd Q e s r h c
  unfold dgTup2 at h
  split at h
  · cases r with
    | tup q1 q2 =>
      cases q2 with
      | cons ra q2 =>
        cases q2 with
        | cons rb q2 =>
          cases q2
          refine ⟨_, _, rfl, SqT.of (e _ _ q1), rfl, _, _, rfl, ?_⟩
          refine h1 dl adr F H σ ρ _ _ _ _ e s ra h fun σ1 ρ1 s1 b1 k1 l1 q1 => ⟨_, _, rfl, ?_⟩
          refine h2 dl adr F H σ1 ρ1 _ _ _ _ e s1 rb q1 fun σ2 ρ2 s2 b2 k2 l2 q2 => ⟨rfl, ?_⟩
          exact c σ2 ρ2 s2 (fun n b => b2 n (b1 n b)) (fun i hi => (k2 i (fun z => hi (List.mem_append.mpr (.inr z)))).trans (k1 i (fun z => hi (List.mem_append.mpr (.inl z))))) (l2.trans l1) q2
  · exact h.elim
theorem dg_tup3 (h1 : DG va g1 t1) (h2 : DG vb g2 t2) (h3 : DG vc g3 t3) : DG (va ++ (vb ++ vc)) (L2.gTup K 3 (gCons g1 (gCons g2 (gCons g3 gNil)))) (dgTup3 t1 t2 t3) := by
  intro dl adr F H σ ρ v y Qd Q e s r h c
  unfold dgTup3 at h
  split at h
  · cases r with
    | tup q1 q2 =>
      cases q2 with
      | cons ra q2 =>
        cases q2 with
        | cons rb q2 =>
          cases q2 with
          | cons rc q2 =>
            cases q2
            refine ⟨_, _, rfl, SqT.of (e _ _ q1), rfl, _, _, rfl, ?_⟩
            refine h1 dl adr F H σ ρ _ _ _ _ e s ra h fun σ1 ρ1 s1 b1 k1 l1 q1 => ⟨_, _, rfl, ?_⟩
            refine h2 dl adr F H σ1 ρ1 _ _ _ _ e s1 rb q1 fun σ2 ρ2 s2 b2 k2 l2 q2 => ⟨_, _, rfl, ?_⟩
            refine h3 dl adr F H σ2 ρ2 _ _ _ _ e s2 rc q2 fun σ3 ρ3 s3 b3 k3 l3 q3 => ⟨rfl, ?_⟩
            refine c σ3 ρ3 s3 (fun n b => b3 n (b2 n (b1 n b))) (fun i hi => ?_) ((l3.trans l2).trans l1) q3
            simp only [List.mem_append, not_or] at hi
            exact ((k3 i hi.2.2).trans (k2 i hi.2.1)).trans (k1 i hi.1)
  · exact h.elim
theorem dg_tup4 (h1 : DG va g1 t1) (h2 : DG vb g2 t2) (h3 : DG vc g3 t3) (h4 : DG vd g4 t4) : DG (va ++ (vb ++ (vc ++ vd))) (L2.gTup K 4 (gCons g1 (gCons g2 (gCons g3 (gCons g4 gNil))))) (dgTup4 t1 t2 t3 t4) := by
  intro dl adr F H σ ρ v y Qd Q e s r h c
  unfold dgTup4 at h
  split at h
  · cases r with
    | tup q1 q2 =>
      cases q2 with
      | cons ra q2 =>
        cases q2 with
        | cons rb q2 =>
          cases q2 with
          | cons rc q2 =>
            cases q2 with
            | cons rd q2 =>
              cases q2
              refine ⟨_, _, rfl, SqT.of (e _ _ q1), rfl, _, _, rfl, ?_⟩
              refine h1 dl adr F H σ ρ _ _ _ _ e s ra h fun σ1 ρ1 s1 b1 k1 l1 q1 => ⟨_, _, rfl, ?_⟩
              refine h2 dl adr F H σ1 ρ1 _ _ _ _ e s1 rb q1 fun σ2 ρ2 s2 b2 k2 l2 q2 => ⟨_, _, rfl, ?_⟩
              refine h3 dl adr F H σ2 ρ2 _ _ _ _ e s2 rc q2 fun σ3 ρ3 s3 b3 k3 l3 q3 => ⟨_, _, rfl, ?_⟩
              refine h4 dl adr F H σ3 ρ3 _ _ _ _ e s3 rd q3 fun σ4 ρ4 s4 b4 k4 l4 q4 => ⟨rfl, ?_⟩
              refine c σ4 ρ4 s4 (fun n b => b4 n (b3 n (b2 n (b1 n b)))) (fun i hi => ?_) (((l4.trans l3).trans l2).trans l1) q4
              simp only [List.mem_append, not_or] at hi
              exact (((k4 i hi.2.2.2).trans (k3 i hi.2.2.1)).trans (k2 i hi.2.1)).trans (k1 i hi.1)
  · exact h.elim
end
/-! ### less is known: objects go, become data, names are forgotten -/
inductive Wk : Sto → Sto → Prop
  | nil {μ : Sto} : Wk μ []
  | cons {o : OV} {μ μ' : Sto} : Wk μ μ' → Wk (o :: μ) (o :: μ')
  | gone {o : OV} {μ μ' : Sto} : Wk μ μ' → Wk (o :: μ) (.gone :: μ')
  | fz {ds : List PyData} {μ μ' : Sto} : Wk μ μ' → Wk (.lst ds :: μ) (.fz (.list ds) :: μ')
theorem Wk.refl : ∀ μ : Sto, Wk μ μ
  | [] => .nil
  | o :: μ => .cons (Wk.refl μ)
theorem Wk.len {μ μ' : Sto} (w : Wk μ μ') : μ'.length ≤ μ.length := by
  induction w with
  | nil => exact Nat.zero_le _
  | _ _ ih => rw [List.length_cons, List.length_cons]; omega
section
variable {dl : Option (Addr × Addr)} {n : Nat} {F H : Hp} {adr : List Addr} {μ μ' : Sto}
/-- the store as a list of pairs: freeze what is to be frozen -/
theorem wk_obs (w : Wk μ μ') : ∀ {adr : List Addr} {F : Hp}, Ex F H → adr.length = μ.length → adr.Nodup → (∀ (k : Nat) (a : Addr) (o : OV), adr[k]? = some a → μ[k]? = some o → ObR F H a o) →
    ∃ F', Ex F F' ∧ Ex F' H ∧ (∀ a, F a = none → a ∉ adr → F' a = none) ∧ (∀ (k : Nat) (a : Addr) (o : OV), (adr.take μ'.length)[k]? = some a → μ'[k]? = some o → ObR F' H a o) := by
  induction w with
  | nil => intro adr F e l nd ob; exact ⟨F, fun _ _ e => e, e, fun _ e _ => e, fun k a o _ e => by simp at e⟩
  | cons w ih =>
    intro adr F e l nd ob
    cases adr with
    | nil => cases l
    | cons b adr =>
      rename_i o0 μ0 μ1
      obtain ⟨nb, nd⟩ := List.nodup_cons.mp nd
      obtain ⟨F', e1, e2, e3, e4⟩ := ih e (by simpa using l) nd (fun k a o h1 h2 => ob (k + 1) a o (by simpa using h1) (by simpa using h2))
      refine ⟨F', e1, e2, fun a h1 h2 => e3 a h1 (fun z => h2 (List.mem_cons_of_mem _ z)), fun k a o h1 h2 => ?_⟩
      cases k with
      | zero =>
        rw [List.length_cons, List.take_succ_cons] at h1
        cases h1
        cases h2
        have := ob 0 b o0 rfl rfl
        cases o0 with
        | lst ds => obtain ⟨f, xs, h, r⟩ := this; exact ⟨e3 b f nb, xs, h, r.ex e1⟩
        | dT es => obtain ⟨f, xs, h, r⟩ := this; exact ⟨e3 b f nb, xs, h, r.ex e1⟩
        | dK es => obtain ⟨f, xs, h, r⟩ := this; exact ⟨e3 b f nb, xs, h, r.ex e1⟩
        | fz x => exact Rp.ex e1 this
        | gone => trivial
      | succ k =>
        rw [List.length_cons, List.take_succ_cons] at h1
        exact e4 k a o (by simpa using h1) (by simpa using h2)
  | gone w ih =>
    intro adr F e l nd ob
    cases adr with
    | nil => cases l
    | cons b adr =>
      obtain ⟨nb, nd⟩ := List.nodup_cons.mp nd
      obtain ⟨F', e1, e2, e3, e4⟩ := ih e (by simpa using l) nd (fun k a o h1 h2 => ob (k + 1) a o (by simpa using h1) (by simpa using h2))
      refine ⟨F', e1, e2, fun a h1 h2 => e3 a h1 (fun z => h2 (List.mem_cons_of_mem _ z)), fun k a o h1 h2 => ?_⟩
      cases k with
      | zero => cases h2; trivial
      | succ k =>
        rw [List.length_cons, List.take_succ_cons] at h1
        exact e4 k a o (by simpa using h1) (by simpa using h2)
  | fz w ih =>
    intro adr F e l nd ob
    cases adr with
    | nil => cases l
    | cons b adr =>
      rename_i ds μ0 μ1
      obtain ⟨nb, nd⟩ := List.nodup_cons.mp nd
      obtain ⟨F', e1, e2, e3, e4⟩ := ih e (by simpa using l) nd (fun k a o h1 h2 => ob (k + 1) a o (by simpa using h1) (by simpa using h2))
      obtain ⟨f, xs, hb, r⟩ := ob 0 b _ rfl rfl
      have fb := e3 b f nb
      have up := Evl.Ex.new (o := HO.lst xs) fb
      refine ⟨upd F' b (.lst xs), e1.trans up, fun a u h => ?_, fun a h1 h2 => ?_, fun k a o h1 h2 => ?_⟩
      · by_cases z : a = b
        · subst z; rw [upd_same] at h; cases h; exact hb
        · rw [upd_ne z] at h; exact e2 a u h
      · rw [upd_ne (fun z => h2 (by rw [z]; exact List.mem_cons_self))]
        exact e3 a h1 (fun z => h2 (List.mem_cons_of_mem _ z))
      · cases k with
        | zero =>
          rw [List.length_cons, List.take_succ_cons] at h1
          cases h1
          cases h2
          exact .lst upd_same (r.ex (e1.trans up))
        | succ k =>
          rw [List.length_cons, List.take_succ_cons] at h1
          have h1' : (adr.take μ1.length)[k]? = some a := by simpa using h1
          have ne : a ≠ b := fun z => nb (by rw [← z]; exact List.mem_of_mem_take (List.mem_of_getElem? h1'))
          have hx := e4 k a o h1' (by simpa using h2)
          cases o with
          | lst ds => obtain ⟨f, xs, h, r⟩ := hx; exact ⟨by rw [upd_ne ne]; exact f, xs, h, r.ex up⟩
          | dT es => obtain ⟨f, xs, h, r⟩ := hx; exact ⟨by rw [upd_ne ne]; exact f, xs, h, r.ex up⟩
          | dK es => obtain ⟨f, xs, h, r⟩ := hx; exact ⟨by rw [upd_ne ne]; exact f, xs, h, r.ex up⟩
          | fz x => exact Rp.ex up hx
          | gone => trivial
theorem Sts.wk (s : Sts dl μ adr F H) (w : Wk μ μ') : ∃ F', Fr dl μ'.length F H adr F' H (adr.take μ'.length) ∧ Sts dl μ' (adr.take μ'.length) F' H := by
  obtain ⟨F', e1, e2, e3, e4⟩ := wk_obs w s.ex s.len s.nd s.obs
  refine ⟨F', ⟨e1, fun _ _ _ _ e => e, fun a h1 _ _ h2 => e3 a h1 h2, fun _ e => e, fun _ _ e => .inr e, fun k hk => by rw [List.getElem?_take_of_lt hk], fun a h => .inl (List.mem_of_mem_take h)⟩, e2, ?_, e4, (List.take_sublist _ adr).nodup s.nd, fun a h => s.al a (List.mem_of_mem_take h), fun d l h => ?_⟩
  · rw [List.length_take, s.len]
    have := w.len
    omega
  · obtain ⟨D, f1, f2, n1, n2⟩ := s.dl d l h
    exact ⟨D, e3 d f1 n1, e3 l f2 n2, fun z => n1 (List.mem_of_mem_take z), fun z => n2 (List.mem_of_mem_take z)⟩
end
/-! ### comprehensions -/
def wipeD (ρ : DEnv) : List Nat → DEnv
  | [] => ρ
  | v :: vs => setAt v none (wipeD ρ vs)
theorem wipeD_some {ρ : DEnv} {i : Nat} {x : SV} : ∀ {vs : List Nat}, (wipeD ρ vs)[i]? = some (some x) → ρ[i]? = some (some x) ∧ i ∉ vs
  | [], h => ⟨h, fun z => by cases z⟩
  | v :: vs, h => by
    unfold wipeD at h
    rw [setAt_eq] at h
    by_cases e : v = i
    · subst e
      have hl := (List.getElem?_eq_some_iff.mp h).1
      rw [List.length_set] at hl
      rw [List.getElem?_set_self hl] at h
      cases h
    · rw [List.getElem?_set_ne e] at h
      obtain ⟨h1, h2⟩ := wipeD_some h
      exact ⟨h1, fun z => by
        rcases List.mem_cons.mp z with z | z
        · exact e z.symm
        · exact h2 z⟩
theorem wipeD_len (ρ : DEnv) : ∀ vs : List Nat, (wipeD ρ vs).length = ρ.length
  | [] => rfl
  | v :: vs => by unfold wipeD; rw [setAt_eq, List.length_set, wipeD_len ρ vs]
theorem wipe_get {σ : L2.St} {i : Nat} : ∀ {vs : List Nat}, i ∉ vs → (wipe σ vs)[i]? = σ[i]?
  | [], _ => rfl
  | v :: vs, h => by
    unfold wipe
    rw [List.getElem?_set_ne (fun z => h (by rw [z]; exact List.mem_cons_self)), wipe_get (fun z => h (List.mem_cons_of_mem _ z))]
theorem wipe_in {σ : L2.St} {i : Nat} : ∀ {vs : List Nat}, i ∈ vs → i < σ.length → (wipe σ vs)[i]? = some none
  | v :: vs, h, hl => by
    unfold wipe
    by_cases e : v = i
    · subst e
      rw [List.getElem?_set_self (by rw [wipe_length]; exact hl)]
    · rw [List.getElem?_set_ne e]
      rcases List.mem_cons.mp h with h | h
      · exact absurd h.symm e
      · exact wipe_in h hl
theorem wipe_same {σ σ' : L2.St} {vs : List Nat} (hl : σ'.length = σ.length) (h : ∀ i, i ∉ vs → σ'[i]? = σ[i]?) : wipe σ' vs = wipe σ vs := by
  refine List.ext_getElem? fun i => ?_
  by_cases hi : i < σ.length
  · by_cases hv : i ∈ vs
    · rw [wipe_in hv hi, wipe_in hv (by rw [hl]; exact hi)]
    · rw [wipe_get hv, wipe_get hv, h i hv]
  · rw [List.getElem?_eq_none (by rw [wipe_length]; omega), List.getElem?_eq_none (by rw [wipe_length]; omega)]
theorem wipe_wipe {σ : L2.St} {vs : List Nat} : wipe (wipe σ vs) vs = wipe σ vs := wipe_same (wipe_length σ vs) fun i hi => wipe_get hi
theorem Slo.wipe {dl : Option (Addr × Addr)} {adr : List Addr} {F : Hp} {σ : L2.St} {ρ : DEnv} (s : Slo dl adr F σ ρ) (vs : List Nat) : Slo dl adr F (L2.wipe σ vs) (wipeD ρ vs) :=
  ⟨by rw [wipe_length, wipeD_len]; exact s.1, fun i x e => by
    obtain ⟨h1, h2⟩ := wipeD_some e
    rw [wipe_get h2]
    exact s.2 i x h1⟩
theorem SB.wipe {ρ : DEnv} {n : Nat} (b : SB ρ n) (vs : List Nat) : SB (wipeD ρ vs) n := fun i x e => b i x (wipeD_some e).1
def dLc (ti : TDi) (g : TDg) (tt : TDb) (te : TD) (vs : List Nat) : TD := fun ρ μ Q => ti ρ μ fun its μ1 => its.length ≤ 100000 ∧ ∃ P : Nat → Option PyData → Prop,
  (∀ (i : Nat) (y : PyData), its[i]? = some y → g y (wipeD ρ vs) fun ρ2 => tt ρ2 μ1 fun b μ2 => if b = true then te ρ2 μ2 fun x μ3 => frz x μ3 fun z μ4 => Wk μ4 μ1 ∧ P i (some z) else Wk μ2 μ1 ∧ P i none) ∧
  ∀ zs : List (Option PyData), zs.length = its.length → (∀ (i : Nat) (z : Option PyData), zs[i]? = some z → P i z) → psh (.lst (zs.filterMap id)) μ1 Q
theorem de_lc {wi : TI} {g : TG} {tt : TT} {te : TE} {vs : List Nat} {ti : TDi} {gd : TDg} {td : TDb} {ed : TD} (hi : DI wi ti) (hg : DG vs g gd) (ht : DB tt td) (he : DE te ed) : DE (tLc wi g tt te vs) (dLc ti gd td ed vs) := by
  intro dl n σ ρ μ adr F H Qd Q a h c
  refine hi dl n σ ρ μ adr F H _ _ a h fun J its μ1 adr1 F1 H1 f1 s1 l1 it h1 => ?_
  obtain ⟨hlen, P, turn, fin⟩ := h1
  intro D nD
  have nadr : D ∉ adr1 := fun z => s1.al D z nD
  have nF : F1 D = none := sub_none s1.ex nD
  have nDl : ¬ isDl dl D := fun z => by
    obtain ⟨d, l, e, z⟩ := z
    obtain ⟨DD, _⟩ := s1.dl d l e
    have := DD.nd nD
    rcases z with z | z
    · exact this.1 z
    · exact this.2 z
  have a1 := a.fr f1 s1 l1
  refine ⟨fun i m H => m = its.length - i ∧ i ≤ its.length ∧ ∃ (F : Hp) (xs : List V) (zs : List (Option PyData)), Sts dl μ1 adr1 F H ∧ Fr dl μ1.length F1 H1 adr1 F H adr1 ∧ H D = some (.lst xs) ∧ F D = none ∧ RpAll F xs (zs.filterMap id) ∧ zs.length = i ∧ ∀ (j : Nat) (z : Option PyData), zs[j]? = some z → P j z, ⟨its.length, rfl, Nat.zero_le _, F1, [], [], ?_, ?_, upd_same, nF, .nil, rfl, fun j z e => by simp at e⟩, ?_⟩
  · refine ⟨s1.ex.trans (Evl.Ex.new nD), s1.len, fun k b o e1 e2 => ?_, s1.nd, fun b hb => ?_, fun d l e => ?_⟩
    · have ne : b ≠ D := fun z => nadr (by rw [← z]; exact List.mem_of_getElem? e1)
      have hx := s1.obs k b o e1 e2
      cases o with
      | lst ds => obtain ⟨f, xs, h, r⟩ := hx; exact ⟨f, xs, by rw [upd_ne ne]; exact h, r⟩
      | dT es => obtain ⟨f, xs, h, r⟩ := hx; exact ⟨f, xs, by rw [upd_ne ne]; exact h, r⟩
      | dK es => obtain ⟨f, xs, h, r⟩ := hx; exact ⟨f, xs, by rw [upd_ne ne]; exact h, r⟩
      | fz x => exact hx
      | gone => trivial
    · rw [upd_ne (fun z => nadr (by rw [← z]; exact hb))]; exact s1.al b hb
    · obtain ⟨DD, q1, q2, q3, q4⟩ := s1.dl d l e
      have := DD.nd nD
      exact ⟨DD.upd this.1 this.2, q1, q2, q3, q4⟩
  · exact ⟨fun _ _ e => e, fun b o _ _ e => by rw [upd_ne (ne_of_none e nD)]; exact e, fun _ e _ _ _ => e, fun b e => by
      by_cases z : b = D
      · rw [z, upd_same]; exact Option.some_ne_none _
      · rw [upd_ne z]; exact e, fun b xs e => by
      by_cases z : b = D
      · rw [z]; exact .inl nD
      · rw [upd_ne z] at e; exact .inr e, fun _ _ => rfl, fun _ e => .inl e⟩
  · rintro i m H2 ⟨rfl, hi, F2, xs, zs, s2, f2, hD, fD, rx, lz, pz⟩
    by_cases hlt : i < its.length
    · refine .inr ⟨it.go i H2 (f2.ex.trans s2.ex) hlt, fun H' => its.length - (i + 1) < its.length - i ∧ i + 1 ≤ its.length ∧ ∃ (F : Hp) (xs : List V) (zs : List (Option PyData)), Sts dl μ1 adr1 F H' ∧ Fr dl μ1.length F1 H1 adr1 F H' adr1 ∧ H' D = some (.lst xs) ∧ F D = none ∧ RpAll F xs (zs.filterMap id) ∧ zs.length = i + 1 ∧ ∀ (j : Nat) (z : Option PyData), zs[j]? = some z → P j z, fun H' ⟨q1, q2, q3⟩ => ⟨_, q1, rfl, q2, q3⟩, fun x H3 yl => ?_⟩
      obtain ⟨F3, y, ey, w3, r3⟩ := it.yld i H2 x H3 F2 f2.ex s2.ex yl hlt
      have s3 := s2.nw w3
      have f3 : Fr dl μ1.length F1 H1 adr1 F3 H3 adr1 := f2.trans w3.fr (Nat.le_refl _)
      have hD3 := w3.up _ _ hD
      have fD3 := w3.nf D fD (by rw [hD]; exact Option.some_ne_none _) (fun ys z => by rw [hD] at z; cases z)
      have rx3 := rx.ex w3.ex
      have sl3 : Slo dl adr1 F3 σ ρ := a1.l.fr (fun i x e => ⟨fun k hk => Nat.lt_of_lt_of_le ((a1.b i x e).1 k hk) a1.n, (a1.b i x e).2⟩) f3
      refine hg dl adr1 F3 H3 _ _ x y _ _ s3.ex (sl3.wipe vs) r3 (turn i y ey) fun σ2 ρ2 sl b2 k2 ll h4 => ⟨?_, ?_⟩
      · rw [wipe_same (σ := L2.wipe σ vs) ll k2, wipe_wipe]
      have a3 : At dl n σ2 ρ2 μ1 adr1 F3 H3 := ⟨s3, sl, b2 n (a1.b.wipe vs), a1.n⟩
      -- a turn's end
      have close : ∀ (μ4 : Sto) (adr4 : List Addr) (F4 H4 : Hp) (z : Option PyData) (ys : List V), Fr dl μ1.length F3 H3 adr1 F4 H4 adr4 → Sts dl μ4 adr4 F4 H4 → Wk μ4 μ1 → P i z → (∀ F5, Ex F4 F5 → RpAll F5 ys (([z] : List (Option PyData)).filterMap id)) →
          ∃ (F : Hp) (xs' : List V) (zs : List (Option PyData)), Sts dl μ1 adr1 F (upd H4 D (.lst (xs ++ ys))) ∧ Fr dl μ1.length F1 H1 adr1 F (upd H4 D (.lst (xs ++ ys))) adr1 ∧ (upd H4 D (.lst (xs ++ ys))) D = some (.lst xs') ∧ F D = none ∧ RpAll F xs' (zs.filterMap id) ∧ zs.length = i + 1 ∧ ∀ (j : Nat) (z : Option PyData), zs[j]? = some z → P j z := fun μ4 adr4 F4 H4 z ys f4 s4 wk pz' ry => by
        obtain ⟨F5, f5, s5⟩ := s4.wk wk
        have ea : adr4.take μ1.length = adr1 := by
          refine List.ext_getElem? fun k => ?_
          by_cases hk : k < μ1.length
          · rw [List.getElem?_take_of_lt hk, f4.st k hk]
          · rw [List.getElem?_eq_none (by rw [List.length_take]; omega), List.getElem?_eq_none (by rw [s1.len]; omega)]
        rw [ea] at f5 s5
        have f35 := f4.trans f5 (Nat.le_refl _)
        have fD5 : F5 D = none := f35.nf D fD3 (by rw [hD3]; exact Option.some_ne_none _) (fun ys z => by rw [hD3] at z; cases z) nadr
        have hD5 : H4 D = some (.lst xs) := f35.kp D _ nadr nDl hD3
        have f15 := f3.trans f35 (Nat.le_refl _)
        refine ⟨F5, xs ++ ys, zs ++ [z], ⟨fun b o e => ?_, s5.len, fun k b o e1 e2 => ?_, s5.nd, fun b hb => ?_, fun d l e => ?_⟩, ⟨f15.ex, fun b o e1 e2 e3 => ?_, f15.nf, fun b e => ?_, fun b xs e => ?_, f15.st, f15.fr⟩, upd_same, fD5, ?_, ?_, fun j w e => ?_⟩
        · rw [upd_ne (ne_of_none e fD5)]; exact s5.ex b o e
        · have ne : b ≠ D := fun z => nadr (by rw [← z]; exact List.mem_of_getElem? e1)
          have hx := s5.obs k b o e1 e2
          cases o with
          | lst ds => obtain ⟨f, xs, h, r⟩ := hx; exact ⟨f, xs, by rw [upd_ne ne]; exact h, r⟩
          | dT es => obtain ⟨f, xs, h, r⟩ := hx; exact ⟨f, xs, by rw [upd_ne ne]; exact h, r⟩
          | dK es => obtain ⟨f, xs, h, r⟩ := hx; exact ⟨f, xs, by rw [upd_ne ne]; exact h, r⟩
          | fz x => exact hx
          | gone => trivial
        · rw [upd_ne (fun z => nadr (by rw [← z]; exact hb))]; exact s5.al b hb
        · obtain ⟨DD, q1, q2, q3, q4⟩ := s5.dl d l e
          exact ⟨DD.upd (fun z => nDl ⟨d, l, e, .inl z⟩) (fun z => nDl ⟨d, l, e, .inr z⟩), q1, q2, q3, q4⟩
        · have ne : b ≠ D := fun z => by rw [z, nD] at e3; cases e3
          rw [upd_ne ne]
          exact f15.kp b o e1 e2 e3
        · by_cases z : b = D
          · rw [z, upd_same]; exact Option.some_ne_none _
          · rw [upd_ne z]; exact f15.al b e
        · by_cases z : b = D
          · rw [z]; exact .inl nD
          · rw [upd_ne z] at e; exact f15.tp b xs e
        · rw [List.filterMap_append]
          exact (rx3.ex f35.ex).append (ry F5 f5.ex)
        · rw [List.length_append, lz]; rfl
        · by_cases hj : j < i
          · rw [List.getElem?_append_left (by omega)] at e; exact pz j w e
          · have e2 := (List.getElem?_eq_some_iff.mp e).1
            rw [List.length_append] at e2
            have : j = i := by
              have : [z].length = 1 := rfl
              omega
            subst this
            rw [← lz, List.getElem?_append_right (Nat.le_refl _), Nat.sub_self] at e
            cases e
            exact pz'
      refine ht dl n σ2 ρ2 μ1 adr1 F3 H3 _ _ a3 h4 fun b μ4 adr4 F4 H4 f4 s4 l4 h5 => ?_
      cases b with
      | false =>
        rw [if_neg (by decide)] at h5 ⊢
        obtain ⟨F, xs', zs', q1, q2, q3, q4, q5, q6, q7⟩ := close μ4 adr4 F4 H4 none [] f4 s4 h5.1 h5.2 (fun _ _ => .nil)
        rw [List.append_nil] at q1 q2 q3
        have e : upd H4 D (.lst xs) = H4 := by
          funext b
          by_cases z : b = D
          · rw [z, upd_same]; exact (f4.kp D _ nadr nDl hD3).symm
          · rw [upd_ne z]
        rw [e] at q1 q2 q3
        exact ⟨by omega, hlt, F, xs', zs', q1, q2, q3, q4, q5, q6, q7⟩
      | true =>
        rw [if_pos rfl] at h5 ⊢
        refine he dl n σ2 ρ2 μ4 adr4 F4 H4 _ _ (a3.fr f4 s4 l4) h5 fun v x5 μ5 adr5 F5 H5 f5 s5 l5 r5 n5 m5 h6 => ?_
        obtain ⟨z, μ6, adr6, F6, f6, s6, l6, r6, h7⟩ := frz_ok s5 r5 l5 m5 h6
        have fa := (f4.trans f5 l4).trans (f6.mono l4) (Nat.le_refl _)
        obtain ⟨F, xs', zs', q1, q2, q3, q4, q5, q6, q7⟩ := close μ6 adr6 F6 H5 (some z) [v] fa s6 h7.1 h7.2 (fun F5 e => .cons (Rp.ex e r6) .nil)
        refine ⟨xs, fa.kp D _ nadr nDl hD3, ?_, by omega, hlt, F, xs', zs', q1, q2, q3, q4, q5, q6, q7⟩
        have : (zs.filterMap id).length ≤ zs.length := List.length_filterMap_le ..
        exact big (by rw [rx.length]; omega)
    · have : i = its.length := by omega
      subst this
      refine .inl ⟨it.stop H2 (f2.ex.trans s2.ex), ?_⟩
      have hp : Qd (.t μ1.length) (μ1 ++ [OV.lst (zs.filterMap id)]) := fin zs lz pz
      refine c (.ref D) (.t μ1.length) (μ1 ++ [OV.lst (zs.filterMap id)]) (adr1 ++ [D]) F2 H2 ?_ ?_ (by rw [List.length_append]; omega) ⟨D, ?_, rfl⟩ (fun k z => by cases z) (fun k z => by cases z; exact l1) hp
      · have f12 := f1.trans f2 l1
        refine ⟨f12.ex, f12.kp, f12.nf, f12.al, f12.tp, fun k hk => ?_, fun b hb => ?_⟩
        · rw [List.getElem?_append_left (by rw [s1.len]; omega)]
          exact f12.st k hk
        · rcases List.mem_append.mp hb with hb | hb
          · exact f12.fr b hb
          · rw [List.mem_singleton.mp hb]
            refine .inr ?_
            cases e : H D with
            | none => rfl
            | some o => exact absurd nD (f1.al D (by rw [e]; exact Option.some_ne_none _))
      · refine ⟨s2.ex, by rw [List.length_append, List.length_append, s2.len]; rfl, fun k b o e1 e2 => ?_, ?_, fun b hb => ?_, fun d l e => ?_⟩
        · by_cases hk : k < μ1.length
          · rw [List.getElem?_append_left (by rw [s2.len]; exact hk)] at e1
            rw [List.getElem?_append_left hk] at e2
            exact s2.obs k b o e1 e2
          · have e3 := (List.getElem?_eq_some_iff.mp e2).1
            rw [List.length_append] at e3
            have hk2 : k = μ1.length := by
              have : [OV.lst (zs.filterMap id)].length = 1 := rfl
              omega
            subst hk2
            rw [List.getElem?_append_right (Nat.le_refl _), Nat.sub_self] at e2
            rw [← s2.len, List.getElem?_append_right (Nat.le_refl _), Nat.sub_self] at e1
            cases e1
            cases e2
            exact ⟨fD, xs, hD, rx⟩
        · rw [List.nodup_append]
          exact ⟨s2.nd, List.nodup_cons.mpr ⟨List.not_mem_nil, List.nodup_nil⟩, fun b hb b' hb' => by
            rw [List.mem_singleton.mp hb']; exact fun z => nadr (by rw [← z]; exact hb)⟩
        · rcases List.mem_append.mp hb with hb | hb
          · exact s2.al b hb
          · rw [List.mem_singleton.mp hb, hD]; exact Option.some_ne_none _
        · obtain ⟨DD, q1, q2, q3, q4⟩ := s2.dl d l e
          refine ⟨DD, q1, q2, fun z => ?_, fun z => ?_⟩
          · rcases List.mem_append.mp z with z | z
            · exact q3 z
            · exact nDl ⟨d, l, e, .inl (List.mem_singleton.mp z).symm⟩
          · rcases List.mem_append.mp z with z | z
            · exact q4 z
            · exact nDl ⟨d, l, e, .inr (List.mem_singleton.mp z).symm⟩
      · rw [← s1.len, List.getElem?_append_right (Nat.le_refl _), Nat.sub_self]
        rfl
end DL

set_option Elab.async false
set_option linter.all false
set_option maxRecDepth 100000
set_option maxHeartbeats 4000000
/-! The data layer: defs of one's own, statements. -/
namespace DL
open PySem PySem.Spec PyProof.Rows L2 CB

/-! ### promises about data -/
/-- what a def hands back: data, or a new object -/
inductive RV where
  | d (x : PyData) | o (b : OV)
abbrev DSp := List SV → (RV → Prop) → Prop
structure FrC (dl : Option (Addr × Addr)) (F H F' H' : Hp) : Prop where
  ex : Ex F F'
  kp : ∀ a o, ¬ isDl dl a → H a = some o → H' a = some o
  nf : ∀ a, F a = none → H a ≠ none → NT H a → F' a = none
  al : ∀ a, H a ≠ none → H' a ≠ none
  tp : ∀ a xs, H' a = some (.tup xs) → H a = none ∨ H a = some (.tup xs)
  sub : Ex F' H'
  dl : ∀ d l, dl = some (d, l) → IsDeal H' d l
def RvR (H F' H' : Hp) (v : V) : RV → Prop
  | .d x => Rp F' v x
  | .o b => ∃ a, v = .ref a ∧ H a = none ∧ H' a ≠ none ∧ ObR F' H' a b
def DlK (dl : Option (Addr × Addr)) (F H : Hp) : Prop := ∀ d l, dl = some (d, l) → IsDeal H d l ∧ F d = none ∧ F l = none
def spD (sp : DSp) : Sp := fun vs H Q _ => ∃ dl F xs Qd, Ex F H ∧ DlK dl F H ∧ SvA dl [] F vs xs ∧ sp xs Qd ∧ ∀ v r F' H', FrC dl F H F' H' → RvR H F' H' v r → Qd r → Q v H'
def frzS (x : SV) (μ : Sto) (Q : SV → Sto → Prop) : Prop := match x with
  | .dl => Q .dl μ
  | x => frz x μ fun y μ1 => Q (.d y) μ1
def frzL : List SV → Sto → (List SV → Sto → Prop) → Prop
  | [], μ, Q => Q [] μ
  | x :: xs, μ, Q => frzL xs μ fun ys μ1 => frzS x μ1 fun y μ2 => Q (y :: ys) μ2
def flat : SV → Prop
  | .d _ => True
  | .dl => True
  | _ => False
theorem frzS_ok {dl : Option (Addr × Addr)} {n0 : Nat} {F H : Hp} {adr : List Addr} {μ : Sto} {v : V} {x : SV} {Qd : SV → Sto → Prop} (s : Sts dl μ adr F H) (r : SvR dl adr F v x) (hn : n0 ≤ μ.length) (ht : ∀ k, x = .t k → n0 ≤ k) (h : frzS x μ Qd) :
    ∃ y μ' adr' F', Fr dl n0 F H adr F' H adr' ∧ Sts dl μ' adr' F' H ∧ n0 ≤ μ'.length ∧ SvR dl [] F' v y ∧ Qd y μ' := by
  have key : frz x μ (fun y μ1 => Qd (.d y) μ1) → ∃ y μ' adr' F', Fr dl n0 F H adr F' H adr' ∧ Sts dl μ' adr' F' H ∧ n0 ≤ μ'.length ∧ SvR dl [] F' v y ∧ Qd y μ' := fun h => by
    obtain ⟨y, μ', adr', F', f, s', l', r', h'⟩ := frz_ok s r hn ht h
    exact ⟨.d y, μ', adr', F', f, s', l', r', h'⟩
  cases x with
  | dl => exact ⟨.dl, μ, adr, F, Fr.refl, s, hn, r, h⟩
  | d y => exact key h
  | r k => exact key h
  | t k => exact key h
theorem SvR.flat {dl : Option (Addr × Addr)} {F F' : Hp} {v : V} {x : SV} (r : SvR dl [] F v x) (e : Ex F F') : SvR dl [] F' v x := by
  cases x with
  | d y => exact Rp.ex e r
  | r k => obtain ⟨a, h, _⟩ := r; simp at h
  | t k => obtain ⟨a, h, _⟩ := r; simp at h
  | dl => exact r
theorem SvA.flat {dl : Option (Addr × Addr)} {F F' : Hp} {vs : List V} {xs : List SV} (r : SvA dl [] F vs xs) (e : Ex F F') : SvA dl [] F' vs xs := by
  induction r with
  | nil => exact .nil
  | cons a _ ih => exact .cons (a.flat e) ih
theorem frzL_ok {dl : Option (Addr × Addr)} : ∀ {xs : List SV} {vs : List V} {n0 : Nat} {F H : Hp} {adr : List Addr} {μ : Sto} {Qd : List SV → Sto → Prop} (s : Sts dl μ adr F H) (r : SvA dl adr F vs xs) (hn : n0 ≤ μ.length) (ht : Ord μ.length n0 xs) (h : frzL xs μ Qd),
    ∃ ys μ' adr' F', Fr dl n0 F H adr F' H adr' ∧ Sts dl μ' adr' F' H ∧ n0 ≤ μ'.length ∧ SvA dl [] F' vs ys ∧ Qd ys μ' := by
  intro xs
  induction xs with
  | nil =>
    intro vs n0 F H adr μ Qd s r hn ht h
    cases r
    exact ⟨[], μ, adr, F, Fr.refl, s, hn, .nil, h⟩
  | cons x xs ih =>
    intro vs n0 F H adr μ Qd s r hn ht h
    cases r with
    | cons r1 r2 =>
      obtain ⟨h1, m, h2, h3, h4, h5⟩ := ht
      obtain ⟨ys, μ1, adr1, F1, f1, s1, l1, q1, g1⟩ := ih s r2 h3 h5 h
      obtain ⟨y, μ2, adr2, F2, f2, s2, l2, q2, g2⟩ := frzS_ok s1 (r1.fr f1 h4) (Nat.le_trans h2 l1) h1 g1
      exact ⟨_, μ2, adr2, F2, (f1.mono h2).trans f2 (Nat.le_refl _), s2, l2, .cons q2 (q1.flat f2.ex), g2⟩
def dFn (sp : DSp) (u : TDa) : TD := fun ρ μ Q => u ρ μ fun xs μ1 => frzL xs μ1 fun ys μ2 => sp ys fun r => match r with
  | .d y => Q (.d y) μ2
  | .o b => psh b μ2 Q
/-- a call stands beside the store -/
theorem Sts.call {dl : Option (Addr × Addr)} {F H F' H' : Hp} {adr : List Addr} {μ : Sto} (s : Sts dl μ adr F H) (f : FrC dl F H F' H') : Sts dl μ adr F' H' := by
  have nd : ∀ a ∈ adr, ¬ isDl dl a := fun a ha z => by
    obtain ⟨d, l, e, z⟩ := z
    obtain ⟨_, _, _, n1, n2⟩ := s.dl d l e
    rcases z with rfl | rfl
    · exact n1 ha
    · exact n2 ha
  refine ⟨f.sub, s.len, fun k a o e1 e2 => ?_, s.nd, fun a ha => f.al a (s.al a ha), fun d l e => ?_⟩
  · have hx := s.obs k a o e1 e2
    have m := List.mem_of_getElem? e1
    cases o with
    | lst ds => obtain ⟨g, xs, h, r⟩ := hx; exact ⟨f.nf a g (s.al a m) (fun ys z => by rw [h] at z; cases z), xs, f.kp a _ (nd a m) h, r.ex f.ex⟩
    | dT es => obtain ⟨g, xs, h, r⟩ := hx; exact ⟨f.nf a g (s.al a m) (fun ys z => by rw [h] at z; cases z), xs, f.kp a _ (nd a m) h, r.ex f.ex⟩
    | dK es => obtain ⟨g, xs, h, r⟩ := hx; exact ⟨f.nf a g (s.al a m) (fun ys z => by rw [h] at z; cases z), xs, f.kp a _ (nd a m) h, r.ex f.ex⟩
    | fz x => exact Rp.ex f.ex hx
    | gone => trivial
  · obtain ⟨D, f1, f2, n1, n2⟩ := s.dl d l e
    exact ⟨f.dl d l e, f.nf d f1 (deal_ne D).1 (deal_nt D).1, f.nf l f2 (deal_ne D).2 (deal_nt D).2, n1, n2⟩
theorem FrC.fr {dl : Option (Addr × Addr)} {n : Nat} {F H F' H' : Hp} {adr : List Addr} (f : FrC dl F H F' H') : Fr dl n F H adr F' H' adr :=
  ⟨f.ex, fun a o _ h e => f.kp a o h e, fun a h1 h2 t _ => f.nf a h1 h2 t, f.al, f.tp, fun _ _ => rfl, fun _ e => .inl e⟩
/-- a fresh object that stands already -/
theorem Sts.push' {dl : Option (Addr × Addr)} {F H0 H : Hp} {adr : List Addr} {μ : Sto} {p : Addr} {b : OV} (s : Sts dl μ adr F H) (hp : p ∉ adr) (hd : ¬ isDl dl p) (ha : H p ≠ none) (w : ObR F H p b) : Sts dl (μ ++ [b]) (adr ++ [p]) F H := by
  refine ⟨s.ex, by rw [List.length_append, List.length_append, s.len]; rfl, fun k a q e1 e2 => ?_, ?_, fun a e => ?_, fun d l e => ?_⟩
  · by_cases hk : k < μ.length
    · rw [List.getElem?_append_left (by rw [s.len]; exact hk)] at e1
      rw [List.getElem?_append_left hk] at e2
      exact s.obs k a q e1 e2
    · have e3 := (List.getElem?_eq_some_iff.mp e2).1
      rw [List.length_append] at e3
      have hk2 : k = μ.length := by
        have : [b].length = 1 := rfl
        omega
      subst hk2
      rw [List.getElem?_append_right (Nat.le_refl _), Nat.sub_self] at e2
      rw [← s.len, List.getElem?_append_right (Nat.le_refl _), Nat.sub_self] at e1
      cases e1
      cases e2
      exact w
  · rw [List.nodup_append]
    exact ⟨s.nd, List.nodup_cons.mpr ⟨List.not_mem_nil, List.nodup_nil⟩, fun a ha b hb => by
      rw [List.mem_singleton.mp hb]; exact fun z => hp (by rw [← z]; exact ha)⟩
  · rcases List.mem_append.mp e with h | h
    · exact s.al a h
    · rw [List.mem_singleton.mp h]; exact ha
  · obtain ⟨D, f1, f2, n1, n2⟩ := s.dl d l e
    refine ⟨D, f1, f2, fun z => ?_, fun z => ?_⟩
    · rcases List.mem_append.mp z with h | h
      · exact n1 h
      · exact hd ⟨d, l, e, .inl (List.mem_singleton.mp h).symm⟩
    · rcases List.mem_append.mp z with h | h
      · exact n2 h
      · exact hd ⟨d, l, e, .inr (List.mem_singleton.mp h).symm⟩
section
variable {m : Nat} {ua : TA} {u : TDa}
theorem de_fn {sp : DSp} {E : XK} (ha : DA m ua u) : DE (tCall (spD sp) [] E ua) (dFn sp u) := by
  intro dl n σ ρ μ adr F H Qd Q a h c
  refine ha dl n σ ρ μ adr F H _ _ a h fun vs xs μ1 adr1 F1 H1 f1 s1 l1 r1 n1 o1 e1 h1 => ?_
  obtain ⟨ys, μ2, adr2, F2, f2, s2, l2, r2, h2⟩ := frzL_ok s1 r1 l1 o1 h1
  have fa := f1.trans f2 (Nat.le_refl _)
  show spD sp (vs ++ []) H1 Q E
  rw [List.append_nil]
  refine ⟨dl, F2, ys, _, s2.ex, fun d l e => ⟨(s2.dl d l e).1, (s2.dl d l e).2.1, (s2.dl d l e).2.2.1⟩, r2, h2, fun v r F' H' f3 r3 h3 => ?_⟩
  have s3 := s2.call f3
  have ff := fa.trans (f3.fr (n := μ.length) (adr := adr2)) (Nat.le_refl _)
  cases r with
  | d y => exact c v (.d y) μ2 adr2 F' H' ff s3 l2 r3 (fun _ z => by cases z) (fun _ z => by cases z) h3
  | o b =>
    obtain ⟨p, rfl, q1, q2, q3⟩ := r3
    have np : p ∉ adr2 := fun z => s2.al p z q1
    have nd : ¬ isDl dl p := fun z => by
      obtain ⟨d, l, e, z⟩ := z
      have := (s2.dl d l e).1.nd q1
      rcases z with z | z
      · exact this.1 z
      · exact this.2 z
    refine c (.ref p) (.t μ2.length) (μ2 ++ [b]) (adr2 ++ [p]) F' H' ?_ (s3.push' (H0 := H') np nd q2 q3) (by rw [List.length_append]; omega) ⟨p, ?_, rfl⟩ (fun _ z => by cases z) (fun k z => by cases z; exact l2) h3
    · refine ⟨ff.ex, ff.kp, ff.nf, ff.al, ff.tp, fun k hk => ?_, fun x hx => ?_⟩
      · rw [List.getElem?_append_left (by rw [s2.len]; omega)]
        exact ff.st k hk
      · rcases List.mem_append.mp hx with hx | hx
        · exact ff.fr x hx
        · rw [List.mem_singleton.mp hx]
          refine .inr ?_
          cases e : H p with
          | none => rfl
          | some o => exact absurd q1 (fa.al p (by rw [e]; exact Option.some_ne_none _))
    · rw [← s2.len, List.getElem?_append_right (Nat.le_refl _), Nat.sub_self]
      rfl
end
/-! ### statements -/
structure DEnds where
  nx : DEnv → Sto → Prop
  rt : SV → Sto → Prop
  bk : DEnv → Sto → Prop := fun _ _ => False
  ct : DEnv → Sto → Prop := fun _ _ => False
abbrev TDS := DEnds → DEnv → Sto → Prop
/-- a way on: the data that are known carry over -/
def Onw (dl : Option (Addr × Addr)) (F H : Hp) (adr : List Addr) (d : DEnv → Sto → Prop) (e : L2.St → Hp → Prop) : Prop :=
  ∀ σ' ρ' μ' adr' F' H', Fr dl 0 F H adr F' H' adr' → At dl μ'.length σ' ρ' μ' adr' F' H' → d ρ' μ' → e σ' H'
def OnR (dl : Option (Addr × Addr)) (F H : Hp) (adr : List Addr) (d : SV → Sto → Prop) (e : VK) : Prop :=
  ∀ v x μ' adr' F' H', Fr dl 0 F H adr F' H' adr' → Sts dl μ' adr' F' H' → SvR dl adr' F' v x → d x μ' → e v H'
def DS (ts : TS) (t : TDS) : Prop := ∀ dl σ ρ μ adr F H (D : DEnds) (E : Ends), At dl μ.length σ ρ μ adr F H → t D ρ μ →
  Onw dl F H adr D.nx E.nx → OnR dl F H adr D.rt E.rt → Onw dl F H adr D.bk E.bk → Onw dl F H adr D.ct E.ct → ts E σ H
section
variable {dl : Option (Addr × Addr)} {F H F' H' : Hp} {adr adr' : List Addr}
theorem Onw.fr {d : DEnv → Sto → Prop} {e : L2.St → Hp → Prop} (o : Onw dl F H adr d e) (f : Fr dl 0 F H adr F' H' adr') : Onw dl F' H' adr' d e :=
  fun σ2 ρ2 μ2 adr2 F2 H2 f2 a2 h2 => o σ2 ρ2 μ2 adr2 F2 H2 (f.trans f2 (Nat.le_refl _)) a2 h2
theorem OnR.fr {d : SV → Sto → Prop} {e : VK} (o : OnR dl F H adr d e) (f : Fr dl 0 F H adr F' H' adr') : OnR dl F' H' adr' d e :=
  fun v x μ2 adr2 F2 H2 f2 s2 r2 h2 => o v x μ2 adr2 F2 H2 (f.trans f2 (Nat.le_refl _)) s2 r2 h2
end
def nm : SV → SV
  | .t k => .r k
  | x => x
theorem nm_r {dl : Option (Addr × Addr)} {adr : List Addr} {F : Hp} {v : V} {x : SV} (r : SvR dl adr F v x) : SvR dl adr F v (nm x) := by
  cases x <;> exact r
theorem nm_t (x : SV) : ∀ k, nm x ≠ .t k := by
  intro k
  cases x <;> exact fun z => by cases z
def dNext : TDS := fun D ρ μ => D.nx ρ μ
def dSq (t u : TDS) : TDS := fun D ρ μ => t { D with nx := u D } ρ μ
def dBreak : TDS := fun D ρ μ => D.bk ρ μ
def dCont : TDS := fun D ρ μ => D.ct ρ μ
def dSet (i : Nat) (t : TD) : TDS := fun D ρ μ => t ρ μ fun x μ1 => D.nx (setAt i (some (nm x)) ρ) μ1
def dAsg (t : TD) (g : TDg) : TDS := fun D ρ μ => t ρ μ fun x μ1 => frz x μ1 fun y μ2 => g y ρ fun ρ' => D.nx ρ' μ2
def dDrop (t : TD) : TDS := fun D ρ μ => t ρ μ fun _ μ1 => D.nx ρ μ1
def dRet (t : TD) : TDS := fun D ρ μ => t ρ μ D.rt
def dRetN : TDS := fun D _ μ => D.rt (.d .none) μ
def dIfS (c : TDb) (t u : TDS) : TDS := fun D ρ μ => c ρ μ fun b μ1 => if b = true then t D ρ μ1 else u D ρ μ1
def dPar (i j : Nat) (u : TDa) : TDS := fun D ρ μ => u ρ μ fun xs μ1 => match xs with
  | [x, y] => D.nx (setAt j (some (nm y)) (setAt i (some (nm x)) ρ)) μ1
  | _ => False
def dPar3 (i j l : Nat) (u : TDa) : TDS := fun D ρ μ => u ρ μ fun xs μ1 => match xs with
  | [x, y, z] => D.nx (setAt l (some (nm z)) (setAt j (some (nm y)) (setAt i (some (nm x)) ρ))) μ1
  | _ => False
section
variable {ta : TE} {t1 : TD} {ts us : TS} {t u : TDS}
theorem ds_next : DS tNext dNext := fun dl σ ρ μ adr F H D E a h n r b c => n σ ρ μ adr F H Fr.refl a h
theorem ds_break : DS tBreak dBreak := fun dl σ ρ μ adr F H D E a h n r b c => b σ ρ μ adr F H Fr.refl a h
theorem ds_cont : DS tCont dCont := fun dl σ ρ μ adr F H D E a h n r b c => c σ ρ μ adr F H Fr.refl a h
theorem ds_seq (h1 : DS ts t) (h2 : DS us u) : DS (tSeq ts us) (dSq t u) := by
  intro dl σ ρ μ adr F H D E a h n r b c
  refine h1 dl σ ρ μ adr F H { D with nx := u D } { E with nx := us E } a h (fun σ' ρ' μ' adr' F' H' f a' h' => ?_) r b c
  exact h2 dl σ' ρ' μ' adr' F' H' D E a' h' (n.fr f) (r.fr f) (b.fr f) (c.fr f)
theorem At.set {dl : Option (Addr × Addr)} {n : Nat} {σ : L2.St} {ρ : DEnv} {μ : Sto} {adr : List Addr} {F H : Hp} {v : V} {x : SV} (s : Sts dl μ adr F H) (l : Slo dl adr F σ ρ) (b : SB ρ n) (hn : n ≤ μ.length) (i : Nat) (r : SvR dl adr F v x) : At dl μ.length (σ.set i (some v)) (setAt i (some (nm x)) ρ) μ adr F H := by
  rw [setAt_eq]
  refine ⟨s, l.set i (nm_r r), SB.set (fun i x e => ⟨fun k hk => Nat.lt_of_lt_of_le ((b i x e).1 k hk) hn, (b i x e).2⟩) i (fun k hk => ?_) (nm_t x), Nat.le_refl _⟩
  exact (nm_r r).lt s k (.inl hk)
theorem ds_set (i : Nat) (ha : DE ta t1) : DS (tAsg ta (gName i)) (dSet i t1) := by
  intro dl σ ρ μ adr F H D E a h n r b c
  refine ha dl μ.length σ ρ μ adr F H _ _ a h fun v1 x1 μ1 adr1 F1 H1 f1 s1 l1 r1 n1 m1 h1 => ?_
  have a1 := a.fr f1 s1 l1
  exact n _ _ μ1 adr1 F1 H1 (f1.mono (Nat.zero_le _)) (At.set s1 a1.l a1.b a1.n i r1) h1
theorem ds_asg {vs : List Nat} {g : TG} {gd : TDg} (ha : DE ta t1) (hg : DG vs g gd) : DS (tAsg ta g) (dAsg t1 gd) := by
  intro dl σ ρ μ adr F H D E a h n r b c
  refine ha dl μ.length σ ρ μ adr F H _ _ a h fun v1 x1 μ1 adr1 F1 H1 f1 s1 l1 r1 n1 m1 h1 => ?_
  obtain ⟨y, μ2, adr2, F2, f2, s2, l2, r2, h2⟩ := frz_ok s1 r1 l1 m1 h1
  have fa := f1.trans f2 (Nat.le_refl _)
  have a2 := a.fr fa s2 l2
  refine hg dl adr2 F2 H1 σ ρ v1 y _ _ s2.ex a2.l r2 h2 fun σ3 ρ3 s3 b3 k3 l3 h3 => ?_
  exact n σ3 ρ3 μ2 adr2 F2 H1 (fa.mono (Nat.zero_le _)) ⟨s2, s3, b3 _ (fun i x e => ⟨fun k hk => Nat.lt_of_lt_of_le ((a2.b i x e).1 k hk) a2.n, (a2.b i x e).2⟩), Nat.le_refl _⟩ h3
theorem At.up {dl : Option (Addr × Addr)} {n : Nat} {σ : L2.St} {ρ : DEnv} {μ : Sto} {adr : List Addr} {F H : Hp} (a : At dl n σ ρ μ adr F H) : At dl μ.length σ ρ μ adr F H :=
  ⟨a.s, a.l, fun i x e => ⟨fun k hk => Nat.lt_of_lt_of_le ((a.b i x e).1 k hk) a.n, (a.b i x e).2⟩, Nat.le_refl _⟩
theorem ds_drop (ha : DE ta t1) : DS (tDrop ta) (dDrop t1) := by
  intro dl σ ρ μ adr F H D E a h n r b c
  refine ha dl μ.length σ ρ μ adr F H _ _ a h fun v1 x1 μ1 adr1 F1 H1 f1 s1 l1 r1 n1 m1 h1 => ?_
  exact n σ ρ μ1 adr1 F1 H1 (f1.mono (Nat.zero_le _)) (a.fr f1 s1 l1).up h1
theorem ds_ret (ha : DE ta t1) : DS (tRet ta) (dRet t1) := by
  intro dl σ ρ μ adr F H D E a h n r b c
  refine ha dl μ.length σ ρ μ adr F H _ _ a h fun v1 x1 μ1 adr1 F1 H1 f1 s1 l1 r1 n1 m1 h1 => ?_
  exact r v1 x1 μ1 adr1 F1 H1 (f1.mono (Nat.zero_le _)) s1 r1 h1
theorem ds_retN : DS tRetN dRetN := fun dl σ ρ μ adr F H D E a h n r b c => r .non (.d .none) μ adr F H Fr.refl a.s .non h
theorem ds_if {tc : TT} {cd : TDb} (hc : DB tc cd) (h1 : DS ts t) (h2 : DS us u) : DS (tIfS tc ts us) (dIfS cd t u) := by
  intro dl σ ρ μ adr F H D E a h n r b c
  refine hc dl μ.length σ ρ μ adr F H _ _ a h fun k μ1 adr1 F1 H1 f1 s1 l1 h3 => ?_
  have f0 := f1.mono (Nat.zero_le _)
  cases k with
  | true =>
    rw [if_pos rfl] at h3 ⊢
    exact h1 dl σ ρ μ1 adr1 F1 H1 D E (a.fr f1 s1 l1).up h3 (n.fr f0) (r.fr f0) (b.fr f0) (c.fr f0)
  | false =>
    rw [if_neg (by decide)] at h3 ⊢
    exact h2 dl σ ρ μ1 adr1 F1 H1 D E (a.fr f1 s1 l1).up h3 (n.fr f0) (r.fr f0) (b.fr f0) (c.fr f0)
theorem ds_par (i j : Nat) {m : Nat} {ua : TA} {ud : TDa} (ha : DA m ua ud) : DS (tPar i j ua) (dPar i j ud) := by
  intro dl σ ρ μ adr F H D E a h n r b c
  refine ha dl μ.length σ ρ μ adr F H _ _ a h fun vs xs μ1 adr1 F1 H1 f1 s1 l1 r1 n1 o1 e1 h1 => ?_
  have a1 := a.fr f1 s1 l1
  split at h1
  · cases r1 with
    | cons q1 q2 =>
      cases q2 with
      | cons q2 q3 =>
        cases q3
        refine ⟨_, _, rfl, ?_⟩
        have b1 := At.set s1 a1.l a1.b a1.n i q1
        have b2 := At.set b1.s b1.l b1.b b1.n j q2
        exact n _ _ μ1 adr1 F1 H1 (f1.mono (Nat.zero_le _)) b2 h1
  · exact h1.elim
theorem ds_par3 (i j l : Nat) {m : Nat} {ua : TA} {ud : TDa} (ha : DA m ua ud) : DS (tPar3 i j l ua) (dPar3 i j l ud) := by
  intro dl σ ρ μ adr F H D E a h n r b c
  refine ha dl μ.length σ ρ μ adr F H _ _ a h fun vs xs μ1 adr1 F1 H1 f1 s1 l1 r1 n1 o1 e1 h1 => ?_
  have a1 := a.fr f1 s1 l1
  split at h1
  · cases r1 with
    | cons q1 q2 =>
      cases q2 with
      | cons q2 q3 =>
        cases q3 with
        | cons q3 q4 =>
          cases q4
          refine ⟨_, _, _, rfl, ?_⟩
          have b1 := At.set s1 a1.l a1.b a1.n i q1
          have b2 := At.set b1.s b1.l b1.b b1.n j q2
          have b3 := At.set b2.s b2.l b2.b b2.n l q3
          exact n _ _ μ1 adr1 F1 H1 (f1.mono (Nat.zero_le _)) b3 h1
  · exact h1.elim
end
/-! ### cuts and loops -/
/-- an object, or less of it -/
def WO (o o' : OV) : Prop := o' = o ∨ o' = .gone ∨ ∃ ds, o = .lst ds ∧ o' = .fz (.list ds)
inductive WkM (μ : Sto) : List Nat → Sto → Prop
  | nil : WkM μ [] []
  | cons {k : Nat} {o o' : OV} {π : List Nat} {μ' : Sto} : gt μ k = some o → WO o o' → WkM μ π μ' → WkM μ (k :: π) (o' :: μ')
def NoRef : Option SV → Prop
  | some (.r _) => False
  | _ => True
inductive WkR (π : List Nat) : DEnv → DEnv → Prop
  | nil : WkR π [] []
  | same {x : Option SV} {ρ ρ' : DEnv} : NoRef x → WkR π ρ ρ' → WkR π (x :: ρ) (x :: ρ')
  | ref {k j : Nat} {ρ ρ' : DEnv} : gt π j = some k → WkR π ρ ρ' → WkR π (some (.r k) :: ρ) (some (.r j) :: ρ')
  | none {x : Option SV} {ρ ρ' : DEnv} : WkR π ρ ρ' → WkR π (x :: ρ) (none :: ρ')
/-- P holds of what is left, by other numbers of the objects (π: the old ones) -/
def Wkn (P : DEnv → Sto → Prop) (ρ : DEnv) (μ : Sto) : Prop := ∃ π ρ' μ', (WkM μ π μ' ∧ WkR π ρ ρ' ∧ π.Nodup) ∧ P ρ' μ'
theorem WkM.len {μ : Sto} {π : List Nat} {μ' : Sto} (w : WkM μ π μ') : π.length = μ'.length := by
  induction w with
  | nil => rfl
  | cons _ _ _ ih => rw [List.length_cons, List.length_cons, ih]
theorem WkM.get {μ : Sto} {π : List Nat} {μ' : Sto} (w : WkM μ π μ') : ∀ (j : Nat) (o' : OV), μ'[j]? = some o' → ∃ k o, π[j]? = some k ∧ μ[k]? = some o ∧ WO o o' := by
  induction w with
  | nil => intro j o' e; simp at e
  | cons h1 h2 _ ih =>
    intro j o' e
    cases j with
    | zero => cases e; exact ⟨_, _, rfl, by rw [← gt_eq]; exact h1, h2⟩
    | succ j => simpa using ih j o' (by simpa using e)
theorem WkM.lt {μ : Sto} {π : List Nat} {μ' : Sto} (w : WkM μ π μ') : ∀ k ∈ π, k < μ.length := by
  induction w with
  | nil => intro k h; cases h
  | cons h1 _ _ ih =>
    intro k h
    rcases List.mem_cons.mp h with rfl | h
    · rw [gt_eq] at h1; exact (List.getElem?_eq_some_iff.mp h1).1
    · exact ih k h
theorem WkR.get {π : List Nat} {ρ ρ' : DEnv} (w : WkR π ρ ρ') : ρ'.length = ρ.length ∧ ∀ (i : Nat) (x : SV), ρ'[i]? = some (some x) → (ρ[i]? = some (some x) ∧ NoRef (some x)) ∨ ∃ k j, x = .r j ∧ ρ[i]? = some (some (.r k)) ∧ π[j]? = some k := by
  induction w with
  | nil => exact ⟨rfl, fun i x e => by simp at e⟩
  | same h w ih =>
    refine ⟨by rw [List.length_cons, List.length_cons, ih.1], fun i x e => ?_⟩
    cases i with
    | zero =>
      simp only [List.getElem?_cons_zero, Option.some.injEq] at e
      subst e
      exact .inl ⟨rfl, h⟩
    | succ i => simpa using ih.2 i x (by simpa using e)
  | ref h w ih =>
    refine ⟨by rw [List.length_cons, List.length_cons, ih.1], fun i x e => ?_⟩
    cases i with
    | zero =>
      simp only [List.getElem?_cons_zero, Option.some.injEq] at e
      subst e
      exact .inr ⟨_, _, rfl, rfl, by rw [← gt_eq]; exact h⟩
    | succ i => simpa using ih.2 i x (by simpa using e)
  | none w ih =>
    refine ⟨by rw [List.length_cons, List.length_cons, ih.1], fun i x e => ?_⟩
    cases i with
    | zero => simp at e
    | succ i => simpa using ih.2 i x (by simpa using e)
/-- objects chosen and frozen one by one -/
theorem wkm_obs {H : Hp} {μ : Sto} {adr : List Addr} (nd : adr.Nodup) (hl : adr.length = μ.length) {π : List Nat} {μ' : Sto} (w : WkM μ π μ') : π.Nodup → ∀ {F : Hp}, Ex F H → (∀ (k : Nat) (a : Addr) (o : OV), k ∈ π → adr[k]? = some a → μ[k]? = some o → ObR F H a o) →
    ∃ (F' : Hp) (adr' : List Addr), Ex F F' ∧ Ex F' H ∧ (∀ a, F a = none → a ∉ adr → F' a = none) ∧ (∀ (k : Nat) (a : Addr), k ∉ π → adr[k]? = some a → F a = none → F' a = none) ∧ adr'.length = μ'.length ∧ adr'.Nodup ∧ (∀ (j : Nat) (a : Addr), adr'[j]? = some a → ∃ k, π[j]? = some k ∧ adr[k]? = some a) ∧ (∀ (j k : Nat), π[j]? = some k → adr'[j]? = adr[k]?) ∧ ∀ (j : Nat) (a : Addr) (o : OV), adr'[j]? = some a → μ'[j]? = some o → ObR F' H a o := by
  induction w with
  | nil =>
    intro _ F e _
    exact ⟨F, [], fun _ _ e => e, e, fun _ e _ => e, fun _ _ _ _ e => e, rfl, List.nodup_nil, fun j a e => by simp at e, fun j k e => by simp at e, fun j a o e => by simp at e⟩
  | @cons k o o' π μ' h1 h2 w ih =>
    intro np F e ob
    obtain ⟨nk, np⟩ := List.nodup_cons.mp np
    rw [gt_eq] at h1
    have hk : k < adr.length := by rw [hl]; exact (List.getElem?_eq_some_iff.mp h1).1
    have ea : adr[k]? = some adr[k] := List.getElem?_eq_getElem hk
    generalize adr[k] = a at ea
    obtain ⟨F', adr', e1, e2, e3, e4, e5, e6, e7, e9, e8⟩ := ih np e (fun i b u hi => ob i b u (List.mem_cons_of_mem _ hi))
    have obk := ob k a o List.mem_cons_self ea h1
    have na : a ∉ adr' := fun z => by
      obtain ⟨j, hj⟩ := List.mem_iff_getElem?.mp z
      obtain ⟨k', hk', ea'⟩ := e7 j a hj
      obtain ⟨l1, l2⟩ := List.getElem?_eq_some_iff.mp ea
      obtain ⟨l3, l4⟩ := List.getElem?_eq_some_iff.mp ea'
      have : k = k' := (List.getElem_inj nd).mp (l2.trans l4.symm)
      exact nk (by rw [this]; exact List.mem_of_getElem? hk')
    -- the object as it was, in F'
    have fka : F a = none → F' a = none := e4 k a nk ea
    have keep : ∀ {F'' : Hp}, Ex F' F'' → (F' a = none → F'' a = none) → ObR F'' H a o := fun {F''} x y => by
      cases o with
      | lst ds => obtain ⟨f, xs, h, r⟩ := obk; exact ⟨y (fka f), xs, h, r.ex (e1.trans x)⟩
      | dT es => obtain ⟨f, xs, h, r⟩ := obk; exact ⟨y (fka f), xs, h, r.ex (e1.trans x)⟩
      | dK es => obtain ⟨f, xs, h, r⟩ := obk; exact ⟨y (fka f), xs, h, r.ex (e1.trans x)⟩
      | fz x' => exact Rp.ex (e1.trans x) obk
      | gone => trivial
    have tail : ∀ {F'' : Hp}, Ex F F'' → Ex F'' H → (∀ b, F b = none → b ∉ adr → F'' b = none) → (∀ (i : Nat) (b : Addr), i ∉ k :: π → adr[i]? = some b → F b = none → F'' b = none) → ObR F'' H a o' → (∀ (j : Nat) (b : Addr) (u : OV), adr'[j]? = some b → μ'[j]? = some u → ObR F'' H b u) →
        ∃ (F' : Hp) (adr' : List Addr), Ex F F' ∧ Ex F' H ∧ (∀ a, F a = none → a ∉ adr → F' a = none) ∧ (∀ (i : Nat) (a : Addr), i ∉ k :: π → adr[i]? = some a → F a = none → F' a = none) ∧ adr'.length = (o' :: μ').length ∧ adr'.Nodup ∧ (∀ (j : Nat) (a : Addr), adr'[j]? = some a → ∃ i, (k :: π)[j]? = some i ∧ adr[i]? = some a) ∧ (∀ (j i : Nat), (k :: π)[j]? = some i → adr'[j]? = adr[i]?) ∧ ∀ (j : Nat) (a : Addr) (u : OV), adr'[j]? = some a → (o' :: μ')[j]? = some u → ObR F' H a u := fun {F''} x1 x2 x3 x4 x5 x6 => by
      refine ⟨F'', a :: adr', x1, x2, x3, x4, by rw [List.length_cons, List.length_cons, e5], List.nodup_cons.mpr ⟨na, e6⟩, fun j b hj => ?_, fun j i hj => ?_, fun j b u hj hu => ?_⟩
      · cases j with
        | zero => cases hj; exact ⟨k, rfl, ea⟩
        | succ j => simpa using e7 j b (by simpa using hj)
      · cases j with
        | zero => cases hj; exact ea.symm
        | succ j => simpa using e9 j i (by simpa using hj)
      · cases j with
        | zero => cases hj; cases hu; exact x5
        | succ j => exact x6 j b u (by simpa using hj) (by simpa using hu)
    rcases h2 with rfl | rfl | ⟨ds, rfl, rfl⟩
    · exact tail e1 e2 e3 (fun i b hi hb f => e4 i b (fun z => hi (List.mem_cons_of_mem _ z)) hb f) (keep (fun _ _ e => e) (fun z => z)) e8
    · exact tail e1 e2 e3 (fun i b hi hb f => e4 i b (fun z => hi (List.mem_cons_of_mem _ z)) hb f) trivial e8
    · obtain ⟨f, xs, hb, r⟩ := obk
      have fb := fka f
      have up := Evl.Ex.new (o := HO.lst xs) fb
      refine tail (F'' := upd F' a (.lst xs)) (e1.trans up) (fun b u h => ?_) (fun b h1 h2 => ?_) (fun i b hi hb' f' => ?_) (.lst upd_same (r.ex (e1.trans up))) (fun j b u hj hu => ?_)
      · by_cases z : b = a
        · subst z; rw [upd_same] at h; cases h; exact hb
        · rw [upd_ne z] at h; exact e2 b u h
      · rw [upd_ne (fun z => h2 (by rw [z]; exact List.mem_of_getElem? ea))]
        exact e3 b h1 h2
      · have ne : b ≠ a := fun z => by
          subst z
          obtain ⟨l1, l2⟩ := List.getElem?_eq_some_iff.mp ea
          obtain ⟨l3, l4⟩ := List.getElem?_eq_some_iff.mp hb'
          have : i = k := (List.getElem_inj nd).mp (l4.trans l2.symm)
          exact hi (by rw [this]; exact List.mem_cons_self)
        rw [upd_ne ne]
        exact e4 i b (fun z => hi (List.mem_cons_of_mem _ z)) hb' f'
      · have ne : b ≠ a := fun z => na (by rw [← z]; exact List.mem_of_getElem? hj)
        have hx := e8 j b u hj hu
        cases u with
        | lst ds => obtain ⟨f, xs, h, r⟩ := hx; exact ⟨by rw [upd_ne ne]; exact f, xs, h, r.ex up⟩
        | dT es => obtain ⟨f, xs, h, r⟩ := hx; exact ⟨by rw [upd_ne ne]; exact f, xs, h, r.ex up⟩
        | dK es => obtain ⟨f, xs, h, r⟩ := hx; exact ⟨by rw [upd_ne ne]; exact f, xs, h, r.ex up⟩
        | fz x => exact Rp.ex up hx
        | gone => trivial
theorem At.wk {dl : Option (Addr × Addr)} {n : Nat} {σ : L2.St} {ρ ρ' : DEnv} {μ μ' : Sto} {π : List Nat} {adr : List Addr} {F H : Hp} (a : At dl n σ ρ μ adr F H) (wm : WkM μ π μ') (wr : WkR π ρ ρ') (np : π.Nodup) : ∃ adr' F', Fr dl 0 F H adr F' H adr' ∧ At dl μ'.length σ ρ' μ' adr' F' H := by
  obtain ⟨F', adr', e1, e2, e3, e4, e5, e6, e7, e9, e8⟩ := wkm_obs (H := H) a.s.nd a.s.len wm np a.s.ex (fun k b o _ h1 h2 => a.s.obs k b o h1 h2)
  have mem : ∀ b ∈ adr', b ∈ adr := fun b hb => by
    obtain ⟨j, hj⟩ := List.mem_iff_getElem?.mp hb
    obtain ⟨k, _, h⟩ := e7 j b hj
    exact List.mem_of_getElem? h
  refine ⟨adr', F', ⟨e1, fun _ _ _ _ e => e, fun b h1 _ _ h2 => e3 b h1 h2, fun _ e => e, fun _ _ e => .inr e, fun k hk => absurd hk (Nat.not_lt_zero _), fun b hb => .inl (mem b hb)⟩, ⟨e2, e5, e8, e6, fun b hb => a.s.al b (mem b hb), fun d l h => ?_⟩, ⟨wr.get.1.trans a.l.1, fun i x e => ?_⟩, fun i x e => ?_, Nat.le_refl _⟩
  · obtain ⟨D, f1, f2, n1, n2⟩ := a.s.dl d l h
    exact ⟨D, e3 d f1 n1, e3 l f2 n2, fun z => n1 (mem d z), fun z => n2 (mem l z)⟩
  · rcases wr.get.2 i x e with ⟨h1, h2⟩ | ⟨k, j, rfl, h1, h2⟩
    · obtain ⟨v, q1, q2⟩ := a.l.2 i x h1
      refine ⟨v, q1, ?_⟩
      cases x with
      | d y => exact Rp.ex e1 q2
      | r k => exact h2.elim
      | t k => exact absurd rfl ((a.b i _ h1).2 k)
      | dl => exact q2
    · obtain ⟨v, q1, b, q2, rfl⟩ := a.l.2 i _ h1
      exact ⟨_, q1, b, by rw [e9 j k h2]; exact q2, rfl⟩
  · rcases wr.get.2 i x e with ⟨h1, h2⟩ | ⟨k, j, rfl, h1, h2⟩
    · refine ⟨fun k hk => ?_, (a.b i x h1).2⟩
      rw [hk] at h2
      exact h2.elim
    · refine ⟨fun k hk => ?_, fun k hk => by cases hk⟩
      cases hk
      rw [← wm.len]
      exact (List.getElem?_eq_some_iff.mp h2).1
theorem Onw.wk {dl : Option (Addr × Addr)} {F H : Hp} {adr : List Addr} {P : DEnv → Sto → Prop} {e : L2.St → Hp → Prop} (o : Onw dl F H adr P e) : Onw dl F H adr (Wkn P) e := by
  intro σ' ρ' μ' adr' F' H' f a h
  obtain ⟨π, ρ2, μ2, ⟨w1, w2, w3⟩, p⟩ := h
  obtain ⟨adr2, F2, f2, a2⟩ := a.wk w1 w2 w3
  exact o σ' ρ2 μ2 adr2 F2 H' (f.trans f2 (Nat.le_refl _)) a2 p
def dCut (t u : TDS) : TDS := fun D ρ μ => ∃ Mid : DEnv → Sto → Prop, t { D with nx := Wkn Mid } ρ μ ∧ ∀ ρ' μ', Mid ρ' μ' → u D ρ' μ'
def dWhile (c : TDb) (t : TDS) : TDS := fun D ρ μ => ∃ I : Nat → DEnv → Sto → Prop, (∃ m, Wkn (I m) ρ μ) ∧ ∀ m ρ μ, I m ρ μ →
  c ρ μ fun b μ1 => if b = true then t { D with nx := fun ρ μ => ∃ m', m' < m ∧ Wkn (I m') ρ μ, ct := fun ρ μ => ∃ m', m' < m ∧ Wkn (I m') ρ μ, bk := D.nx } ρ μ1 else D.nx ρ μ1
def dFor (ti : TDi) (g : TDg) (t : TDS) : TDS := fun D ρ μ => ti ρ μ fun its μ1 => ∃ I : Nat → DEnv → Sto → Prop, Wkn (I 0) ρ μ1 ∧
  (∀ (i : Nat) (y : PyData) ρ μ, its[i]? = some y → I i ρ μ → g y ρ fun ρ2 => t { D with nx := Wkn (I (i + 1)), ct := Wkn (I (i + 1)), bk := D.nx } ρ2 μ) ∧ ∀ ρ μ, I its.length ρ μ → D.nx ρ μ
section
variable {ts us : TS} {t u : TDS}
theorem ds_cut (h1 : DS ts t) (h2 : DS us u) : DS (Evl.tCut ts us) (dCut t u) := by
  intro dl σ ρ μ adr F H D E a h n r b c
  obtain ⟨Mid, h, k⟩ := h
  refine ⟨fun σ' H' => ∃ ρ' μ' adr' F', Fr dl 0 F H adr F' H' adr' ∧ At dl μ'.length σ' ρ' μ' adr' F' H' ∧ Mid ρ' μ', ?_, ?_⟩
  · refine h1 dl σ ρ μ adr F H { D with nx := Wkn Mid } { E with nx := _ } a h ?_ r b c
    exact Onw.wk fun σ' ρ' μ' adr' F' H' f a' m => ⟨ρ', μ', adr', F', f, a', m⟩
  · rintro σ' H' ⟨ρ', μ', adr', F', f, a', m⟩
    exact h2 dl σ' ρ' μ' adr' F' H' D E a' (k ρ' μ' m) (n.fr f) (r.fr f) (b.fr f) (c.fr f)
theorem ds_while {tc : TT} {cd : TDb} (hc : DB tc cd) (h1 : DS ts t) : DS (tWhile tc ts) (dWhile cd t) := by
  intro dl σ ρ μ adr F H D E a h n r b c
  obtain ⟨I, ⟨m, h0⟩, turn⟩ := h
  refine ⟨fun m σ' H' => ∃ ρ' μ' adr' F', Fr dl 0 F H adr F' H' adr' ∧ At dl μ'.length σ' ρ' μ' adr' F' H' ∧ I m ρ' μ', ⟨m, ?_⟩, ?_⟩
  · exact Onw.wk (e := fun σ' H' => ∃ ρ' μ' adr' F', Fr dl 0 F H adr F' H' adr' ∧ At dl μ'.length σ' ρ' μ' adr' F' H' ∧ I m ρ' μ') (fun σ' ρ' μ' adr' F' H' f a' p => ⟨ρ', μ', adr', F', f, a', p⟩) σ ρ μ adr F H Fr.refl a h0
  · rintro m σ1 H1 ⟨ρ1, μ1, adr1, F1, f1, a1, i1⟩
    refine hc dl μ1.length σ1 ρ1 μ1 adr1 F1 H1 _ _ a1 (turn m ρ1 μ1 i1) fun k μ2 adr2 F2 H2 f2 s2 l2 h3 => ?_
    have f0 := f1.trans (f2.mono (Nat.zero_le _)) (Nat.le_refl _)
    have a2 := (a1.fr f2 s2 l2).up
    cases k with
    | false =>
      rw [if_neg (by decide)] at h3 ⊢
      exact n σ1 ρ1 μ2 adr2 F2 H2 f0 a2 h3
    | true =>
      rw [if_pos rfl] at h3 ⊢
      refine ⟨fun σ' H' => ∃ m', m' < m ∧ ∃ ρ' μ' adr' F', Fr dl 0 F H adr F' H' adr' ∧ At dl μ'.length σ' ρ' μ' adr' F' H' ∧ I m' ρ' μ', fun _ _ q => q, ?_⟩
      have go : Onw dl F2 H2 adr2 (fun ρ μ => ∃ m', m' < m ∧ Wkn (I m') ρ μ) (fun σ' H' => ∃ m', m' < m ∧ ∃ ρ' μ' adr' F', Fr dl 0 F H adr F' H' adr' ∧ At dl μ'.length σ' ρ' μ' adr' F' H' ∧ I m' ρ' μ') := by
        intro σ' ρ' μ' adr' F' H' f a' h
        obtain ⟨m', lt, h⟩ := h
        refine ⟨m', lt, ?_⟩
        exact Onw.wk (e := fun σ' H' => ∃ ρ' μ' adr' F', Fr dl 0 F H adr F' H' adr' ∧ At dl μ'.length σ' ρ' μ' adr' F' H' ∧ I m' ρ' μ') (fun σ' ρ' μ' adr' F' H' f a' p => ⟨ρ', μ', adr', F', f0.trans f (Nat.le_refl _), a', p⟩) σ' ρ' μ' adr' F' H' f a' h
      exact h1 dl σ1 ρ1 μ2 adr2 F2 H2 _ { E with nx := _, ct := _, bk := E.nx } a2 h3 go (r.fr f0) (n.fr f0) go
theorem ds_for {wi : TI} {ti : TDi} {vs : List Nat} {g : TG} {gd : TDg} (hi : DI wi ti) (hg : DG vs g gd) (h1 : DS ts t) : DS (tFor wi g ts) (dFor ti gd t) := by
  intro dl σ ρ μ adr F H D E a h n r b c
  refine hi dl μ.length σ ρ μ adr F H _ _ a h fun J its μ1 adr1 F1 H1 f1 s1 l1 it h2 => ?_
  obtain ⟨I, h0, turn, fin⟩ := h2
  have f10 := f1.mono (Nat.zero_le _)
  have a1 := (a.fr f1 s1 l1).up
  refine ⟨fun i m σ' H' => m = its.length - i ∧ i ≤ its.length ∧ ∃ ρ' μ' adr' F', Fr dl 0 F1 H1 adr1 F' H' adr' ∧ At dl μ'.length σ' ρ' μ' adr' F' H' ∧ I i ρ' μ', ⟨its.length, rfl, Nat.zero_le _, ?_⟩, ?_⟩
  · exact Onw.wk (e := fun σ' H' => ∃ ρ' μ' adr' F', Fr dl 0 F1 H1 adr1 F' H' adr' ∧ At dl μ'.length σ' ρ' μ' adr' F' H' ∧ I 0 ρ' μ') (fun σ' ρ' μ' adr' F' H' f a' p => ⟨ρ', μ', adr', F', f, a', p⟩) σ ρ μ1 adr1 F1 H1 Fr.refl a1 h0
  · rintro i m σ2 H2 ⟨rfl, hi, ρ2, μ2, adr2, F2, f2, a2, i2⟩
    have f02 := f10.trans f2 (Nat.le_refl _)
    by_cases hlt : i < its.length
    · refine .inr ⟨it.go i H2 (f2.ex.trans a2.s.ex) hlt, fun σ' H' => its.length - (i + 1) < its.length - i ∧ i + 1 ≤ its.length ∧ ∃ ρ' μ' adr' F', Fr dl 0 F1 H1 adr1 F' H' adr' ∧ At dl μ'.length σ' ρ' μ' adr' F' H' ∧ I (i + 1) ρ' μ', fun σ' H' ⟨q1, q2, q3⟩ => ⟨_, q1, rfl, q2, q3⟩, fun x H3 yl => ?_⟩
      obtain ⟨F3, y, ey, w3, r3⟩ := it.yld i H2 x H3 F2 f2.ex a2.s.ex yl hlt
      have s3 := a2.s.nw w3
      have f3 : Fr dl 0 F1 H1 adr1 F3 H3 adr2 := f2.trans w3.fr (Nat.le_refl _)
      have sl3 : Slo dl adr2 F3 σ2 ρ2 := a2.l.fr a2.b (w3.fr (n := μ2.length))
      refine hg dl adr2 F3 H3 σ2 ρ2 x y _ _ s3.ex sl3 r3 (turn i y ρ2 μ2 ey i2) fun σ4 ρ4 sl b4 k4 ll h4 => ?_
      have a4 : At dl μ2.length σ4 ρ4 μ2 adr2 F3 H3 := ⟨s3, sl, b4 _ a2.b, Nat.le_refl _⟩
      have f03 := f10.trans f3 (Nat.le_refl _)
      have go : Onw dl F3 H3 adr2 (Wkn (I (i + 1))) (fun σ' H' => its.length - (i + 1) < its.length - i ∧ i + 1 ≤ its.length ∧ ∃ ρ' μ' adr' F', Fr dl 0 F1 H1 adr1 F' H' adr' ∧ At dl μ'.length σ' ρ' μ' adr' F' H' ∧ I (i + 1) ρ' μ') :=
        Onw.wk fun σ' ρ' μ' adr' F' H' f a' p => ⟨by omega, hlt, ρ', μ', adr', F', f3.trans f (Nat.le_refl _), a', p⟩
      exact h1 dl σ4 ρ4 μ2 adr2 F3 H3 _ { E with nx := _, ct := _, bk := E.nx } a4 h4 go (r.fr f03) (n.fr f03) go
    · have : i = its.length := by omega
      subst this
      exact .inl ⟨it.stop H2 (f2.ex.trans a2.s.ex), n σ2 ρ2 μ2 adr2 F2 H2 f02 a2 (fin ρ2 μ2 i2)⟩
end
/-! ### a def -/
def rtD (x : SV) (μ : Sto) (Qd : RV → Prop) : Prop := match x with
  | .d y => Qd (.d y)
  | .r k => match gt μ k with
    | some (.fz y) => Qd (.d y)
    | some .gone => False
    | some o => Qd (.o o)
    | none => False
  | .t k => match gt μ k with
    | some (.fz y) => Qd (.d y)
    | some .gone => False
    | some o => Qd (.o o)
    | none => False
  | .dl => False
def endsD (Qd : RV → Prop) : DEnds := { nx := fun _ _ => Qd (.d .none), rt := fun x μ => rtD x μ Qd }
def startD : Nat → List SV → DEnv
  | 0, _ => []
  | n + 1, x :: xs => some x :: startD n xs
  | n + 1, [] => none :: startD n []
theorem startD_nil : ∀ n : Nat, startD n [] = List.replicate n none
  | 0 => rfl
  | n + 1 => by rw [startD, startD_nil n]; rfl
theorem startD_eq : ∀ (n : Nat) (xs : List SV), xs.length ≤ n → startD n xs = xs.map some ++ List.replicate (n - xs.length) none
  | 0, xs, h => by
    have : xs = [] := List.length_eq_zero_iff.mp (by omega)
    subst this
    rfl
  | n + 1, [], _ => by rw [startD_nil]; rfl
  | n + 1, x :: xs, h => by
    rw [startD, startD_eq n xs (by simpa using h)]
    simp
theorem SvA.get {dl : Option (Addr × Addr)} {adr : List Addr} {F : Hp} {vs : List V} {xs : List SV} (r : SvA dl adr F vs xs) : ∀ (i : Nat) (x : SV), xs[i]? = some x → ∃ v, vs[i]? = some v ∧ SvR dl adr F v x := by
  induction r with
  | nil => intro i x e; simp at e
  | cons a _ ih =>
    intro i x e
    cases i with
    | zero => cases e; exact ⟨_, rfl, a⟩
    | succ i => simpa using ih i x (by simpa using e)
theorem rt_ref {dl : Option (Addr × Addr)} {F H : Hp} {adr : List Addr} {μ : Sto} {k : Nat} {a : Addr} {Qd : RV → Prop} (H0 : Hp) (s : Sts dl μ adr F H) (e : adr[k]? = some a) (hn : H0 a = none) (h : match gt μ k with
    | some (.fz y) => Qd (.d y)
    | some .gone => False
    | some o => Qd (.o o)
    | none => False) : ∃ r, RvR H0 F H (.ref a) r ∧ Qd r := by
  cases e2 : gt μ k with
  | none => rw [e2] at h; exact h.elim
  | some o =>
    rw [e2] at h
    have ob := s.at e e2
    have al := s.al a (List.mem_of_getElem? e)
    cases o with
    | fz y => exact ⟨.d y, ob, h⟩
    | gone => exact h.elim
    | lst ds => exact ⟨.o (.lst ds), ⟨a, rfl, hn, al, ob⟩, h⟩
    | dT ds => exact ⟨.o (.dT ds), ⟨a, rfl, hn, al, ob⟩, h⟩
    | dK ds => exact ⟨.o (.dK ds), ⟨a, rfl, hn, al, ob⟩, h⟩
/-- a body's reading from its reading by data -/
theorem DS.run {ts : TS} {t : TDS} (d : DS ts t) {sp : DSp} {vs : List V} {H : Hp} {Q : VK} {E : XK} {N : List Str} (h : spD sp vs H Q E) (hN : vs.length ≤ N.length) (b : ∀ xs Qd, sp xs Qd → t (endsD Qd) (startD N.length xs) []) : ts { nx := fun _ H' => Q .non H', rt := Q } (L2.start N vs) H := by
  obtain ⟨dl, F, xs, Qd, e, dk, r, h, q⟩ := h
  have lx := r.length
  have st : Sts dl [] [] F H := ⟨e, rfl, fun k a o e => by simp at e, List.nodup_nil, fun a h => absurd h List.not_mem_nil, fun d l h => ⟨(dk d l h).1, (dk d l h).2.1, (dk d l h).2.2, List.not_mem_nil, List.not_mem_nil⟩⟩
  have fc : ∀ {F' H' : Hp} {adr' : List Addr} {μ' : Sto}, Fr dl 0 F H [] F' H' adr' → Sts dl μ' adr' F' H' → FrC dl F H F' H' := fun f s => ⟨f.ex, fun a o h1 h2 => f.kp a o List.not_mem_nil h1 h2, fun a h1 h2 t => f.nf a h1 h2 t List.not_mem_nil, f.al, f.tp, s.ex, fun d l h => (s.dl d l h).1⟩
  refine d dl (L2.start N vs) (startD N.length xs) [] [] F H (endsD Qd) _ ⟨st, ?_, ?_, Nat.le_refl _⟩ (b xs Qd h) ?_ ?_ (fun _ _ _ _ _ _ _ _ z => z.elim) (fun _ _ _ _ _ _ _ _ z => z.elim)
  · rw [startD_eq _ _ (by omega)]
    refine ⟨by unfold L2.start; simp [lx], fun i x ex => ?_⟩
    by_cases hi : i < xs.length
    · rw [List.getElem?_append_left (by rw [List.length_map]; exact hi), List.getElem?_map] at ex
      cases e2 : xs[i]? with
      | none => rw [e2] at ex; cases ex
      | some y =>
        rw [e2] at ex
        cases ex
        obtain ⟨v, h1, h2⟩ := r.get i _ e2
        refine ⟨v, ?_, h2⟩
        unfold L2.start
        rw [List.getElem?_append_left (by rw [List.length_map]; omega), List.getElem?_map, h1]
        rfl
    · rw [List.getElem?_append_right (by rw [List.length_map]; omega), List.getElem?_replicate] at ex
      split at ex <;> cases ex
  · intro i x ex
    rw [startD_eq _ _ (by omega)] at ex
    by_cases hi : i < xs.length
    · rw [List.getElem?_append_left (by rw [List.length_map]; exact hi), List.getElem?_map] at ex
      cases e2 : xs[i]? with
      | none => rw [e2] at ex; cases ex
      | some y =>
        rw [e2] at ex
        cases ex
        obtain ⟨v, h1, h2⟩ := r.get i _ e2
        refine ⟨fun k hk => ?_, fun k hk => ?_⟩
        · rw [hk] at h2; obtain ⟨a, z, _⟩ := h2; simp at z
        · rw [hk] at h2; obtain ⟨a, z, _⟩ := h2; simp at z
    · rw [List.getElem?_append_right (by rw [List.length_map]; omega), List.getElem?_replicate] at ex
      split at ex <;> cases ex
  · intro σ' ρ' μ' adr' F' H' f a' h'
    exact q .non (.d .none) F' H' (fc f a'.s) .non h'
  · intro v x μ' adr' F' H' f s' r' h'
    have fresh : ∀ {k : Nat} {a : Addr}, adr'[k]? = some a → H a = none := fun e => by
      rcases f.fr _ (List.mem_of_getElem? e) with z | z
      · cases z
      · exact z
    cases x with
    | d y => exact q v (.d y) F' H' (fc f s') r' h'
    | dl => exact h'.elim
    | r k =>
      obtain ⟨a, e1, rfl⟩ := r'
      obtain ⟨rr, h1, h2⟩ := rt_ref H s' e1 (fresh e1) h'
      exact q _ rr F' H' (fc f s') h1 h2
    | t k =>
      obtain ⟨a, e1, rfl⟩ := r'
      obtain ⟨rr, h1, h2⟩ := rt_ref H s' e1 (fresh e1) h'
      exact q _ rr F' H' (fc f s') h1 h2
theorem spD_len {sp : DSp} {k : Nat} {vs : List V} {H : Hp} {Q : VK} {E : XK} (hs : ∀ xs Qd, sp xs Qd → xs.length = k) (h : spD sp vs H Q E) : vs.length = k := by
  obtain ⟨dl, F, xs, Qd, e, dk, r, h, q⟩ := h
  rw [r.length]
  exact hs xs Qd h
end DL

set_option Elab.async false
set_option linter.all false
set_option maxRecDepth 100000
set_option maxHeartbeats 4000000
/-! The data layer: objects that change (lists). -/
namespace DL
open PySem PySem.Spec PyProof.Rows L2 CB

section
variable {dl : Option (Addr × Addr)} {n0 : Nat} {F H : Hp} {adr : List Addr} {μ : Sto}
/-- an object of the store changes -/
theorem Sts.mut (s : Sts dl μ adr F H) {k : Nat} {a : Addr} {u : HO} {o' : OV} (e : adr[k]? = some a) (f : F a = none) (w : ObR F (upd H a u) a o') : Sts dl (μ.set k o') adr F (upd H a u) := by
  refine ⟨fun b o e2 => ?_, by rw [List.length_set]; exact s.len, fun i b q e1 e2 => ?_, s.nd, fun b hb => ?_, fun d l e2 => ?_⟩
  · rw [upd_ne (ne_of_none e2 f)]; exact s.ex b o e2
  · by_cases h : i = k
    · subst h
      rw [e] at e1
      cases e1
      have := (List.getElem?_eq_some_iff.mp e2).1
      rw [List.length_set] at this
      rw [List.getElem?_set_self this] at e2
      cases e2
      exact w
    · rw [List.getElem?_set_ne (fun z => h z.symm)] at e2
      have hx := s.obs i b q e1 e2
      have ne : b ≠ a := fun z => by
        subst z
        obtain ⟨l1, l2⟩ := List.getElem?_eq_some_iff.mp e
        obtain ⟨l3, l4⟩ := List.getElem?_eq_some_iff.mp e1
        exact h ((List.getElem_inj s.nd).mp (l4.trans l2.symm))
      cases q with
      | lst ds => obtain ⟨f, xs, h, r⟩ := hx; exact ⟨f, xs, by rw [upd_ne ne]; exact h, r⟩
      | dT es => obtain ⟨f, xs, h, r⟩ := hx; exact ⟨f, xs, by rw [upd_ne ne]; exact h, r⟩
      | dK es => obtain ⟨f, xs, h, r⟩ := hx; exact ⟨f, xs, by rw [upd_ne ne]; exact h, r⟩
      | fz x => exact hx
      | gone => trivial
  · by_cases z : b = a
    · rw [z, upd_same]; exact Option.some_ne_none _
    · rw [upd_ne z]; exact s.al b hb
  · obtain ⟨D, f1, f2, n1, n2⟩ := s.dl d l e2
    have m := List.mem_of_getElem? e
    exact ⟨D.upd (fun z => n1 (by rw [← z]; exact m)) (fun z => n2 (by rw [← z]; exact m)), f1, f2, n1, n2⟩
theorem Fr.mut {k : Nat} {a : Addr} {u : HO} (e : adr[k]? = some a) (nt : ∀ xs, u ≠ .tup xs := by intro _ z; cases z) : Fr dl n0 F H adr F (upd H a u) adr :=
  ⟨fun _ _ e => e, fun b o h1 _ e2 => by rw [upd_ne (fun z => h1 (by rw [z]; exact List.mem_of_getElem? e))]; exact e2, fun _ e _ _ _ => e, fun b e2 => by
    by_cases z : b = a
    · rw [z, upd_same]; exact Option.some_ne_none _
    · rw [upd_ne z]; exact e2, fun b xs e2 => by
    by_cases z : b = a
    · rw [z, upd_same] at e2; exact absurd (Option.some.inj e2) (nt xs)
    · rw [upd_ne z] at e2; exact .inr e2, fun _ _ => rfl, fun _ e => .inl e⟩
end
abbrev GM := SV → List SV → Sto → (SV → Sto → Prop) → Prop
def DM (m : Nat) (r : V → List V → Hp → VK → Prop) (g : GM) : Prop := ∀ dl n0 μ adr F H v x vs xs (Qd : SV → Sto → Prop) (Q : VK), Sts dl μ adr F H → n0 ≤ μ.length → SvR dl adr F v x → SvA dl adr F vs xs → Ord μ.length n0 (x :: xs) → xs.length = m → g x xs μ Qd →
  Cn dl n0 F H adr Qd Q → r v vs H Q
def dMeth (g : GM) (t : TD) (u : TDa) : TD := fun ρ μ Q => t ρ μ fun x μ1 => match sqL μ1 x with
  | some _ => u ρ μ1 fun xs μ2 => g x xs μ2 Q
  | none => False
def dMeth0 (g : GM) (t : TD) : TD := fun ρ μ Q => t ρ μ fun x μ1 => match sqL μ1 x with
  | some _ => g x [] μ1 Q
  | none => False
section
variable {K : PySem.W.Frag} {ta : TE} {t1 : TD} {m : Nat} {ua : TA} {u : TDa} {r : V → List V → Hp → VK → Prop} {g : GM}
theorem ty_list {a : Addr} {xs : List V} {H : Hp} (h : H a = some (.lst xs)) : tyV K "list" (.ref a) H := Or.inl ⟨rfl, _, Or.inl (Or.inl h)⟩
theorem de_meth (o : DM m r g) (ha : DE ta t1) (hb : DA m ua u) : DE (tBM K "list" r ta ua) (dMeth g t1 u) := by
  intro dl n σ ρ μ adr F H Qd Q a h c
  refine ha dl n σ ρ μ adr F H _ _ a h fun v1 x1 μ1 adr1 F1 H1 f1 s1 l1 r1 n1 m1 h1 => ?_
  split at h1
  · rename_i ds e
    obtain ⟨b, xs, rfl, hb', q⟩ := sqL_inv s1 r1 e
    refine ⟨ty_list hb', ?_⟩
    refine hb dl n σ ρ μ1 adr1 F1 H1 _ _ (a.fr f1 s1 l1) h1 fun vs xs μ2 adr2 F2 H2 f2 s2 l2 r2 n2 o2 e2 h2 => ?_
    refine o dl μ.length μ2 adr2 F2 H2 _ x1 vs xs Qd Q s2 (Nat.le_trans l1 l2) (r1.fr f2 (r1.lt s1)) r2 ⟨m1, _, l1, l2, r1.lt s1, o2⟩ e2 h2 fun v x μ3 adr3 F3 H3 f3 s3 l3 r3 n3 m3 h3 => ?_
    exact c v x μ3 adr3 F3 H3 ((f1.trans f2 l1).trans f3 (Nat.le_refl _)) s3 l3 r3 (fun k hk => absurd hk (n3 k)) m3 h3
  · exact h1.elim
theorem de_meth0 (o : DM 0 r g) (ha : DE ta t1) : DE (tBM0 K "list" r ta) (dMeth0 g t1) := by
  intro dl n σ ρ μ adr F H Qd Q a h c
  refine ha dl n σ ρ μ adr F H _ _ a h fun v1 x1 μ1 adr1 F1 H1 f1 s1 l1 r1 n1 m1 h1 => ?_
  split at h1
  · rename_i ds e
    obtain ⟨b, xs, rfl, hb', q⟩ := sqL_inv s1 r1 e
    refine ⟨ty_list hb', ?_⟩
    refine o dl μ.length μ1 adr1 F1 H1 _ x1 [] [] Qd Q s1 l1 r1 .nil ⟨m1, _, l1, Nat.le_refl _, r1.lt s1, trivial⟩ rfl h1 fun v x μ3 adr3 F3 H3 f3 s3 l3 r3 n3 m3 h3 => ?_
    exact c v x μ3 adr3 F3 H3 (f1.trans f3 (Nat.le_refl _)) s3 l3 r3 (fun k hk => absurd hk (n3 k)) m3 h3
  · exact h1.elim
def gAppend : GM := fun x xs μ Q => match x, xs with
  | .r k, [y] => frz y μ fun z μ1 => match gt μ1 k with
    | some (.lst ds) => ds.length < 100000 ∧ Q (.d .none) (setAt k (.lst (ds ++ [z])) μ1)
    | _ => False
  | _, _ => False
theorem dm_append : DM 1 rAppend gAppend := by
  intro dl n0 μ adr F H v x vs xs Qd Q s hn r1 r2 o e h c
  unfold gAppend at h
  split at h
  · cases r2 with
    | cons q1 q2 =>
      cases q2
      rename_i k y v1
      obtain ⟨_, m, h2, h3, h4, h5⟩ := o
      obtain ⟨z, μ1, adr1, F1, f1, s1, l1, rz, g1⟩ := frz_ok s q1 h3 h5.1 h
      have r1' := r1.fr f1 h4
      obtain ⟨a, e1, rfl⟩ := r1'
      split at g1
      · rename_i ds e2
        obtain ⟨fa, ys, ha, rr⟩ := s1.at e1 e2
        refine ⟨a, ys, v1, rfl, rfl, ha, big (by rw [rr.length]; omega), ?_⟩
        have w : ObR F1 (upd H a (.lst (ys ++ [v1]))) a (.lst (ds ++ [z])) := ⟨fa, _, upd_same, rr.append (.cons rz .nil)⟩
        rw [setAt_eq] at g1
        exact c _ (.d .none) _ adr1 F1 _ ((f1.mono h2).trans (Fr.mut e1) (Nat.le_refl _)) (s1.mut e1 fa w) (by rw [List.length_set]; omega) .non (fun _ z => by cases z) (fun _ z => by cases z) g1.2
      · exact g1.elim
  · exact h.elim
def gPop : GM := fun x xs μ Q => match x, xs with
  | .r k, [] => match gt μ k with
    | some (.lst ds) => ∃ z, ds[ds.length - 1]? = some z ∧ Q (.d z) (setAt k (.lst ds.dropLast) μ)
    | _ => False
  | _, _ => False
theorem rpAll_dropLast {F : Hp} {vs : List V} {ds : List PyData} (h : RpAll F vs ds) : RpAll F vs.dropLast ds.dropLast := by
  rw [List.dropLast_eq_take, List.dropLast_eq_take, h.length]
  exact h.take _
theorem dm_pop : DM 0 rPop gPop := by
  intro dl n0 μ adr F H v x vs xs Qd Q s hn r1 r2 o e h c
  unfold gPop at h
  split at h
  · cases r2
    obtain ⟨a, e1, rfl⟩ := r1
    split at h
    · rename_i ds e2
      obtain ⟨fa, ys, ha, rr⟩ := s.at e1 e2
      obtain ⟨z, ez, h⟩ := h
      obtain ⟨w, ew, rw'⟩ := rr.get ez
      refine ⟨a, ys, w, rfl, rfl, ha, by rw [rr.length]; exact ew, ?_⟩
      rw [setAt_eq] at h
      exact c _ (.d z) _ adr F _ (Fr.mut e1) (s.mut (o' := .lst ds.dropLast) e1 fa ⟨fa, _, upd_same, rpAll_dropLast rr⟩) (by rw [List.length_set]; omega) rw' (fun _ z => by cases z) (fun _ z => by cases z) h
    · exact h.elim
  · exact h.elim
/-- xs.extend(ys), ys a list or a tuple -/
def rExtU (K : PySem.W.Frag) : V → List V → Hp → VK → Prop := fun x vs H Q => rExtK .L K x vs H Q ∨ rExtK .T K x vs H Q
theorem mt_extU {X : Cx} (hK : X.K = K := by rfl) : MtR X "list.extend" (rExtU K) := MtR.or (mt_extK .L (hK := hK)) (mt_extK .T (hK := hK))
def gExtend : GM := fun x xs μ Q => match x, xs with
  | .r k, [y] => match sq μ y, gt μ k with
    | some es, some (.lst ds) => ds.length + es.length ≤ 100000 ∧ Q (.d .none) (dr y (setAt k (.lst (ds ++ es)) μ))
    | _, _ => False
  | _, _ => False
theorem dm_extend : DM 1 (rExtU K) gExtend := by
  intro dl n0 μ adr F H v x vs xs Qd Q s hn r1 r2 o e h c
  unfold gExtend at h
  split at h
  · cases r2 with
    | cons q1 q2 =>
      cases q2
      rename_i k y v1
      obtain ⟨_, m, h2, h3, h4, h5⟩ := o
      obtain ⟨a, e1, rfl⟩ := r1
      split at h
      · rename_i es ds e3 e2
        obtain ⟨fa, ys, ha, rr⟩ := s.at e1 e2
        obtain ⟨b, zs, rfl, hb, rz⟩ := sq_inv s q1 e3
        have w : ObR F (upd H a (.lst (ys ++ zs))) a (.lst (ds ++ es)) := ⟨fa, _, upd_same, rr.append rz⟩
        have s2 := s.mut e1 fa w
        rw [← setAt_eq] at s2
        have hy : ∀ k, y = .t k → n0 ≤ k := fun k hk => Nat.le_trans h2 (h5.1 k hk)
        have fin : Q .non (upd H a (.lst (ys ++ zs))) := c _ (.d .none) _ (drA y adr) F _ ((Fr.mut e1).trans (Fr.dr y hy) (Nat.le_refl _)) (s2.dr y) (dr_len y hy (by rw [setAt_eq, List.length_set]; omega)) .non (fun _ z => by cases z) (fun _ z => by cases z) h.2
        have hl : ys.length + zs.length ≤ sizeLine := bigL (by rw [rr.length, rz.length]; exact h.1)
        rcases hb with hb | hb
        · exact .inl ⟨a, b, ys, zs, rfl, rfl, ha, SqL.of hb, hl, fin⟩
        · exact .inr ⟨a, b, ys, zs, rfl, rfl, ha, SqT.of hb, hl, fin⟩
      · exact h.elim
  · exact h.elim
/-! xs[i] = v -/
def dSetIx (t o i : TD) : TDS := fun D ρ μ => t ρ μ fun x μ1 => frz x μ1 fun z μ2 => o ρ μ2 fun y μ3 => i ρ μ3 fun w μ4 => match y, w with
  | .r k, .d (.int j) => match gt μ4 k with
    | some (.lst ds) => ∃ p, ixN ds.length j = some p ∧ D.nx ρ (setAt k (.lst (ds.set p z)) μ4)
    | _ => False
  | _, _ => False
theorem ds_setIx {to ti : TE} {t2 t3 : TD} (ha : DE ta t1) (ho : DE to t2) (hi : DE ti t3) : DS (tAsg ta (gSub to ti rSetL)) (dSetIx t1 t2 t3) := by
  intro dl σ ρ μ adr F H D E a h n r b c
  refine ha dl μ.length σ ρ μ adr F H _ _ a h fun v1 x1 μ1 adr1 F1 H1 f1 s1 l1 r1 n1 m1 h1 => ?_
  obtain ⟨z, μ2, adr2, F2, f2, s2, l2, r2, h2⟩ := frz_ok s1 r1 l1 m1 h1
  have f12 := f1.trans f2 (Nat.le_refl _)
  have a2 := a.fr f12 s2 l2
  refine ho dl μ.length σ ρ μ2 adr2 F2 H1 _ _ a2 h2 fun v3 x3 μ3 adr3 F3 H3 f3 s3 l3 r3 n3 m3 h3 => ?_
  have a3 := a2.fr f3 s3 l3
  refine hi dl μ.length σ ρ μ3 adr3 F3 H3 _ _ a3 h3 fun v4 x4 μ4 adr4 F4 H4 f4 s4 l4 r4 n4 m4 h4 => ?_
  have a4 := a3.fr f4 s4 l4
  have r3' := r3.fr f4 (r3.lt s3)
  have rz := Rp.ex f4.ex (Rp.ex f3.ex r2)
  split at h4
  · cases r4
    obtain ⟨p, e1, rfl⟩ := r3'
    split at h4
    · rename_i ds e2
      obtain ⟨j, ej, h4⟩ := h4
      obtain ⟨fa, ys, ha', rr⟩ := s4.at e1 e2
      refine ⟨p, ys, _, j, rfl, rfl, ha', by rw [rr.length]; exact ej, ?_⟩
      rw [setAt_eq] at h4
      have s5 := s4.mut (u := .lst (ys.set j v1)) (o' := .lst (ds.set j z)) e1 fa ⟨fa, _, upd_same, rr.set rz j⟩
      have f5 : Fr dl 0 F4 H4 adr4 F4 (upd H4 p (.lst (ys.set j v1))) adr4 := Fr.mut e1
      have fa4 : Fr dl 0 F H adr F4 H4 adr4 := ((f12.mono (Nat.zero_le _)).trans (f3.mono (Nat.zero_le _)) (Nat.le_refl _)).trans (f4.mono (Nat.zero_le _)) (Nat.le_refl _)
      refine n σ ρ _ adr4 F4 _ (fa4.trans f5 (Nat.le_refl _)) ⟨s5, a4.l, ?_, Nat.le_refl _⟩ h4
      rw [List.length_set]
      exact a4.up.b
    · exact h4.elim
  · exact h4.elim
end
end DL

set_option Elab.async false
set_option linter.all false
set_option maxRecDepth 100000
set_option maxHeartbeats 4000000
/-! The data layer: the rules by name, for the generator. -/
namespace DL
open PySem PySem.Spec PyProof.Rows L2 CB

section
variable {K : PySem.W.Frag} {ta tb tc : TE} {t1 t2 t3 : TD} {m : Nat} {ua : TA} {u : TDa}
theorem d2_sub : D2 (rI0 fun i j => .int (i - j)) (gI0 fun i j => .int (i - j)) := d2_I0 fun i j F => .int _
theorem d2_mod : D2 (rI (fun _ j => j ≠ 0) fun i j => .int (i.fmod j)) (gI (fun _ j => j ≠ 0) fun i j => .int (i.fmod j)) := d2_I fun i j F => .int _
theorem d2_fdiv : D2 (rI CDivG fun i j => .int (i.fdiv j)) (gI CDivG fun i j => .int (i.fdiv j)) := d2_I fun i j F => .int _
theorem d2_pow : D2 (rI CPow fun i j => .int (i ^ j.toNat)) (gI CPow fun i j => .int (i ^ j.toNat)) := d2_I fun i j F => .int _
theorem d2_lt : D2 (rI0 fun i j => .bl (decide (i < j))) (gI0 fun i j => .bool (decide (i < j))) := d2_I0 fun i j F => .bl _
theorem d2_le : D2 (rI0 fun i j => .bl (decide (i ≤ j))) (gI0 fun i j => .bool (decide (i ≤ j))) := d2_I0 fun i j F => .bl _
theorem d2_gt : D2 (rI0 fun i j => .bl (decide (j < i))) (gI0 fun i j => .bool (decide (j < i))) := d2_I0 fun i j F => .bl _
theorem d2_ge : D2 (rI0 fun i j => .bl (decide (j ≤ i))) (gI0 fun i j => .bool (decide (j ≤ i))) := d2_I0 fun i j F => .bl _
theorem de_cb {r : List V → Hp → VK → Prop} {g : GA} (o : DC m r g) (ha : DA m ua u) : DE (tCB r ua) (dCall g u) := de_args o ha
theorem pt_tru {X : Cx} {a : Expr} (ha : PE X a ta) (he : ∀ whole, isTrue a X.env whole = (do let v ← whole; standAt a.pos; holding [v] (truthy v)) := by intro _; rfl) (hK : X.K = K := by rfl) : PT X a (tTru K ta) := by
  subst hK
  exact pt_truth ha he
/-- name += number -/
def dAug (i : Nat) (f : Int → Int → Int) (t : TD) : TDS := fun D ρ μ => match gt ρ i with
  | some (some (.d (.int a))) => t ρ μ fun x μ1 => match x with
    | .d (.int b) => D.nx (setAt i (some (.d (.int (f a b)))) ρ) μ1
    | _ => False
  | _ => False
theorem ds_aug (i : Nat) {f : Int → Int → Int} (ha : DE ta t1) : DS (tAug i ta (ipI f)) (dAug i f t1) := by
  intro dl σ ρ μ adr F H D E a h n r b c
  unfold dAug at h
  split at h
  · rename_i z e
    rw [gt_eq] at e
    obtain ⟨v, h1, h2⟩ := a.l.2 i _ e
    cases h2
    refine ⟨_, h1, ?_⟩
    refine ha dl μ.length σ ρ μ adr F H _ _ a h fun v1 x1 μ1 adr1 F1 H1 f1 s1 l1 r1 n1 m1 h1 => ?_
    have a1 := a.fr f1 s1 l1
    split at h1
    · cases r1
      exact ⟨_, _, rfl, rfl, n _ _ μ1 adr1 F1 H1 (f1.mono (Nat.zero_le _)) (At.set (x := .d (.int _)) s1 a1.l a1.b a1.n i (Rp.int _)) h1⟩
    · exact h1.elim
  · exact h.elim
/-! ### max, min -/
def gI2 (f : Int → Int → Int) : GA := fun xs μ Q => match xs with
  | [.d (.int i), .d (.int j)] => Q (.d (.int (f i j))) μ
  | _ => False
theorem dc_I2 {f : Int → Int → Int} : DC 2 (fun xs H Q => ∃ i j, xs = [.int i, .int j] ∧ Q (.int (f i j)) H) (gI2 f) := by
  intro dl n0 μ adr F H vs xs Qd Q s hn r1 od e h c
  unfold gI2 at h
  split at h
  · cases r1 with
    | cons q1 q2 =>
      cases q2 with
      | cons q2 q3 =>
        cases q1
        cases q2
        cases q3
        exact ⟨_, _, rfl, Cn.fin c s hn (Nw.refl s.ex) (.int _) h⟩
  · exact h.elim
/-- max(list, default=number) -/
def dMaxD (t u : TDa) : TD := fun ρ μ Q => t ρ μ fun xs μ1 => u ρ μ1 fun ys μ2 => match xs, ys with
  | [x], [.d (.int d)] => match sqL μ2 x with
    | some ds => ∃ ns : List Int, ds = ns.map PyData.int ∧ Q (.d (.int (mxD d ns))) (dr x μ2)
    | none => False
  | _, _ => False
theorem de_maxD {n : Nat} {uk : TA} {k : TDa} (ha : DA m ua u) (hb : DA n uk k) : DE (tMaxD K ua uk) (dMaxD u k) := by
  intro dl n0 σ ρ μ adr F H Qd Q a h c
  refine ha dl n0 σ ρ μ adr F H _ _ a h fun vs xs μ1 adr1 F1 H1 f1 s1 l1 r1 n1 o1 e1 h1 => ?_
  refine hb dl n0 σ ρ μ1 adr1 F1 H1 _ _ (a.fr f1 s1 l1) h1 fun ws ys μ2 adr2 F2 H2 f2 s2 l2 r2 n2 o2 e2 h2 => ?_
  split at h2
  · rename_i x d
    split at h2
    · rename_i ds e
      obtain ⟨ns, rfl, h2⟩ := h2
      cases r1 with
      | cons q1 q2 =>
        cases q2
        cases r2 with
        | cons w1 w2 =>
          cases w2
          cases w1
          have q1' := q1.fr f2 (q1.lt s1)
          obtain ⟨b, xs, rfl, hb, q⟩ := sqL_inv s2 q1' e
          cases rp_ints_of q
          refine ⟨b, ns, d, rfl, rfl, SqL.of hb, ?_⟩
          exact c _ (.d (.int _)) (dr x μ2) (drA x adr2) F2 H2 ((f1.trans f2 l1).trans (Fr.dr x o1.1) (Nat.le_refl _)) (s2.dr x) (dr_len x o1.1 (Nat.le_trans l1 l2)) (Rp.int _) (fun _ z => by cases z) (fun _ z => by cases z) h2
    · exact h2.elim
  · exact h2.elim
end
/-! ### the deal -/
def dsp_draw : DSp := fun xs Q => ∃ m, xs = [.dl, .d (.int m)] ∧ (0 < m ∧ m < 1073741824) ∧ ∀ r : Int, 0 ≤ r → r < m → Q (.d (.int r))
theorem spD_draw {vs : List V} {H : Hp} {Q : VK} {E : XK} (h : spD dsp_draw vs H Q E) : sp_draw vs H Q E := by
  obtain ⟨dl, F, xs, Qd, e, dk, r, ⟨m, rfl, hm, h⟩, q⟩ := h
  cases r with
  | cons q1 q2 =>
    cases q2 with
    | cons q2 q3 =>
      cases q2
      cases q3
      obtain ⟨d, l, rfl, rfl⟩ := q1
      obtain ⟨D, f1, f2⟩ := dk d l rfl
      refine ⟨d, l, m, rfl, D, hm.1, hm.2, fun r H' h0 h1 D' k => ?_⟩
      have kp : ∀ a o, ¬ isDl (some (d, l)) a → H a = some o → H' a = some o := fun a o h1 h2 => k a o (fun z => h1 ⟨d, l, rfl, .inl z⟩) (fun z => h1 ⟨d, l, rfl, .inr z⟩) h2
      refine q (.int r) (.d (.int r)) F H' ⟨fun _ _ e => e, kp, fun _ e _ _ => e, fun a ha => ?_, fun a xs ea => ?_, fun a o ea => ?_, fun d' l' e' => by cases e'; exact D'⟩ (Rp.int _) (h r h0 h1)
      · by_cases z1 : a = d
        · rw [z1]; exact (deal_ne D').1
        · by_cases z2 : a = l
          · rw [z2]; exact (deal_ne D').2
          · cases ea : H a with
            | none => exact absurd ea ha
            | some o => rw [k a o z1 z2 ea]; exact Option.some_ne_none _
      · by_cases z1 : a = d
        · rw [z1] at ea; exact absurd ea ((deal_nt D').1 xs)
        · by_cases z2 : a = l
          · rw [z2] at ea; exact absurd ea ((deal_nt D').2 xs)
          · cases e2 : H a with
            | none => exact .inl rfl
            | some o => rw [k a o z1 z2 e2] at ea; exact .inr ea
      · exact k a o (fun z => by rw [z, f1] at ea; cases ea) (fun z => by rw [z, f2] at ea; cases ea) (e a o ea)
end DL

set_option Elab.async false
set_option linter.all false
set_option maxRecDepth 100000
set_option maxHeartbeats 4000000
/-! The data layer: dicts by tuples. -/
namespace DL
open PySem PySem.Spec PyProof.Rows L2 CB

def valD (es : List (List Key × PyData)) (k : List Key) : Option PyData := (es.find? fun p => decide (p.1 = k)).map Prod.snd
def putD (es : List (List Key × PyData)) (k : List Key) (y : PyData) : List (List Key × PyData) :=
  if (es.any fun p => decide (p.1 = k)) = true then es.map (fun p => if p.1 = k then (p.1, y) else p) else es ++ [(k, y)]
def mergeD (es more : List (List Key × PyData)) : List (List Key × PyData) := more.foldl (fun acc p => putD acc p.1 p.2) es
/-- a dict as it stands in the heap, and as data -/
def DR (F : Hp) (kvs : List (List Key × V)) (es : List (List Key × PyData)) : Prop := kvs.map Prod.fst = es.map Prod.fst ∧ RpAll F (kvs.map Prod.snd) (es.map Prod.snd)
section
variable {F F' : Hp} {kvs : List (List Key × V)} {es : List (List Key × PyData)} {k : List Key} {v : V} {y : PyData}
theorem DR.ex (h : DR F kvs es) (e : Ex F F') : DR F' kvs es := ⟨h.1, h.2.ex e⟩
theorem DR.nil : DR F [] [] := ⟨rfl, .nil⟩
theorem DR.cons (r : Rp F v y) (h : DR F kvs es) : DR F ((k, v) :: kvs) ((k, y) :: es) := ⟨by rw [List.map_cons, List.map_cons, h.1], .cons r h.2⟩
theorem DR.inv {p : List Key × V} {es : List (List Key × PyData)} (h : DR F (p :: kvs) es) : ∃ y es', es = (p.1, y) :: es' ∧ Rp F p.2 y ∧ DR F kvs es' := by
  cases es with
  | nil => exact absurd h.1 (by simp)
  | cons q r =>
    obtain ⟨h1, h2⟩ := h
    cases h2 with
    | cons a b =>
      obtain ⟨q1, q2⟩ := q
      simp only [List.map_cons, List.cons.injEq] at h1
      obtain ⟨rfl, h1⟩ := h1
      exact ⟨q2, r, rfl, a, h1, b⟩
theorem DR.inv0 {es : List (List Key × PyData)} (h : DR F [] es) : es = [] := by
  cases es with
  | nil => rfl
  | cons q r => exact absurd h.1 (by simp)
theorem DR.length : ∀ {kvs : List (List Key × V)} {es : List (List Key × PyData)}, DR F kvs es → kvs.length = es.length := fun h => by
  have := congrArg List.length h.1
  rwa [List.length_map, List.length_map] at this
theorem DR.zip (h : DR F kvs es) : kvs = (es.map Prod.fst).zip (kvs.map Prod.snd) := by
  rw [← h.1]
  exact List.zip_of_prod rfl rfl
theorem DR.of_zip {xs : List V} (h : RpAll F xs (es.map Prod.snd)) : DR F ((es.map Prod.fst).zip xs) es := by
  have l := h.length
  rw [List.length_map] at l
  exact ⟨by rw [List.map_fst_zip (by rw [List.length_map]; omega)], by rw [List.map_snd_zip (by rw [List.length_map]; omega)]; exact h⟩
theorem DR.val : ∀ {kvs : List (List Key × V)} {es : List (List Key × PyData)}, DR F kvs es → (valV kvs k = none ∧ valD es k = none) ∨ ∃ v y, valV kvs k = some v ∧ valD es k = some y ∧ Rp F v y
  | [], es, h => by rw [h.inv0]; exact .inl ⟨rfl, rfl⟩
  | p :: kvs, es, h => by
    obtain ⟨y, es', rfl, r, h'⟩ := h.inv
    by_cases e : p.1 = k
    · refine .inr ⟨p.2, y, valV_pos e, ?_, r⟩
      unfold valD
      rw [List.find?_cons_of_pos (by simpa using e)]
      rfl
    · rw [valV_neg e]
      have : valD ((p.1, y) :: es') k = valD es' k := by
        unfold valD
        rw [List.find?_cons_of_neg (by simpa using e)]
      rw [this]
      exact DR.val h'
theorem DR.any (h : DR F kvs es) : (kvs.any fun p => decide (p.1 = k)) = (es.any fun p => decide (p.1 = k)) := by
  have e1 : (kvs.any fun p => decide (p.1 = k)) = ((kvs.map Prod.fst).any fun a => decide (a = k)) := by rw [List.any_map]; rfl
  have e2 : (es.any fun p => decide (p.1 = k)) = ((es.map Prod.fst).any fun a => decide (a = k)) := by rw [List.any_map]; rfl
  rw [e1, e2, h.1]
theorem DR.repl : ∀ {kvs : List (List Key × V)} {es : List (List Key × PyData)}, DR F kvs es → Rp F v y → DR F (kvs.map fun kv => if kv.1 = k then (kv.1, v) else kv) (es.map fun p => if p.1 = k then (p.1, y) else p)
  | [], es, h, r => by rw [h.inv0]; exact .nil
  | p :: kvs, es, h, r => by
    obtain ⟨z, es', rfl, r', h'⟩ := h.inv
    rw [List.map_cons, List.map_cons]
    by_cases e : p.1 = k
    · rw [if_pos e, if_pos e]; exact DR.cons r (DR.repl h' r)
    · rw [if_neg e, if_neg e]; exact DR.cons r' (DR.repl h' r)
theorem DR.snoc (h : DR F kvs es) (r : Rp F v y) : DR F (kvs ++ [(k, v)]) (es ++ [(k, y)]) :=
  ⟨by rw [List.map_append, List.map_append, h.1]; rfl, by rw [List.map_append, List.map_append]; exact h.2.append (.cons r .nil)⟩
theorem DR.put (h : DR F kvs es) (r : Rp F v y) : DR F (putK kvs k v) (putD es k y) := by
  unfold putK putD
  rw [h.any (k := k)]
  by_cases e : (es.any fun p => decide (p.1 = k)) = true
  · rw [if_pos e, if_pos e]; exact h.repl r
  · rw [if_neg e, if_neg e]; exact h.snoc r
theorem DR.merge : ∀ {more : List (List Key × V)} {ms : List (List Key × PyData)} {kvs : List (List Key × V)} {es : List (List Key × PyData)}, DR F more ms → DR F kvs es → DR F (mergeT kvs more) (mergeD es ms)
  | [], ms, kvs, es, h, h2 => by rw [h.inv0]; exact h2
  | p :: more, ms, kvs, es, h, h2 => by
    obtain ⟨y, ms', rfl, r, h'⟩ := h.inv
    exact DR.merge (more := more) (ms := ms') h' (h2.put r)
end
theorem putD_len (es : List (List Key × PyData)) (k : List Key) (y : PyData) : (putD es k y).length ≤ es.length + 1 := by
  unfold putD
  split
  · rw [List.length_map]; omega
  · rw [List.length_append]; exact Nat.le_refl _
/-- the tuple of a key is tracked -/
theorem kt_inv {F : Hp} {v : V} {ks : List Key} (r : Rp F v (kt ks)) : ∃ b, v = .ref b ∧ F b = some (.tup (ks.map kV)) := by
  cases r with
  | tup h1 h2 =>
    refine ⟨_, rfl, ?_⟩
    have : ∀ {ks : List Key} {xs : List V}, RpAll F xs (ks.map kD) → xs = ks.map kV := by
      intro ks
      induction ks with
      | nil => intro xs h; cases h; rfl
      | cons k ks ih =>
        intro xs h
        cases h with
        | cons a b =>
          cases k with
          | inl i => cases a; rw [ih b]; rfl
          | inr i => cases a; rw [ih b]; rfl
    rw [this h2] at h1
    exact h1
/-- what is a dict, and what it holds -/
def IsDict (μ : Sto) (x : SV) (es : List (List Key × PyData)) : Prop := match x with
  | .d y => y = dictD es
  | .r k => gt μ k = some (.dT es)
  | _ => False
section
variable {dl : Option (Addr × Addr)} {n0 : Nat} {F H : Hp} {adr : List Addr} {μ : Sto} {v : V} {x : SV} {es : List (List Key × PyData)} {y : PyData}
theorem kt_inj : ∀ {a b : List Key}, kt a = kt b → a = b := by
  intro a b h0
  have h : a.map kD = b.map kD := PyData.tuple.inj h0
  clear h0
  induction a generalizing b with
  | nil => cases b with
    | nil => rfl
    | cons k b => cases h
  | cons k a ih => cases b with
    | nil => cases h
    | cons l b =>
      simp only [List.map_cons, List.cons.injEq] at h
      have : k = l := by
        cases k with
        | inl i => cases l with
          | inl j => have := PyData.int.inj h.1; rw [this]
          | inr j => exact nomatch h.1
        | inr i => cases l with
          | inl j => exact nomatch h.1
          | inr j => have := PyData.str.inj h.1; rw [this]
      rw [this, ih h.2]
theorem dictD_inj {es fs : List (List Key × PyData)} (h0 : dictD es = dictD fs) : es = fs := by
  have h : es.map (fun p => (kt p.1, p.2)) = fs.map (fun p => (kt p.1, p.2)) := PyData.dict.inj h0
  clear h0
  induction es generalizing fs with
  | nil => cases fs with
    | nil => rfl
    | cons q r => cases h
  | cons p es ih => cases fs with
    | nil => cases h
    | cons q fs =>
      simp only [List.map_cons, List.cons.injEq, Prod.mk.injEq] at h
      obtain ⟨⟨h1, h2⟩, h3⟩ := h
      rw [ih h3, show p = q from Prod.ext (kt_inj h1) h2]
theorem rp_dict (r : Rp F v (dictD es)) : ∃ a o kvs, v = .ref a ∧ F a = some (.frz o (.dT kvs)) ∧ DR F kvs es := by
  generalize e : dictD es = z at r
  cases r with
  | dT h1 h2 =>
    have := dictD_inj e
    subst this
    exact ⟨_, _, _, rfl, h1, DR.of_zip h2⟩
  | _ => exact nomatch e
theorem isDict_inv (s : Sts dl μ adr F H) (r : SvR dl adr F v x) (h : IsDict μ x es) : ∃ a kvs, v = .ref a ∧ Rd H a (.dT kvs) ∧ DR F kvs es := by
  cases x with
  | d z =>
    cases (show z = dictD es from h)
    obtain ⟨a, o, kvs, rfl, h1, h2⟩ := rp_dict r
    exact ⟨a, kvs, rfl, .inr ⟨o, s.ex _ _ h1⟩, h2⟩
  | r k =>
    obtain ⟨a, e, rfl⟩ := r
    obtain ⟨_, xs, h1, h2⟩ := s.at e h
    exact ⟨a, _, rfl, .inl h1, DR.of_zip h2⟩
  | t k => exact h.elim
  | dl => exact h.elim
end
section
variable {K : PySem.W.Frag} {ta tb tc : TE} {t1 t2 t3 : TD}
/-- d.get(k, y) -/
def dDget2 (t u w : TD) : TD := fun ρ μ Q => t ρ μ fun x μ1 => ∃ es, IsDict μ1 x es ∧ u ρ μ1 fun y μ2 => w ρ μ2 fun z μ3 => IsDict μ3 x es ∧ ∃ ks zz, y = .d (kt ks) ∧ z = .d zz ∧ Q (.d ((valD es ks).getD zz)) μ3
theorem de_dget2 (ha : DE ta t1) (hb : DE tb t2) (hc : DE tc t3) : DE (tDGet2 ta tb tc) (dDget2 t1 t2 t3) := by
  intro dl n σ ρ μ adr F H Qd Q a h c
  refine ha dl n σ ρ μ adr F H _ _ a h fun v1 x1 μ1 adr1 F1 H1 f1 s1 l1 r1 n1 m1 h1 => ?_
  obtain ⟨es, i1, h1⟩ := h1
  obtain ⟨b, kvs, rfl, hd, dr⟩ := isDict_inv s1 r1 i1
  refine ⟨b, rfl, .inr ⟨kvs, hd⟩, ?_⟩
  have a1 := a.fr f1 s1 l1
  refine hb dl n σ ρ μ1 adr1 F1 H1 _ _ a1 h1 fun v2 x2 μ2 adr2 F2 H2 f2 s2 l2 r2 n2 m2 h2 => ?_
  refine hc dl n σ ρ μ2 adr2 F2 H2 _ _ (a1.fr f2 s2 l2) h2 fun v3 x3 μ3 adr3 F3 H3 f3 s3 l3 r3 n3 m3 h3 => ?_
  obtain ⟨i3, ks, zz, rfl, rfl, h3⟩ := h3
  have r1' := (r1.fr f2 (r1.lt s1)).fr (f3.mono l2) (r1.lt s1)
  obtain ⟨b', kvs', eb, hd', dr'⟩ := isDict_inv s3 r1' i3
  cases eb
  obtain ⟨q, rfl, hq⟩ := kt_inv (Rp.ex f3.ex r2)
  have fa := (f1.trans f2 l1).trans f3 (Nat.le_trans l1 l2)
  have la := Nat.le_trans l1 (Nat.le_trans l2 l3)
  refine ⟨valV kvs' ks, .inr ⟨kvs', ks, q, hd', rfl, s3.ex _ _ hq, rfl⟩, ?_⟩
  rcases dr'.val (k := ks) with ⟨e1, e2⟩ | ⟨v, y, e1, e2, rv⟩
  · rw [e2] at h3
    rw [e1]
    exact c _ (.d zz) μ3 adr3 F3 H3 fa s3 la r3 (fun _ z => by cases z) (fun _ z => by cases z) h3
  · rw [e2] at h3
    rw [e1]
    exact c v (.d y) μ3 adr3 F3 H3 fa s3 la rv (fun _ z => by cases z) (fun _ z => by cases z) h3
/-- d[k] -/
def dDget (t u : TD) : TD := fun ρ μ Q => t ρ μ fun x μ1 => u ρ μ1 fun y μ2 => ∃ es ks zz, IsDict μ2 x es ∧ y = .d (kt ks) ∧ valD es ks = some zz ∧ Q (.d zz) μ2
theorem de_dget (ha : DE ta t1) (hb : DE tb t2) : DE (tDGet ta tb) (dDget t1 t2) := by
  intro dl n σ ρ μ adr F H Qd Q a h c
  refine ha dl n σ ρ μ adr F H _ _ a h fun v1 x1 μ1 adr1 F1 H1 f1 s1 l1 r1 n1 m1 h1 => ?_
  refine hb dl n σ ρ μ1 adr1 F1 H1 _ _ (a.fr f1 s1 l1) h1 fun v2 x2 μ2 adr2 F2 H2 f2 s2 l2 r2 n2 m2 h2 => ?_
  obtain ⟨es, ks, zz, i2, rfl, ez, h2⟩ := h2
  obtain ⟨b, kvs, rfl, hd, dr⟩ := isDict_inv s2 (r1.fr f2 (r1.lt s1)) i2
  obtain ⟨q, rfl, hq⟩ := kt_inv r2
  rcases dr.val (k := ks) with ⟨e1, e2⟩ | ⟨v, y, e1, e2, rv⟩
  · rw [e2] at ez; cases ez
  · rw [e2] at ez
    cases ez
    exact ⟨b, v, rfl, .inr ⟨kvs, ks, q, hd, rfl, s2.ex _ _ hq, e1.symm⟩, c v (.d _) μ2 adr2 F2 H2 (f1.trans f2 l1) s2 (Nat.le_trans l1 l2) rv (fun _ z => by cases z) (fun _ z => by cases z) h2⟩
/-- d[k] = v -/
def dDput (o i t : TD) : TDS := fun D ρ μ => t ρ μ fun x μ1 => frz x μ1 fun z μ2 => o ρ μ2 fun y μ3 => i ρ μ3 fun w μ4 => ∃ k es ks, y = .r k ∧ gt μ4 k = some (.dT es) ∧ w = .d (kt ks) ∧ es.length < 100000 ∧ D.nx ρ (setAt k (.dT (putD es ks z)) μ4)
theorem ds_dput (ho : DE tb t2) (hi : DE tc t3) (ha : DE ta t1) : DS (sDPut tb tc ta) (dDput t2 t3 t1) := by
  intro dl σ ρ μ adr F H D E a h n r b c
  refine ha dl μ.length σ ρ μ adr F H _ _ a h fun v1 x1 μ1 adr1 F1 H1 f1 s1 l1 r1 n1 m1 h1 => ?_
  obtain ⟨z, μ2, adr2, F2, f2, s2, l2, r2, h2⟩ := frz_ok s1 r1 l1 m1 h1
  have f12 := f1.trans f2 (Nat.le_refl _)
  have a2 := a.fr f12 s2 l2
  refine ho dl μ.length σ ρ μ2 adr2 F2 H1 _ _ a2 h2 fun v3 x3 μ3 adr3 F3 H3 f3 s3 l3 r3 n3 m3 h3 => ?_
  have a3 := a2.fr f3 s3 l3
  refine hi dl μ.length σ ρ μ3 adr3 F3 H3 _ _ a3 h3 fun v4 x4 μ4 adr4 F4 H4 f4 s4 l4 r4 n4 m4 h4 => ?_
  have a4 := a3.fr f4 s4 l4
  obtain ⟨k, es, ks, rfl, ek, rfl, lt, h4⟩ := h4
  obtain ⟨p, e1, rfl⟩ := r3.fr f4 (r3.lt s3)
  have rz := Rp.ex f4.ex (Rp.ex f3.ex r2)
  obtain ⟨fa, xs, hp, rx⟩ := s4.at e1 ek
  obtain ⟨q, rfl, hq⟩ := kt_inv r4
  have dr := DR.of_zip rx
  refine ⟨p, _, rfl, .inr ⟨_, ks, q, hp, rfl, s4.ex _ _ hq, big (by rw [dr.length]; omega), rfl⟩, ?_⟩
  rw [setAt_eq] at h4
  have dp := dr.put (k := ks) rz
  have w : ObR F4 (upd H4 p (.dT (putK ((es.map Prod.fst).zip xs) ks v1))) p (.dT (putD es ks z)) := ⟨fa, _, by rw [upd_same]; exact congrArg (fun z => some (HO.dT z)) dp.zip, dp.2⟩
  have s5 := s4.mut e1 fa w
  have fa4 : Fr dl 0 F H adr F4 H4 adr4 := ((f12.mono (Nat.zero_le _)).trans (f3.mono (Nat.zero_le _)) (Nat.le_refl _)).trans (f4.mono (Nat.zero_le _)) (Nat.le_refl _)
  refine n σ ρ _ adr4 F4 _ (fa4.trans (Fr.mut e1) (Nat.le_refl _)) ⟨s5, a4.l, ?_, Nat.le_refl _⟩ h4
  rw [List.length_set]
  exact a4.up.b
/-- {} -/
def dDnew : TD := fun _ μ Q => psh (.dT []) μ Q
theorem de_dnewT : DE tDNewT dDnew := by
  intro dl n σ ρ μ adr F H Qd Q a h c p hp
  have cn : Cn dl μ.length F H adr Qd Q := fun v x μ' adr' F' H' f s l r n' m' hq => c v x μ' adr' F' H' f s l r (fun k hk => absurd hk (n' k)) m' hq
  exact Cn.new (b := .dT []) cn a.s (Nat.le_refl _) hp ⟨sub_none a.s.ex hp, [], upd_same, .nil⟩ h
/-- {k: v} -/
def dDisp (t u : TD) : TD := fun ρ μ Q => t ρ μ fun x μ1 => u ρ μ1 fun y μ2 => ∃ ks, x = .d (kt ks) ∧ frz y μ2 fun z μ3 => psh (.dT [(ks, z)]) μ3 Q
theorem de_disp1 (ha : DE ta t1) (hb : DE tb t2) : DE (tDispT ta tb) (dDisp t1 t2) := by
  intro dl n σ ρ μ adr F H Qd Q a h c p hp
  -- the empty dict stands beside the store
  have np : p ∉ adr := fun z => a.s.al p z hp
  have nF : F p = none := sub_none a.s.ex hp
  have nDl : ¬ isDl dl p := fun z => by
    obtain ⟨d, l, e, z⟩ := z
    obtain ⟨DD, _⟩ := a.s.dl d l e
    have := DD.nd hp
    rcases z with z | z
    · exact this.1 z
    · exact this.2 z
  have s0 : Sts dl μ adr F (upd H p (.dT [])) := by
    refine ⟨a.s.ex.trans (Evl.Ex.new hp), a.s.len, fun k b o e1 e2 => ?_, a.s.nd, fun b hb => ?_, fun d l e => ?_⟩
    · have ne : b ≠ p := fun z => np (by rw [← z]; exact List.mem_of_getElem? e1)
      have hx := a.s.obs k b o e1 e2
      cases o with
      | lst ds => obtain ⟨f, xs, h, r⟩ := hx; exact ⟨f, xs, by rw [upd_ne ne]; exact h, r⟩
      | dT es => obtain ⟨f, xs, h, r⟩ := hx; exact ⟨f, xs, by rw [upd_ne ne]; exact h, r⟩
      | dK es => obtain ⟨f, xs, h, r⟩ := hx; exact ⟨f, xs, by rw [upd_ne ne]; exact h, r⟩
      | fz x => exact hx
      | gone => trivial
    · rw [upd_ne (fun z => np (by rw [← z]; exact hb))]; exact a.s.al b hb
    · obtain ⟨DD, q1, q2, q3, q4⟩ := a.s.dl d l e
      have := DD.nd hp
      exact ⟨DD.upd this.1 this.2, q1, q2, q3, q4⟩
  have f0 : Fr dl μ.length F H adr F (upd H p (.dT [])) adr := ⟨fun _ _ e => e, fun b o _ _ e => by rw [upd_ne (ne_of_none e hp)]; exact e, fun _ e _ _ _ => e, fun b e => by
      by_cases z : b = p
      · rw [z, upd_same]; exact Option.some_ne_none _
      · rw [upd_ne z]; exact e, fun b xs e => by
      by_cases z : b = p
      · rw [z]; exact .inl hp
      · rw [upd_ne z] at e; exact .inr e, fun _ _ => rfl, fun _ e => .inl e⟩
  have a0 := a.fr f0 s0 (Nat.le_refl _)
  refine ha dl n σ ρ μ adr F _ _ _ a0 h fun v1 x1 μ1 adr1 F1 H1 f1 s1 l1 r1 n1 m1 h1 => ?_
  refine hb dl n σ ρ μ1 adr1 F1 H1 _ _ (a0.fr f1 s1 l1) h1 fun v2 x2 μ2 adr2 F2 H2 f2 s2 l2 r2 n2 m2 h2 => ?_
  obtain ⟨ks, rfl, h2⟩ := h2
  obtain ⟨q, rfl, hq⟩ := kt_inv (Rp.ex f2.ex r1)
  have f12 := f1.trans f2 l1
  have e2 : H2 p = some (.dT []) := f12.kp p _ np nDl upd_same
  refine ⟨e2, q, ks, rfl, s2.ex _ _ hq, ?_⟩
  obtain ⟨z, μ3, adr3, F3, f3, s3, l3, r3, h3⟩ := frz_ok s2 r2 (Nat.le_trans l1 l2) (fun k hk => Nat.le_trans l1 (m2 k hk)) h2
  have f13 := f12.trans f3 (Nat.le_refl _)
  have fp3 : F3 p = none := f13.nf p nF (by rw [upd_same]; exact Option.some_ne_none _) (fun ys z => by rw [upd_same] at z; cases z) np
  have np3 : p ∉ adr3 := fun w => by
    rcases f13.fr p w with w | w
    · exact np w
    · rw [upd_same] at w; cases w
  -- the dict changes, then it is pushed
  have s4 : Sts dl μ3 adr3 F3 (upd H2 p (.dT [(ks, v2)])) := by
    refine ⟨fun b o e => by rw [upd_ne (ne_of_none e fp3)]; exact s3.ex b o e, s3.len, fun k b o e1 e2 => ?_, s3.nd, fun b hb => ?_, fun d l e => ?_⟩
    · have ne : b ≠ p := fun z => np3 (by rw [← z]; exact List.mem_of_getElem? e1)
      have hx := s3.obs k b o e1 e2
      cases o with
      | lst ds => obtain ⟨f, xs, h, r⟩ := hx; exact ⟨f, xs, by rw [upd_ne ne]; exact h, r⟩
      | dT es => obtain ⟨f, xs, h, r⟩ := hx; exact ⟨f, xs, by rw [upd_ne ne]; exact h, r⟩
      | dK es => obtain ⟨f, xs, h, r⟩ := hx; exact ⟨f, xs, by rw [upd_ne ne]; exact h, r⟩
      | fz x => exact hx
      | gone => trivial
    · rw [upd_ne (fun z => np3 (by rw [← z]; exact hb))]; exact s3.al b hb
    · obtain ⟨DD, q1, q2, q3, q4⟩ := s3.dl d l e
      exact ⟨DD.upd (fun z => nDl ⟨d, l, e, .inl z⟩) (fun z => nDl ⟨d, l, e, .inr z⟩), q1, q2, q3, q4⟩
  have s5 := s4.push' (H0 := H2) (b := .dT [(ks, z)]) np3 nDl (by rw [upd_same]; exact Option.some_ne_none _) ⟨fp3, [v2], upd_same, .cons r3 .nil⟩
  refine c (.ref p) (.t μ3.length) _ _ F3 _ ?_ s5 (by rw [List.length_append]; omega) ⟨p, ?_, rfl⟩ (fun _ z => by cases z) (fun k z => by cases z; exact l3) h3
  · have ff := f0.trans f13 (Nat.le_refl _)
    refine ⟨ff.ex, fun b o h1 h2 e => ?_, ff.nf, fun b e => ?_, fun b xs e => ?_, fun k hk => ?_, fun b hb => ?_⟩
    · rw [upd_ne (ne_of_none e hp)]; exact ff.kp b o h1 h2 e
    · by_cases z : b = p
      · rw [z, upd_same]; exact Option.some_ne_none _
      · rw [upd_ne z]; exact ff.al b e
    · by_cases z : b = p
      · rw [z]; exact .inl hp
      · rw [upd_ne z] at e; exact ff.tp b xs e
    · rw [List.getElem?_append_left (by rw [s3.len]; omega)]; exact ff.st k hk
    · rcases List.mem_append.mp hb with hb | hb
      · exact ff.fr b hb
      · rw [List.mem_singleton.mp hb]; exact .inr hp
  · rw [← s3.len, List.getElem?_append_right (Nat.le_refl _), Nat.sub_self]
    rfl
/-- a new dict becomes data for good -/
def dLk (t : TD) : TD := fun ρ μ Q => t ρ μ fun x μ1 => match x with
  | .t k => match gt μ1 k with
    | some (.dT es) => Q (.d (dictD es)) (dropAt k (setAt k .gone μ1))
    | _ => False
  | _ => False
theorem de_lk (ha : DE ta t1) : DE (tLk ta) (dLk t1) := by
  intro dl n σ ρ μ adr F H Qd Q a h c
  refine ha dl n σ ρ μ adr F H _ _ a h fun v1 x1 μ1 adr1 F1 H1 f1 s1 l1 r1 n1 m1 h1 => ?_
  split at h1
  · rename_i k
    obtain ⟨p, e1, rfl⟩ := r1
    split at h1
    · rename_i es e2
      obtain ⟨fp, xs, hp, rx⟩ := s1.at e1 e2
      refine ⟨p, _, rfl, hp, trivial, fun od => ?_⟩
      -- H changes at p, F gets p
      have hm := List.mem_of_getElem? e1
      have up := Evl.Ex.new (o := HO.frz od (.dT ((es.map Prod.fst).zip xs))) fp
      have s2 : Sts dl (μ1.set k .gone) adr1 (upd F1 p (.frz od (.dT ((es.map Prod.fst).zip xs)))) (upd H1 p (.frz od (.dT ((es.map Prod.fst).zip xs)))) := by
        refine ⟨fun b o e => ?_, by rw [List.length_set]; exact s1.len, fun i b o e3 e4 => ?_, s1.nd, fun b hb => ?_, fun d l e => ?_⟩
        · by_cases z : b = p
          · rw [z, upd_same] at e ⊢; exact e
          · rw [upd_ne z] at e ⊢; exact s1.ex b o e
        · by_cases hik : i = k
          · subst hik
            have := (List.getElem?_eq_some_iff.mp e4).1
            rw [List.length_set] at this
            rw [List.getElem?_set_self this] at e4
            cases e4
            trivial
          · rw [List.getElem?_set_ne (fun z => hik z.symm)] at e4
            have ne : b ≠ p := fun z => by
              subst z
              obtain ⟨l1, l2⟩ := List.getElem?_eq_some_iff.mp e1
              obtain ⟨l3, l4⟩ := List.getElem?_eq_some_iff.mp e3
              exact hik ((List.getElem_inj s1.nd).mp (l4.trans l2.symm))
            have hx := s1.obs i b o e3 e4
            cases o with
            | lst ds => obtain ⟨f, xs, h, r⟩ := hx; exact ⟨by rw [upd_ne ne]; exact f, xs, by rw [upd_ne ne]; exact h, r.ex up⟩
            | dT es => obtain ⟨f, xs, h, r⟩ := hx; exact ⟨by rw [upd_ne ne]; exact f, xs, by rw [upd_ne ne]; exact h, r.ex up⟩
            | dK es => obtain ⟨f, xs, h, r⟩ := hx; exact ⟨by rw [upd_ne ne]; exact f, xs, by rw [upd_ne ne]; exact h, r.ex up⟩
            | fz x => exact Rp.ex up hx
            | gone => trivial
        · by_cases z : b = p
          · rw [z, upd_same]; exact Option.some_ne_none _
          · rw [upd_ne z]; exact s1.al b hb
        · obtain ⟨DD, q1, q2, q3, q4⟩ := s1.dl d l e
          have z1 : p ≠ d := fun z => q3 (by rw [← z]; exact hm)
          have z2 : p ≠ l := fun z => q4 (by rw [← z]; exact hm)
          exact ⟨DD.upd z1 z2, by rw [upd_ne z1.symm]; exact q1, by rw [upd_ne z2.symm]; exact q2, q3, q4⟩
      have f2 : Fr dl μ.length F1 H1 adr1 (upd F1 p (.frz od (.dT ((es.map Prod.fst).zip xs)))) (upd H1 p (.frz od (.dT ((es.map Prod.fst).zip xs)))) adr1 :=
        ⟨up, fun b o h1 _ e => by rw [upd_ne (fun z => h1 (by rw [z]; exact hm))]; exact e, fun b h1 h2 _ h3 => by rw [upd_ne (fun z => h3 (by rw [z]; exact hm))]; exact h1, fun b e => by
          by_cases z : b = p
          · rw [z, upd_same]; exact Option.some_ne_none _
          · rw [upd_ne z]; exact e, fun b xs e => by
          by_cases z : b = p
          · rw [z, upd_same] at e; cases e
          · rw [upd_ne z] at e; exact .inr e, fun _ _ => rfl, fun _ e => .inl e⟩
      have hk : ∀ j, SV.t k = .t j → μ.length ≤ j := m1
      rw [← setAt_eq] at s2
      exact c _ (.d (dictD es)) _ _ _ _ ((f1.trans f2 (Nat.le_refl _)).trans (Fr.dr (.t k) hk) (Nat.le_refl _)) (s2.dr (.t k)) (dr_len (.t k) hk (by rw [setAt_eq, List.length_set]; exact l1)) (Rp.dT upd_same (rx.ex up)) (fun _ z => by cases z) (fun _ z => by cases z) h1
    · exact h1.elim
  · exact h1.elim
theorem kt_all {F : Hp} : ∀ ks : List Key, RpAll F (ks.map kV) (ks.map kD)
  | [] => .nil
  | .inl i :: r => .cons (.int i) (kt_all r)
  | .inr i :: r => .cons (.str i) (kt_all r)
/-- a tuple that stands is added to what is frozen -/
theorem Nw.tup {F H : Hp} {q : Addr} {xs : List V} (e : Ex F H) (hq : H q = some (.tup xs)) : Nw F H (upd F q (.tup xs)) H := by
  refine ⟨fun b o eb => ?_, fun _ _ e => e, fun b o eb => ?_, fun b h1 h2 t => ?_, fun _ _ e => .inr e⟩
  · by_cases z : b = q
    · rw [z, upd_same]; rw [z] at eb; rw [e _ _ eb] at hq; exact hq.symm
    · rw [upd_ne z]; exact eb
  · by_cases z : b = q
    · rw [z, upd_same] at eb; cases eb; rw [z]; exact hq
    · rw [upd_ne z] at eb; exact e b o eb
  · rw [upd_ne (fun z => t xs (by rw [z]; exact hq))]; exact h1
/-- for k, v in d.items() -/
def pairD (p : List Key × PyData) : PyData := .tuple [kt p.1, p.2]
def dItems (t : TD) : TDi := fun ρ μ Q => t ρ μ fun x μ1 => ∃ es, x = .d (dictD es) ∧ Q (es.map pairD) μ1
theorem di_items (ha : DE ta t1) : DI (iItemsT ta) (dItems t1) := by
  intro dl n σ ρ μ adr F H Qd R a h c
  refine ha dl n σ ρ μ adr F H _ _ a h fun v1 x1 μ1 adr1 F1 H1 f1 s1 l1 r1 n1 m1 h1 => ?_
  obtain ⟨es, rfl, h1⟩ := h1
  obtain ⟨p, o, kvs, rfl, hp, dr⟩ := rp_dict r1
  refine ⟨p, o, kvs, rfl, s1.ex _ _ hp, c _ _ μ1 adr1 F1 H1 f1 s1 l1 ⟨fun i H e hi => ⟨e _ _ hp, ?_⟩, fun H e => ⟨e _ _ hp, ?_⟩, fun i H x H' F e1 e2 y hi => ?_⟩ h1⟩
  · rw [List.length_map] at hi; rw [dr.length]; exact hi
  · rw [List.length_map, dr.length]; exact Nat.le_refl _
  · obtain ⟨T, k, v, q, ek, rfl, nT, hq, rfl⟩ := y
    rw [List.length_map] at hi
    have ge : es[i]? = some es[i] := List.getElem?_eq_getElem hi
    have e3 : (kvs.map Prod.fst)[i]? = (es.map Prod.fst)[i]? := by rw [dr.1]
    rw [List.getElem?_map, List.getElem?_map, ek, ge] at e3
    have ek1 : k = es[i].1 := Option.some.inj e3
    obtain ⟨w, e4, rw'⟩ := dr.2.get (i := i) (d := es[i].2) (by rw [List.getElem?_map, ge]; rfl)
    rw [List.getElem?_map, ek] at e4
    cases e4
    have nf := sub_none e2 nT
    -- the key's tuple is data of its own: it is added
    have w1 := Nw.tup e2 hq
    have w2 := Nw.new (o := HO.tup [.ref q, v]) w1.sub nT
    refine ⟨_, pairD es[i], by rw [List.getElem?_map, ge]; rfl, w1.trans w2, ?_⟩
    have up := w1.ex.trans w2.ex
    have z := w2.ex q _ upd_same
    refine .tup upd_same (.cons ?_ (.cons (Rp.ex (e1.trans up) rw') .nil))
    rw [← ek1]
    exact .tup z (kt_all k)
end
end DL

set_option Elab.async false
set_option linter.all false
set_option maxRecDepth 100000
set_option maxHeartbeats 4000000
/-! The data layer: dict(..), sorted, in, repr, isinstance, reversed; the law's begin. -/
namespace DL
open PySem PySem.Spec PyProof.Rows L2 CB

section
variable {K : PySem.W.Frag} {ta tb tc : TE} {t1 t2 t3 : TD} {m : Nat} {ua : TA} {u : TDa}
/-! ### dict(list of pairs) -/
def fDict : SV → Sto → (SV → Sto → Prop) → Prop := fun x μ Q => match sqL μ x with
  | some ds => ∃ ps : List (List Key × PyData), ds = ps.map pairD ∧ psh (.dT (mergeD [] ps)) (dr x μ) Q
  | none => False
theorem pairs_rp {F H : Hp} (e : Ex F H) : ∀ {xs : List V} {ps : List (List Key × PyData)}, RpAll F xs (ps.map pairD) → ∃ (as : List Addr) (kvs : List (List Key × V)), xs = as.map V.ref ∧ Paired (PrT K H) as kvs ∧ DR F kvs ps
  | _, [], h => by cases h; exact ⟨[], [], rfl, .nil, .nil⟩
  | _, p :: ps, h => by
    cases h with
    | cons a b =>
      obtain ⟨as, kvs, rfl, q1, q2⟩ := pairs_rp e b
      cases a with
      | tup h1 h2 =>
        cases h2 with
        | cons r1 r2 =>
          cases r2 with
          | cons r2 r3 =>
            cases r3
            obtain ⟨q, rfl, hq⟩ := kt_inv r1
            exact ⟨_ :: as, (p.1, _) :: kvs, rfl, .cons ⟨q, SqT.of (e _ _ h1), e _ _ hq⟩ q1, DR.cons r2 q2⟩
theorem d1_dict : D1 (fun v H Q => rDictT K [v] H Q) fDict := by
  intro dl n0 μ adr F H v1 x1 Qd Q s hn r1 m1 h c
  unfold fDict at h
  split at h
  · rename_i ds e
    obtain ⟨ps, rfl, h⟩ := h
    obtain ⟨a, xs, rfl, hh, q⟩ := sqL_inv s r1 e
    obtain ⟨as, kvs, rfl, q1, q2⟩ := pairs_rp (K := K) s.ex q
    refine ⟨a, as, kvs, rfl, SqL.of hh, q1, fun p hp => ?_⟩
    have dm := q2.merge (DR.nil (F := F))
    have cn := Cn.after c (Fr.dr x1 m1)
    exact Cn.new (b := .dT (mergeD [] ps)) cn (s.dr x1) (dr_len x1 m1 hn) hp ⟨sub_none s.ex hp, _, by rw [upd_same]; exact congrArg (fun z => some (HO.dT z)) dm.zip, dm.2⟩ h
  · exact h.elim
/-! ### for k in d -/
def dKeys (t : TD) : TDi := fun ρ μ Q => t ρ μ fun x μ1 => ∃ es : List (List Key × PyData), x = .d (dictD es) ∧ Q (es.map fun p => kt p.1) μ1
theorem di_keys (ha : DE ta t1) : DI (iKeys ta) (dKeys t1) := by
  intro dl n σ ρ μ adr F H Qd R a h c
  refine ha dl n σ ρ μ adr F H _ _ a h fun v1 x1 μ1 adr1 F1 H1 f1 s1 l1 r1 n1 m1 h1 => ?_
  obtain ⟨es, rfl, h1⟩ := h1
  obtain ⟨p, o, kvs, rfl, hp, dr⟩ := rp_dict r1
  refine ⟨p, o, rfl, .inr ⟨kvs, s1.ex _ _ hp, c _ _ μ1 adr1 F1 H1 f1 s1 l1 ⟨fun i H e hi => ⟨e _ _ hp, ?_⟩, fun H e => ⟨e _ _ hp, ?_⟩, fun i H x H' F e1 e2 y hi => ?_⟩ h1⟩⟩
  · rw [List.length_map] at hi; rw [dr.length]; exact hi
  · rw [List.length_map, dr.length]; exact Nat.le_refl _
  · obtain ⟨rfl, k, v, q, ek, rfl, hq⟩ := y
    rw [List.length_map] at hi
    have ge : es[i]? = some es[i] := List.getElem?_eq_getElem hi
    have e3 : (kvs.map Prod.fst)[i]? = (es.map Prod.fst)[i]? := by rw [dr.1]
    rw [List.getElem?_map, List.getElem?_map, ek, ge] at e3
    have ek1 : k = es[i].1 := Option.some.inj e3
    refine ⟨_, kt es[i].1, by rw [List.getElem?_map, ge]; rfl, Nw.tup e2 hq, ?_⟩
    rw [← ek1]
    exact .tup upd_same (kt_all k)
/-! ### sorted -/
def sortD (ds : List PyData) : List PyData := ds.mergeSort (PySem.W.dataLe false id)
def SortOk (ds : List PyData) : Prop := PyData.canLayAll0 ds = true ∧ PySem.W.AllAlike ds ∧ PySem.W.Sortable ds ∧ ∀ d ∈ ds, d.depth ≤ 60
def fSort : SV → Sto → (SV → Sto → Prop) → Prop := fun x μ Q => match sqL μ x with
  | some ds => SortOk ds ∧ psh (.lst (sortD ds)) (dr x μ) Q
  | none => False
theorem rp_f2 {F : Hp} : ∀ {xs : List V} {ds : List PyData}, RpAll F xs ds → F2 (Rp F) xs ds
  | _, _, .nil => .nil
  | _, _, .cons a b => .cons a (rp_f2 b)
theorem f2_rp {F : Hp} : ∀ {xs : List V} {ds : List PyData}, F2 (Rp F) xs ds → RpAll F xs ds
  | _, _, .nil => .nil
  | _, _, .cons a b => .cons a (f2_rp b)
def rSortP (K : PySem.W.Frag) : List V → Hp → VK → Prop := fun vs H Q => ∃ (a : Addr) (xs : List V) (ds : List PyData), vs = [V.ref a] ∧ SqL K H a xs ∧ DpAll K H xs ds ∧ PySem.W.AllAlike ds ∧ PySem.W.Sortable ds ∧ (∀ d ∈ ds, d.depth ≤ 60) ∧
    ∀ p, H p = none → Q (.ref p) (upd H p (.lst (srt xs ds)))
theorem cr_sortU {X : Cx} (hu : X.A.units + 64 < cLine) (hK : X.K = K := by rfl) : CallR X (.builtin "sorted") (rSortP K) := cr_sortP hu hK
theorem d1_sort : D1 (fun v H Q => rSortP K [v] H Q) fSort := by
  intro dl n0 μ adr F H v1 x1 Qd Q s hn r1 m1 h c
  unfold fSort at h
  split at h
  · rename_i ds e
    obtain ⟨⟨c1, c2, c3, c4⟩, h⟩ := h
    obtain ⟨a, xs, rfl, hh, q⟩ := sqL_inv s r1 e
    refine ⟨a, xs, ds, rfl, SqL.of hh, (q.ex s.ex).dp c1, c2, c3, c4, fun p hp => ?_⟩
    have := f2_rp ((rp_f2 q).sort (enc := id))
    rw [List.map_id] at this
    exact Cn.newL1 c s hn x1 m1 hp this h
  · exact h.elim
/-! ### in, not in -/
def flatD : PyData → Bool
  | .none => true
  | .bool _ => true
  | .int _ => true
  | .str _ => true
  | _ => false
theorem flat_rp {F : Hp} {v : V} {a : PyData} (r : Rp F v a) (h : flatD a = true) : flatV v = true := by
  cases r <;> first | rfl | cases h
theorem eq_rp {F : Hp} {v w : V} {a b : PyData} (r : Rp F v a) (q : Rp F w b) (h : flatD a = true) (k : flatD b = true) : eqV w v = PyData.eqv b a := by
  cases r <;> (first | (cases h; done) | (cases q <;> first | (cases k; done) | (simp [eqV, PyData.eqv])))
theorem flat_all {F : Hp} : ∀ {xs : List V} {ds : List PyData}, RpAll F xs ds → ds.all flatD = true → xs.all flatV = true
  | _, _, .nil, _ => rfl
  | _, _, .cons a b, h => by
    rw [List.all_cons, Bool.and_eq_true] at h ⊢
    exact ⟨flat_rp a h.1, flat_all b h.2⟩
theorem in_rp {F : Hp} {v : V} {a : PyData} (r : Rp F v a) (h : flatD a = true) : ∀ {xs : List V} {ds : List PyData}, RpAll F xs ds → ds.all flatD = true → inV v xs = ds.any fun b => PyData.eqv b a
  | _, _, .nil, _ => rfl
  | _, _, .cons q t, k => by
    rw [List.all_cons, Bool.and_eq_true] at k
    unfold inV
    rw [List.any_cons, List.any_cons, eq_rp r q h k.1]
    have := in_rp r h t k.2
    unfold inV at this
    rw [this]
def rInU (K : PySem.W.Frag) (neg : Bool) : R2 := fun x y H Q => rIn K neg x y H Q ∨ ∃ (c : Nat) (z : Str), x = .str ⟨#[c]⟩ ∧ y = .str z ∧ Q (.bl (neg ^^ decide (c ∈ z.cps.toList))) H
theorem op_inU {X : Cx} (hK : X.K = K := by rfl) : OpR X (compareOp .In) (rInU K false) := opr_or (op_inK hK) (by
  intro pins s σ H x y v u Q I rx ry h
  obtain ⟨c, z, h1, h2, h3⟩ := h
  rw [Bool.false_xor] at h3
  exact op_in_sign pins s σ H x y v u Q I rx ry ⟨c, z, h1, h2, h3⟩)
theorem op_notInU {X : Cx} (hK : X.K = K := by rfl) : OpR X (compareOp .NotIn) (rInU K true) := opr_or (op_notInK hK) (by
  intro pins s σ H x y v u Q I rx ry h
  obtain ⟨c, z, h1, h2, h3⟩ := h
  rw [Bool.true_xor] at h3
  exact op_notIn_sign pins s σ H x y v u Q I rx ry ⟨c, z, h1, h2, h3⟩)
def gIn (neg : Bool) : G2 := fun x y μ Q => match x, y with
  | .d (.str a), .d (.str z) => ∃ c, a = ⟨#[c]⟩ ∧ Q (.d (.bool (neg ^^ decide (c ∈ z.cps.toList)))) μ
  | .d a, y => match sq μ y with
    | some ds => (flatD a = true ∧ ds.all flatD = true) ∧ Q (.d (.bool (neg ^^ ds.any fun b => PyData.eqv b a))) (dr y μ)
    | none => False
  | _, _ => False
theorem d2_inN (neg : Bool) : D2 (rInU K neg) (gIn neg) := by
  intro dl n0 μ adr F H v1 v2 x1 x2 Qd Q s hn r1 r2 m1 m2 h c
  unfold gIn at h
  split at h
  · cases r1; cases r2
    obtain ⟨cc, rfl, h⟩ := h
    exact .inr ⟨cc, _, rfl, rfl, Cn.fin c s hn (Nw.refl s.ex) (.bl _) h⟩
  · split at h
    · rename_i ds e
      obtain ⟨⟨h1, h2⟩, h⟩ := h
      obtain ⟨a, xs, rfl, hh, q⟩ := sq_inv s r2 e
      refine .inl ⟨a, xs, rfl, ?_, flat_rp r1 h1, flat_all q h2, ?_⟩
      · rcases hh with hh | hh
        · exact .inl (SqL.of hh)
        · exact .inr (SqT.of hh)
      · rw [in_rp r1 h1 q h2]
        have := Cn.fin1 c s hn _ m2 (Nw.refl s.ex) (.bl _) h
        cases neg with
        | true => rw [if_pos rfl]; rw [Bool.true_xor] at this; exact this
        | false => rw [if_neg (by decide)]; rw [Bool.false_xor] at this; exact this
    · exact h.elim
  · exact h.elim
theorem d2_in : D2 (rInU K false) (gIn false) := d2_inN false
theorem d2_notIn : D2 (rInU K true) (gIn true) := d2_inN true
/-! ### repr -/
def rReprU (K : PySem.W.Frag) : List V → Hp → VK → Prop := fun xs H Q => (∃ i, xs = [.int i] ∧ i.natAbs.log2 < 1920 ∧ Q (.str (toString i)) H) ∨ ∃ v d, xs = [v] ∧ Dp K H v d ∧ (∃ a, v = .ref a) ∧ SeqAt.shaped d = true ∧ d.showable = true ∧ d.shown.length ≤ sizeLine ∧ Q (.str d.shown) H
theorem call_reprU {X : Cx} (hgd : X.A.guards = some []) (hu : X.A.units + 66 < cLine) (hK : X.K = K := by rfl) : CallR X (.builtin "repr") (rReprU K) := CallR.or SkE.call_repr_int (call_reprD hgd hu hK)
def ShowOk (y : PyData) : Prop := SeqAt.shaped y = true ∧ y.showable = true ∧ y.shown.length ≤ 100000
def fRepr : SV → Sto → (SV → Sto → Prop) → Prop := fun x μ Q => match x with
  | .d (.int i) => i.natAbs.log2 < 1920 ∧ Q (.d (.str (toString i))) μ
  | .d (.tuple ds) => ShowOk (.tuple ds) ∧ Q (.d (.str (PyData.shown (.tuple ds)))) μ
  | x => match sqL μ x with
    | some ds => ShowOk (.list ds) ∧ Q (.d (.str (PyData.shown (.list ds)))) (dr x μ)
    | none => False
theorem d1_repr : D1 (fun v H Q => rReprU K [v] H Q) fRepr := by
  intro dl n0 μ adr F H v1 x1 Qd Q s hn r1 m1 h c
  unfold fRepr at h
  split at h
  · cases r1
    exact .inl ⟨_, rfl, h.1, Cn.fin c s hn (Nw.refl s.ex) (.str _) h.2⟩
  · obtain ⟨⟨h1, h2, h3⟩, h⟩ := h
    refine .inr ⟨v1, _, rfl, (Rp.ex s.ex r1).dp (shaped_lay h1), ?_, h1, h2, bigL h3, Cn.fin c s hn (Nw.refl s.ex) (.str _) h⟩
    cases r1 with | tup a b => exact ⟨_, rfl⟩
  · split at h
    · rename_i ds e
      obtain ⟨⟨h1, h2, h3⟩, h⟩ := h
      obtain ⟨a, xs, rfl, hh, q⟩ := sqL_inv s r1 e
      exact .inr ⟨_, .list ds, rfl, (Rp.lst hh (q.ex s.ex)).dp (shaped_lay h1), ⟨a, rfl⟩, h1, h2, bigL h3, Cn.fin1 c s hn _ m1 (Nw.refl s.ex) (.str _) h⟩
    · exact h.elim
/-! ### isinstance(x, a built-in class) -/
def tyD : PyData → String
  | .none => "NoneType"
  | .bool _ => "bool"
  | .int _ => "int"
  | .str _ => "str"
  | .list _ => "list"
  | .tuple _ => "tuple"
  | .dict _ => "dict"
def isiD (c : String) (y : PyData) : Bool := tyD y == c || (c == "int" && tyD y == "bool")
def dIsi (c : String) (t : TD) : TD := fun ρ μ Q => t ρ μ fun x μ1 => match dat μ1 x with
  | some (.dict _) => False
  | some y => Q (.d (.bool (isiD c y))) (dr x μ1)
  | none => False
theorem ty_rp {F H : Hp} {v : V} {y : PyData} (e : Ex F H) (r : Rp F v y) (hd : ∀ kvs, y ≠ .dict kvs) : TyX K H v (.type (tyD y)) := by
  cases r with
  | non => exact .base .non
  | bl b => exact .base (.bl b)
  | int i => exact .base (.int i)
  | str z => exact .base (.str z)
  | lst h _ => exact .base (.lst (e _ _ h))
  | tup h _ => exact .base (.tup (e _ _ h))
  | dT h _ => exact absurd rfl (hd _)
theorem kit_D {y : PyData} {c : String} (hc : c = "int" ∨ c = "bool" ∨ c = "tuple" ∨ c = "list" ∨ c = "str") (hd : ∀ kvs, y ≠ .dict kvs) : PySem.W.kitOne K (.type (tyD y)) (.type c) = some (isiD c y) := by
  rcases hc with rfl | rfl | rfl | rfl | rfl <;> (cases y <;> first | rfl | exact absurd rfl (hd _))
theorem de_isi {c : String} (hc : c = "int" ∨ c = "bool" ∨ c = "tuple" ∨ c = "list" ∨ c = "str") (ha : DE ta t1) : DE (tCB (rIsi K) (tCons ta (tCons (tC (.ty c)) tNil))) (dIsi c t1) := by
  intro dl n σ ρ μ adr F H Qd Q a h cc
  refine ha dl n σ ρ μ adr F H _ _ a h fun v1 x1 μ1 adr1 F1 H1 f1 s1 l1 r1 n1 m1 h1 => ?_
  split at h1
  · exact h1.elim
  · rename_i y hd e
    have ry := dat_inv s1 r1 e
    have hd' : ∀ kvs, y ≠ .dict kvs := fun kvs z => hd kvs z
    exact ⟨v1, .ty c, _, .type c, isiD c y, rfl, .ty c, ty_rp (fun _ _ e => e) ry hd', kit_D hc hd', cc _ (.d (.bool _)) _ _ F1 H1 (f1.trans (Fr.dr x1 m1) (Nat.le_refl _)) (s1.dr x1) (dr_len x1 m1 l1) (Rp.bl _) (fun _ z => by cases z) (fun _ z => by cases z) h1⟩
  · exact h1.elim
end
end DL

set_option Elab.async false
set_option linter.all false
set_option maxRecDepth 100000
set_option maxHeartbeats 4000000
/-! The data layer: a law's begin; what comprehensions give. -/
namespace DL
open PySem PySem.Spec PyProof.Rows L2 CB

/-- a law: the deal of the script, then the rest by data -/
theorem law_run {K : PySem.W.Frag} {ts : TS} {t : TDS} {N : List Str} {a : Addr} {ns : List Int} {b : Int} {H : Hp} {Q : VK} {E : XK} (d : DS ts t) (hN : 2 ≤ N.length) (hS : SqL K H a (ns.map V.int)) (hl : ns.length ≤ 63) (hb : 0 ≤ b ∧ b ≤ 63) (fin : ∀ H', Q (.bl true) H')
    (h : t { nx := fun _ _ => False, rt := fun x _ => x = .d (.bool true) } (none :: some .dl :: startD (N.length - 2) []) []) :
    tSeq (tAsg (tCall (sp_deal K) [] E (tCons (tVar 0) (tCons (tC (.int b)) tNil))) (gName 1)) ts { nx := fun _ H' => Q .non H', rt := Q } (L2.start N [.ref a]) H := by
  have e0 : (L2.start N [.ref a]) = some (.ref a) :: List.replicate (N.length - 1) none := rfl
  refine ⟨.ref a, by rw [e0]; rfl, a, ns, b, rfl, hS, hl, hb.1, hb.2, fun dd l H1 x1 nd nl D1 => ?_⟩
  have st : Sts (some (dd, l)) [] [] (fun _ => none) H1 := ⟨fun _ _ e => (by cases e), rfl, fun k a o e => by simp at e, List.nodup_nil, fun a h => absurd h List.not_mem_nil, fun d' l' e => by
    cases e
    exact ⟨D1, rfl, rfl, List.not_mem_nil, List.not_mem_nil⟩⟩
  obtain ⟨k, hk⟩ : ∃ k, N.length = k + 2 := ⟨N.length - 2, by omega⟩
  have e1 : (L2.start N [.ref a]).set 1 (some (.ref dd)) = some (.ref a) :: some (.ref dd) :: List.replicate k none := by
    rw [e0, hk]
    rfl
  show ts _ ((L2.start N [.ref a]).set 1 (some (.ref dd))) H1
  rw [e1]
  rw [hk, show k + 2 - 2 = k from rfl, startD_nil] at h
  refine d (some (dd, l)) _ _ [] [] (fun _ => none) H1 _ _ ⟨st, ⟨by simp, fun i x e => ?_⟩, fun i x e => ?_, Nat.le_refl _⟩ h (fun _ _ _ _ _ _ _ _ z => z.elim) ?_ (fun _ _ _ _ _ _ _ _ z => z.elim) (fun _ _ _ _ _ _ _ _ z => z.elim)
  · match i, e with
    | 1, e => cases e; exact ⟨_, rfl, _, _, rfl, rfl⟩
    | i + 2, e =>
      have e : (List.replicate k (none : Option SV))[i]? = some (some x) := e
      rw [List.getElem?_replicate] at e
      split at e <;> cases e
  · match i, e with
    | 1, e => cases e; exact ⟨fun k z => (by cases z), fun k z => (by cases z)⟩
    | i + 2, e =>
      have e : (List.replicate k (none : Option SV))[i]? = some (some x) := e
      rw [List.getElem?_replicate] at e
      split at e <;> cases e
  · intro v x μ' adr' F' H' f s r h'
    cases (show x = .d (.bool true) from h')
    cases r
    exact fin H'
/-! ### what a comprehension gives -/
theorem comp_ix {n : Nat} {g : Nat → Option PyData} {zs : List (Option PyData)} (hl : zs.length = n) (hz : ∀ (i : Nat) (z : Option PyData), zs[i]? = some z → z = g i) : zs.filterMap id = (List.range n).filterMap g := by
  have e : zs = (List.range n).map g := by
    refine List.ext_getElem? fun i => ?_
    by_cases hi : i < n
    · rw [List.getElem?_eq_getElem (by omega : i < zs.length), List.getElem?_map, List.getElem?_range hi]
      exact congrArg some (hz i _ (List.getElem?_eq_getElem (by omega)))
    · rw [List.getElem?_eq_none (by omega), List.getElem?_eq_none (by rw [List.length_map, List.length_range]; omega)]
  rw [e, List.filterMap_map]
  rfl
/-- by the items -/
theorem comp_it {α : Type} {its : List α} {g : α → Option PyData} {zs : List (Option PyData)} (hl : zs.length = its.length) (hz : ∀ (i : Nat) (z : Option PyData), zs[i]? = some z → ∃ y, its[i]? = some y ∧ z = g y) : zs.filterMap id = its.filterMap g := by
  have e : zs = its.map g := by
    refine List.ext_getElem? fun i => ?_
    by_cases hi : i < its.length
    · obtain ⟨y, h1, h2⟩ := hz i _ (List.getElem?_eq_getElem (by omega))
      rw [List.getElem?_eq_getElem (by omega : i < zs.length), List.getElem?_map, h1, h2]
      rfl
    · rw [List.getElem?_eq_none (by omega), List.getElem?_eq_none (by rw [List.length_map]; omega)]
  rw [e, List.filterMap_map]
  rfl
/-- without a test -/
theorem comp_map {α : Type} {its : List α} {f : α → PyData} {zs : List (Option PyData)} (hl : zs.length = its.length) (hz : ∀ (i : Nat) (z : Option PyData), zs[i]? = some z → ∃ y, its[i]? = some y ∧ z = some (f y)) : zs.filterMap id = its.map f := by
  rw [comp_it (g := fun y => some (f y)) hl hz, List.filterMap_eq_map']
/-- the things are of a kind -/
theorem comp_all {P : Nat → PyData → Prop} {n : Nat} {zs : List (Option PyData)} (hl : zs.length = n) (hz : ∀ (i : Nat) (z : Option PyData), zs[i]? = some z → ∃ y, z = some y ∧ P i y) : ∃ ys : List PyData, zs.filterMap id = ys ∧ ys.length = n ∧ ∀ (i : Nat) (y : PyData), ys[i]? = some y → P i y := by
  induction zs generalizing n P with
  | nil => exact ⟨[], rfl, hl, fun i y e => by simp at e⟩
  | cons z zs ih =>
    obtain ⟨y, rfl, py⟩ := hz 0 z rfl
    cases n with
    | zero => cases hl
    | succ n =>
      obtain ⟨ys, e1, e2, e3⟩ := ih (P := fun i => P (i + 1)) (n := n) (by simpa using hl) (fun i z e => hz (i + 1) z (by simpa using e))
      refine ⟨y :: ys, by rw [List.filterMap_cons, ← e1]; rfl, by rw [List.length_cons, e2], fun i w e => ?_⟩
      cases i with
      | zero => cases e; exact py
      | succ i => exact e3 i w (by simpa using e)
theorem zipD_map {α β : Type} (f : α → PyData) (g : β → PyData) : ∀ (a : List α) (b : List β), zipD (a.map f) (b.map g) = (a.zip b).map fun p => .tuple [f p.1, g p.2]
  | [], _ => rfl
  | _ :: _, [] => rfl
  | a :: r, b :: s => by rw [List.map_cons, List.map_cons, zipD, zipD_map f g r s]; rfl
theorem rngD_len (lo : Int) (n : Nat) : (rngD lo n).length = n := by unfold rngD; rw [List.length_map, List.length_range]
theorem rngD_get {lo : Int} {n i : Nat} {y : PyData} (h : (rngD lo n)[i]? = some y) : i < n ∧ y = .int (lo + i) := by
  have hi : i < n := by rw [← rngD_len lo n]; exact (List.getElem?_eq_some_iff.mp h).1
  unfold rngD at h
  rw [List.getElem?_map, List.getElem?_range hi] at h
  cases h
  exact ⟨hi, rfl⟩
theorem map_get {α β : Type} {f : α → β} {l : List α} {i : Nat} {y : β} (h : (l.map f)[i]? = some y) : ∃ x, l[i]? = some x ∧ y = f x := by
  rw [List.getElem?_map] at h
  cases e : l[i]? with
  | none => rw [e] at h; cases h
  | some x => rw [e] at h; cases h; exact ⟨x, rfl, rfl⟩
theorem atI_map {α β : Type} (f : α → β) (l : List α) (i : Int) : atI (l.map f) i = (atI l i).map f := by
  unfold atI
  rw [List.length_map]
  cases ixN l.length i with
  | none => rfl
  | some j => exact List.getElem?_map ..
end DL

set_option Elab.async false
set_option linter.all false
set_option maxRecDepth 100000
set_option maxHeartbeats 4000000
/-! The data layer: sorted(set(..)), words, bridges to older promises. -/
namespace DL
open PySem PySem.Spec PyProof.Rows L2 CB

mutual
theorem Rp.dpN {K : PySem.W.Frag} {F : Hp} : ∀ {v : V} {d : PyData}, Rp F v d → d.hasDict = false → Dp K F v d
  | _, _, .non, _ => .non
  | _, _, .bl b, _ => .bl b
  | _, _, .int i, _ => .int i
  | _, _, .str x, _ => .str x
  | _, _, .lst h hs, c => .lst (SqL.of h) (RpAll.dpN hs (by simpa [PyData.hasDict] using c))
  | _, _, .tup h hs, c => .tup (SqT.of h) (RpAll.dpN hs (by simpa [PyData.hasDict] using c))
  | _, _, .dT h hs, c => by simp [PyData.hasDict] at c
theorem RpAll.dpN {K : PySem.W.Frag} {F : Hp} : ∀ {vs : List V} {ds : List PyData}, RpAll F vs ds → PyData.hasDictAll ds = false → DpAll K F vs ds
  | _, _, .nil, _ => .nil
  | _, _, .cons (d := x) (ds := xs) h hs, c => by
    have h' : x.hasDict = false ∧ PyData.hasDictAll xs = false := by simpa [PyData.hasDictAll] using c
    exact .cons (Rp.dpN h h'.1) (RpAll.dpN hs h'.2)
end
theorem noD_all : ∀ {l : List PyData}, (∀ d ∈ l, d.hasDict = false) → PyData.hasDictAll l = false
  | [], _ => by simp [PyData.hasDictAll]
  | d :: r, h => by
    rw [PyData.hasDictAll, h d List.mem_cons_self, noD_all fun x hx => h x (List.mem_cons_of_mem _ hx)]
    rfl
theorem noD_map {α : Type} {f : α → PyData} {l : List α} (h : ∀ x ∈ l, (f x).hasDict = false) : PyData.hasDictAll (l.map f) = false := noD_all fun d hd => by
  obtain ⟨x, hx, rfl⟩ := List.mem_map.mp hd
  exact h x hx
theorem noD_ti (l : List Int) : (ti l).hasDict = false := by
  show PyData.hasDictAll _ = false
  exact noD_map fun x _ => by simp [PyData.hasDict]
theorem noD_ts (l : List Str) : (ts l).hasDict = false := by
  show PyData.hasDictAll _ = false
  exact noD_map fun x _ => by simp [PyData.hasDict]
theorem noD_deed (d : GD) : (gDeed d).hasDict = false := by
  cases d with
  | call k => simp [gDeed, PyData.hasDict, PyData.hasDictAll]
  | rest => simp [gDeed, PyData.hasDict, PyData.hasDictAll]
  | any b => simp [gDeed, PyData.hasDict, PyData.hasDictAll]
  | set b s =>
    have := noD_ti s
    simp [gDeed, PyData.hasDict, PyData.hasDictAll] at this ⊢
    exact this
theorem noD_row (r : GD × List Int) : (gRow r).hasDict = false := by
  show PyData.hasDictAll [gDeed r.1, ti r.2] = false
  exact noD_all fun d hd => by
    rcases List.mem_cons.mp hd with rfl | hd
    · exact noD_deed _
    · rw [List.mem_singleton.mp hd]; exact noD_ti _
theorem noD_part (p : GPart) : (gPart p).hasDict = false := by
  show PyData.hasDictAll [.str p.name, ts p.own, .tuple (p.rows.map gRow)] = false
  exact noD_all fun d hd => by
    rcases List.mem_cons.mp hd with rfl | hd
    · simp [PyData.hasDict]
    · rcases List.mem_cons.mp hd with rfl | hd
      · exact noD_ts _
      · rw [List.mem_singleton.mp hd]
        show PyData.hasDictAll _ = false
        exact noD_map fun x _ => noD_row x
theorem noD_prog (p : GProg) : (gProg p).hasDict = false := by
  show PyData.hasDictAll [ts p.shared, .tuple (p.parts.map gPart)] = false
  exact noD_all fun d hd => by
    rcases List.mem_cons.mp hd with rfl | hd
    · exact noD_ts _
    · rw [List.mem_singleton.mp hd]
      show PyData.hasDictAll _ = false
      exact noD_map fun x _ => noD_part x
section
variable {K : PySem.W.Frag} {ta tb tc : TE} {t1 t2 t3 : TD} {w : World}
/-! ### sorted(set(xs)) -/
def rSetU (w : World) (K : PySem.W.Frag) : List V → Hp → VK → Prop := fun xs H Q => rSetL w K xs H Q ∨ rSetT w K xs H Q
theorem cr_setU {X : Cx} (hc : X.calm = true) (hK : X.K = K := by rfl) : CallR X (.type "set") (rSetU X.w K) := CallR.or (cr_setL hc hK) (cr_setT hc hK)
/-- rising numbers, the same ones -/
def Asc (ns ms : List Int) : Prop := ms.Pairwise (· < ·) ∧ ∀ x, x ∈ ms ↔ x ∈ ns
def dSortSet (t : TD) : TD := fun ρ μ Q => t ρ μ fun x μ1 => match sq μ1 x with
  | some ds => ∃ ns : List Int, ds = ns.map PyData.int ∧ ns.length ≤ 60 ∧ ∀ ms, Asc ns ms → ms.length ≤ ns.length → psh (.lst (ms.map PyData.int)) (dr x μ1) Q
  | none => False
theorem de_sortSet (ha : DE ta t1) : DE (tCB (rSortedSet w) (tCons (tCB (rSetU w K) (tCons ta tNil)) tNil)) (dSortSet t1) := by
  intro dl n σ ρ μ adr F H Qd Q a h c
  refine ha dl n σ ρ μ adr F H _ _ a h fun v1 x1 μ1 adr1 F1 H1 f1 s1 l1 r1 n1 m1 h1 => ?_
  split at h1
  · rename_i ds e
    obtain ⟨ns, rfl, ln, h1⟩ := h1
    obtain ⟨b, xs, rfl, hh, q⟩ := sq_inv s1 r1 e
    cases rp_ints_of q
    have fin : ∀ p n, H1 p = none → n ≤ ns.length → rSortedSet w [.ref p] (upd H1 p (SetO w p (fun j => decide (j ∈ ns)) n)) Q := fun p k hp hk => by
      have w1 : Nw F1 H1 F1 (upd H1 p (SetO w p (fun j => decide (j ∈ ns)) k)) := ⟨fun _ _ e => e, Evl.Ex.new hp, s1.ex.trans (Evl.Ex.new hp), fun _ e _ _ => e, fun b xs e => by
        by_cases z : b = p
        · rw [z]; exact .inl hp
        · rw [upd_ne z] at e; exact .inr e⟩
      have cn : Cn dl μ.length F1 (upd H1 p (SetO w p (fun j => decide (j ∈ ns)) k)) adr1 Qd Q := fun v x μ' adr' F' H' f s l r n' m' hq => c v x μ' adr' F' H' ((f1.trans w1.fr (Nat.le_refl _)).trans f (Nat.le_refl _)) s l r (fun k hk => absurd hk (n' k)) m' hq
      refine ⟨p, _, k, rfl, upd_same, by omega, fun ms p2 h1' h2' h3' hp2 => ?_⟩
      exact Cn.newL1 cn (s1.nw w1) l1 x1 m1 hp2 (RpAll.ints ms) (h1 ms ⟨h1', fun y => (h2' y).trans (by simp)⟩ (by omega))
    rcases hh with hh | hh
    · exact .inl ⟨b, ns, rfl, SqL.of hh, by omega, fun p n hp hn => fin p n hp hn⟩
    · exact .inr ⟨b, ns, rfl, SqT.of hh, by omega, fun p n hp hn => fin p n hp hn⟩
  · exact h1.elim
end
/-! ### the drawing of words -/
theorem frc_kp {F H H' : Hp} {d l : Addr} (D : IsDeal H d l) (D' : IsDeal H' d l) (k : Kp d l H H') (e : Ex F H') : FrC (some (d, l)) F H F H' := by
  refine ⟨fun _ _ e => e, fun a o h1 h2 => k a o (fun z => h1 ⟨d, l, rfl, .inl z⟩) (fun z => h1 ⟨d, l, rfl, .inr z⟩) h2, fun _ e _ _ => e, fun a ha => ?_, fun a xs ea => ?_, e, fun d' l' e' => by cases e'; exact D'⟩
  · by_cases z1 : a = d
    · rw [z1]; exact (deal_ne D').1
    · by_cases z2 : a = l
      · rw [z2]; exact (deal_ne D').2
      · cases ea : H a with
        | none => exact absurd ea ha
        | some o => rw [k a o z1 z2 ea]; exact Option.some_ne_none _
  · by_cases z1 : a = d
    · rw [z1] at ea; exact absurd ea ((deal_nt D').1 xs)
    · by_cases z2 : a = l
      · rw [z2] at ea; exact absurd ea ((deal_nt D').2 xs)
      · cases e2 : H a with
        | none => exact .inl rfl
        | some o => rw [k a o z1 z2 e2] at ea; exact .inr ea
def dsp_words : DSp := fun xs Q => ∃ many : Nat, xs = [.dl, .d (.int (many : Int))] ∧ many ≤ 20 ∧ ∀ names : List Str, names.length = many → names.Nodup → (∀ z ∈ names, Nm z ∧ z ∉ keptS) → Q (.o (.lst (names.map PyData.str)))
theorem spD_words {vs : List V} {H : Hp} {Q : VK} {E : XK} (h : spD dsp_words vs H Q E) : sp_words vs H Q E := by
  obtain ⟨dl, F, xs, Qd, e, dk, r, ⟨m, rfl, hm, h⟩, q⟩ := h
  cases r with
  | cons q1 q2 =>
    cases q2 with
    | cons q2 q3 =>
      cases q2
      cases q3
      obtain ⟨d, l, rfl, rfl⟩ := q1
      obtain ⟨D, f1, f2⟩ := dk d l rfl
      refine ⟨d, l, m, F, rfl, ⟨e, f1, f2, D⟩, hm, fun p names H' hp go own ln nd nm => ?_⟩
      exact q (.ref p) (.o (.lst (names.map PyData.str))) F H' (frc_kp D go.w.deal go.kp go.w.sub) ⟨p, rfl, hp, by rw [own.h]; exact Option.some_ne_none _, own.f, _, own.h, RpAll.strs names⟩ (h names ln nd nm)
/-! ### a program looked at -/
def dsp_right : DSp := fun xs Q => ∃ P : GProg, xs = [.d (gProg P)] ∧ GOk P ∧ Q (.d (.bool true))
theorem spD_right {K : PySem.W.Frag} {vs : List V} {H : Hp} {Q : VK} {E : XK} (h : spD dsp_right vs H Q E) : sp_gright K vs H Q E := by
  obtain ⟨dl, F, xs, Qd, e, dk, r, ⟨P, rfl, ok, h⟩, q⟩ := h
  cases r with
  | cons q1 q2 =>
    cases q2
    refine ⟨_, P, rfl, (Rp.ex e q1).dpN (noD_prog P), ok, fun H' x => ?_⟩
    refine q (.bl true) (.d (.bool true)) F H' ⟨fun _ _ e => e, fun a o _ h => x a o h, fun _ e _ _ => e, fun a ha => ?_, fun a xs ea => ?_, e.trans x, fun d l e' => (dk d l e').1.ex x⟩ (Rp.bl _) h
    · cases ea : H a with
      | none => exact absurd ea ha
      | some o => rw [x a o ea]; exact Option.some_ne_none _
    · cases e2 : H a with
      | none => exact .inl rfl
      | some o => rw [x a o e2] at ea; exact .inr ea
end DL

set_option Elab.async false
set_option linter.all false
set_option maxRecDepth 100000
set_option maxHeartbeats 4000000
/-! The data layer: tuple(range(..)), list(range(..)), join; small helps. -/
namespace DL
open PySem PySem.Spec PyProof.Rows L2 CB

section
variable {K : PySem.W.Frag} {ta tb tc : TE} {t1 t2 t3 : TD}
theorem rg_rp {F : Hp} (a b : Int) : RpAll F (rgV a b) (rngD a (b - a).toNat) := by
  unfold rgV rngD
  generalize List.range (b - a).toNat = l
  induction l with
  | nil => exact .nil
  | cons x r ih => exact .cons (.int _) ih
def dTupRg (t : TD) : TD := fun ρ μ Q => t ρ μ fun x μ1 => match x with
  | .d (.int j) => (0 ≤ j ∧ j ≤ 1000000) ∧ Q (.d (.tuple (rngD 0 j.toNat))) μ1
  | _ => False
def dLstRg (t : TD) : TD := fun ρ μ Q => t ρ μ fun x μ1 => match x with
  | .d (.int j) => (0 ≤ j ∧ j ≤ 1000000) ∧ psh (.lst (rngD 0 j.toNat)) μ1 Q
  | _ => False
theorem de_tupRg (ha : DE ta t1) : DE (tTupRg (tRg1 ta)) (dTupRg t1) := by
  intro dl n σ ρ μ adr F H Qd Q a h c
  refine ha dl n σ ρ μ adr F H _ _ a h fun v1 x1 μ1 adr1 F1 H1 f1 s1 l1 r1 n1 m1 h1 => ?_
  have cn : Cn dl μ.length F1 H1 adr1 Qd Q := fun v x μ' adr' F' H' f s l r n' m' hq => c v x μ' adr' F' H' (f1.trans f (Nat.le_refl _)) s l r (fun k hk => absurd hk (n' k)) m' hq
  split at h1
  · cases r1
    rename_i j
    refine ⟨j, rfl, RgOk.of_le (by decide) (by omega) (by decide) (by omega), fun q hq => ?_⟩
    have rr := rg_rp (F := F1) 0 j
    rw [Int.sub_zero] at rr
    obtain ⟨w, r⟩ := tup_new s1 hq rr
    exact Cn.fin cn s1 l1 w r h1.2
  · exact h1.elim
theorem de_lstRg (ha : DE ta t1) : DE (tLstRg (tRg1 ta)) (dLstRg t1) := by
  intro dl n σ ρ μ adr F H Qd Q a h c
  refine ha dl n σ ρ μ adr F H _ _ a h fun v1 x1 μ1 adr1 F1 H1 f1 s1 l1 r1 n1 m1 h1 => ?_
  have cn : Cn dl μ.length F1 H1 adr1 Qd Q := fun v x μ' adr' F' H' f s l r n' m' hq => c v x μ' adr' F' H' (f1.trans f (Nat.le_refl _)) s l r (fun k hk => absurd hk (n' k)) m' hq
  split at h1
  · cases r1
    rename_i j
    refine ⟨j, rfl, RgOk.of_le (by decide) (by omega) (by decide) (by omega), fun q hq => ?_⟩
    have rr := rg_rp (F := F1) 0 j
    rw [Int.sub_zero] at rr
    exact Cn.newL cn s1 l1 hq rr h1.2
  · exact h1.elim
end
theorem at_any {α : Type} {xs : List α} {r : Int} (h0 : 0 ≤ r) (h1 : r < xs.length) : ∃ v, atI xs r = some v ∧ v ∈ xs := by
  have h2 : r.toNat < xs.length := by omega
  have e : xs[r.toNat]? = some xs[r.toNat] := List.getElem?_eq_getElem h2
  have e2 := atI_nat e
  rw [Int.toNat_of_nonneg h0] at e2
  exact ⟨_, e2, List.getElem_mem h2⟩
theorem at_nat {α : Type} {xs : List α} {r : Int} (h0 : 0 ≤ r) (h1 : r < xs.length) : atI xs r = some (xs[r.toNat]'(by omega)) := by
  have h2 : r.toNat < xs.length := by omega
  have e : xs[r.toNat]? = some xs[r.toNat] := List.getElem?_eq_getElem h2
  have e2 := atI_nat e
  rw [Int.toNat_of_nonneg h0] at e2
  exact e2
theorem rep_int (k : Nat) (x : PyData) : (List.replicate k [x]).flatten = List.replicate k x := by
  induction k with
  | zero => rfl
  | succ k ih => rw [List.replicate_succ, List.flatten_cons, ih]; rfl
theorem ix_in {n : Nat} {r : Int} (h0 : 0 ≤ r) (h1 : r < n) : ixN n r = some r.toNat := by
  unfold ixN
  rw [if_pos h0, if_pos h1]
theorem cutP_to {ds : List PyData} {k : Nat} (h : k ≤ ds.length) : cutP ds none (some (k : Int)) = ds.take k := by
  unfold cutP HT.sIx
  dsimp only
  rw [if_neg (by omega), List.drop_zero, Nat.sub_zero]
  congr 1
  omega
theorem cutP_from {ds : List PyData} {k : Nat} (h : k ≤ ds.length) : cutP ds (some (k : Int)) none = ds.drop k := by
  unfold cutP HT.sIx
  dsimp only
  rw [if_neg (by omega), List.take_of_length_le (by rw [List.length_drop]; omega)]
  congr 1
  omega
theorem cutP_len (ds : List PyData) (lo hi : Option Int) : (cutP ds lo hi).length ≤ ds.length := by
  unfold cutP
  rw [List.length_take, List.length_drop]
  omega
theorem cutP_sub {ds : List PyData} {lo hi : Option Int} {x : PyData} (h : x ∈ cutP ds lo hi) : x ∈ ds := List.mem_of_mem_drop (List.mem_of_mem_take h)
theorem cutP_map {α : Type} (f : α → PyData) (l : List α) (lo hi : Option Int) : ∃ m : List α, cutP (l.map f) lo hi = m.map f ∧ m.length ≤ l.length ∧ ∀ x ∈ m, x ∈ l :=
  ⟨(l.drop (HT.sIx l.length 0 lo)).take (HT.sIx l.length l.length hi - HT.sIx l.length 0 lo), by
    unfold cutP
    rw [List.length_map, ← List.map_drop, ← List.map_take], by
    rw [List.length_take, List.length_drop]
    omega, fun x h => List.mem_of_mem_drop (List.mem_of_mem_take h)⟩
theorem eqT {p : Prop} [Decidable p] (h : (false ^^ decide p) = true) : p := by
  rw [Bool.false_xor] at h; exact of_decide_eq_true h
theorem eqF {p : Prop} [Decidable p] (h : ¬ (false ^^ decide p) = true) : ¬ p := fun z => h (by rw [Bool.false_xor]; exact decide_eq_true z)
theorem neT {p : Prop} [Decidable p] (h : (true ^^ decide p) = true) : ¬ p := fun z => by
  rw [decide_eq_true z] at h; cases h
theorem neF {p : Prop} [Decidable p] (h : ¬ (true ^^ decide p) = true) : p := by
  by_cases z : p
  · exact z
  · exact absurd (by rw [decide_eq_false z]; rfl) h
theorem ifb {c : Prop} [Decidable c] {a b : Prop} (h1 : c → a) (h2 : ¬ c → b) : if c then a else b := by
  by_cases h : c
  · rw [if_pos h]; exact h1 h
  · rw [if_neg h]; exact h2 h
/-- rising numbers are as many as the unlike ones -/
theorem asc_pos {ns ms : List Int} (h : Asc ns ms) (hn : ns ≠ []) : 1 ≤ ms.length := by
  cases ns with
  | nil => exact absurd rfl hn
  | cons x r =>
    have : x ∈ ms := (h.2 x).mpr List.mem_cons_self
    exact List.length_pos_of_mem this
/-- what a comprehension of things of a kind gives -/
theorem comp_ex {α : Type} {f : α → PyData} {P : α → Prop} {n : Nat} {zs : List (Option PyData)} (hl : zs.length = n) (hz : ∀ (i : Nat) (z : Option PyData), zs[i]? = some z → ∃ a : α, z = some (f a) ∧ P a) : ∃ as : List α, zs.filterMap id = as.map f ∧ as.length = n ∧ ∀ a ∈ as, P a := by
  induction zs generalizing n with
  | nil => exact ⟨[], rfl, hl, fun a h => absurd h List.not_mem_nil⟩
  | cons z zs ih =>
    obtain ⟨a, rfl, pa⟩ := hz 0 z rfl
    cases n with
    | zero => cases hl
    | succ n =>
      obtain ⟨as, e1, e2, e3⟩ := ih (n := n) (by simpa using hl) (fun i z e => hz (i + 1) z (by simpa using e))
      refine ⟨a :: as, by rw [List.filterMap_cons]; show f a :: zs.filterMap id = _; rw [e1]; rfl, by rw [List.length_cons, e2], fun b hb => ?_⟩
      rcases List.mem_cons.mp hb with rfl | hb
      · exact pa
      · exact e3 b hb
theorem mul9 {i j : Int} (hi : i.natAbs < 1000000000) (hj : j.natAbs < 1000000000) : CMulW i j := wide_mul (a := 30) (b := 30) (Nat.lt_of_lt_of_le hi (by decide)) (Nat.lt_of_lt_of_le hj (by decide)) (by decide) (by decide) (by decide)
end DL

set_option Elab.async false
set_option linter.all false
set_option maxRecDepth 100000
set_option maxHeartbeats 4000000
/-! Polynomials as lists of (product, number), plain. -/
namespace DL
open PySem PySem.Spec PyProof.Rows L2 CB

abbrev Pl := List (List Int × Int)
def add2 (a b : List Int) : List Int := List.zipWith (· + ·) a b
/-- found[k] = found.get(k, 0) + v -/
def addP : Pl → List Int → Int → Pl
  | [], k, v => [(k, v)]
  | (k0, c) :: r, k, v => if k0 = k then (k0, c + v) :: r else (k0, c) :: addP r k v
def gather (acc T : Pl) : Pl := T.foldl (fun a t => addP a t.1 t.2) acc
def cf : Pl → List Int → Int
  | [], _ => 0
  | (k0, c) :: r, k => if k0 = k then c else cf r k
/-- the numbers of a product, all together -/
def cS : Pl → List Int → Int
  | [], _ => 0
  | (k0, c) :: r, k => (if k0 = k then c else 0) + cS r k
def terms (L M : Pl) : Pl := L.flatMap fun p => M.map fun q => (add2 p.1 q.1, p.2 * q.2)
def mulP (L M : Pl) : Pl := gather [] (terms L M)
def mono : List Int → List Int → Int
  | x :: xs, k :: ks => x ^ k.toNat * mono xs ks
  | _, _ => 1
def W (x : List Int) : Pl → Int
  | [] => 0
  | (k, c) :: r => c * mono x k + W x r
/-- the sum of the sizes of the numbers -/
def N1 : Pl → Nat
  | [] => 0
  | (_, c) :: r => c.natAbs + N1 r
theorem W_app (x : List Int) : ∀ L M : Pl, W x (L ++ M) = W x L + W x M
  | [], M => by rw [List.nil_append]; show W x M = 0 + W x M; omega
  | (k, c) :: r, M => by
    show c * mono x k + W x (r ++ M) = c * mono x k + W x r + W x M
    rw [W_app x r M]; omega
theorem N1_app : ∀ L M : Pl, N1 (L ++ M) = N1 L + N1 M
  | [], M => by rw [List.nil_append]; show N1 M = 0 + N1 M; omega
  | (k, c) :: r, M => by
    show c.natAbs + N1 (r ++ M) = c.natAbs + N1 r + N1 M
    rw [N1_app r M]; omega
theorem cS_app (k : List Int) : ∀ L M : Pl, cS (L ++ M) k = cS L k + cS M k
  | [], M => by rw [List.nil_append]; show cS M k = 0 + cS M k; omega
  | (k0, c) :: r, M => by
    show _ + cS (r ++ M) k = _ + cS r k + cS M k
    rw [cS_app k r M]; omega
theorem W_addP (x : List Int) (k : List Int) (v : Int) : ∀ L : Pl, W x (addP L k v) = W x L + v * mono x k
  | [] => by show v * mono x k + 0 = 0 + v * mono x k; omega
  | (k0, c) :: r => by
    unfold addP
    by_cases h : k0 = k
    · rw [if_pos h]
      show (c + v) * mono x k0 + W x r = c * mono x k0 + W x r + v * mono x k
      rw [h, Int.add_mul]; omega
    · rw [if_neg h]
      show c * mono x k0 + W x (addP r k v) = c * mono x k0 + W x r + v * mono x k
      rw [W_addP x k v r]; omega
theorem cS_addP (j k : List Int) (v : Int) : ∀ L : Pl, cS (addP L k v) j = cS L j + if k = j then v else 0
  | [] => by show (if k = j then v else 0) + 0 = 0 + _; omega
  | (k0, c) :: r => by
    unfold addP
    by_cases h : k0 = k
    · rw [if_pos h]
      show (if k0 = j then c + v else 0) + cS r j = (if k0 = j then c else 0) + cS r j + if k = j then v else 0
      rw [h]; split <;> omega
    · rw [if_neg h]
      show _ + cS (addP r k v) j = _ + cS r j + _
      rw [cS_addP j k v r]; omega
theorem N1_addP (k : List Int) (v : Int) : ∀ L : Pl, N1 (addP L k v) ≤ N1 L + v.natAbs
  | [] => by show v.natAbs + 0 ≤ 0 + v.natAbs; omega
  | (k0, c) :: r => by
    unfold addP
    by_cases h : k0 = k
    · rw [if_pos h]
      show (c + v).natAbs + N1 r ≤ c.natAbs + N1 r + v.natAbs
      omega
    · rw [if_neg h]
      show c.natAbs + N1 (addP r k v) ≤ c.natAbs + N1 r + v.natAbs
      have := N1_addP k v r
      omega
theorem len_addP (k : List Int) (v : Int) : ∀ L : Pl, (addP L k v).length ≤ L.length + 1
  | [] => by show 1 ≤ 0 + 1; omega
  | (k0, c) :: r => by
    unfold addP
    by_cases h : k0 = k
    · rw [if_pos h]; show r.length + 1 ≤ r.length + 1 + 1; omega
    · rw [if_neg h]
      show (addP r k v).length + 1 ≤ r.length + 1 + 1
      have := len_addP k v r
      omega
theorem key_addP {k : List Int} {v : Int} : ∀ {L : Pl} {j : List Int}, j ∈ (addP L k v).map Prod.fst → j ∈ L.map Prod.fst ∨ j = k
  | [], j, h => .inr (List.mem_singleton.mp h)
  | (k0, c) :: r, j, h => by
    unfold addP at h
    by_cases e : k0 = k
    · rw [if_pos e] at h; exact .inl h
    · rw [if_neg e] at h
      rcases List.mem_cons.mp h with h | h
      · exact .inl (List.mem_cons.mpr (.inl h))
      · exact (key_addP h).elim (fun z => .inl (List.mem_cons_of_mem _ z)) .inr
theorem nd_addP {k : List Int} {v : Int} : ∀ {L : Pl}, (L.map Prod.fst).Nodup → ((addP L k v).map Prod.fst).Nodup
  | [], _ => List.nodup_cons.mpr ⟨List.not_mem_nil, List.nodup_nil⟩
  | (k0, c) :: r, h => by
    obtain ⟨h1, h2⟩ := List.nodup_cons.mp h
    unfold addP
    by_cases e : k0 = k
    · rw [if_pos e]; exact h
    · rw [if_neg e]
      exact List.nodup_cons.mpr ⟨fun z => (key_addP z).elim h1 e, nd_addP h2⟩
theorem cf_cS : ∀ {L : Pl} (k : List Int), (L.map Prod.fst).Nodup → cf L k = cS L k
  | [], _, _ => rfl
  | (k0, c) :: r, k, h => by
    obtain ⟨h1, h2⟩ := List.nodup_cons.mp h
    show (if k0 = k then c else cf r k) = (if k0 = k then c else 0) + cS r k
    by_cases e : k0 = k
    · rw [if_pos e, if_pos e]
      have : ∀ {M : Pl}, k ∉ M.map Prod.fst → cS M k = 0 := fun {M} => by
        induction M with
        | nil => exact fun _ => rfl
        | cons p t ih =>
          intro hn
          show (if p.1 = k then p.2 else 0) + cS t k = 0
          rw [if_neg (fun z => hn (List.mem_cons.mpr (.inl z.symm))), ih (fun z => hn (List.mem_cons_of_mem _ z))]
          rfl
      rw [this (by rw [← e]; exact h1)]; omega
    · rw [if_neg e, if_neg e, cf_cS k h2]; omega
theorem cf_key {k : List Int} : ∀ {L : Pl}, cf L k ≠ 0 → k ∈ L.map Prod.fst
  | [], h => absurd rfl h
  | (k0, c) :: r, h => by
    by_cases e : k0 = k
    · rw [← e]; exact List.mem_cons_self
    · have h : (if k0 = k then c else cf r k) ≠ 0 := h
      rw [if_neg e] at h
      exact List.mem_cons_of_mem _ (cf_key h)
theorem cf_N1 (k : List Int) : ∀ L : Pl, (cf L k).natAbs ≤ N1 L
  | [] => Nat.le_refl _
  | (k0, c) :: r => by
    show (if k0 = k then c else cf r k).natAbs ≤ c.natAbs + N1 r
    have := cf_N1 k r
    split <;> omega
theorem mem_N1 {k : List Int} {c : Int} : ∀ {L : Pl}, (k, c) ∈ L → c.natAbs ≤ N1 L
  | [], h => absurd h List.not_mem_nil
  | (k0, c0) :: r, h => by
    show _ ≤ c0.natAbs + N1 r
    rcases List.mem_cons.mp h with h | h
    · cases h; omega
    · have := mem_N1 h; omega
/-! gather -/
theorem gather_cons (acc : Pl) (t : List Int × Int) (T : Pl) : gather acc (t :: T) = gather (addP acc t.1 t.2) T := rfl
theorem gather_app (acc T U : Pl) : gather acc (T ++ U) = gather (gather acc T) U := List.foldl_append ..
theorem W_gather (x : List Int) : ∀ (T acc : Pl), W x (gather acc T) = W x acc + W x T
  | [], acc => by show W x acc = W x acc + 0; omega
  | (k, c) :: T, acc => by
    rw [gather_cons, W_gather x T, W_addP]
    show W x acc + c * mono x k + W x T = W x acc + (c * mono x k + W x T)
    omega
theorem cS_gather (j : List Int) : ∀ (T acc : Pl), cS (gather acc T) j = cS acc j + cS T j
  | [], acc => by show cS acc j = cS acc j + 0; omega
  | (k, c) :: T, acc => by
    rw [gather_cons, cS_gather j T, cS_addP]
    show cS acc j + (if k = j then c else 0) + cS T j = cS acc j + ((if k = j then c else 0) + cS T j)
    omega
theorem N1_gather : ∀ (T acc : Pl), N1 (gather acc T) ≤ N1 acc + N1 T
  | [], acc => by show N1 acc ≤ N1 acc + 0; omega
  | (k, c) :: T, acc => by
    rw [gather_cons]
    have h1 := N1_gather T (addP acc k c)
    have h2 := N1_addP k c acc
    show N1 (gather (addP acc k c) T) ≤ N1 acc + (c.natAbs + N1 T)
    omega
theorem len_gather : ∀ (T acc : Pl), (gather acc T).length ≤ acc.length + T.length
  | [], acc => by show acc.length ≤ acc.length + 0; omega
  | (k, c) :: T, acc => by
    rw [gather_cons]
    have h1 := len_gather T (addP acc k c)
    have h2 := len_addP k c acc
    show (gather (addP acc k c) T).length ≤ acc.length + (T.length + 1)
    omega
theorem key_gather {j : List Int} : ∀ {T acc : Pl}, j ∈ (gather acc T).map Prod.fst → j ∈ acc.map Prod.fst ∨ j ∈ T.map Prod.fst
  | [], acc, h => .inl h
  | (k, c) :: T, acc, h => by
    rw [gather_cons] at h
    rcases key_gather h with h | h
    · exact (key_addP h).elim .inl (fun e => .inr (List.mem_cons.mpr (.inl e)))
    · exact .inr (List.mem_cons_of_mem _ h)
theorem nd_gather : ∀ {T acc : Pl}, (acc.map Prod.fst).Nodup → ((gather acc T).map Prod.fst).Nodup
  | [], acc, h => h
  | (k, c) :: T, acc, h => by rw [gather_cons]; exact nd_gather (nd_addP h)
/-! terms -/
theorem mono_add : ∀ (x a b : List Int), a.length = b.length → a.length = x.length → (∀ y ∈ a, 0 ≤ y) → (∀ y ∈ b, 0 ≤ y) → mono x (add2 a b) = mono x a * mono x b
  | [], a, b, h1, h2, _, _ => by
    cases a with
    | cons y r => cases h2
    | nil => rfl
  | x :: xs, [], b, h1, h2, _, _ => by cases h2
  | x :: xs, a :: as, [], h1, h2, _, _ => by cases h1
  | x :: xs, a :: as, b :: bs, h1, h2, ha, hb => by
    have e := mono_add xs as bs (by simpa using h1) (by simpa using h2) (fun y hy => ha y (List.mem_cons_of_mem _ hy)) (fun y hy => hb y (List.mem_cons_of_mem _ hy))
    have a0 := ha a List.mem_cons_self
    have b0 := hb b List.mem_cons_self
    show x ^ (a + b).toNat * mono xs (add2 as bs) = x ^ a.toNat * mono xs as * (x ^ b.toNat * mono xs bs)
    rw [e, Int.toNat_add a0 b0, Int.pow_add]
    generalize x ^ a.toNat = p; generalize x ^ b.toNat = q; generalize mono xs as = r; generalize mono xs bs = s
    rw [Int.mul_assoc, Int.mul_assoc, ← Int.mul_assoc q r s, ← Int.mul_assoc r q s, Int.mul_comm q r]
/-- products of n boxes -/
def Ks (n : Nat) (L : Pl) : Prop := ∀ k ∈ L.map Prod.fst, k.length = n ∧ ∀ y ∈ k, 0 ≤ y
theorem Ks.cons {n : Nat} {p : List Int × Int} {L : Pl} (h : Ks n (p :: L)) : (p.1.length = n ∧ ∀ y ∈ p.1, 0 ≤ y) ∧ Ks n L := ⟨h p.1 List.mem_cons_self, fun k hk => h k (List.mem_cons_of_mem _ hk)⟩
theorem W_row {n : Nat} {x : List Int} (hx : x.length = n) {k : List Int} {c : Int} (hk : k.length = n ∧ ∀ y ∈ k, 0 ≤ y) : ∀ {M : Pl}, Ks n M → W x (M.map fun q => (add2 k q.1, c * q.2)) = c * mono x k * W x M
  | [], _ => by show (0 : Int) = _ * 0; rw [Int.mul_zero]
  | (j, b) :: M, h => by
    obtain ⟨hj, hM⟩ := h.cons
    show c * b * mono x (add2 k j) + W x (M.map fun q => (add2 k q.1, c * q.2)) = c * mono x k * (b * mono x j + W x M)
    rw [W_row hx hk hM, mono_add x k j (by rw [hk.1, hj.1]) (by rw [hk.1, hx]) hk.2 hj.2, Int.mul_add]
    congr 1
    rw [Int.mul_assoc, Int.mul_assoc, ← Int.mul_assoc b, ← Int.mul_assoc (mono x k) b, Int.mul_comm b (mono x k)]
theorem W_terms {n : Nat} {x : List Int} (hx : x.length = n) : ∀ {L M : Pl}, Ks n L → Ks n M → W x (terms L M) = W x L * W x M
  | [], M, _, _ => by show (0 : Int) = 0 * _; rw [Int.zero_mul]
  | (k, c) :: L, M, hL, hM => by
    obtain ⟨hk, hL⟩ := hL.cons
    show W x ((M.map fun q => (add2 k q.1, c * q.2)) ++ terms L M) = (c * mono x k + W x L) * W x M
    rw [W_app, W_row hx hk hM, W_terms hx hL hM, Int.add_mul]
theorem N1_row (k : List Int) (c : Int) : ∀ M : Pl, N1 (M.map fun q => (add2 k q.1, c * q.2)) = c.natAbs * N1 M
  | [] => by show 0 = _ * 0; omega
  | (j, b) :: M => by
    show (c * b).natAbs + N1 (M.map fun q => (add2 k q.1, c * q.2)) = c.natAbs * (b.natAbs + N1 M)
    rw [N1_row k c M, Int.natAbs_mul, Nat.mul_add]
theorem N1_terms : ∀ L M : Pl, N1 (terms L M) = N1 L * N1 M
  | [], M => by show 0 = 0 * _; omega
  | (k, c) :: L, M => by
    show N1 ((M.map fun q => (add2 k q.1, c * q.2)) ++ terms L M) = (c.natAbs + N1 L) * N1 M
    rw [N1_app, N1_row, N1_terms L M, Nat.add_mul]
theorem len_terms (L M : Pl) : (terms L M).length = L.length * M.length := by
  induction L with
  | nil => show 0 = 0 * _; omega
  | cons p L ih =>
    show ((M.map fun q => (add2 p.1 q.1, p.2 * q.2)) ++ terms L M).length = (L.length + 1) * M.length
    rw [List.length_append, List.length_map, ih, Nat.add_mul]; omega
theorem key_terms {j : List Int} {L M : Pl} (h : j ∈ (terms L M).map Prod.fst) : ∃ a ∈ L.map Prod.fst, ∃ b ∈ M.map Prod.fst, j = add2 a b := by
  obtain ⟨t, ht, rfl⟩ := List.mem_map.mp h
  obtain ⟨p, hp, hq⟩ := List.mem_flatMap.mp ht
  obtain ⟨q, hq2, rfl⟩ := List.mem_map.mp hq
  exact ⟨p.1, List.mem_map_of_mem hp, q.1, List.mem_map_of_mem hq2, rfl⟩
theorem add2_ok {n : Nat} : ∀ {a b : List Int}, a.length = n → b.length = n → (∀ y ∈ a, 0 ≤ y) → (∀ y ∈ b, 0 ≤ y) → (add2 a b).length = n ∧ (∀ y ∈ add2 a b, 0 ≤ y) ∧ (add2 a b).sum = a.sum + b.sum := by
  intro a b h1 h2 ha hb
  refine ⟨by unfold add2; rw [List.length_zipWith]; omega, ?_, ?_⟩
  · intro y hy
    unfold add2 at hy
    rw [← List.map_uncurry_zip_eq_zipWith] at hy
    obtain ⟨p, hp, rfl⟩ := List.mem_map.mp hy
    obtain ⟨h3, h4⟩ := List.of_mem_zip hp
    have := ha _ h3
    have := hb _ h4
    show 0 ≤ p.1 + p.2
    omega
  · clear ha hb
    induction a generalizing b n with
    | nil =>
      cases b with
      | nil => rfl
      | cons y r => rw [← h1] at h2; cases h2
    | cons x a ih =>
      cases b with
      | nil => rw [← h2] at h1; cases h1
      | cons y b =>
        show x + y + (add2 a b).sum = x + a.sum + (y + b.sum)
        rw [ih (n := a.length) rfl (by simp at h1 h2; omega)]; omega
theorem Ks.mul {n : Nat} {L M : Pl} (hL : Ks n L) (hM : Ks n M) : Ks n (mulP L M) := fun k hk => by
  rcases key_gather hk with h | h
  · exact absurd h List.not_mem_nil
  · obtain ⟨a, ha, b, hb, rfl⟩ := key_terms h
    obtain ⟨h1, h2, _⟩ := add2_ok (hL a ha).1 (hM b hb).1 (hL a ha).2 (hM b hb).2
    exact ⟨h1, h2⟩
theorem W_mul {n : Nat} {x : List Int} (hx : x.length = n) {L M : Pl} (hL : Ks n L) (hM : Ks n M) : W x (mulP L M) = W x L * W x M := by
  unfold mulP
  rw [W_gather, W_terms hx hL hM]
  show 0 + _ = _
  omega
theorem N1_mul (L M : Pl) : N1 (mulP L M) ≤ N1 L * N1 M := by
  have := N1_gather (terms L M) []
  rw [N1_terms] at this
  have e : N1 [] = 0 := rfl
  unfold mulP
  omega
/-! ### who is alike everywhere is the same -/
def sec (j : Int) : Pl → Pl
  | [] => []
  | (a :: r, c) :: t => if a = j then (r, c) :: sec j t else sec j t
  | ([], _) :: t => sec j t
def low : Pl → Pl
  | [] => []
  | (a :: r, c) :: t => if a = 0 then low t else ((a - 1) :: r, c) :: low t
  | ([], _) :: t => low t
def Hd (D : Nat) (L : Pl) : Prop := ∀ p ∈ L, ∃ a r, p.1 = a :: r ∧ 0 ≤ a ∧ a < D
theorem W_peel (t : Int) (x : List Int) {D : Nat} : ∀ {L : Pl}, Hd D L → W (t :: x) L = W x (sec 0 L) + t * W (t :: x) (low L)
  | [], _ => by show (0 : Int) = 0 + t * 0; rw [Int.mul_zero]; rfl
  | (k, c) :: L, h => by
    obtain ⟨a, r, e, a0, _⟩ := h _ List.mem_cons_self
    have e : k = a :: r := e
    subst e
    have ih := W_peel t x (fun p hp => h p (List.mem_cons_of_mem _ hp))
    show c * (t ^ a.toNat * mono x r) + W (t :: x) L = W x (if a = 0 then (r, c) :: sec 0 L else sec 0 L) + t * W (t :: x) (if a = 0 then low L else ((a - 1) :: r, c) :: low L)
    by_cases z : a = 0
    · rw [if_pos z, if_pos z, z]
      show c * (t ^ 0 * mono x r) + _ = c * mono x r + W x (sec 0 L) + t * W (t :: x) (low L)
      rw [Int.pow_zero, Int.one_mul, ih]; omega
    · rw [if_neg z, if_neg z]
      show _ = W x (sec 0 L) + t * (c * (t ^ (a - 1).toNat * mono x r) + W (t :: x) (low L))
      have : a.toNat = (a - 1).toNat + 1 := by omega
      rw [ih, this, Int.pow_succ, Int.mul_add]
      generalize t ^ (a - 1).toNat = p; generalize mono x r = q
      have : c * (p * t * q) = t * (c * (p * q)) := by
        rw [Int.mul_comm p t, Int.mul_assoc, ← Int.mul_assoc c, Int.mul_comm c t, Int.mul_assoc]
      omega
theorem Hd.low {D : Nat} : ∀ {L : Pl}, Hd (D + 1) L → Hd D (low L)
  | [], _ => fun p hp => absurd hp List.not_mem_nil
  | (k, c) :: L, h => by
    obtain ⟨a, r, e, a0, a1⟩ := h _ List.mem_cons_self
    have e : k = a :: r := e
    subst e
    have ih := Hd.low (fun p hp => h p (List.mem_cons_of_mem _ hp))
    show Hd D (if a = 0 then DL.low L else ((a - 1) :: r, c) :: DL.low L)
    by_cases z : a = 0
    · rw [if_pos z]; exact ih
    · rw [if_neg z]
      intro p hp
      rcases List.mem_cons.mp hp with hp | hp
      · subst hp; exact ⟨a - 1, r, rfl, by omega, by omega⟩
      · exact ih p hp
theorem sec_low (j : Nat) {D : Nat} : ∀ {L : Pl}, Hd D L → sec ((j : Int) + 1) L = sec (j : Int) (low L)
  | [], _ => rfl
  | (k, c) :: L, h => by
    obtain ⟨a, r, e, a0, a1⟩ := h _ List.mem_cons_self
    have e : k = a :: r := e
    subst e
    have ih := sec_low j (fun p hp => h p (List.mem_cons_of_mem _ hp))
    show (if a = (j : Int) + 1 then (r, c) :: sec ((j : Int) + 1) L else sec ((j : Int) + 1) L) = sec (j : Int) (if a = 0 then low L else ((a - 1) :: r, c) :: low L)
    by_cases z : a = 0
    · rw [if_pos z, if_neg (by omega), ih]
    · rw [if_neg z]
      show _ = if a - 1 = (j : Int) then (r, c) :: sec (j : Int) (low L) else sec (j : Int) (low L)
      rw [ih]
      by_cases y : a = (j : Int) + 1
      · rw [if_pos y, if_pos (by omega)]
      · rw [if_neg y, if_neg (by omega)]
theorem sec_zero {x : List Int} : ∀ (D : Nat) {L : Pl}, Hd D L → (∀ t : Int, 0 < t → W (t :: x) L = 0) → ∀ j : Nat, W x (sec (j : Int) L) = 0
  | 0, L, h, _, j => by
    cases L with
    | nil => rfl
    | cons p L => obtain ⟨a, r, _, h0, h1⟩ := h p List.mem_cons_self; omega
  | D + 1, L, h, z, j => by
    have z0 : W x (sec 0 L) = 0 := by
      have ht := z (((W x (sec 0 L)).natAbs : Int) + 1) (by omega)
      rw [W_peel _ x h] at ht
      have dv : (((W x (sec 0 L)).natAbs : Int) + 1) ∣ W x (sec 0 L) := ⟨-(W ((((W x (sec 0 L)).natAbs : Int) + 1) :: x) (low L)), by rw [Int.mul_neg]; omega⟩
      exact Int.eq_zero_of_dvd_of_natAbs_lt_natAbs dv (by omega)
    cases j with
    | zero => exact z0
    | succ j =>
      rw [Int.natCast_succ, sec_low j h]
      refine sec_zero D h.low (fun t ht => ?_) j
      have := z t ht
      rw [W_peel t x h, z0, Int.zero_add] at this
      exact (Int.mul_eq_zero.mp this).resolve_left (by omega)
theorem cS_sec (a : Int) (r : List Int) : ∀ L : Pl, cS L (a :: r) = cS (sec a L) r
  | [] => rfl
  | ([], c) :: L => by
    show (if ([] : List Int) = a :: r then c else 0) + cS L (a :: r) = cS (sec a L) r
    rw [if_neg (by simp), cS_sec a r L]; omega
  | (b :: s, c) :: L => by
    show (if b :: s = a :: r then c else 0) + cS L (a :: r) = cS (if b = a then (s, c) :: sec a L else sec a L) r
    rw [cS_sec a r L]
    by_cases e : b = a
    · rw [if_pos e]
      show _ = (if s = r then c else 0) + cS (sec a L) r
      rw [e]
      by_cases e2 : s = r
      · rw [if_pos (by rw [e2]), if_pos e2]
      · rw [if_neg (by simpa using e2), if_neg e2]
    · rw [if_neg e, if_neg (by simp [e])]; omega
theorem Ks.hd {n : Nat} : ∀ {L : Pl}, Ks (n + 1) L → ∃ D, Hd D L
  | [], _ => ⟨0, fun p hp => absurd hp List.not_mem_nil⟩
  | (k, c) :: L, h => by
    obtain ⟨hk, hL⟩ := h.cons
    obtain ⟨D, hD⟩ := Ks.hd hL
    cases k with
    | nil => cases hk.1
    | cons a r =>
      refine ⟨max D (a.toNat + 1), fun p hp => ?_⟩
      have a0 := hk.2 a List.mem_cons_self
      rcases List.mem_cons.mp hp with hp | hp
      · subst hp; exact ⟨a, r, rfl, a0, by omega⟩
      · obtain ⟨b, s, e, b0, b1⟩ := hD p hp
        exact ⟨b, s, e, b0, by omega⟩
theorem Ks.sec {n : Nat} (j : Int) : ∀ {L : Pl}, Ks (n + 1) L → Ks n (sec j L)
  | [], _ => fun k hk => absurd hk List.not_mem_nil
  | ([], c) :: L, h => by have := h.cons.1.1; cases this
  | (a :: r, c) :: L, h => by
    obtain ⟨hk, hL⟩ := h.cons
    have ih := Ks.sec j hL
    show Ks n (if a = j then (r, c) :: DL.sec j L else DL.sec j L)
    by_cases e : a = j
    · rw [if_pos e]
      intro k hk2
      rcases List.mem_cons.mp hk2 with hk2 | hk2
      · subst hk2; exact ⟨by simpa using hk.1, fun y hy => hk.2 y (List.mem_cons_of_mem _ hy)⟩
      · exact ih k hk2
    · rw [if_neg e]; exact ih
theorem W_zero : ∀ (n : Nat) {L : Pl}, Ks n L → (∀ x : List Int, x.length = n → W x L = 0) → ∀ k : List Int, cS L k = 0
  | 0, L, h, z, k => by
    have out : ∀ {M : Pl}, Ks 0 M → cS M k = if k = [] then W [] M else 0 := fun {M} => by
      induction M with
      | nil => intro _; show (0 : Int) = if k = [] then 0 else 0; rw [ite_self]
      | cons p M ih =>
        intro hM
        obtain ⟨hp, hM2⟩ := hM.cons
        obtain ⟨j, c⟩ := p
        have hj : j = [] := List.length_eq_zero_iff.mp hp.1
        subst hj
        show (if [] = k then c else 0) + cS M k = if k = [] then c * 1 + W [] M else 0
        rw [ih hM2]
        by_cases e : k = []
        · rw [if_pos e, if_pos e, if_pos e.symm, Int.mul_one]
        · rw [if_neg e, if_neg e, if_neg (fun y => e y.symm)]; rfl
    rw [out h, z [] rfl, ite_self]
  | n + 1, L, h, z, k => by
    obtain ⟨D, hD⟩ := h.hd
    cases k with
    | nil =>
      have : ∀ {M : Pl}, Ks (n + 1) M → cS M [] = 0 := fun {M} => by
        induction M with
        | nil => exact fun _ => rfl
        | cons p M ih =>
          intro hM
          obtain ⟨hp, hM⟩ := hM.cons
          show (if p.1 = [] then p.2 else 0) + cS M [] = 0
          rw [ih hM, if_neg (fun e => by rw [e] at hp; cases hp.1)]; rfl
      exact this h
    | cons a r =>
      rw [cS_sec]
      by_cases a0 : 0 ≤ a
      · obtain ⟨j, rfl⟩ := Int.eq_ofNat_of_zero_le a0
        refine W_zero n (h.sec _) (fun x hx => ?_) r
        exact sec_zero D hD (fun t _ => z (t :: x) (by rw [List.length_cons, hx])) j
      · have : ∀ {M : Pl}, Hd D M → sec a M = [] := fun {M} => by
          induction M with
          | nil => exact fun _ => rfl
          | cons p M ih =>
            intro hM
            obtain ⟨b, s, e, b0, _⟩ := hM p List.mem_cons_self
            obtain ⟨k, c⟩ := p
            have e : k = b :: s := e
            subst e
            show (if b = a then (s, c) :: sec a M else sec a M) = []
            rw [if_neg (by omega), ih (fun q hq => hM q (List.mem_cons_of_mem _ hq))]
        rw [this hD]; rfl
def neg (L : Pl) : Pl := L.map fun p => (p.1, -p.2)
theorem W_neg (x : List Int) : ∀ L : Pl, W x (neg L) = - W x L
  | [] => rfl
  | (k, c) :: r => by
    show -c * mono x k + W x (neg r) = -(c * mono x k + W x r)
    rw [W_neg x r, Int.neg_mul]; omega
theorem cS_neg (k : List Int) : ∀ L : Pl, cS (neg L) k = - cS L k
  | [] => rfl
  | (k0, c) :: r => by
    show (if k0 = k then -c else 0) + cS (neg r) k = -((if k0 = k then c else 0) + cS r k)
    rw [cS_neg k r]; split <;> omega
theorem W_inj {n : Nat} {L M : Pl} (hL : Ks n L) (hM : Ks n M) (h : ∀ x : List Int, x.length = n → W x L = W x M) (k : List Int) : cS L k = cS M k := by
  have hk : Ks n (L ++ neg M) := fun k hk => by
    rw [List.map_append] at hk
    rcases List.mem_append.mp hk with hk | hk
    · exact hL k hk
    · unfold neg at hk
      rw [List.map_map] at hk
      exact hM k hk
  have := W_zero n hk (fun x hx => by rw [W_app, W_neg, h x hx]; omega) k
  rw [cS_app, cS_neg] at this
  omega
end DL

set_option Elab.async false
set_option linter.all false
set_option maxRecDepth 100000
set_option maxHeartbeats 4000000
/-! The data layer: polynomials as dicts. -/
namespace DL
open PySem PySem.Spec PyProof.Rows L2 CB

/-- a named dict becomes data for good -/
def dLkR (t : TD) : TD := fun ρ μ Q => t ρ μ fun x μ1 => match x with
  | .r k => match gt μ1 k with
    | some (.dT es) => Q (.d (dictD es)) (setAt k (.fz (dictD es)) μ1)
    | _ => False
  | _ => False
theorem de_lkR {ta : TE} {t1 : TD} (ha : DE ta t1) : DE (tLk ta) (dLkR t1) := by
  intro dl n σ ρ μ adr F H Qd Q a h c
  refine ha dl n σ ρ μ adr F H _ _ a h fun v1 x1 μ1 adr1 F1 H1 f1 s1 l1 r1 n1 m1 h1 => ?_
  split at h1
  · rename_i k
    obtain ⟨p, e1, rfl⟩ := r1
    split at h1
    · rename_i es e2
      obtain ⟨fp, xs, hp, rx⟩ := s1.at e1 e2
      refine ⟨p, _, rfl, hp, trivial, fun od => ?_⟩
      have hm := List.mem_of_getElem? e1
      have up := Evl.Ex.new (o := HO.frz od (.dT ((es.map Prod.fst).zip xs))) fp
      have rp : Rp (upd F1 p (.frz od (.dT ((es.map Prod.fst).zip xs)))) (.ref p) (dictD es) := Rp.dT upd_same (rx.ex up)
      have s2 : Sts dl (μ1.set k (.fz (dictD es))) adr1 (upd F1 p (.frz od (.dT ((es.map Prod.fst).zip xs)))) (upd H1 p (.frz od (.dT ((es.map Prod.fst).zip xs)))) := by
        refine ⟨fun b o e => ?_, by rw [List.length_set]; exact s1.len, fun i b o e3 e4 => ?_, s1.nd, fun b hb => ?_, fun d l e => ?_⟩
        · by_cases z : b = p
          · rw [z, upd_same] at e ⊢; exact e
          · rw [upd_ne z] at e ⊢; exact s1.ex b o e
        · by_cases hik : i = k
          · subst hik
            have := (List.getElem?_eq_some_iff.mp e4).1
            rw [List.length_set] at this
            rw [List.getElem?_set_self this] at e4
            cases e4
            rw [e1] at e3
            cases e3
            exact rp
          · rw [List.getElem?_set_ne (fun z => hik z.symm)] at e4
            have ne : b ≠ p := fun z => by
              subst z
              obtain ⟨l1, l2⟩ := List.getElem?_eq_some_iff.mp e1
              obtain ⟨l3, l4⟩ := List.getElem?_eq_some_iff.mp e3
              exact hik ((List.getElem_inj s1.nd).mp (l4.trans l2.symm))
            have hx := s1.obs i b o e3 e4
            cases o with
            | lst ds => obtain ⟨f, xs, h, r⟩ := hx; exact ⟨by rw [upd_ne ne]; exact f, xs, by rw [upd_ne ne]; exact h, r.ex up⟩
            | dT es => obtain ⟨f, xs, h, r⟩ := hx; exact ⟨by rw [upd_ne ne]; exact f, xs, by rw [upd_ne ne]; exact h, r.ex up⟩
            | dK es => obtain ⟨f, xs, h, r⟩ := hx; exact ⟨by rw [upd_ne ne]; exact f, xs, by rw [upd_ne ne]; exact h, r.ex up⟩
            | fz x => exact Rp.ex up hx
            | gone => trivial
        · by_cases z : b = p
          · rw [z, upd_same]; exact Option.some_ne_none _
          · rw [upd_ne z]; exact s1.al b hb
        · obtain ⟨DD, q1, q2, q3, q4⟩ := s1.dl d l e
          have z1 : p ≠ d := fun z => q3 (by rw [← z]; exact hm)
          have z2 : p ≠ l := fun z => q4 (by rw [← z]; exact hm)
          exact ⟨DD.upd z1 z2, by rw [upd_ne z1.symm]; exact q1, by rw [upd_ne z2.symm]; exact q2, q3, q4⟩
      have f2 : Fr dl μ.length F1 H1 adr1 (upd F1 p (.frz od (.dT ((es.map Prod.fst).zip xs)))) (upd H1 p (.frz od (.dT ((es.map Prod.fst).zip xs)))) adr1 :=
        ⟨up, fun b o h1 _ e => by rw [upd_ne (fun z => h1 (by rw [z]; exact hm))]; exact e, fun b h1 h2 _ h3 => by rw [upd_ne (fun z => h3 (by rw [z]; exact hm))]; exact h1, fun b e => by
          by_cases z : b = p
          · rw [z, upd_same]; exact Option.some_ne_none _
          · rw [upd_ne z]; exact e, fun b xs e => by
          by_cases z : b = p
          · rw [z, upd_same] at e; cases e
          · rw [upd_ne z] at e; exact .inr e, fun _ _ => rfl, fun _ e => .inl e⟩
      rw [← setAt_eq] at s2
      exact c _ (.d (dictD es)) _ _ _ _ (f1.trans f2 (Nat.le_refl _)) s2 (by rw [setAt_eq, List.length_set]; exact l1) rp (fun _ z => by cases z) (fun _ z => by cases z) h1
    · exact h1.elim
  · exact h1.elim
/-! max of a list of numbers -/
section
variable {K : PySem.W.Frag}
theorem cr_maxK {X : Cx} (hc : X.calm = true) (hK : X.K = K := by rfl) : CallR X (.builtin "max") (rMax K) := by
  subst hK
  exact cr_max hc
def fMax : SV → Sto → (SV → Sto → Prop) → Prop := fun x μ Q => match sqL μ x with
  | some ds => ∃ ns : List Int, ds = ns.map PyData.int ∧ 0 < ns.length ∧ ∀ m, m ∈ ns → (∀ y ∈ ns, y ≤ m) → Q (.d (.int m)) (dr x μ)
  | none => False
theorem d1_max : D1 (fun v H Q => rMax K [v] H Q) fMax := by
  intro dl n0 μ adr F H v1 x1 Qd Q s hn r1 m1 h c
  unfold fMax at h
  split at h
  · rename_i ds e
    obtain ⟨ns, rfl, h0, h⟩ := h
    obtain ⟨a, xs, rfl, hh, q⟩ := sqL_inv s r1 e
    cases rp_ints_of q
    exact ⟨a, ns, rfl, SqL.of hh, h0, fun m hm hy => Cn.fin1 c s hn _ m1 (Nw.refl s.ex) (.int _) (h m hm hy)⟩
  · exact h.elim
end
/-! ### polynomials as dicts -/
def pe (L : Pl) : List (List Key × PyData) := L.map fun p => (ky p.1, .int p.2)
theorem kt_ky (p : List Int) : kt (ky p) = ti p := by
  unfold kt ky ti
  rw [List.map_map]
  rfl
theorem pe_len (L : Pl) : (pe L).length = L.length := List.length_map ..
theorem val_pe (k : List Int) : ∀ L : Pl, (valD (pe L) (ky k)).getD (.int 0) = .int (cf L k)
  | [] => rfl
  | (k0, c) :: r => by
    have ih := val_pe k r
    unfold valD pe at ih ⊢
    rw [List.map_cons, List.find?_cons]
    by_cases e : k0 = k
    · rw [decide_eq_true (by show ky k0 = ky k; rw [e])]
      show PyData.int c = .int (if k0 = k then c else cf r k)
      rw [if_pos e]
    · rw [decide_eq_false (fun z => e (ky_inj z))]
      show _ = PyData.int (if k0 = k then c else cf r k)
      rw [if_neg e]; exact ih
theorem any_pe (k : List Int) (L : Pl) : ((pe L).any fun p => decide (p.1 = ky k)) = true ↔ k ∈ L.map Prod.fst := by
  unfold pe
  rw [List.any_map, List.any_eq_true]
  constructor
  · rintro ⟨p, hp, h⟩
    have := ky_inj (of_decide_eq_true h)
    exact List.mem_map.mpr ⟨p, hp, this⟩
  · intro h
    obtain ⟨p, hp, e⟩ := List.mem_map.mp h
    exact ⟨p, hp, decide_eq_true (by show ky p.1 = ky k; rw [e])⟩
theorem put_new {k : List Int} {y : PyData} {L : Pl} (h : k ∉ L.map Prod.fst) : putD (pe L) (ky k) y = pe L ++ [(ky k, y)] := by
  unfold putD
  rw [if_neg (fun z => h ((any_pe k L).mp z))]
theorem addP_new {k : List Int} {v : Int} : ∀ {L : Pl}, k ∉ L.map Prod.fst → addP L k v = L ++ [(k, v)]
  | [], _ => rfl
  | (k0, c) :: r, h => by
    unfold addP
    rw [if_neg (fun e => h (List.mem_cons.mpr (.inl e.symm))), addP_new (fun z => h (List.mem_cons_of_mem _ z))]
    rfl
theorem cf_new {k : List Int} : ∀ {L : Pl}, k ∉ L.map Prod.fst → cf L k = 0
  | [], _ => rfl
  | (k0, c) :: r, h => by
    show (if k0 = k then c else cf r k) = 0
    rw [if_neg (fun e => h (List.mem_cons.mpr (.inl e.symm))), cf_new (fun z => h (List.mem_cons_of_mem _ z))]
theorem map_same {k : List Int} {y : PyData} : ∀ {L : Pl}, k ∉ L.map Prod.fst → (pe L).map (fun p => if p.1 = ky k then (p.1, y) else p) = pe L
  | [], _ => rfl
  | (k0, c) :: r, h => by
    have ih := map_same (y := y) (fun z => h (List.mem_cons_of_mem _ z) : k ∉ r.map Prod.fst)
    show (if ky k0 = ky k then (ky k0, y) else (ky k0, .int c)) :: (pe r).map _ = (ky k0, .int c) :: pe r
    rw [if_neg (fun z => h (List.mem_cons.mpr (.inl (ky_inj z).symm))), ih]
theorem put_pe {k : List Int} {v : Int} : ∀ {L : Pl}, (L.map Prod.fst).Nodup → putD (pe L) (ky k) (.int (cf L k + v)) = pe (addP L k v) := by
  intro L nd
  by_cases h : k ∈ L.map Prod.fst
  · unfold putD
    rw [if_pos ((any_pe k L).mpr h)]
    induction L with
    | nil => exact absurd h List.not_mem_nil
    | cons p r ih =>
      obtain ⟨k0, c⟩ := p
      obtain ⟨h1, h2⟩ := List.nodup_cons.mp nd
      show (if ky k0 = ky k then (ky k0, PyData.int ((if k0 = k then c else cf r k) + v)) else (ky k0, .int c)) :: (pe r).map _ = pe (if k0 = k then (k0, c + v) :: r else (k0, c) :: addP r k v)
      by_cases e : k0 = k
      · rw [if_pos (by rw [e]), if_pos e, if_pos e]
        have : k ∉ r.map Prod.fst := by rw [← e]; exact h1
        rw [map_same this]
        rfl
      · rw [if_neg (fun z => e (ky_inj z)), if_neg e]
        have hr : k ∈ r.map Prod.fst := (List.mem_cons.mp h).resolve_left (fun z => e z.symm)
        have ec : cf ((k0, c) :: r) k = cf r k := if_neg e
        rw [ec, ih h2 hr]
        rfl
  · rw [put_new h, addP_new h, cf_new h, Int.zero_add]
    unfold pe
    rw [List.map_append]
    rfl
theorem merge_pe : ∀ {M L : Pl}, ((L ++ M).map Prod.fst).Nodup → mergeD (pe L) (pe M) = pe (L ++ M)
  | [], L, _ => by rw [List.append_nil]; rfl
  | (k, c) :: M, L, h => by
    show mergeD (putD (pe L) (ky k) (.int c)) (pe M) = _
    have hk : k ∉ L.map Prod.fst := fun z => by
      rw [List.map_append] at h
      exact (List.nodup_append.mp h).2.2 k z k List.mem_cons_self rfl
    have e : pe L ++ [(ky k, .int c)] = pe (L ++ [(k, c)]) := by unfold pe; rw [List.map_append]; rfl
    rw [put_new hk, e, merge_pe (by rw [List.append_assoc]; exact h), List.append_assoc]
    rfl
/-! ### the numbers of a polynomial, in order -/
def pz (n : Nat) (d : Int) (p : List Int) : Pl := (prods n d).zip p
def numb (n : Nat) (d : Int) (p : List Int) : Pl := (pz n d p).filter fun q => decide (q.2 ≠ 0)
def ord (n : Nat) (d : Int) (L : Pl) : List Int := (prods n d).map (cf L)
theorem keys_zip {α β : Type} : ∀ (a : List α) (b : List β), ∃ m, (a.zip b).map Prod.fst = a.take m
  | [], _ => ⟨0, by rw [List.zip_nil_left]; rfl⟩
  | a :: r, [] => ⟨0, by rw [List.zip_nil_right]; rfl⟩
  | a :: r, b :: s => by
    obtain ⟨m, e⟩ := keys_zip r s
    exact ⟨m + 1, by rw [List.zip_cons_cons, List.map_cons, e]; rfl⟩
theorem pz_nodup (n : Nat) (d : Int) (p : List Int) : ((pz n d p).map Prod.fst).Nodup := by
  obtain ⟨m, e⟩ := keys_zip (prods n d) p
  unfold pz
  rw [e]
  exact (prods_nodup n d).sublist (List.take_sublist ..)
theorem numb_nodup (n : Nat) (d : Int) (p : List Int) : ((numb n d p).map Prod.fst).Nodup := (pz_nodup n d p).sublist (List.filter_sublist.map _)
theorem pz_key {n : Nat} {d : Int} {p k : List Int} (h : k ∈ (pz n d p).map Prod.fst) : k ∈ prods n d := by
  obtain ⟨m, e⟩ := keys_zip (prods n d) p
  unfold pz at h
  rw [e] at h
  exact List.mem_of_mem_take h
theorem numb_key {n : Nat} {d : Int} {p k : List Int} (h : k ∈ (numb n d p).map Prod.fst) : k ∈ (pz n d p).map Prod.fst := (List.filter_sublist.map _).mem h
theorem pz_ks {n : Nat} {d : Int} (hd : 0 ≤ d) (p : List Int) : Ks n (pz n d p) := fun k hk => by
  obtain ⟨h1, _, _, h2⟩ := prods_ok hd (pz_key hk)
  exact ⟨h1, h2⟩
theorem numb_ks {n : Nat} {d : Int} (hd : 0 ≤ d) (p : List Int) : Ks n (numb n d p) := fun k hk => pz_ks hd p k (numb_key hk)
theorem W_filter (x : List Int) : ∀ L : Pl, W x (L.filter fun q => decide (q.2 ≠ 0)) = W x L
  | [] => rfl
  | (k, c) :: r => by
    have ih := W_filter x r
    rw [List.filter_cons]
    by_cases e : c = 0
    · rw [if_neg (by show ¬ decide (c ≠ 0) = true; rw [decide_eq_true_iff]; exact fun z => z e), ih]
      show _ = c * mono x k + W x r
      rw [e, Int.zero_mul]; omega
    · rw [if_pos (by show decide (c ≠ 0) = true; rw [decide_eq_true_iff]; exact e)]
      show c * mono x k + W x _ = c * mono x k + W x r
      rw [ih]
theorem W_numb (x : List Int) (n : Nat) (d : Int) (p : List Int) : W x (numb n d p) = W x (pz n d p) := W_filter x _
theorem N1_filter (f : List Int × Int → Bool) : ∀ L : Pl, N1 (L.filter f) ≤ N1 L
  | [] => Nat.le_refl _
  | (k, c) :: r => by
    have ih := N1_filter f r
    rw [List.filter_cons]
    show N1 (if _ then _ else _) ≤ c.natAbs + N1 r
    split
    · show c.natAbs + _ ≤ _; omega
    · omega
theorem len_numb (n : Nat) (d : Int) (p : List Int) : (numb n d p).length ≤ p.length := by
  refine Nat.le_trans (List.length_filter_le ..) ?_
  unfold pz
  rw [List.length_zip]; omega
/-- a list of numbers in order, as a polynomial again -/
theorem zip_map {α β : Type} (f : α → β) : ∀ l : List α, l.zip (l.map f) = l.map fun a => (a, f a)
  | [] => rfl
  | a :: r => by rw [List.map_cons, List.zip_cons_cons, zip_map f r]; rfl
theorem W_at (x : List Int) (L : Pl) : ∀ P : List (List Int), P.Nodup → (∀ k ∈ L.map Prod.fst, k ∈ P) → W x (P.map fun k => (k, cS L k)) = W x L := by
  induction L with
  | nil =>
    intro P _ _
    have : ∀ P : List (List Int), W x (P.map fun k => (k, cS [] k)) = 0 := fun P => by
      induction P with
      | nil => rfl
      | cons k P ih => show (0 : Int) * _ + W x (P.map fun k => (k, cS [] k)) = 0; rw [ih, Int.zero_mul]; rfl
    exact this P
  | cons p L ih =>
    intro P nd hk
    obtain ⟨k0, c⟩ := p
    have h0 := hk k0 List.mem_cons_self
    have one : ∀ P : List (List Int), P.Nodup → W x (P.map fun k => (k, cS ((k0, c) :: L) k)) = W x (P.map fun k => (k, cS L k)) + if k0 ∈ P then c * mono x k0 else 0 := fun P => by
      induction P with
      | nil => intro _; rw [if_neg List.not_mem_nil]; rfl
      | cons k P ihP =>
        intro nd
        obtain ⟨n1, n2⟩ := List.nodup_cons.mp nd
        show ((if k0 = k then c else 0) + cS L k) * mono x k + W x (P.map fun k => (k, cS ((k0, c) :: L) k)) = cS L k * mono x k + W x (P.map fun k => (k, cS L k)) + _
        rw [ihP n2]
        by_cases e : k0 = k
        · rw [if_pos e, if_neg (by rw [e]; exact n1), if_pos (by rw [e]; exact List.mem_cons_self), Int.add_mul, e]; omega
        · rw [if_neg e, Int.zero_add]
          by_cases m : k0 ∈ P
          · rw [if_pos m, if_pos (List.mem_cons_of_mem _ m)]; omega
          · rw [if_neg m, if_neg (fun z => (List.mem_cons.mp z).elim e m)]; omega
    rw [one P nd, if_pos h0, ih P nd (fun k hk2 => hk k (List.mem_cons_of_mem _ hk2))]
    show _ = c * mono x k0 + W x L
    omega
theorem W_ord (x : List Int) {n : Nat} {d : Int} {L : Pl} (nd : (L.map Prod.fst).Nodup) (hk : ∀ k ∈ L.map Prod.fst, k ∈ prods n d) : W x (pz n d (ord n d L)) = W x L := by
  unfold pz ord
  rw [zip_map, ← W_at x L (prods n d) (prods_nodup n d) hk]
  congr 1
  exact List.map_congr_left fun k _ => by rw [cf_cS k nd]
end DL

set_option Elab.async false
set_option linter.all false
set_option maxRecDepth 100000
set_option maxHeartbeats 4000000
/-! dict(zip(xs, ys)), each a list or a tuple, keys tuples. -/
namespace CB
open PySem PySem.Spec PyProof.Rows L2
section
variable {prog : Program} {w : World} {A : Around} {E : Value → Shared → Prop} {s : Shared} {z TI TO i1 i2 T : Addr} {fp1 fp2 : List Addr} {n1 n2 i : Nat} {P1 P2 : Nat → Value → Prop} {St1 St2 : Nat → Heap → Prop} {f : Bool} {oT : Obj}
/-- next of a zip while the pair that was given out before is still there -/
theorem zipD2_item_held {Q : Value → Shared → Prop} (S : ZipSep2 z TI TO i1 i2 fp1 fp2) (D1 : Draws prog w A i1 fp1 n1 P1 St1) (D2 : Draws prog w A i2 fp2 n2 P2 St2)
    (hz : IsZipHeld s.heap z TI TO T f) (hT : s.heap.get? T = some oT) (hTI : IsPair s.heap TI (.ref i1) (.ref i2)) (st1 : St1 i s.heap) (st2 : St2 i s.heap) (hlt1 : i < n1) (hlt2 : i < n2)
    (hQ : ∀ x1 x2 h' tk, P1 i x1 → P2 i x2 → IsZipHeld h' z TI TO T true → St1 (i + 1) h' → St2 (i + 1) h' → IsPair h' s.heap.objs.size x1 x2 → h'.objs.size = s.heap.objs.size + 1 →
      (∀ c o, c ≠ z → c ≠ i1 → c ≠ i2 → s.heap.get? c = some o → h'.get? c = some o) → Q (.ref s.heap.objs.size) { s with heap := h', toks := tk }) :
    wpAny (model prog w) A (Builtin.«zip.__next__» ⟨[.ref z], []⟩) (fun fin s' => ∃ v, fin = .done (.ret v) ∧ Q v s') E s := by
  obtain ⟨hp, g, d, tk0, os⟩ := s
  show wpAny _ _ (field (.ref z) 2 >>= _) _ _ _
  refine wpAny_bind (wpAny_field hz rfl (x := .bool false) rfl ?_)
  show wpAny _ _ (field (.ref z) 3 >>= _) _ _ _
  refine wpAny_bind (wpAny_field hz rfl (x := .ref TI) rfl ?_)
  refine wpAny_bind (wpAny_seqItems hTI rfl ?_)
  show wpAny _ _ (Builtin.SmallTypes.ownedTupleIsFree (.ref z) >>= _) _ _ _
  refine wpAny_bind (wpAny_tupleHeld_zip hz hT fun h₁ hz₁ hs₁ => ?_)
  simp only [Bool.false_eq_true, if_false]
  refine wpAny_bind ?_
  rw [← Array.forIn_toList]
  simp only [List.forIn_cons, List.forIn_nil]
  replace hs₁ : Heap.SameBut z hp h₁ := hs₁
  refine wpAny_bind (wpAny_bind (wpAny_holding ?_))
  show wpAny _ _ (Builtin.SmallTypes.nextOf (.ref i1) >>= _) _ _ ⟨h₁, g, d, tk0, os⟩
  refine wpAny_bind (D1.item i _ _ _ hlt1 (D1.over st1 hs₁ S.zf1) fun x1 h₂ tk1 hx1 sn1 hs₂ => wpAny_pure ?_)
  replace hs₂ : Heap.SameBut i1 h₁ h₂ := hs₂
  refine wpAny_pure ?_
  refine wpAny_bind (wpAny_bind (wpAny_holding ?_))
  show wpAny _ _ (Builtin.SmallTypes.nextOf (.ref i2) >>= _) _ _ ⟨h₂, g, d, tk1, os⟩
  refine wpAny_bind (D2.item i _ _ _ hlt2 (D2.over (D2.over st2 hs₁ S.zf2) hs₂ S.sep1_2) fun x2 h₃ tk2 hx2 sn2 hs₃ => wpAny_pure ?_)
  replace hs₃ : Heap.SameBut i2 h₂ h₃ := hs₃
  refine wpAny_pure (wpAny_pure ?_)
  show wpAny _ _ (newTuple [x1, x2] >>= _) _ _ _
  refine wpAny_bind (wpAny_newTuple ?_)
  have hsz : h₃.objs.size = hp.objs.size := by rw [hs₃.1, hs₂.1, hs₁.1]
  have hz₃ : IsZipHeld h₃ z TI TO T true := hs₃.extBut _ _ S.zi2 (hs₂.extBut _ _ S.zi1 hz₁)
  have hk : ∀ c o, c ≠ z → c ≠ i1 → c ≠ i2 → hp.get? c = some o → h₃.get? c = some o := fun c o c1 c2 c3 e => hs₃.extBut _ _ c3 (hs₂.extBut _ _ c2 (hs₁.extBut _ _ c1 e))
  have sn1' : St1 (i + 1) h₃ := D1.over sn1 hs₃ S.sep2_1
  refine wpAny_pure ⟨_, rfl, ?_⟩
  show Q (.ref h₃.objs.size) _
  have hp4 : IsPair (h₃.push { cls := .type "tuple", data := .seq #[x1, x2] }) h₃.objs.size x1 x2 := Heap.get?_push_size _ rfl
  have hz4 : (h₃.push { cls := .type "tuple", data := .seq #[x1, x2] }).objs.size = h₃.objs.size + 1 := Heap.size_push ..
  rw [hsz] at hp4 hz4 ⊢
  exact hQ x1 x2 _ tk2 hx1 hx2 (Heap.get?_push_of_some _ hz₃) (D1.frame _ _ _ sn1' fun b _ o e => Heap.get?_push_of_some _ e) (D2.frame _ _ _ sn2 fun b _ o e => Heap.get?_push_of_some _ e) hp4 hz4 fun c o c1 c2 c3 e => Heap.get?_push_of_some _ (hk c o c1 c2 c3 e)
theorem zipD2_end_held {Q : Fin → Shared → Prop} (S : ZipSep2 z TI TO i1 i2 fp1 fp2) (D1 : Draws prog w A i1 fp1 n1 P1 St1) (D2 : Draws prog w A i2 fp2 n2 P2 St2)
    (hz : IsZipHeld s.heap z TI TO T f) (hT : s.heap.get? T = some oT) (hTI : IsPair s.heap TI (.ref i1) (.ref i2)) (st1 : St1 i s.heap) (st2 : St2 i s.heap) (hle1 : i ≤ n1) (hle2 : i ≤ n2) (hend : i = n1 ∨ i = n2)
    (hE : ∀ h' tk e, (∀ c o, c ≠ z → c ≠ i1 → c ≠ i2 → s.heap.get? c = some o → h'.get? c = some o) → (∃ o, h'.get? e = some o ∧ o.cls = .type "StopIteration") → E (.ref e) { s with heap := h', toks := tk }) :
    wpAny (model prog w) A (Builtin.«zip.__next__» ⟨[.ref z], []⟩) Q E s := by
  obtain ⟨hp, g, d, tk0, os⟩ := s
  show wpAny _ _ (field (.ref z) 2 >>= _) _ _ _
  refine wpAny_bind (wpAny_field hz rfl (x := .bool false) rfl ?_)
  show wpAny _ _ (field (.ref z) 3 >>= _) _ _ _
  refine wpAny_bind (wpAny_field hz rfl (x := .ref TI) rfl ?_)
  refine wpAny_bind (wpAny_seqItems hTI rfl ?_)
  show wpAny _ _ (Builtin.SmallTypes.ownedTupleIsFree (.ref z) >>= _) _ _ _
  refine wpAny_bind (wpAny_tupleHeld_zip hz hT fun h₁ hz₁ hs₁ => ?_)
  simp only [Bool.false_eq_true, if_false]
  refine wpAny_bind ?_
  rw [← Array.forIn_toList]
  simp only [List.forIn_cons, List.forIn_nil]
  replace hs₁ : Heap.SameBut z hp h₁ := hs₁
  refine wpAny_bind (wpAny_bind (wpAny_holding ?_))
  show wpAny _ _ (Builtin.SmallTypes.nextOf (.ref i1) >>= _) _ _ ⟨h₁, g, d, tk0, os⟩
  by_cases hlt1 : i < n1
  · refine wpAny_bind (D1.item i _ _ _ hlt1 (D1.over st1 hs₁ S.zf1) fun x1 h₂ tk1 hx1 sn1 hs₂ => wpAny_pure ?_)
    replace hs₂ : Heap.SameBut i1 h₁ h₂ := hs₂
    refine wpAny_pure ?_
    have hi2 : i = n2 := by omega
    refine wpAny_bind (wpAny_bind (wpAny_holding ?_))
    show wpAny _ _ (Builtin.SmallTypes.nextOf (.ref i2) >>= _) _ _ ⟨h₂, g, d, tk1, os⟩
    refine wpAny_bind (D2.done ⟨h₂, g, d, tk1, os⟩ _ _ (by rw [← hi2]; exact D2.over (D2.over st2 hs₁ S.zf2) hs₂ S.sep1_2) fun h₃ e hs₃ he => ?_)
    replace hs₃ : Heap.ExtBut i2 h₂ h₃ := hs₃
    exact hE h₃ tk1 e (fun c o c1 c2 c3 x => hs₃ _ _ c3 (hs₂.extBut _ _ c2 (hs₁.extBut _ _ c1 x))) he
  · have hi1 : i = n1 := by omega
    refine wpAny_bind (D1.done ⟨h₁, g, d, tk0, os⟩ _ _ (by rw [← hi1]; exact D1.over st1 hs₁ S.zf1) fun h₂ e hs₂ he => ?_)
    replace hs₂ : Heap.ExtBut i1 h₁ h₂ := hs₂
    exact hE h₂ tk0 e (fun c o c1 c2 _ x => hs₂ _ _ c2 (hs₁.extBut _ _ c1 x)) he
theorem next_zipD2_item_held {Q : Option Value → Shared → Prop} (S : ZipSep2 z TI TO i1 i2 fp1 fp2) (D1 : Draws prog w A.in1 i1 fp1 n1 P1 St1) (D2 : Draws prog w A.in1 i2 fp2 n2 P2 St2)
    (hz : IsZipHeld s.heap z TI TO T f) (hT : s.heap.get? T = some oT) (hTI : IsPair s.heap TI (.ref i1) (.ref i2)) (st1 : St1 i s.heap) (st2 : St2 i s.heap) (hlt1 : i < n1) (hlt2 : i < n2)
    (hQ : ∀ x1 x2 h' tk, P1 i x1 → P2 i x2 → IsZipHeld h' z TI TO T true → St1 (i + 1) h' → St2 (i + 1) h' → IsPair h' s.heap.objs.size x1 x2 → h'.objs.size = s.heap.objs.size + 1 →
      (∀ c o, c ≠ z → c ≠ i1 → c ≠ i2 → s.heap.get? c = some o → h'.get? c = some o) → Q (some (.ref s.heap.objs.size)) { s with heap := h', toks := tk }) :
    wpAny (model prog w) A (pyNext (.ref z)) Q E s := by
  have hTy : s.TypeIs (.ref z) "zip" := ⟨_, hz, rfl⟩
  unfold pyNext
  exact wpAny_bind (wpAny_attempt (wpAny_callSpecial?_slot (name := Str.ofString "__next__") hTy F.slot_zip_next
    (wpAny_call_entry F.slot_zip_next hTy F.entry_zip_next
      (zipD2_item_held S D1 D2 hz hT hTI st1 st2 hlt1 hlt2 fun x1 x2 h' tk y1 y2 a1 a3 a4 a5 a6 a7 => wpAny_pure (hQ x1 x2 h' tk y1 y2 a1 a3 a4 a5 a6 a7)) (F.args_zip_next_1 _))))
theorem next_zipD2_end_held {Q : Option Value → Shared → Prop} (S : ZipSep2 z TI TO i1 i2 fp1 fp2) (D1 : Draws prog w A.in1 i1 fp1 n1 P1 St1) (D2 : Draws prog w A.in1 i2 fp2 n2 P2 St2)
    (hz : IsZipHeld s.heap z TI TO T f) (hT : s.heap.get? T = some oT) (hTI : IsPair s.heap TI (.ref i1) (.ref i2)) (st1 : St1 i s.heap) (st2 : St2 i s.heap) (hle1 : i ≤ n1) (hle2 : i ≤ n2) (hend : i = n1 ∨ i = n2)
    (hQ : ∀ h' tk, (∀ c o, c ≠ z → c ≠ i1 → c ≠ i2 → s.heap.get? c = some o → h'.get? c = some o) → Q none { s with heap := h', toks := tk }) : wpAny (model prog w) A (pyNext (.ref z)) Q E s := by
  have hTy : s.TypeIs (.ref z) "zip" := ⟨_, hz, rfl⟩
  unfold pyNext
  refine wpAny_bind (wpAny_attempt (wpAny_callSpecial?_slot (name := Str.ofString "__next__") hTy F.slot_zip_next
    (wpAny_call_entry F.slot_zip_next hTy F.entry_zip_next (zipD2_end_held S D1 D2 hz hT hTI st1 st2 hle1 hle2 hend fun h' tk e hk he => ?_) (F.args_zip_next_1 _))))
  obtain ⟨o, ho, hc⟩ := he
  refine wpAny_bind (wpAny_isInstance (T := "StopIteration") (b := true) ⟨o, ho, hc⟩ isSubtype_stop ?_)
  exact wpAny_pure (hQ _ _ hk)
end
section
variable {prog : Program} {w : World}
/-- zip of two sequences, each a list or a tuple, as an argument of dict -/
theorem pairArg_zipK (k1 k2 : SK) (z TI TO i1 i2 a b : Addr) (S : ZipSep2 z TI TO i1 i2 [i1, a] [i2, b]) (na : a ≠ i1) (nb : b ≠ i2) (xs ys : Array Value) :
    PairArg prog w "zip" z [z, TI, TO, i1, i2, a, b] [z, TO, i1, i2] (min xs.size ys.size) (fun i k v => xs[i]? = some k ∧ ys[i]? = some v)
      (fun h => IsZip h z TI TO .none ∧ IsPair h TI (.ref i1) (.ref i2) ∧ (∃ x y, IsPair h TO x y) ∧ IterK k1 h i1 a 0 ∧ IterK k2 h i2 b 0 ∧ HasK k1 h a xs ∧ HasK k2 h b ys) where
  type := fun s ok => ⟨_, ok.1, rfl⟩
  notDict := by decide
  keep := fun h h' ok hk => by
    obtain ⟨hz, hTI, ⟨x, y, hTO⟩, h1, h2, hl1, hl2⟩ := ok
    have up : ∀ {k : SK} {c : Addr} {its : Array Value}, HasK k h c its → HasK k h' c its := fun {k} {c} {its} q => by
      cases k with
      | L => exact Heap.IsList.at q fun o e => hk _ o e
      | T => exact Heap.IsTuple.at q fun o e => hk _ o e
    exact ⟨hk _ _ hz, hk _ _ hTI, ⟨x, y, hk _ _ hTO⟩, h1.at fun o e => hk _ o e, h2.at fun o e => hk _ o e, up hl1, up hl2⟩
  there := fun h ok c hc => by
    obtain ⟨hz, hTI, ⟨x, y, hTO⟩, h1, h2, hl1, hl2⟩ := ok
    have at_ : ∀ {k : SK} {c : Addr} {its : Array Value}, HasK k h c its → ∃ o, h.get? c = some o := fun {k} {c} {its} q => by
      cases k with
      | L => obtain ⟨o, e, _⟩ := q; exact ⟨o, e⟩
      | T => obtain ⟨o, e, _⟩ := q; exact ⟨o, e⟩
    obtain ⟨o1, e1, _⟩ := h1.obj
    obtain ⟨o2, e2, _⟩ := h2.obj
    simp only [List.mem_cons, List.not_mem_nil, or_false] at hc
    rcases hc with rfl | rfl | rfl | rfl | rfl | rfl | rfl
    · exact ⟨_, hz⟩
    · exact ⟨_, hTI⟩
    · exact ⟨_, hTO⟩
    · exact ⟨_, e1⟩
    · exact ⟨_, e2⟩
    · exact at_ hl1
    · exact at_ hl2
  sub := fun b hb => by simp at hb ⊢; rcases hb with rfl | rfl | rfl | rfl <;> simp
  noKeys := fun A s Q E hA ok h => getAttrOr_miss_zip ok.1 rfl rfl rfl zip_no_keys (by decide +kernel) hA h
  iter := fun A s d Q E hA ok hd hdf h => by
    obtain ⟨hz, hTI, ⟨x, y, hTO⟩, h1, h2, hl1, hl2⟩ := ok
    simp only [List.mem_cons, List.not_mem_nil, or_false, not_or] at hdf
    obtain ⟨dz, dTI, dTO, di1, di2, da, db⟩ := hdf
    have D1 := drawsK (prog := prog) (w := w) (A := A.in1) hA k1 i1 a na xs
    have D2 := drawsK (prog := prog) (w := w) (A := A.in1) hA k2 i2 b nb ys
    refine wpAny_pyIter_zip hz (h z [z, TO, i1, i2] (fun i h => IsPair h TI (.ref i1) (.ref i2) ∧ (IterK k1 h i1 a i ∧ HasK k1 h a xs) ∧ (IterK k2 h i2 b i ∧ HasK k2 h b ys) ∧
      ((IsZip h z TI TO .none ∧ ∃ x y, IsPair h TO x y) ∨ ∃ T f oT, IsZipHeld h z TI TO T f ∧ h.get? T = some oT ∧ T ≠ z ∧ T ≠ i1 ∧ T ≠ i2 ∧ T ≠ d)) s.heap s.toks ?_
      ⟨hTI, ⟨h1, hl1⟩, ⟨h2, hl2⟩, .inl ⟨hz, x, y, hTO⟩⟩ (fun _ _ e => e) fun b hb => .inl hb)
    exact {
      off := fun hm => by
        simp only [List.mem_cons, List.not_mem_nil, or_false] at hm
        rcases hm with e | e | e | e
        · exact dz e
        · exact dTO e
        · exact di1 e
        · exact di2 e
      frame := fun i h₁ h₂ st hk => by
        obtain ⟨hTI, s1, s2, hz⟩ := st
        refine ⟨hk _ _ (Ne.symm dTI) hTI, D1.frame _ _ _ s1 fun c hc o e => hk c o (fun q => ?_) e, D2.frame _ _ _ s2 fun c hc o e => hk c o (fun q => ?_) e, ?_⟩
        · subst q
          simp only [List.mem_cons, List.not_mem_nil, or_false] at hc
          rcases hc with q | q
          · exact di1 q
          · exact da q
        · subst q
          simp only [List.mem_cons, List.not_mem_nil, or_false] at hc
          rcases hc with q | q
          · exact di2 q
          · exact db q
        · rcases hz with ⟨hz, x, y, hTO⟩ | ⟨T, f, oT, hz, hT, r1, r2, r3, r4⟩
          · exact .inl ⟨hk _ _ (Ne.symm dz) hz, x, y, hk _ _ (Ne.symm dTO) hTO⟩
          · exact .inr ⟨T, f, oT, hk _ _ (Ne.symm dz) hz, hk _ _ r4 hT, r1, r2, r3, r4⟩
      item := fun i s₁ Q₁ E₁ hi st hds hQ => by
        obtain ⟨hTI, s1, s2, hz⟩ := st
        have hix : i < xs.size := Nat.lt_of_lt_of_le hi (Nat.min_le_left ..)
        have hiy : i < ys.size := Nat.lt_of_lt_of_le hi (Nat.min_le_right ..)
        have lt : ∀ {c o}, s₁.heap.get? c = some o → s₁.heap.objs.size ≠ c := fun e => Nat.ne_of_gt (Heap.lt_size e)
        have n1 : s₁.heap.objs.size ≠ i1 := let ⟨_, e, _⟩ := s1.1.obj; lt e
        have n2 : s₁.heap.objs.size ≠ i2 := let ⟨_, e, _⟩ := s2.1.obj; lt e
        rcases hz with ⟨hz, x, y, hTO⟩ | ⟨T, f, oT, hz, hT, r1, r2, r3, r4⟩
        · refine wpAny_pyNext_zipD2_item S D1 D2 hz hTI hTO s1 s2 hix hiy fun x1 x2 h' tk e1 e2 a1 a2 a3 a4 a5 a6 hk => ?_
          exact hQ s₁.heap.objs.size _ _ h' tk ⟨e1, e2⟩ (.inl ⟨_, a5, rfl, _, rfl⟩)
            ⟨hk _ _ S.TIz S.TITO S.TIi1 S.TIi2 hTI, a3, a4, .inr ⟨s₁.heap.objs.size, false, _, a1, a5, lt hz, n1, n2, Nat.ne_of_gt hds⟩⟩
            fun c o hc e => hk c o (fun x => hc (by simp [x])) (fun x => hc (by simp [x])) (fun x => hc (by simp [x])) (fun x => hc (by simp [x])) e
        · refine next_zipD2_item_held S D1 D2 hz hT hTI s1 s2 hix hiy fun x1 x2 h' tk e1 e2 a1 a3 a4 a5 a6 hk => ?_
          exact hQ s₁.heap.objs.size _ _ h' tk ⟨e1, e2⟩ (.inl ⟨_, a5, rfl, _, rfl⟩)
            ⟨hk _ _ S.TIz S.TIi1 S.TIi2 hTI, a3, a4, .inr ⟨T, true, oT, a1, hk _ _ r1 r2 r3 hT, r1, r2, r3, r4⟩⟩
            fun c o hc e => hk c o (fun x => hc (by simp [x])) (fun x => hc (by simp [x])) (fun x => hc (by simp [x])) e
      done := fun s₁ Q₁ E₁ st hQ => by
        obtain ⟨hTI, s1, s2, hz⟩ := st
        rcases hz with ⟨hz, x, y, hTO⟩ | ⟨T, f, oT, hz, hT, r1, r2, r3, r4⟩
        · exact wpAny_pyNext_zipD2_end S D1 D2 hz hTI hTO s1 s2 (Nat.min_le_left ..) (Nat.min_le_right ..) (by omega) fun h' tk hk => hQ h' tk fun c o hc e => hk c o (fun x => hc (by simp [x])) (fun x => hc (by simp [x])) (fun x => hc (by simp [x])) (fun x => hc (by simp [x])) e
        · exact next_zipD2_end_held S D1 D2 hz hT hTI s1 s2 (Nat.min_le_left ..) (Nat.min_le_right ..) (by omega) fun h' tk hk => hQ h' tk fun c o hc e => hk c o (fun x => hc (by simp [x])) (fun x => hc (by simp [x])) (fun x => hc (by simp [x])) e }
end
/-- two lists side by side: keys and values -/
inductive Kz (H : Hp) : List V → List V → List (List L2.Key × V) → Prop
  | nilL {ys : List V} : Kz H [] ys []
  | nilR {xs : List V} : Kz H xs [] []
  | cons {b : Addr} {k : List L2.Key} {v : V} {xs ys : List V} {kvs : List (List L2.Key × V)} : H b = some (.tup (k.map kV)) → Kz H xs ys kvs → Kz H (.ref b :: xs) (v :: ys) ((k, v) :: kvs)
theorem kz_prs {H : Hp} : ∀ {xs ys : List V} {kvs : List (List L2.Key × V)} {its its2 : List Value}, Kz H xs ys kvs → Vals xs its → Vals ys its2 →
    ∃ prs : List (List L2.Key × Addr × Value), KT H kvs prs ∧ prs.length = min its.length its2.length ∧ ∀ (i : Nat) (q : List L2.Key × Addr × Value), prs[i]? = some q → its[i]? = some (.ref q.2.1) ∧ its2[i]? = some q.2.2 ∧ H q.2.1 = some (.tup (q.1.map kV))
  | _, _, _, _, _, .nilL, r1, r2 => by
    have := r1.length
    exact ⟨[], .nil, by rw [← this]; show 0 = min 0 _; omega, fun i q e => by simp at e⟩
  | _, _, _, _, _, .nilR, r1, r2 => by
    have := r2.length
    exact ⟨[], .nil, by rw [← this]; show 0 = min _ 0; omega, fun i q e => by simp at e⟩
  | _, _, _, _, _, .cons (b := b) (k := k) (v := v) hb kz, r1, r2 => by
    cases r1 with
    | cons ra r1 =>
      cases r2 with
      | cons rb r2 =>
        obtain ⟨prs, h1, h2, h3⟩ := kz_prs kz r1 r2
        rename_i u us u2 us2
        obtain rfl : u = Value.ref b := ra
        refine ⟨(k, b, u2) :: prs, .cons ⟨rfl, hb, rb⟩ h1, by rw [List.length_cons, List.length_cons, List.length_cons, h2]; omega, fun i q e => ?_⟩
        cases i with
        | zero => cases e; exact ⟨rfl, rfl, hb⟩
        | succ i =>
          obtain ⟨g1, g2, g3⟩ := h3 i q (by simpa using e)
          exact ⟨by simpa using g1, by simpa using g2, g3⟩
/-- dict(zip(x, y)): a new dict -/
def tDictZip (K : PySem.W.Frag) (ta : TA) : TE := fun σ H Q => ta σ H fun vs H1 => ∃ (k1 k2 : SK) (a b : Addr) (xs ys : List V) (kvs : List (List L2.Key × V)), vs = [.ref a, .ref b] ∧ SqK k1 K H1 a xs ∧ SqK k2 K H1 b ys ∧ Kz H1 xs ys kvs ∧ xs.length ≤ sizeLine ∧ ∀ p, H1 p = none → Q (.ref p) (upd H1 p (.dT (mergeT [] kvs)))
section
variable {X : Cx}
theorem pe_dictZip {K : PySem.W.Frag} {e e2 : Expr} {ta : TA} {p p2 pos pos2 : Pos} (hu : X.A.units + 3 < cLine) (hc : X.calm = true) (hg : Gl X "dict") (hm : X.mg "dict" = none) (hg2 : Gl X "zip") (hm2 : X.mg "zip" = none) (ha : PA X [e, e2] ta)
    (hs : starEach [e, e2] X.env = (false, eval e X.env) :: starEach [e2] X.env := by rfl) (hpl : (backTo pos2 (starEach [e2] X.env)).any (·.1) = false := by rfl)
    (hs2 : starEach [.Call (.Name "zip" p2) [e, e2] [] pos2] X.env = (false, eval (.Call (.Name "zip" p2) [e, e2] [] pos2) X.env) :: starEach [] X.env := by rfl) (hK : X.K = K := by rfl) :
    PE X (.Call (.Name "dict" p) [.Call (.Name "zip" p2) [e, e2] [] pos2] [] pos) (tDictZip K ta) := by
  subst hK
  refine ⟨fun pins s σ H Q I h => ?_⟩
  refine Call_ (ld_blt I hg hm bt_dict (PyProof.Rows.callWith_type1 (args_cons (Call_ (ld_blt I hg2 hm2 PyProof.Rows.boot_zip (PyProof.Rows.callWith_type1 (thn (ha.run pos2 pins s σ H _ I h) fun us s1 hus => ?_) hs hpl))) hs2) hs2 rfl))
  obtain ⟨vs, H1, I1, r1, k1, k2, a, b, xs, ys, kvs, rfl, hqx, hqy, kz, hlen, q⟩ := hus
  obtain ⟨u1, u2, rfl, ra, rb⟩ := vals2 r1
  obtain rfl : u1 = Value.ref a := ra
  obtain rfl : u2 = Value.ref b := rb
  obtain ⟨its, rv, p1, _⟩ := InvK I1 hqx
  obtain ⟨its2, rv2, p2', _⟩ := InvK I1 hqy
  obtain ⟨prs, rel, hpl2, hpr⟩ := kz_prs kz rv rv2
  refine zip_begins2 (beginsK k1 a its.toArray) (beginsK k2 b its2.toArray) p1 p2' fun h' hz hTI hTO h1 h2 hsz hk => args_nil ?_
  have I2 : Inv X pins σ H1 { s1 with heap := h' } := I1.kept (t' := s1.toks) hk
  have la : a < s1.heap.objs.size := p1.lt
  have lb : b < s1.heap.objs.size := p2'.lt
  have S : ZipSep2 (s1.heap.objs.size + 4) (s1.heap.objs.size + 2) (s1.heap.objs.size + 3) s1.heap.objs.size (s1.heap.objs.size + 1) (s1.heap.objs.size :: [a]) ((s1.heap.objs.size + 1) :: [b]) :=
    zip_sep2 (fun c hc => by rw [List.mem_singleton.mp hc]; exact la) (fun c hc => by rw [List.mem_singleton.mp hc]; exact lb)
  have up : ∀ {k : SK} {c : Addr} {its : Array Value}, HasK k s1.heap c its → HasK k h' c its := fun {k} {c} {its} q => by
    cases k with
    | L => exact Heap.IsList.at q fun o e => hk _ o e
    | T => exact Heap.IsTuple.at q fun o e => hk _ o e
  have ok : IsZip h' (s1.heap.objs.size + 4) (s1.heap.objs.size + 2) (s1.heap.objs.size + 3) .none ∧ IsPair h' (s1.heap.objs.size + 2) (.ref s1.heap.objs.size) (.ref (s1.heap.objs.size + 1)) ∧ (∃ x y, IsPair h' (s1.heap.objs.size + 3) x y) ∧ IterK k1 h' s1.heap.objs.size a 0 ∧ IterK k2 h' (s1.heap.objs.size + 1) b 0 ∧ HasK k1 h' a its.toArray ∧ HasK k2 h' b its2.toArray :=
    ⟨hz, hTI, ⟨_, _, hTO⟩, IterK.start h1, IterK.start h2, up p1, up p2'⟩
  have lx := rv.length
  refine call_dict_pairsH (s := { s1 with heap := h' }) (knd := tupleKind (mixKind X.prog X.w)) (ps := prs) (pairArg_zipK k1 k2 _ _ _ _ _ a b S (Nat.ne_of_lt la) (Nat.ne_of_lt (Nat.lt_succ_of_lt lb)) its.toArray its2.toArray) (I1.ok.hd hc) ?_ ok ⟨by rw [hpl2, List.size_toArray, List.size_toArray], fun i key v e => ?_⟩ (fun hh hkk x hx => ?_) (by rw [List.size_toArray, List.size_toArray]; omega) fun h'' tk hd' hk' => ?_
  · show X.A.in1.in1.units < cLine
    simp only [Around.in1_units]
    omega
  · obtain ⟨e1, e2⟩ := e
    have e1 : its[i]? = some key := by simpa using e1
    have e2 : its2[i]? = some v := by simpa using e2
    have l1 := (List.getElem?_eq_some_iff.mp e1).1
    have l2 := (List.getElem?_eq_some_iff.mp e2).1
    obtain ⟨g1, g2, _⟩ := hpr i prs[i] (List.getElem?_eq_getElem (by omega))
    rw [e1] at g1
    rw [e2] at g2
    refine ⟨prs[i].1, prs[i].2.1, ?_, Option.some.inj g1⟩
    rw [Option.some.inj g2, List.getElem?_eq_getElem (by omega)]
  · obtain ⟨i, hi⟩ := List.mem_iff_getElem?.mp hx
    obtain ⟨_, _, g3⟩ := hpr i x hi
    obtain ⟨ox, it3, nn, x1, x2, x3, x4⟩ := key_of I1.hok g3
    have lq : x.2.1 < s1.heap.objs.size := Heap.lt_size x1
    refine ⟨ox, it3, nn, hkk _ _ (fun q => ?_) (fun q => ?_) (hk _ _ x1), x2, x3, x4⟩
    · exact Nat.ne_of_lt (Nat.lt_of_lt_of_le lq (by rw [hsz]; exact Nat.le_add_right _ _)) q
    · simp only [List.mem_cons, List.not_mem_nil, or_false] at q
      rcases q with q | q | q | q
      · exact Nat.ne_of_lt (Nat.lt_of_lt_of_le lq (Nat.le_add_right _ _)) q
      · exact Nat.ne_of_lt (Nat.lt_of_lt_of_le lq (Nat.le_add_right _ _)) q
      · exact Nat.ne_of_lt lq q
      · exact Nat.ne_of_lt (Nat.lt_of_lt_of_le lq (Nat.le_add_right _ _)) q
  · have hm9 : (h'.objs.size == sysModules) = false := beq_eq_false_iff_ne.mpr (Nat.ne_of_gt (Nat.lt_of_lt_of_le I1.big (by rw [hsz]; exact Nat.le_add_right _ _)))
    have hlen9 : (mergeT [] kvs).length ≤ sizeLine := by
      refine Nat.le_trans (length_mergeT kvs []) ?_
      rw [List.length_nil, Nat.zero_add, Paired.length rel, hpl2]
      omega
    obtain ⟨o', es', ep', ho', hc', hd'', he', _, hn'⟩ := id hd'
    have hn : H1 h'.objs.size = none := I2.hok.fresh (Nat.le_refl _)
    have km : KT (upd H1 h'.objs.size (.dT (mergeT [] kvs))) (mergeT [] kvs) (mergedH [] prs) := (KT.merge rel .nil).keeps fun b ys e => by rw [upd_ne (ne_of_none e hn)]; exact e
    refine ⟨.ref h'.objs.size, upd H1 h'.objs.size (.dT (mergeT [] kvs)), I2.turnedNew (t' := tk) (ch := [s1.heap.objs.size + 4, s1.heap.objs.size + 3, s1.heap.objs.size, s1.heap.objs.size + 1]) (fun b o hb e => hk' b o hb e) (fun c hc => ?_) (Nat.le_refl _) (show ObjOk X.prog X.w _ _ _ (.dT (mergeT [] kvs)) from ⟨hlen9, hm9, mergedH [] prs, km, o', es', ep', ho', hc', hd'', he', hn'⟩), rfl, q _ hn⟩
    have hle : s1.heap.objs.size ≤ c := by
      simp only [List.mem_cons, List.not_mem_nil, or_false] at hc
      rcases hc with rfl | rfl | rfl | rfl
      · exact Nat.le_add_right _ _
      · exact Nat.le_add_right _ _
      · exact Nat.le_refl _
      · exact Nat.le_add_right _ _
    have := I1.fpOk (H' := H1) hle (I1.hok.fresh hle)
    exact this
end
end CB
namespace DL
open PySem PySem.Spec PyProof.Rows L2 CB
section
variable {K : PySem.W.Frag} {ua : TA} {u : TDa}
/-! ### two names from a list -/
def dgLst2 (t1 t2 : TDg) : TDg := fun y ρ Q => match y with
  | .list [a, b] => t1 a ρ fun ρ1 => t2 b ρ1 Q
  | _ => False
theorem dg_lst2 {va vb : List Nat} {g1 g2 : TG} {t1 t2 : TDg} (h1 : DG va g1 t1) (h2 : DG vb g2 t2) : DG (va ++ vb) (L2.gLst K 2 (gCons g1 (gCons g2 gNil))) (dgLst2 t1 t2) := by
  intro dl adr F H σ ρ v y Qd Q e s r h c
  unfold dgLst2 at h
  split at h
  · cases r with
    | lst q1 q2 =>
      cases q2 with
      | cons ra q2 =>
        cases q2 with
        | cons rb q2 =>
          cases q2
          refine ⟨_, _, rfl, SqL.of (e _ _ q1), rfl, _, _, rfl, ?_⟩
          refine h1 dl adr F H σ ρ _ _ _ _ e s ra h fun σ1 ρ1 s1 b1 k1 l1 q1 => ⟨_, _, rfl, ?_⟩
          refine h2 dl adr F H σ1 ρ1 _ _ _ _ e s1 rb q1 fun σ2 ρ2 s2 b2 k2 l2 q2 => ⟨rfl, ?_⟩
          exact c σ2 ρ2 s2 (fun n b => b2 n (b1 n b)) (fun i hi => (k2 i (fun z => hi (List.mem_append.mpr (.inr z)))).trans (k1 i (fun z => hi (List.mem_append.mpr (.inl z))))) (l2.trans l1) q2
  · exact h.elim
/-! ### dict(zip(x, y)), by data -/
def dDictZip (u : TDa) : TD := fun ρ μ Q => u ρ μ fun xs μ1 => frzA xs μ1 fun ys μ2 => match ys with
  | [y, z] => match seqs y, seqs z with
    | some ds, some es => ds.length ≤ 100000 ∧ ∃ ps : List (List Key × PyData), zipD ds es = ps.map pairD ∧ psh (.dT (mergeD [] ps)) μ2 Q
    | _, _ => False
  | _ => False
theorem kz_rp {F H : Hp} (e : Ex F H) : ∀ {xs ys : List V} {ds es : List PyData} {ps : List (List Key × PyData)}, RpAll F xs ds → RpAll F ys es → zipD ds es = ps.map pairD → ∃ kvs : List (List Key × V), Kz H xs ys kvs ∧ DR F kvs ps
  | _, _, _, _, ps, .nil, _, h => by
    cases ps with
    | nil => exact ⟨[], .nilL, DR.nil⟩
    | cons p ps => cases h
  | _, _, _, _, ps, .cons _ _, .nil, h => by
    cases ps with
    | nil => exact ⟨[], .nilR, DR.nil⟩
    | cons p ps => cases h
  | _, _, _, _, ps, .cons a as, .cons b bs, h => by
    cases ps with
    | nil => cases h
    | cons p ps =>
      rw [zipD, List.map_cons] at h
      obtain ⟨h1, h2⟩ := List.cons.inj h
      obtain ⟨kvs, q1, q2⟩ := kz_rp e as bs h2
      unfold pairD at h1
      obtain ⟨e1, e2⟩ := List.cons.inj (PyData.tuple.inj h1)
      rw [e1] at a
      rw [(List.cons.inj e2).1] at b
      obtain ⟨q, rfl, hq⟩ := kt_inv a
      exact ⟨(p.1, _) :: kvs, .cons (e _ _ hq) q1, DR.cons b q2⟩
theorem de_dictZip (ha : DA 2 ua u) : DE (tDictZip K ua) (dDictZip u) := by
  intro dl n σ ρ μ adr F H Qd Q a h c
  refine ha dl n σ ρ μ adr F H _ _ a h fun vs xs μ1 adr1 F1 H1 f1 s1 l1 r1 n1 o1 e1 h1 => ?_
  obtain ⟨ys, μ2, adr2, F2, f2, s2, l2, r2, h2⟩ := frzA_ok s1 r1 l1 o1 h1
  have fa := f1.trans f2 (Nat.le_refl _)
  split at h2
  · split at h2
    · rename_i y z ds es e e'
      obtain ⟨ld, ps, ez, h2⟩ := h2
      cases r2 with
      | cons q1 q2 =>
        cases q2 with
        | cons q2 q3 =>
          cases q3
          obtain ⟨k1, a1, xs1, rfl, z1, z2⟩ := fzk_of q1 (seqs_inv e)
          obtain ⟨k2, a2, xs2, rfl, w1, w2⟩ := fzk_of q2 (seqs_inv e')
          obtain ⟨kvs, kz, dr⟩ := kz_rp s2.ex z2 w2 ez
          refine ⟨k1, k2, a1, a2, xs1, xs2, kvs, rfl, z1.sq s2.ex, w1.sq s2.ex, kz, bigL (by rw [z2.length]; exact ld), fun p hp => ?_⟩
          have dm := dr.merge (DR.nil (F := F2))
          have cn : Cn dl μ.length F2 H1 adr2 Qd Q := fun v x μ' adr' F' H' f s l r n' m' hq => c v x μ' adr' F' H' (fa.trans f (Nat.le_refl _)) s l r (fun k hk => absurd hk (n' k)) m' hq
          exact Cn.new (b := .dT (mergeD [] ps)) cn s2 l2 hp ⟨sub_none s2.ex hp, _, by rw [upd_same]; exact congrArg (fun z => some (HO.dT z)) dm.zip, dm.2⟩ h2
    · exact h2.elim
  · exact h2.elim
end
end DL

set_option Elab.async false
set_option linter.all false
set_option maxRecDepth 100000
set_option maxHeartbeats 4000000
namespace LW
open PySem PySem.Spec PyProof.Rows L2 CB DL
def topS (i : Nat) : Stmt := PySem.Challenge.pw_curvekept_k04_polynomials_reckoned.main.body.getD i (.Pass ⟨0, 0, 0, 0⟩)
abbrev nm_products : List Str := ["n", "d", "found", "box", "longer", "product", "often", "many"]
abbrev st_products : Stmt := topS 1
theorem sc_products : FnScope ["n", "d", "found", "box", "longer", "product", "often", "many"] ["n", "d"] (defScope st_products) := ⟨rfl, rfl, rfl, by decide +kernel, rfl, by decide +kernel, by decide +kernel⟩

abbrev nm_power_of : List Str := ["number", "k", "found", "turn"]
abbrev st_power_of : Stmt := topS 3
theorem sc_power_of : FnScope ["number", "k", "found", "turn"] ["number", "k"] (defScope st_power_of) := ⟨rfl, rfl, rfl, by decide +kernel, rfl, by decide +kernel, by decide +kernel⟩

abbrev nm_worth : List Str := ["n", "d", "p", "boxes", "found", "number", "product", "often", "box"]
abbrev st_worth : Stmt := topS 4
theorem sc_worth : FnScope ["n", "d", "p", "boxes", "found", "number", "product", "often", "box"] ["n", "d", "p", "boxes"] (defScope st_worth) := ⟨rfl, rfl, rfl, by decide +kernel, rfl, by decide +kernel, by decide +kernel⟩

abbrev nm_numbered : List Str := ["n", "d", "p", "number", "product"]
abbrev st_numbered : Stmt := topS 5
theorem sc_numbered : FnScope ["n", "d", "p", "number", "product"] ["n", "d", "p"] (defScope st_numbered) := ⟨rfl, rfl, rfl, by decide +kernel, rfl, by decide +kernel, by decide +kernel⟩

abbrev nm_in_order : List Str := ["n", "d", "numbers", "product"]
abbrev st_in_order : Stmt := topS 6
theorem sc_in_order : FnScope ["n", "d", "numbers", "product"] ["n", "d", "numbers"] (defScope st_in_order) := ⟨rfl, rfl, rfl, by decide +kernel, rfl, by decide +kernel, by decide +kernel⟩

abbrev nm_degree : List Str := ["n", "d", "p", "product"]
abbrev st_degree : Stmt := topS 7
theorem sc_degree : FnScope ["n", "d", "p", "product"] ["n", "d", "p"] (defScope st_degree) := ⟨rfl, rfl, rfl, by decide +kernel, rfl, by decide +kernel, by decide +kernel⟩

abbrev nm_lifted : List Str := ["n", "d", "p", "e"]
abbrev st_lifted : Stmt := topS 8
theorem sc_lifted : FnScope ["n", "d", "p", "e"] ["n", "d", "p", "e"] (defScope st_lifted) := ⟨rfl, rfl, rfl, by decide +kernel, rfl, by decide +kernel, by decide +kernel⟩

abbrev nm_added : List Str := ["p", "other", "one", "two"]
abbrev st_added : Stmt := topS 9
theorem sc_added : FnScope ["p", "other", "one", "two"] ["p", "other"] (defScope st_added) := ⟨rfl, rfl, rfl, by decide +kernel, rfl, by decide +kernel, by decide +kernel⟩

abbrev nm_scaled : List Str := ["p", "k", "number"]
abbrev st_scaled : Stmt := topS 10
theorem sc_scaled : FnScope ["p", "k", "number"] ["p", "k"] (defScope st_scaled) := ⟨rfl, rfl, rfl, by decide +kernel, rfl, by decide +kernel, by decide +kernel⟩

abbrev nm_numbers_multiplied : List Str := ["one", "other", "found", "first", "a", "second", "b", "both", "x", "y"]
abbrev st_numbers_multiplied : Stmt := topS 11
theorem sc_numbers_multiplied : FnScope ["one", "other", "found", "first", "a", "second", "b", "both", "x", "y"] ["one", "other"] (defScope st_numbers_multiplied) := ⟨rfl, rfl, rfl, by decide +kernel, rfl, by decide +kernel, by decide +kernel⟩

abbrev nm_multiplied : List Str := ["n", "d", "p", "e", "other"]
abbrev st_multiplied : Stmt := topS 12
theorem sc_multiplied : FnScope ["n", "d", "p", "e", "other"] ["n", "d", "p", "e", "other"] (defScope st_multiplied) := ⟨rfl, rfl, rfl, by decide +kernel, rfl, by decide +kernel, by decide +kernel⟩

abbrev nm__law_deal : List Str := ["_law_script", "_law_base", "_law_some", "_law_one", "_law_number"]
abbrev st__law_deal : Stmt := topS 14
theorem sc__law_deal : FnScope ["_law_script", "_law_base", "_law_some", "_law_one", "_law_number"] ["_law_script", "_law_base"] (defScope st__law_deal) := ⟨rfl, rfl, rfl, by decide +kernel, rfl, by decide +kernel, by decide +kernel⟩

abbrev nm__law_draw : List Str := ["_law_deal_here", "_law_many", "_law_number", "_law_one", "_law_other"]
abbrev st__law_draw : Stmt := topS 15
theorem sc__law_draw : FnScope ["_law_deal_here", "_law_many", "_law_number", "_law_one", "_law_other"] ["_law_deal_here", "_law_many"] (defScope st__law_draw) := ⟨rfl, rfl, rfl, by decide +kernel, rfl, by decide +kernel, by decide +kernel⟩

abbrev nm__law_products : List Str := ["_law_n", "_law_d", "_law_found", "_law_k", "_law_longer", "_law_one", "_law_many"]
abbrev st__law_products : Stmt := topS 16
theorem sc__law_products : FnScope ["_law_n", "_law_d", "_law_found", "_law_k", "_law_longer", "_law_one", "_law_many"] ["_law_n", "_law_d"] (defScope st__law_products) := ⟨rfl, rfl, rfl, by decide +kernel, rfl, by decide +kernel, by decide +kernel⟩

abbrev nm__law_worth : List Str := ["_law_n", "_law_d", "_law_p", "_law_boxes_here", "_law_whole", "_law_number", "_law_product", "_law_box", "_law_often", "_law_turn"]
abbrev st__law_worth : Stmt := topS 17
theorem sc__law_worth : FnScope ["_law_n", "_law_d", "_law_p", "_law_boxes_here", "_law_whole", "_law_number", "_law_product", "_law_box", "_law_often", "_law_turn"] ["_law_n", "_law_d", "_law_p", "_law_boxes_here"] (defScope st__law_worth) := ⟨rfl, rfl, rfl, by decide +kernel, rfl, by decide +kernel, by decide +kernel⟩

abbrev nm__law_sizes : List Str := ["_law_deal_here", "_law_n"]
abbrev st__law_sizes : Stmt := topS 18
theorem sc__law_sizes : FnScope ["_law_deal_here", "_law_n"] ["_law_deal_here"] (defScope st__law_sizes) := ⟨rfl, rfl, rfl, by decide +kernel, rfl, by decide +kernel, by decide +kernel⟩

abbrev nm__law_poly : List Str := ["_law_deal_here", "_law_many", "_law_found", "_law_form", "_law_k", "_law_number"]
abbrev st__law_poly : Stmt := topS 19
theorem sc__law_poly : FnScope ["_law_deal_here", "_law_many", "_law_found", "_law_form", "_law_k", "_law_number"] ["_law_deal_here", "_law_many"] (defScope st__law_poly) := ⟨rfl, rfl, rfl, by decide +kernel, rfl, by decide +kernel, by decide +kernel⟩

abbrev nm__law_boxes : List Str := ["_law_deal_here", "_law_n", "_law_far", "_law_k"]
abbrev st__law_boxes : Stmt := topS 20
theorem sc__law_boxes : FnScope ["_law_deal_here", "_law_n", "_law_far", "_law_k"] ["_law_deal_here", "_law_n"] (defScope st__law_boxes) := ⟨rfl, rfl, rfl, by decide +kernel, rfl, by decide +kernel, by decide +kernel⟩

abbrev nm__law_greatest : List Str := ["_law_n", "_law_d", "_law_p", "_law_found", "_law_number", "_law_product"]
abbrev st__law_greatest : Stmt := topS 21
theorem sc__law_greatest : FnScope ["_law_n", "_law_d", "_law_p", "_law_found", "_law_number", "_law_product"] ["_law_n", "_law_d", "_law_p"] (defScope st__law_greatest) := ⟨rfl, rfl, rfl, by decide +kernel, rfl, by decide +kernel, by decide +kernel⟩

abbrev nm__law_is_poly : List Str := ["_law_found", "_law_many", "_law_number"]
abbrev st__law_is_poly : Stmt := topS 22
theorem sc__law_is_poly : FnScope ["_law_found", "_law_many", "_law_number"] ["_law_found", "_law_many"] (defScope st__law_is_poly) := ⟨rfl, rfl, rfl, by decide +kernel, rfl, by decide +kernel, by decide +kernel⟩

abbrev nm__law_one_right : List Str := ["_law_n", "_law_d", "_law_p", "_law_e", "_law_rows", "_law_boxes_here", "_law_found", "_law_due", "_law_product"]
abbrev st__law_one_right : Stmt := topS 23
theorem sc__law_one_right : FnScope ["_law_n", "_law_d", "_law_p", "_law_e", "_law_rows", "_law_boxes_here", "_law_found", "_law_due", "_law_product"] ["_law_n", "_law_d", "_law_p", "_law_e", "_law_rows"] (defScope st__law_one_right) := ⟨rfl, rfl, rfl, by decide +kernel, rfl, by decide +kernel, by decide +kernel⟩

abbrev nm__law_two_right : List Str := ["_law_n", "_law_d", "_law_p", "_law_e", "_law_other", "_law_rows", "_law_found", "_law_due", "_law_one", "_law_a", "_law_two", "_law_b", "_law_both", "_law_x", "_law_y", "_law_product", "_law_boxes_here"]
abbrev st__law_two_right : Stmt := topS 24
theorem sc__law_two_right : FnScope ["_law_n", "_law_d", "_law_p", "_law_e", "_law_other", "_law_rows", "_law_found", "_law_due", "_law_one", "_law_a", "_law_two", "_law_b", "_law_both", "_law_x", "_law_y", "_law_product", "_law_boxes_here"] ["_law_n", "_law_d", "_law_p", "_law_e", "_law_other", "_law_rows"] (defScope st__law_two_right) := ⟨rfl, rfl, rfl, by decide +kernel, rfl, by decide +kernel, by decide +kernel⟩

abbrev nm_law : List Str := ["_law_script", "_law_deal_here", "_law_n", "_law_d", "_law_e", "_law_f", "_law_many", "_law_p", "_law_more", "_law_one", "_law_other", "_law_to", "_law_rows", "_law_k", "_law_turn", "_law_a", "_law_b", "_law_number"]
abbrev st_law : Stmt := topS 25
theorem sc_law : FnScope ["_law_script", "_law_deal_here", "_law_n", "_law_d", "_law_e", "_law_f", "_law_many", "_law_p", "_law_more", "_law_one", "_law_other", "_law_to", "_law_rows", "_law_k", "_law_turn", "_law_a", "_law_b", "_law_number"] ["_law_script"] (defScope st_law) := ⟨rfl, rfl, rfl, by decide +kernel, rfl, by decide +kernel, by decide +kernel⟩

/-! ### what the top leaves -/
structure Txt (K : PySem.W.Frag) (mg : Str → Option Value) where
  f_products : Addr
  fd_products : FuncData
  F_products : Fun K "products" "products" st_products f_products fd_products
  b_products : Binds K fd_products ["n", "d"] []
  g_products : mg "products" = some (.ref f_products)
  f_power_of : Addr
  fd_power_of : FuncData
  F_power_of : Fun K "power_of" "power_of" st_power_of f_power_of fd_power_of
  b_power_of : Binds K fd_power_of ["number", "k"] []
  g_power_of : mg "power_of" = some (.ref f_power_of)
  f_worth : Addr
  fd_worth : FuncData
  F_worth : Fun K "worth" "worth" st_worth f_worth fd_worth
  b_worth : Binds K fd_worth ["n", "d", "p", "boxes"] []
  g_worth : mg "worth" = some (.ref f_worth)
  f_numbered : Addr
  fd_numbered : FuncData
  F_numbered : Fun K "numbered" "numbered" st_numbered f_numbered fd_numbered
  b_numbered : Binds K fd_numbered ["n", "d", "p"] []
  g_numbered : mg "numbered" = some (.ref f_numbered)
  f_in_order : Addr
  fd_in_order : FuncData
  F_in_order : Fun K "in_order" "in_order" st_in_order f_in_order fd_in_order
  b_in_order : Binds K fd_in_order ["n", "d", "numbers"] []
  g_in_order : mg "in_order" = some (.ref f_in_order)
  f_degree : Addr
  fd_degree : FuncData
  F_degree : Fun K "degree" "degree" st_degree f_degree fd_degree
  b_degree : Binds K fd_degree ["n", "d", "p"] []
  g_degree : mg "degree" = some (.ref f_degree)
  f_lifted : Addr
  fd_lifted : FuncData
  F_lifted : Fun K "lifted" "lifted" st_lifted f_lifted fd_lifted
  b_lifted : Binds K fd_lifted ["n", "d", "p", "e"] []
  g_lifted : mg "lifted" = some (.ref f_lifted)
  f_added : Addr
  fd_added : FuncData
  F_added : Fun K "added" "added" st_added f_added fd_added
  b_added : Binds K fd_added ["p", "other"] []
  g_added : mg "added" = some (.ref f_added)
  f_scaled : Addr
  fd_scaled : FuncData
  F_scaled : Fun K "scaled" "scaled" st_scaled f_scaled fd_scaled
  b_scaled : Binds K fd_scaled ["p", "k"] []
  g_scaled : mg "scaled" = some (.ref f_scaled)
  f_numbers_multiplied : Addr
  fd_numbers_multiplied : FuncData
  F_numbers_multiplied : Fun K "numbers_multiplied" "numbers_multiplied" st_numbers_multiplied f_numbers_multiplied fd_numbers_multiplied
  b_numbers_multiplied : Binds K fd_numbers_multiplied ["one", "other"] []
  g_numbers_multiplied : mg "numbers_multiplied" = some (.ref f_numbers_multiplied)
  f_multiplied : Addr
  fd_multiplied : FuncData
  F_multiplied : Fun K "multiplied" "multiplied" st_multiplied f_multiplied fd_multiplied
  b_multiplied : Binds K fd_multiplied ["n", "d", "p", "e", "other"] []
  g_multiplied : mg "multiplied" = some (.ref f_multiplied)
  f__law_deal : Addr
  fd__law_deal : FuncData
  F__law_deal : Fun K "_law_deal" "_law_deal" st__law_deal f__law_deal fd__law_deal
  b__law_deal : Binds K fd__law_deal ["_law_script", "_law_base"] []
  g__law_deal : mg "_law_deal" = some (.ref f__law_deal)
  f__law_draw : Addr
  fd__law_draw : FuncData
  F__law_draw : Fun K "_law_draw" "_law_draw" st__law_draw f__law_draw fd__law_draw
  b__law_draw : Binds K fd__law_draw ["_law_deal_here", "_law_many"] []
  g__law_draw : mg "_law_draw" = some (.ref f__law_draw)
  f__law_products : Addr
  fd__law_products : FuncData
  F__law_products : Fun K "_law_products" "_law_products" st__law_products f__law_products fd__law_products
  b__law_products : Binds K fd__law_products ["_law_n", "_law_d"] []
  g__law_products : mg "_law_products" = some (.ref f__law_products)
  f__law_worth : Addr
  fd__law_worth : FuncData
  F__law_worth : Fun K "_law_worth" "_law_worth" st__law_worth f__law_worth fd__law_worth
  b__law_worth : Binds K fd__law_worth ["_law_n", "_law_d", "_law_p", "_law_boxes_here"] []
  g__law_worth : mg "_law_worth" = some (.ref f__law_worth)
  f__law_sizes : Addr
  fd__law_sizes : FuncData
  F__law_sizes : Fun K "_law_sizes" "_law_sizes" st__law_sizes f__law_sizes fd__law_sizes
  b__law_sizes : Binds K fd__law_sizes ["_law_deal_here"] []
  g__law_sizes : mg "_law_sizes" = some (.ref f__law_sizes)
  f__law_poly : Addr
  fd__law_poly : FuncData
  F__law_poly : Fun K "_law_poly" "_law_poly" st__law_poly f__law_poly fd__law_poly
  b__law_poly : Binds K fd__law_poly ["_law_deal_here", "_law_many"] []
  g__law_poly : mg "_law_poly" = some (.ref f__law_poly)
  f__law_boxes : Addr
  fd__law_boxes : FuncData
  F__law_boxes : Fun K "_law_boxes" "_law_boxes" st__law_boxes f__law_boxes fd__law_boxes
  b__law_boxes : Binds K fd__law_boxes ["_law_deal_here", "_law_n"] []
  g__law_boxes : mg "_law_boxes" = some (.ref f__law_boxes)
  f__law_greatest : Addr
  fd__law_greatest : FuncData
  F__law_greatest : Fun K "_law_greatest" "_law_greatest" st__law_greatest f__law_greatest fd__law_greatest
  b__law_greatest : Binds K fd__law_greatest ["_law_n", "_law_d", "_law_p"] []
  g__law_greatest : mg "_law_greatest" = some (.ref f__law_greatest)
  f__law_is_poly : Addr
  fd__law_is_poly : FuncData
  F__law_is_poly : Fun K "_law_is_poly" "_law_is_poly" st__law_is_poly f__law_is_poly fd__law_is_poly
  b__law_is_poly : Binds K fd__law_is_poly ["_law_found", "_law_many"] []
  g__law_is_poly : mg "_law_is_poly" = some (.ref f__law_is_poly)
  f__law_one_right : Addr
  fd__law_one_right : FuncData
  F__law_one_right : Fun K "_law_one_right" "_law_one_right" st__law_one_right f__law_one_right fd__law_one_right
  b__law_one_right : Binds K fd__law_one_right ["_law_n", "_law_d", "_law_p", "_law_e", "_law_rows"] []
  g__law_one_right : mg "_law_one_right" = some (.ref f__law_one_right)
  f__law_two_right : Addr
  fd__law_two_right : FuncData
  F__law_two_right : Fun K "_law_two_right" "_law_two_right" st__law_two_right f__law_two_right fd__law_two_right
  b__law_two_right : Binds K fd__law_two_right ["_law_n", "_law_d", "_law_p", "_law_e", "_law_other", "_law_rows"] []
  g__law_two_right : mg "_law_two_right" = some (.ref f__law_two_right)
  f_law : Addr
  fd_law : FuncData
  F_law : Fun K "law" "law" st_law f_law fd_law
  b_law : Binds K fd_law ["_law_script"] []
  g_law : mg "law" = some (.ref f_law)
  z_all : mg "all" = none
  z_bool : mg "bool" = none
  z_dict : mg "dict" = none
  z_int : mg "int" = none
  z_isinstance : mg "isinstance" = none
  z_len : mg "len" = none
  z_list : mg "list" = none
  z_max : mg "max" = none
  z_range : mg "range" = none
  z_repr : mg "repr" = none
  z_reversed : mg "reversed" = none
  z_sorted : mg "sorted" = none
  z_sum : mg "sum" = none
  z_tuple : mg "tuple" = none
  z_zip : mg "zip" = none
section
variable {P : Program} {w : World} {K : PySem.W.Frag} {mg : Str → Option Value} {base : Heap}
/-! ### a draw -/
theorem ok_draw {k : Nat} (T : Txt K mg) : FnOk P w K mg base CX0 (k + 1) T.f__law_draw T.fd__law_draw ["_law_deal_here", "_law_many"] sp_draw := by
  refine T.F__law_draw.ok sc__law_draw (fun vs H Q E h => ?_) (fun cdv A outer s H vs Q E hr h => ?_)
  · obtain ⟨d, l, m, rfl, _⟩ := h
    rfl
  · obtain ⟨d, l, m, rfl, hD, m0, m1, q⟩ := h
    have hu := hu_of hr
    refine ⟨_, (Evl.pss_cut (ps_while PassesOwn.never (PW.pt (pw_and (pt_cmpR op_eq (pe_dget hu (pv 0) pe_str (fun _ _ => rfl)) pe_int (nomark _)) (pw_and1 (pt_cmpR op_gt (pe_callB (call_lenK (K := K)) (by rfl) T.z_len bt_len (pa_cons (pe_dget hu (pv 0) pe_str (fun _ _ => rfl)) pa_nil)) pe_int (nomark _)))))
        (pss_one (ps_dput hu (pv 0) pe_str (pe_bm0 PySem.F.plainAttrs_list PySem.F.slot_list_pop PySem.F.type_list_pop mt_pop (pe_dget hu (pv 0) pe_str (fun _ _ => rfl))) rfl)))
      (pss_cons (ps_set (i := 2) sc__law_draw.nd rfl (Or.inl rfl) (pe_dget hu (pv 0) pe_str (fun _ _ => rfl)))
      (pss_cons (ps_if (pt_cmpR op_gt (pv 2) pe_int (nomark _)) (pss_cons (ps_dput hu (pv 0) pe_str (pe_op op_fdivN (pv 2) (pv 1)) rfl)
        (pss_one (ps_ret (pe_op op_modN (pv 2) (pv 1))))) pss_nil)
      (pss_cons (ps_set (i := 3) sc__law_draw.nd rfl (Or.inl rfl) (pe_op op_modN (pe_op op_add (pe_op op_mul (pe_dget hu (pv 0) pe_str (fun _ _ => rfl)) pe_int) pe_int) pe_int))
      (pss_cons (ps_dput hu (pv 0) pe_str (pe_op op_modN (pe_op op_add (pe_op op_mul (pv 3) pe_int) pe_int) pe_int) rfl)
      (pss_cons (ps_set (i := 4) sc__law_draw.nd rfl (Or.inl rfl) (pe_op op_modN (pe_op op_mul (pe_dget hu (pv 0) pe_str (fun _ _ => rfl)) (pe_dget hu (pv 0) pe_str (fun _ _ => rfl))) pe_int))
      (pss_one (ps_ret (pe_op op_modN (pe_op op_add (pe_op op_mul (pe_op op_modN (pe_op op_mul (pv 3) (pv 3)) pe_int) pe_int) (pv 4)) (pv 1)))))))))), ?_⟩
    refine ⟨fun σ H1 => ∃ s n ls, σ = [some (.ref d), some (.int m), none, none, none] ∧ Deal H1 d l s n ls ∧ (∀ b, b ≠ d → b ≠ l → H1 b = H b), ?_, ?_⟩
    · refine ⟨fun mm σ H1 => ∃ s n ls, σ = [some (.ref d), some (.int m), none, none, none] ∧ Deal H1 d l s n ls ∧ ls.length = mm ∧ (∀ b, b ≠ d → b ≠ l → H1 b = H b), ?_, ?_⟩
      · obtain ⟨s, n, ls, h⟩ := hD
        exact ⟨_, s, n, ls, rfl, h, rfl, fun _ _ _ => rfl⟩
      · rintro mm σ H1 ⟨s, n, ls, rfl, D, el, fr⟩
        refine ⟨.ref d, rfl, d, .int n, rfl, D.g_number, rfl, _, rfl, ite2 (fun e => ?_) (fun e => ⟨s, n, ls, rfl, D, fr⟩)⟩
        refine ⟨.ref d, rfl, d, .ref l, rfl, D.g_left, l, ls.map V.int, rfl, .inl (SqL.of D.hl), _, _, rfl, rfl, _, rfl, ite2 (fun e2 => ?_) (fun e2 => ⟨s, n, ls, rfl, D, fr⟩)⟩
        refine ⟨_, fun σ' H' h => h, ?_⟩
        have hls : ls ≠ [] := fun z => by
          subst z
          exact absurd (of_decide_eq_true e2) (by simp)
        obtain ⟨y, y0, hy⟩ := D.last hls
        refine ⟨.ref d, rfl, d, .ref l, rfl, D.g_left, .inl ⟨rfl, _, SqL.of D.hl⟩, l, _, _, rfl, rfl, D.hl, hy, .ref d, rfl, d, _, rfl, (D.pop hls).p_number _, ls.length - 1, ?_, s, y, ls.dropLast, rfl, (D.pop hls).with_number (by omega), List.length_dropLast, fun b h1 h2 => ?_⟩
        · have : 0 < ls.length := List.length_pos_iff.mpr hls
          omega
        · rw [upd_ne h1, upd_ne h2]
          exact fr b h1 h2
    · rintro σ H1 ⟨s, n, ls, rfl, D, fr⟩
      refine ⟨.ref d, rfl, d, .int n, rfl, D.g_number, ?_⟩
      refine ⟨.int n, rfl, n, 0, rfl, rfl, _, rfl, ite2 (fun e => ?_) (fun e => ?_)⟩
      · have hn : 0 < n := of_decide_eq_true e
        refine ⟨.int n, rfl, .int m, rfl, n, m, rfl, rfl, ⟨by omega, by omega⟩, .ref d, rfl, d, _, rfl, D.p_number _, ?_⟩
        refine ⟨.int n, rfl, .int m, rfl, n, m, rfl, rfl, by omega, ?_⟩
        have e1 : n.fmod m = n % m := Int.fmod_eq_emod_of_nonneg n (by omega)
        have e2 : n.fdiv m = n / m := Int.fdiv_eq_ediv_of_nonneg n (by omega)
        show Q (.int (n.fmod m)) (upd H1 d (.dK (dealD s (n.fdiv m) l)))
        rw [e1, e2]
        exact q _ _ (Int.emod_nonneg _ (by omega)) (Int.emod_lt_of_pos _ m0) ⟨_, _, _, D.with_number (Int.ediv_nonneg (by omega) (by omega))⟩ (Kp.of_draw fun b h1 h2 => by rw [upd_ne h1]; exact fr b h1 h2)
      · have fm : ∀ x k : Int, 0 < k → 0 ≤ x.fmod k ∧ x.fmod k < k := fun x k hk => by
          rw [Int.fmod_eq_emod_of_nonneg x (by omega)]
          exact ⟨Int.emod_nonneg _ (by omega), Int.emod_lt_of_pos _ hk⟩
        have z0 := D.s0
        have z1 := D.s1
        have b1 := fm (s * 48271 + 7919) 2147483647 (by omega)
        obtain ⟨one, hone⟩ : ∃ x, x = (s * 48271 + 7919).fmod 2147483647 := ⟨_, rfl⟩
        rw [← hone] at b1
        refine ⟨.ref d, rfl, d, .int s, rfl, D.g_seed, _, _, rfl, rfl, .inl ⟨by omega, by omega⟩, _, _, rfl, rfl, _, _, rfl, rfl, by dsimp only; decide, ?_⟩
        have b2 := fm (one * 40692 + 104729) 2147483399 (by omega)
        refine ⟨.int one, by rw [hone]; rfl, _, _, rfl, rfl, .inl ⟨by omega, by omega⟩, _, _, rfl, rfl, _, _, rfl, rfl, by dsimp only; decide, .ref d, rfl, d, _, rfl, D.p_seed _, ?_⟩
        have D2 := D.with_seed (m := (one * 40692 + 104729).fmod 2147483399) b2.1 (by omega)
        have b4 := fm (one * one) 2147483629 (by omega)
        refine ⟨.ref d, rfl, d, _, rfl, D2.g_seed, .ref d, rfl, d, _, rfl, D2.g_seed, _, _, rfl, rfl, .inl ⟨by omega, by omega⟩, _, _, rfl, rfl, by dsimp only; decide, ?_⟩
        refine ⟨.int one, by rw [hone]; rfl, .int one, by rw [hone]; rfl, _, _, rfl, rfl, .inl ⟨by omega, by omega⟩, _, _, rfl, rfl, by dsimp only; decide, _, _, rfl, rfl, .inl ⟨by omega, by omega⟩, _, rfl, _, _, rfl, rfl, .int m, rfl, _, _, rfl, rfl, by dsimp only; omega, ?_⟩
        exact q _ _ (fm _ m m0).1 (fm _ m m0).2 ⟨_, _, _, D2⟩ (Kp.of_draw fun b h1 h2 => by rw [upd_ne h1]; exact fr b h1 h2)

/-! ### the deal -/
theorem ok_deal {k : Nat} (T : Txt K mg) : FnOk P w K mg base CX0 (k + 1) T.f__law_deal T.fd__law_deal ["_law_script", "_law_base"] (sp_deal K) := by
  refine T.F__law_deal.ok sc__law_deal (fun vs H Q E h => ?_) (fun cdv A outer s H vs Q E hr h => ?_)
  · obtain ⟨a, ns, b, rfl, _⟩ := h
    rfl
  · obtain ⟨a, ns, b, rfl, hS, hlen, b0, b1, q⟩ := h
    refine ⟨_, (pss_cons (ps_setLc (i := 2) (own := [("_law_one", 3)]) (g := gName 3) (tt := tYes) rfl sc__law_deal.nd rfl rfl (sw_true rfl rfl rfl (by decide +kernel)) (pi_listK (K := K) (pe_slice (sl_listK (K := K)) (pv 0) (po_some (pv 1)) (po_some pe_int))) (blkOk_by (own := [("_law_one", 3)]) (N := nm__law_deal) (sc := defScope st__law_deal) (by decide +kernel)) (fun _ _ _ _ _ => (pg_name (i := 3) sc__law_deal.nd rfl (Or.inl rfl))) (fun _ _ _ _ _ => pts_nil) (fun _ _ _ _ _ => (pe_callB (call_max2 rfl) (by rfl) T.z_max bt_max (pa_cons (pv 3) (pa_cons (pe_op op_sub pe_int (pv 3)) pa_nil)))))
      (pss_cons (ps_set (i := 4) sc__law_deal.nd rfl (Or.inl rfl) (pe_op op_add pe_int (pv 1)))
      (Evl.pss_cut (ps_for PassesOwn.never rfl (pi_listK (K := K) (pv 2)) (pg_name (i := 3) sc__law_deal.nd rfl (Or.inl rfl))
        (pss_one (ps_set (i := 4) sc__law_deal.nd rfl (Or.inl rfl) (pe_op op_modN (pe_op op_add (pe_op op_mul (pv 4) pe_int) (pe_op op_modN (pv 3) pe_int)) pe_int))))
      (pss_one (ps_ret (pe_disp (pps_cons pe_str (pv 4) (pps_cons pe_str pe_int (pps_cons pe_str (pe_listRev (K := K) rfl (by rfl) T.z_list (by rfl) T.z_reversed (pe_lc (own := [("_law_one", 3)]) (g := gName 3) rfl sc__law_deal.nd (pi_listK (K := K) (pv 2)) (blkOk_by (own := [("_law_one", 3)]) (N := nm__law_deal) (sc := defScope st__law_deal) (by decide +kernel)) (fun _ _ _ _ _ => (pg_name (i := 3) sc__law_deal.nd rfl (Or.inl rfl))) (fun _ _ _ _ _ => (pts_one (pt_cmpR op_ge (pv 3) (pe_op op_pow pe_int pe_int) (nomark _)))) (fun _ _ _ _ _ => (pv 3)))) pps_nil))) (by rfl) (by rfl) (fun z => by cases z) (by decide))))))), ?_⟩
    refine ⟨.ref a, rfl, .int b, rfl, b, rfl, 63, rfl, a, _, rfl, hS, fun p np => ⟨p, rfl, ⟨_, SqL.of upd_same⟩, fun D nD => ?_⟩⟩
    obtain ⟨ms, ems, lms⟩ := cut_ints ns (some b) (some 63)
    rw [ems] at nD ⊢
    have x0 : Ex H (upd H p (.lst (ms.map V.int))) := Evl.Ex.new np
    have hDp : D ≠ p := fun e => by rw [e, upd_same] at nD; cases nD
    have nDH : H D = none := Evl.fresh_back x0 nD
    refine lc_list (K := K) (a := p) (xs := ms.map V.int) (fun i H' => Ex H H' ∧ H' p = some (.lst (ms.map V.int)) ∧ ∃ bs : List Int, bs.length = i ∧ H' D = some (.lst (bs.map V.int))) ⟨x0.trans (Evl.Ex.new nD), by rw [upd_ne hDp.symm, upd_same], [], rfl, upd_same⟩ (fun i H' _ h => SqL.of h.2.1) (fun i x H' hx h => ?_) (fun H' h => ?_)
    · obtain ⟨x1, hp, bs, el, hb⟩ := h
      obtain ⟨z, rfl⟩ : ∃ z, x = .int z := by
        rw [List.getElem?_map] at hx
        obtain ⟨z, _, e⟩ := Option.map_eq_some_iff.mp hx
        exact ⟨z, e.symm⟩
      have hi : i < ms.length := by
        have := (List.getElem?_eq_some_iff.mp hx).1
        rw [List.length_map] at this
        exact this
      refine ⟨rfl, .int z, rfl, _, rfl, _, _, rfl, rfl, _, _, rfl, bs.map V.int, hb, small1000 (by rw [List.length_map]; omega), Evl.Ex.mut x1 nDH, by rw [upd_ne hDp.symm]; exact hp, bs ++ [_], by rw [List.length_append, el]; rfl, by rw [upd_same, List.map_append]; rfl⟩
    · obtain ⟨x1, hp, bs, el, hb⟩ := h
      rw [List.length_map] at el
      refine ⟨.int b, rfl, _, _, rfl, rfl, ?_⟩
      refine ⟨fun σ H3 => ∃ n, σ = [some (.ref a), some (.int b), some (.ref D), σ.getD 3 none, some (.int n)] ∧ 0 ≤ n ∧ n < 2147483648 ∧ H3 = H', ?_, ?_⟩
      · refine ⟨.ref D, rfl, D, rfl, ⟨_, SqL.of hb⟩, for_list (K := K) (a := D) (xs := bs.map V.int) (fun i σ H3 => ∃ n, σ = [some (.ref a), some (.int b), some (.ref D), σ.getD 3 none, some (.int n)] ∧ 0 ≤ n ∧ n < 2147483648 ∧ H3 = H') ⟨7919 + b, rfl, by omega, by omega, rfl⟩ (fun i σ H3 _ h => ?_) (fun i x σ H3 hx h => ?_) (fun σ H3 h => h)⟩
        · obtain ⟨n, _, _, _, rfl⟩ := h
          exact SqL.of hb
        · obtain ⟨n, e, n0, n1, rfl⟩ := h
          generalize σ.getD 3 none = y at e
          subst e
          obtain ⟨z, rfl⟩ : ∃ z, x = .int z := by
            rw [List.getElem?_map] at hx
            obtain ⟨z, _, e⟩ := Option.map_eq_some_iff.mp hx
            exact ⟨z, e.symm⟩
          refine ⟨.int n, rfl, _, _, rfl, rfl, .inl ⟨by omega, by omega⟩, .int z, rfl, _, _, rfl, rfl, by dsimp only; decide, _, _, rfl, rfl, _, _, rfl, rfl, by dsimp only; decide, ?_⟩
          exact ⟨_, rfl, (fmod_in _ _ (by decide)).1, Int.lt_trans (fmod_in _ 2147483647 (by decide)).2 (by decide), rfl⟩
      · rintro σ H3 ⟨n, e, n0, n1, rfl⟩
        generalize σ.getD 3 none = y at e
        subst e
        -- the dict
        intro d nd
        have ndH : H d = none := Evl.fresh_back x1 nd
        have hdD : D ≠ d := ne_of_none hb nd
        refine ⟨.int n, rfl, ?_⟩
        refine ⟨.ref D, rfl, D, rfl, ⟨_, SqL.of (by rw [upd_ne hdD]; exact hb)⟩, fun D2 nD2 => ?_⟩
        have hdD2 : D2 ≠ d := fun e => by rw [e, upd_same] at nD2; cases nD2
        have nD2H : H3 D2 = none := by rw [upd_ne hdD2] at nD2; exact nD2
        have hDD2 : D ≠ D2 := ne_of_none hb nD2H
        refine lc_list (K := K) (a := D) (xs := bs.map V.int) (fun i H' => Ex H H' ∧ H' D = some (.lst (bs.map V.int)) ∧ H' d = some (.dK []) ∧ ∃ cs : List Int, cs.length ≤ i ∧ (∀ x ∈ cs, 0 < x) ∧ H' D2 = some (.lst (cs.map V.int))) ⟨Evl.Ex.mut (Evl.Ex.mut x1 ndH) (Evl.fresh_back x1 nD2H), by rw [upd_ne hDD2, upd_ne hdD]; exact hb, by rw [upd_ne hdD2.symm, upd_same], [], by simp, fun x hx => by simp at hx, upd_same⟩ (fun i H' _ h => SqL.of h.2.1) (fun i x H' hx h => ?_) (fun H' h => ?_)
        · obtain ⟨x2, hb2, hd2, cs, lc, pc, hc⟩ := h
          obtain ⟨z, rfl⟩ : ∃ z, x = .int z := by
            rw [List.getElem?_map] at hx
            obtain ⟨z, _, e⟩ := Option.map_eq_some_iff.mp hx
            exact ⟨z, e.symm⟩
          have hi : i < bs.length := by
            have := (List.getElem?_eq_some_iff.mp hx).1
            rw [List.length_map] at this
            exact this
          refine ⟨rfl, .int z, rfl, _, _, rfl, rfl, ⟨by decide, by decide, by decide⟩, _, _, rfl, rfl, _, rfl, ite2 (fun e => ?_) (fun e => ?_)⟩
          · have hz : (10 : Int) ^ (18 : Int).toNat ≤ z := of_decide_eq_true e
            have hz0 : 0 < z := Int.lt_of_lt_of_le (by decide) hz
            refine ⟨.int z, rfl, cs.map V.int, hc, small1000 (by rw [List.length_map]; omega), Evl.Ex.mut x2 (Evl.fresh_back x1 nD2H), by rw [upd_ne hDD2]; exact hb2, by rw [upd_ne hdD2.symm]; exact hd2, cs ++ [z], by rw [List.length_append]; show cs.length + 1 ≤ i + 1; omega, fun x hx => ?_, by rw [upd_same, List.map_append]; rfl⟩
            rcases List.mem_append.mp hx with h | h
            · exact pc x h
            · rw [List.mem_singleton.mp h]; exact hz0
          · exact ⟨x2, hb2, hd2, cs, by omega, pc, hc⟩
        · obtain ⟨x2, hb2, hd2, cs, lc, pc, hc⟩ := h
          rw [List.length_map] at lc
          refine ⟨D2, _, rfl, SqL.of hc, fun l nl => ?_⟩
          have hdl : d ≠ l := ne_of_none hd2 nl
          refine ⟨by rw [upd_ne hdl]; exact hd2, dealD n 0 l, rfl, by show 3 ≤ 15; decide, ?_⟩
          rw [merge_deal]
          refine q d l _ (Evl.Ex.mut (Evl.Ex.mut x2 (Evl.fresh_back x2 nl)) ndH) ndH (Evl.fresh_back x2 nl) ⟨n, 0, cs.reverse, upd_same, ?_, n0, n1, by omega, fun x hx => pc x (List.mem_reverse.mp hx), by rw [List.length_reverse]; omega⟩
          rw [upd_ne hdl.symm, upd_same, List.map_reverse]

/-! ### draws, by data -/
abbrev dsp__law_draw : DSp := dsp_draw
theorem ok__law_draw {k : Nat} (T : Txt K mg) : FnOk P w K mg base CX0 (k + 1) T.f__law_draw T.fd__law_draw ["_law_deal_here", "_law_many"] (spD dsp__law_draw) := (ok_draw T).imp fun _ _ _ _ h => spD_draw h

/-! ### products and polynomials, by data -/
def dsp_products : DSp := fun xs Q => ∃ (n : Nat) (d : Int), xs = [.d (.int (n : Int)), .d (.int d)] ∧ n ≤ 5 ∧ 0 ≤ d ∧ d ≤ 6 ∧ Q (.o (.lst ((prods n d).map ti)))
theorem ln_products : ∀ xs Qd, dsp_products xs Qd → xs.length = 2 := fun xs Qd h => by obtain ⟨a, b, rfl, _⟩ := h; rfl
theorem sort_prods (n : Nat) (d : Int) : sortD ((raw d n).map encP) = (prods n d).map encP := by
  unfold sortD prods
  exact (List.map_mergeSort (f := encP) (r := PySem.W.dataLe false encP) (s := PySem.W.dataLe false id) (fun a _ b _ => rfl)).symm
theorem ext_len {d : Int} {p : List Int} (h0 : 0 ≤ p.sum) (d6 : d ≤ 6) : (ext d p).length ≤ 7 := by
  unfold ext
  rw [List.length_map, List.length_range]
  omega
theorem lay_enc : ∀ r : List (List Int), PyData.canLayAll0 (r.map encP) = true
  | [] => rfl
  | p :: r => by
    show ((true && (PyData.canLayAll0 (p.map PyData.int) && true)) && PyData.canLayAll0 (r.map encP)) = true
    rw [canLay_ints, lay_enc r]
    rfl
theorem ok_products {k : Nat} (T : Txt K mg) : FnOk P w K mg base CX0 (k + 1) T.f_products T.fd_products ["n", "d"] (spD dsp_products) := by
  refine T.F_products.ok sc_products (fun vs H Q E h => spD_len ln_products h) (fun cdv A outer s H vs Q E hr h => ?_)
  have hu := hu_of hr
  refine ⟨_, (pss_cons (ps_set (i := 2) sc_products.nd rfl (Or.inl rfl) (pe_lst (pa_cons (pe_tup pa_nil) pa_nil)))
      (pss_cons (ps_for PassesOwn.never rfl (pi_range1 (by rfl) T.z_range (pa_cons (pv 0) pa_nil)) (pg_name (i := 3) sc_products.nd rfl (Or.inl rfl))
        (pss_cons (ps_set (i := 4) sc_products.nd rfl (Or.inl rfl) (pe_lst pa_nil))
        (pss_cons (ps_for PassesOwn.never rfl (pi_seqU (K := K) (pv 2)) (pg_name (i := 5) sc_products.nd rfl (Or.inr rfl))
          (pss_one (ps_expr (pe_bmK (K := K) PySem.F.plainAttrs_list PySem.F.slot_list_extend PySem.F.type_list_extend (mt_extU (K := K)) (pv 4) (pa_cons (pe_lc (own := [("often", 6)]) (g := gName 6) (tt := tYes) rfl sc_products.nd (pi_range1 (by rfl) T.z_range (pa_cons (pe_op (op_addU (K := K)) (pe_op op_sub (pv 1) (pe_callB (cr_sumU (K := K) rfl) (by rfl) T.z_sum bt_sum (pa_cons (pv 5) pa_nil))) pe_int) pa_nil)) (blkOk_by (own := [("often", 6)]) (N := nm_products) (sc := defScope st_products) (by decide +kernel)) (fun _ _ _ _ _ => (pg_name (i := 6) sc_products.nd rfl (Or.inl rfl))) (fun _ _ _ _ _ => pts_nil) (fun _ _ _ _ _ => (pe_op (op_addU (K := K)) (pv 5) (pe_tup (pa_cons (pv 6) pa_nil))))) pa_nil)))))
        (pss_one (ps_set (i := 2) sc_products.nd rfl (Or.inl rfl) (pv 4))))))
      (pss_one (ps_ret (pe_lc (own := [("many", 7), ("product", 5)]) (g := L2.gTup K 2 (gCons (gName 7) (gCons (gName 5) gNil))) (tt := tYes) rfl sc_products.nd (pi_seqU (K := K) (pe_callB (cr_sortU (K := K) hr.units) (by rfl) T.z_sorted bt_sorted (pa_cons (pe_lc (own := [("product", 5)]) (g := gName 5) (tt := tYes) rfl sc_products.nd (pi_seqU (K := K) (pv 2)) (blkOk_by (own := [("product", 5)]) (N := nm_products) (sc := defScope st_products) (by decide +kernel)) (fun _ _ _ _ _ => (pg_name (i := 5) sc_products.nd rfl (Or.inl rfl))) (fun _ _ _ _ _ => pts_nil) (fun _ _ _ _ _ => (pe_tup (pa_cons (pe_callB (cr_sumU (K := K) rfl) (by rfl) T.z_sum bt_sum (pa_cons (pv 5) pa_nil)) (pa_cons (pv 5) pa_nil))))) pa_nil))) (blkOk_by (own := [("many", 7), ("product", 5)]) (N := nm_products) (sc := defScope st_products) (by decide +kernel)) (fun _ _ _ _ _ => (pg_tupK (K := K) rfl (pgs_cons (pg_name (i := 7) sc_products.nd rfl (Or.inl rfl)) (pgs_cons (pg_name (i := 5) sc_products.nd rfl (Or.inl rfl)) pgs_nil)))) (fun _ _ _ _ _ => pts_nil) (fun _ _ _ _ _ => (pv 5))))))), ?_⟩
  refine DS.run ((ds_seq (ds_set 2 (de_lst (da_cons (de_tup da_nil) da_nil)))
      (ds_seq (ds_for (di_rng1 (da_cons (de_var 0) da_nil)) (dg_name 3)
        (ds_seq (ds_set 4 (de_lst da_nil))
        (ds_seq (ds_for (di_seq (K := K) (de_var 2)) (dg_name 5)
          (ds_drop (de_meth (K := K) (dm_extend (K := K)) (de_var 4) (da_cons (de_lc (di_rng1 (da_cons (de_op (d2_add (K := K)) (de_op d2_sub (de_var 1) (de_cb (dc_1 (d1_sum (K := K))) (da_cons (de_var 5) da_nil))) de_int) da_nil)) (dg_name 6) db_yes (de_op (d2_add (K := K)) (de_var 5) (de_tup (da_cons (de_var 6) da_nil)))) da_nil))))
        (ds_set 2 (de_var 4)))))
      (ds_ret (de_lc (di_seq (K := K) (de_cb (dc_1 (d1_sort (K := K))) (da_cons (de_lc (di_seq (K := K) (de_var 2)) (dg_name 5) db_yes (de_tup (da_cons (de_cb (dc_1 (d1_sum (K := K))) (da_cons (de_var 5) da_nil)) (da_cons (de_var 5) da_nil)))) da_nil))) (dg_tup2 (K := K) (dg_name 7) (dg_name 5)) db_yes (de_var 5)))))) h (by rw [spD_len ln_products h]; decide) fun xs Qd h => ?_
  obtain ⟨n, d, rfl, hn, d0, d6, q⟩ := h
  refine ⟨⟨by omega, by omega⟩, fun i ρ μ => ∃ ps : List PyData, ρ = [some (.d (.int (n : Int))), some (.d (.int d)), some (.r 0), none, none, none, none, none] ∧ μ = [.lst ps] ∧ ps = (raw d i).map ti, ?_, fun i y ρ μ hi e => ?_, fun ρ μ e => ?_⟩
  · exact ⟨[0], _, _, ⟨(by repeat (first | exact WkM.nil | refine WkM.cons rfl (by first | exact Or.inl rfl | exact Or.inr (Or.inr ⟨_, rfl, rfl⟩) | exact Or.inr (Or.inl rfl)) ?_)), (by repeat (first | exact WkR.nil | refine WkR.ref rfl ?_ | refine WkR.same trivial ?_ | refine WkR.none ?_)), (by decide)⟩, _, rfl, rfl, rfl⟩
  · obtain ⟨ps, rfl, rfl, rfl⟩ := e
    obtain ⟨hi', rfl⟩ := rngD_get hi
    refine ⟨fun j ρ μ => ∃ ls : List PyData, ρ = [some (.d (.int (n : Int))), some (.d (.int d)), some (.r 0), none, some (.r 1), none, none, none] ∧ μ = [.fz (.list ((raw d i).map ti)), .lst ls] ∧ ls = (((raw d i).take j).flatMap (ext d)).map ti, ?_, fun j y ρ μ hj e => ?_, fun ρ μ e => ?_⟩
    · exact ⟨[0, 1], _, _, ⟨(by repeat (first | exact WkM.nil | refine WkM.cons rfl (by first | exact Or.inl rfl | exact Or.inr (Or.inr ⟨_, rfl, rfl⟩) | exact Or.inr (Or.inl rfl)) ?_)), (by repeat (first | exact WkR.nil | refine WkR.ref rfl ?_ | refine WkR.same trivial ?_ | refine WkR.none ?_)), (by decide)⟩, _, rfl, rfl, rfl⟩
    · obtain ⟨ls, rfl, rfl, rfl⟩ := e
      obtain ⟨p, hp, rfl⟩ := map_get hj
      obtain ⟨r1, r2, r3, r4⟩ := raw_ok d0 i p (List.mem_of_getElem? hp)
      have hzl : (((raw d i).take j).flatMap (ext d)).length ≤ 16807 := by
        have h1 := flat_len ((raw d i).take j) (fun p hp => (raw_ok d0 i p (List.mem_of_mem_take hp)).2.1) d6
        have h3 := raw_len d0 d6 i
        have h4 : 7 ^ i ≤ 7 ^ 4 := Nat.pow_le_pow_right (by decide) (by omega)
        rw [List.length_take] at h1
        have : (7 : Nat) ^ 4 = 2401 := by decide
        omega
      refine ⟨p, rfl, ⟨by omega, by omega⟩, by rw [rngD_len]; omega, fun i z => z = some (ti (p ++ [(i : Int)])), fun m y hm => ?_, fun zs h1 h2 => ?_⟩
      · obtain ⟨hm', rfl⟩ := rngD_get hm
        refine ⟨by rw [List.length_map]; show _ + 1 ≤ 100000; omega, Wk.refl _, ?_⟩
        show some (PyData.tuple (p.map PyData.int ++ [PyData.int (0 + (m : Int))])) = some (PyData.tuple ((p ++ [(m : Int)]).map PyData.int))
        rw [Int.zero_add, List.map_append]
        rfl
      · rw [rngD_len] at h1
        have e1 : zs.filterMap id = (ext d p).map ti := by
          rw [comp_ix (g := fun i => some (ti (p ++ [(i : Int)]))) h1 h2, List.filterMap_eq_map']
          unfold ext
          rw [List.map_map]
          rfl
        rw [e1]
        refine ⟨?_, ?_⟩
        · have := ext_len r2 d6
          rw [List.length_map, List.length_map]; omega
        · have e2 : ((raw d i).take (j + 1)).flatMap (ext d) = ((raw d i).take j).flatMap (ext d) ++ ext d p := by
            rw [List.take_add_one, hp, List.flatMap_append]
            show _ ++ (ext d p ++ []) = _
            rw [List.append_nil]
          refine ⟨[0, 1], _, _, ⟨(by repeat (first | exact WkM.nil | refine WkM.cons rfl (by first | exact Or.inl rfl | exact Or.inr (Or.inr ⟨_, rfl, rfl⟩) | exact Or.inr (Or.inl rfl)) ?_)), (by repeat (first | exact WkR.nil | refine WkR.ref rfl ?_ | refine WkR.same trivial ?_ | refine WkR.none ?_)), (by decide)⟩, _, rfl, rfl, ?_⟩
          rw [e2, List.map_append]
    · obtain ⟨ls, rfl, rfl, rfl⟩ := e
      have ef : (raw d i).take ((raw d i).map ti).length = raw d i := List.take_of_length_le (by rw [List.length_map]; exact Nat.le_refl _)
      rw [ef]
      exact ⟨[1], _, _, ⟨(by repeat (first | exact WkM.nil | refine WkM.cons rfl (by first | exact Or.inl rfl | exact Or.inr (Or.inr ⟨_, rfl, rfl⟩) | exact Or.inr (Or.inl rfl)) ?_)), (by repeat (first | exact WkR.nil | refine WkR.ref rfl ?_ | refine WkR.same trivial ?_ | refine WkR.none ?_)), (by decide)⟩, _, rfl, rfl, rfl⟩
  · obtain ⟨ps, rfl, rfl, rfl⟩ := e
    rw [rngD_len, Int.toNat_natCast]
    have lr : (raw d n).length ≤ 16807 := Nat.le_trans (raw_len d0 d6 n) (Nat.le_trans (Nat.pow_le_pow_right (by decide) hn) (by decide))
    refine ⟨?_, fun i z => ∃ y, (raw d n)[i]? = some y ∧ z = some (encP y), fun j y hj => ?_, fun zs h1 h2 => ?_⟩
    · rw [List.length_map]; omega
    · obtain ⟨p, hp, rfl⟩ := map_get hj
      exact ⟨p, rfl, Wk.refl _, p, hp, rfl⟩
    · rw [List.length_map] at h1
      rw [comp_map (f := encP) h1 h2]
      refine ⟨⟨?_, enc_alike _, enc_sortable _, enc_depth _⟩, ?_⟩
      · exact lay_enc _
      · rw [sort_prods]
        refine ⟨?_, fun i z => ∃ y, (prods n d)[i]? = some y ∧ z = some (ti y), fun j y hj => ?_, fun zs h1 h2 => ?_⟩
        · rw [List.length_map, prods_len]; omega
        · obtain ⟨p, hp, rfl⟩ := map_get hj
          exact ⟨Wk.refl _, p, hp, rfl⟩
        · rw [List.length_map] at h1
          rw [comp_map (f := ti) h1 h2]
          exact q
abbrev dsp__law_products : DSp := dsp_products
theorem ln__law_products : ∀ xs Qd, dsp__law_products xs Qd → xs.length = 2 := ln_products
theorem ok__law_products {k : Nat} (T : Txt K mg) : FnOk P w K mg base CX0 (k + 1) T.f__law_products T.fd__law_products ["_law_n", "_law_d"] (spD dsp__law_products) := by
  refine T.F__law_products.ok sc__law_products (fun vs H Q E h => spD_len ln__law_products h) (fun cdv A outer s H vs Q E hr h => ?_)
  have hu := hu_of hr
  refine ⟨_, (pss_cons (ps_set (i := 2) sc__law_products.nd rfl (Or.inl rfl) (pe_lst (pa_cons (pe_tup pa_nil) pa_nil)))
      (pss_cons (ps_for PassesOwn.never rfl (pi_range1 (by rfl) T.z_range (pa_cons (pv 0) pa_nil)) (pg_name (i := 3) sc__law_products.nd rfl (Or.inl rfl))
        (pss_cons (ps_set (i := 4) sc__law_products.nd rfl (Or.inl rfl) (pe_lst pa_nil))
        (pss_cons (ps_for PassesOwn.never rfl (pi_seqU (K := K) (pv 2)) (pg_name (i := 5) sc__law_products.nd rfl (Or.inr rfl))
          (pss_one (ps_expr (pe_bmK (K := K) PySem.F.plainAttrs_list PySem.F.slot_list_extend PySem.F.type_list_extend (mt_extU (K := K)) (pv 4) (pa_cons (pe_lc (own := [("_law_many", 6)]) (g := gName 6) (tt := tYes) rfl sc__law_products.nd (pi_range1 (by rfl) T.z_range (pa_cons (pe_op (op_addU (K := K)) (pe_op op_sub (pv 1) (pe_callB (cr_sumU (K := K) rfl) (by rfl) T.z_sum bt_sum (pa_cons (pv 5) pa_nil))) pe_int) pa_nil)) (blkOk_by (own := [("_law_many", 6)]) (N := nm__law_products) (sc := defScope st__law_products) (by decide +kernel)) (fun _ _ _ _ _ => (pg_name (i := 6) sc__law_products.nd rfl (Or.inl rfl))) (fun _ _ _ _ _ => pts_nil) (fun _ _ _ _ _ => (pe_op (op_addU (K := K)) (pv 5) (pe_tup (pa_cons (pv 6) pa_nil))))) pa_nil)))))
        (pss_one (ps_set (i := 2) sc__law_products.nd rfl (Or.inl rfl) (pv 4))))))
      (pss_one (ps_ret (pe_lc (own := [("_law_one", 5)]) (g := gName 5) (tt := tYes) rfl sc__law_products.nd (pi_seqU (K := K) (pe_callB (cr_sortU (K := K) hr.units) (by rfl) T.z_sorted bt_sorted (pa_cons (pe_lc (own := [("_law_one", 5)]) (g := gName 5) (tt := tYes) rfl sc__law_products.nd (pi_seqU (K := K) (pv 2)) (blkOk_by (own := [("_law_one", 5)]) (N := nm__law_products) (sc := defScope st__law_products) (by decide +kernel)) (fun _ _ _ _ _ => (pg_name (i := 5) sc__law_products.nd rfl (Or.inl rfl))) (fun _ _ _ _ _ => pts_nil) (fun _ _ _ _ _ => (pe_tup (pa_cons (pe_callB (cr_sumU (K := K) rfl) (by rfl) T.z_sum bt_sum (pa_cons (pv 5) pa_nil)) (pa_cons (pv 5) pa_nil))))) pa_nil))) (blkOk_by (own := [("_law_one", 5)]) (N := nm__law_products) (sc := defScope st__law_products) (by decide +kernel)) (fun _ _ _ _ _ => (pg_name (i := 5) sc__law_products.nd rfl (Or.inl rfl))) (fun _ _ _ _ _ => pts_nil) (fun _ _ _ _ _ => (pe_ix (ix_seqK (K := K)) (pv 5) pe_int (fun _ _ => rfl)))))))), ?_⟩
  refine DS.run ((ds_seq (ds_set 2 (de_lst (da_cons (de_tup da_nil) da_nil)))
      (ds_seq (ds_for (di_rng1 (da_cons (de_var 0) da_nil)) (dg_name 3)
        (ds_seq (ds_set 4 (de_lst da_nil))
        (ds_seq (ds_for (di_seq (K := K) (de_var 2)) (dg_name 5)
          (ds_drop (de_meth (K := K) (dm_extend (K := K)) (de_var 4) (da_cons (de_lc (di_rng1 (da_cons (de_op (d2_add (K := K)) (de_op d2_sub (de_var 1) (de_cb (dc_1 (d1_sum (K := K))) (da_cons (de_var 5) da_nil))) de_int) da_nil)) (dg_name 6) db_yes (de_op (d2_add (K := K)) (de_var 5) (de_tup (da_cons (de_var 6) da_nil)))) da_nil))))
        (ds_set 2 (de_var 4)))))
      (ds_ret (de_lc (di_seq (K := K) (de_cb (dc_1 (d1_sort (K := K))) (da_cons (de_lc (di_seq (K := K) (de_var 2)) (dg_name 5) db_yes (de_tup (da_cons (de_cb (dc_1 (d1_sum (K := K))) (da_cons (de_var 5) da_nil)) (da_cons (de_var 5) da_nil)))) da_nil))) (dg_name 5) db_yes (de_op (d2_ix (K := K)) (de_var 5) de_int)))))) h (by rw [spD_len ln__law_products h]; decide) fun xs Qd h => ?_
  obtain ⟨n, d, rfl, hn, d0, d6, q⟩ := h
  refine ⟨⟨by omega, by omega⟩, fun i ρ μ => ∃ ps : List PyData, ρ = [some (.d (.int (n : Int))), some (.d (.int d)), some (.r 0), none, none, none, none] ∧ μ = [.lst ps] ∧ ps = (raw d i).map ti, ?_, fun i y ρ μ hi e => ?_, fun ρ μ e => ?_⟩
  · exact ⟨[0], _, _, ⟨(by repeat (first | exact WkM.nil | refine WkM.cons rfl (by first | exact Or.inl rfl | exact Or.inr (Or.inr ⟨_, rfl, rfl⟩) | exact Or.inr (Or.inl rfl)) ?_)), (by repeat (first | exact WkR.nil | refine WkR.ref rfl ?_ | refine WkR.same trivial ?_ | refine WkR.none ?_)), (by decide)⟩, _, rfl, rfl, rfl⟩
  · obtain ⟨ps, rfl, rfl, rfl⟩ := e
    obtain ⟨hi', rfl⟩ := rngD_get hi
    refine ⟨fun j ρ μ => ∃ ls : List PyData, ρ = [some (.d (.int (n : Int))), some (.d (.int d)), some (.r 0), none, some (.r 1), none, none] ∧ μ = [.fz (.list ((raw d i).map ti)), .lst ls] ∧ ls = (((raw d i).take j).flatMap (ext d)).map ti, ?_, fun j y ρ μ hj e => ?_, fun ρ μ e => ?_⟩
    · exact ⟨[0, 1], _, _, ⟨(by repeat (first | exact WkM.nil | refine WkM.cons rfl (by first | exact Or.inl rfl | exact Or.inr (Or.inr ⟨_, rfl, rfl⟩) | exact Or.inr (Or.inl rfl)) ?_)), (by repeat (first | exact WkR.nil | refine WkR.ref rfl ?_ | refine WkR.same trivial ?_ | refine WkR.none ?_)), (by decide)⟩, _, rfl, rfl, rfl⟩
    · obtain ⟨ls, rfl, rfl, rfl⟩ := e
      obtain ⟨p, hp, rfl⟩ := map_get hj
      obtain ⟨r1, r2, r3, r4⟩ := raw_ok d0 i p (List.mem_of_getElem? hp)
      have hzl : (((raw d i).take j).flatMap (ext d)).length ≤ 16807 := by
        have h1 := flat_len ((raw d i).take j) (fun p hp => (raw_ok d0 i p (List.mem_of_mem_take hp)).2.1) d6
        have h3 := raw_len d0 d6 i
        have h4 : 7 ^ i ≤ 7 ^ 4 := Nat.pow_le_pow_right (by decide) (by omega)
        rw [List.length_take] at h1
        have : (7 : Nat) ^ 4 = 2401 := by decide
        omega
      refine ⟨p, rfl, ⟨by omega, by omega⟩, by rw [rngD_len]; omega, fun i z => z = some (ti (p ++ [(i : Int)])), fun m y hm => ?_, fun zs h1 h2 => ?_⟩
      · obtain ⟨hm', rfl⟩ := rngD_get hm
        refine ⟨by rw [List.length_map]; show _ + 1 ≤ 100000; omega, Wk.refl _, ?_⟩
        show some (PyData.tuple (p.map PyData.int ++ [PyData.int (0 + (m : Int))])) = some (PyData.tuple ((p ++ [(m : Int)]).map PyData.int))
        rw [Int.zero_add, List.map_append]
        rfl
      · rw [rngD_len] at h1
        have e1 : zs.filterMap id = (ext d p).map ti := by
          rw [comp_ix (g := fun i => some (ti (p ++ [(i : Int)]))) h1 h2, List.filterMap_eq_map']
          unfold ext
          rw [List.map_map]
          rfl
        rw [e1]
        refine ⟨?_, ?_⟩
        · have := ext_len r2 d6
          rw [List.length_map, List.length_map]; omega
        · have e2 : ((raw d i).take (j + 1)).flatMap (ext d) = ((raw d i).take j).flatMap (ext d) ++ ext d p := by
            rw [List.take_add_one, hp, List.flatMap_append]
            show _ ++ (ext d p ++ []) = _
            rw [List.append_nil]
          refine ⟨[0, 1], _, _, ⟨(by repeat (first | exact WkM.nil | refine WkM.cons rfl (by first | exact Or.inl rfl | exact Or.inr (Or.inr ⟨_, rfl, rfl⟩) | exact Or.inr (Or.inl rfl)) ?_)), (by repeat (first | exact WkR.nil | refine WkR.ref rfl ?_ | refine WkR.same trivial ?_ | refine WkR.none ?_)), (by decide)⟩, _, rfl, rfl, ?_⟩
          rw [e2, List.map_append]
    · obtain ⟨ls, rfl, rfl, rfl⟩ := e
      have ef : (raw d i).take ((raw d i).map ti).length = raw d i := List.take_of_length_le (by rw [List.length_map]; exact Nat.le_refl _)
      rw [ef]
      exact ⟨[1], _, _, ⟨(by repeat (first | exact WkM.nil | refine WkM.cons rfl (by first | exact Or.inl rfl | exact Or.inr (Or.inr ⟨_, rfl, rfl⟩) | exact Or.inr (Or.inl rfl)) ?_)), (by repeat (first | exact WkR.nil | refine WkR.ref rfl ?_ | refine WkR.same trivial ?_ | refine WkR.none ?_)), (by decide)⟩, _, rfl, rfl, rfl⟩
  · obtain ⟨ps, rfl, rfl, rfl⟩ := e
    rw [rngD_len, Int.toNat_natCast]
    have lr : (raw d n).length ≤ 16807 := Nat.le_trans (raw_len d0 d6 n) (Nat.le_trans (Nat.pow_le_pow_right (by decide) hn) (by decide))
    refine ⟨?_, fun i z => ∃ y, (raw d n)[i]? = some y ∧ z = some (encP y), fun j y hj => ?_, fun zs h1 h2 => ?_⟩
    · rw [List.length_map]; omega
    · obtain ⟨p, hp, rfl⟩ := map_get hj
      exact ⟨p, rfl, Wk.refl _, p, hp, rfl⟩
    · rw [List.length_map] at h1
      rw [comp_map (f := encP) h1 h2]
      refine ⟨⟨?_, enc_alike _, enc_sortable _, enc_depth _⟩, ?_⟩
      · exact lay_enc _
      · rw [sort_prods]
        refine ⟨?_, fun i z => ∃ y, (prods n d)[i]? = some y ∧ z = some (ti y), fun j y hj => ?_, fun zs h1 h2 => ?_⟩
        · rw [List.length_map, prods_len]; omega
        · obtain ⟨p, hp, rfl⟩ := map_get hj
          exact ⟨_, rfl, Wk.refl _, p, hp, rfl⟩
        · rw [List.length_map] at h1
          rw [comp_map (f := ti) h1 h2]
          exact q

def dsp_numbered : DSp := fun xs Q => ∃ (n : Nat) (d : Int) (p : List Int), xs = [.d (.int (n : Int)), .d (.int d), .d (ti p)] ∧ n ≤ 5 ∧ 0 ≤ d ∧ d ≤ 6 ∧ p.length ≤ 20000 ∧ Q (.o (.dT (pe (numb n d p))))
theorem ln_numbered : ∀ xs Qd, dsp_numbered xs Qd → xs.length = 3 := fun xs Qd h => by obtain ⟨a, b, c, rfl, _⟩ := h; rfl
def nmb (y : Int × List Int) : Option PyData := if y.1 = 0 then none else some (.tuple [ti y.2, .int y.1])
theorem nmb_all : ∀ (p : List Int) (P : List (List Int)), (p.zip P).filterMap nmb = (pe ((P.zip p).filter fun q => decide (q.2 ≠ 0))).map DL.pairD
  | [], P => by rw [List.zip_nil_left, List.zip_nil_right]; rfl
  | _ :: _, [] => by rw [List.zip_nil_left, List.zip_nil_right]; rfl
  | c :: p, k :: P => by
    have ih := nmb_all p P
    rw [List.zip_cons_cons, List.zip_cons_cons, List.filterMap_cons, List.filter_cons]
    unfold nmb at ih ⊢
    by_cases e : c = 0
    · rw [if_pos e, if_neg (by show ¬ decide (c ≠ 0) = true; rw [decide_eq_true_iff]; exact fun z => z e)]
      exact ih
    · rw [if_neg e, if_pos (by show decide (c ≠ 0) = true; rw [decide_eq_true_iff]; exact e)]
      show PyData.tuple [ti k, .int c] :: _ = PyData.tuple [kt (ky k), .int c] :: _
      rw [kt_ky]
      exact congrArg _ ih
theorem ok_numbered {k : Nat} (T : Txt K mg) : FnOk P w K mg base CX0 (k + 2) T.f_numbered T.fd_numbered ["n", "d", "p"] (spD dsp_numbered) := by
  have G_products : FnOk P w K mg base CX0 1 T.f_products T.fd_products ["n", "d"] (spD dsp_products) := ok_products T
  refine T.F_numbered.ok sc_numbered (fun vs H Q E h => spD_len ln_numbered h) (fun cdv A outer s H vs Q E hr h => ?_)
  have hu := hu_of hr
  refine ⟨_, (pss_one (ps_ret (pe_callTy (call_dictT (K := K) (Nat.lt_of_le_of_lt (Nat.add_le_add_left (by decide : 3 ≤ 64) _) hr.units) rfl) (by rfl) T.z_dict bt_dict (pa_cons (pe_lc (own := [("number", 3), ("product", 4)]) (g := L2.gTup K 2 (gCons (gName 3) (gCons (gName 4) gNil))) rfl sc_numbered.nd (pi_zipU (K := K) (by rfl) T.z_zip (pa_cons (pv 2) (pa_cons (pe_call G_products (hr.mono (by omega)) (by rfl) T.g_products T.F_products.kp T.b_products .nil pass0 (pa_cons (pv 0) (pa_cons (pv 1) pa_nil))) pa_nil))) (blkOk_by (own := [("number", 3), ("product", 4)]) (N := nm_numbered) (sc := defScope st_numbered) (by decide +kernel)) (fun _ _ _ _ _ => (pg_tupK (K := K) rfl (pgs_cons (pg_name (i := 3) sc_numbered.nd rfl (Or.inl rfl)) (pgs_cons (pg_name (i := 4) sc_numbered.nd rfl (Or.inl rfl)) pgs_nil)))) (fun _ _ _ _ _ => (pts_one (pt_cmpR (op_neU (K := K) hr.units) (pv 3) pe_int (nomark _)))) (fun _ _ _ _ _ => (pe_tup (pa_cons (pv 4) (pa_cons (pv 3) pa_nil))))) pa_nil)))), ?_⟩
  refine DS.run ((ds_ret (de_cb (dc_1 (d1_dict (K := K))) (da_cons (de_lc (di_zip (K := K) (da_cons (de_var 2) (da_cons (de_fn (da_cons (de_var 0) (da_cons (de_var 1) da_nil))) da_nil))) (dg_tup2 (K := K) (dg_name 3) (dg_name 4)) (db_test (de_op (d2_ne (K := K)) (de_var 3) de_int)) (de_tup (da_cons (de_var 4) (da_cons (de_var 3) da_nil)))) da_nil)))) h (by rw [spD_len ln_numbered h]; decide) fun xs Qd h => ?_
  obtain ⟨n, d, p, rfl, hn, d0, d6, lp, q⟩ := h
  refine ⟨n, d, rfl, hn, d0, d6, ?_⟩
  show _ ∧ _
  rw [zipD_map]
  refine ⟨by rw [List.length_map, List.length_zip]; omega, fun i z => ∃ y, (p.zip (prods n d))[i]? = some y ∧ z = nmb y, fun i y hi => ?_, fun zs h1 h2 => ?_⟩
  · obtain ⟨y, hy, rfl⟩ := map_get hi
    refine ifb (fun e => ?_) (fun e => ?_)
    · exact ⟨Wk.refl _, y, hy, (if_neg (neT e)).symm⟩
    · exact ⟨Wk.refl _, y, hy, (if_pos (neF e)).symm⟩
  · rw [List.length_map] at h1
    rw [comp_it (g := nmb) h1 h2, nmb_all]
    have e2 := merge_pe (L := []) (M := numb n d p) (by rw [List.nil_append]; exact numb_nodup n d p)
    refine ⟨_, rfl, ?_⟩
    show Qd (.o (.dT (mergeD (pe []) (pe (numb n d p)))))
    rw [e2, List.nil_append]
    exact q
def dsp_in_order : DSp := fun xs Q => ∃ (n : Nat) (d : Int) (L : Pl), xs = [.d (.int (n : Int)), .d (.int d), .d (dictD (pe L))] ∧ n ≤ 5 ∧ 0 ≤ d ∧ d ≤ 6 ∧ Q (.d (ti (ord n d L)))
theorem ln_in_order : ∀ xs Qd, dsp_in_order xs Qd → xs.length = 3 := fun xs Qd h => by obtain ⟨a, b, c, rfl, _⟩ := h; rfl
theorem prods_few {n : Nat} {d : Int} (hn : n ≤ 5) (d0 : 0 ≤ d) (d6 : d ≤ 6) : (prods n d).length ≤ 16807 := by
  rw [prods_len]
  exact Nat.le_trans (raw_len d0 d6 n) (Nat.le_trans (Nat.pow_le_pow_right (by decide) hn) (by decide))
theorem ok_in_order {k : Nat} (T : Txt K mg) : FnOk P w K mg base CX0 (k + 2) T.f_in_order T.fd_in_order ["n", "d", "numbers"] (spD dsp_in_order) := by
  have G_products : FnOk P w K mg base CX0 1 T.f_products T.fd_products ["n", "d"] (spD dsp_products) := ok_products T
  refine T.F_in_order.ok sc_in_order (fun vs H Q E h => spD_len ln_in_order h) (fun cdv A outer s H vs Q E hr h => ?_)
  have hu := hu_of hr
  refine ⟨_, (pss_one (ps_ret (pe_callTy (call_tupleK (K := K)) (by rfl) T.z_tuple bt_tuple (pa_cons (pe_lc (own := [("product", 3)]) (g := gName 3) (tt := tYes) rfl sc_in_order.nd (pi_seqU (K := K) (pe_call G_products (hr.mono (by omega)) (by rfl) T.g_products T.F_products.kp T.b_products .nil pass0 (pa_cons (pv 0) (pa_cons (pv 1) pa_nil)))) (blkOk_by (own := [("product", 3)]) (N := nm_in_order) (sc := defScope st_in_order) (by decide +kernel)) (fun _ _ _ _ _ => (pg_name (i := 3) sc_in_order.nd rfl (Or.inl rfl))) (fun _ _ _ _ _ => pts_nil) (fun _ _ _ _ _ => (pe_dget2 hu (pv 2) (pv 3) pe_int ⟨rfl, rfl, rfl, rfl⟩))) pa_nil)))), ?_⟩
  refine DS.run ((ds_ret (de_cb (dc_1 (d1_tuple (K := K))) (da_cons (de_lc (di_seq (K := K) (de_fn (da_cons (de_var 0) (da_cons (de_var 1) da_nil)))) (dg_name 3) db_yes (de_dget2 (de_var 2) (de_var 3) de_int)) da_nil)))) h (by rw [spD_len ln_in_order h]; decide) fun xs Qd h => ?_
  obtain ⟨n, d, L, rfl, hn, d0, d6, q⟩ := h
  have lp := prods_few hn d0 d6
  refine ⟨n, d, rfl, hn, d0, d6, by rw [List.length_map]; omega, fun i z => ∃ y, (prods n d)[i]? = some y ∧ z = some (.int (cf L y)), fun i y hi => ?_, fun zs h1 h2 => ?_⟩
  · obtain ⟨k, hk, rfl⟩ := map_get hi
    refine ⟨pe L, rfl, rfl, ky k, .int 0, by rw [kt_ky], rfl, Wk.refl _, k, hk, ?_⟩
    rw [val_pe]
  · rw [List.length_map] at h1
    rw [comp_map (f := fun y => PyData.int (cf L y)) h1 h2]
    have e : (prods n d).map (fun y => PyData.int (cf L y)) = (ord n d L).map PyData.int := by unfold ord; rw [List.map_map]; rfl
    rw [e]
    exact q

def deg (n : Nat) (d : Int) (p : List Int) : Int := mxD (-1) ((numb n d p).map fun q => q.1.sum)
def dsp_degree : DSp := fun xs Q => ∃ (n : Nat) (d : Int) (p : List Int), xs = [.d (.int (n : Int)), .d (.int d), .d (ti p)] ∧ n ≤ 5 ∧ 0 ≤ d ∧ d ≤ 6 ∧ p.length ≤ 20000 ∧ Q (.d (.int (deg n d p)))
theorem ln_degree : ∀ xs Qd, dsp_degree xs Qd → xs.length = 3 := fun xs Qd h => by obtain ⟨a, b, c, rfl, _⟩ := h; rfl
theorem ok_degree {k : Nat} (T : Txt K mg) : FnOk P w K mg base CX0 (k + 3) T.f_degree T.fd_degree ["n", "d", "p"] (spD dsp_degree) := by
  have G_numbered : FnOk P w K mg base CX0 2 T.f_numbered T.fd_numbered ["n", "d", "p"] (spD dsp_numbered) := ok_numbered T
  refine T.F_degree.ok sc_degree (fun vs H Q E h => spD_len ln_degree h) (fun cdv A outer s H vs Q E hr h => ?_)
  have hu := hu_of hr
  refine ⟨_, (pss_one (ps_ret (pe_maxD (K := K) rfl (by rfl) T.z_max (pa_cons (pe_lc (own := [("product", 3)]) (g := gName 3) (tt := tYes) rfl sc_degree.nd (pi_keys (pe_lk (pe_call G_numbered (hr.mono (by omega)) (by rfl) T.g_numbered T.F_numbered.kp T.b_numbered .nil pass0 (pa_cons (pv 0) (pa_cons (pv 1) (pa_cons (pv 2) pa_nil)))))) (blkOk_by (own := [("product", 3)]) (N := nm_degree) (sc := defScope st_degree) (by decide +kernel)) (fun _ _ _ _ _ => (pg_name (i := 3) sc_degree.nd rfl (Or.inl rfl))) (fun _ _ _ _ _ => pts_nil) (fun _ _ _ _ _ => (pe_callB (cr_sumU (K := K) rfl) (by rfl) T.z_sum bt_sum (pa_cons (pv 3) pa_nil)))) pa_nil) (pk_cons (pe_un un_neg pe_int) pk_nil)))), ?_⟩
  refine DS.run ((ds_ret (de_maxD (K := K) (da_cons (de_lc (di_keys (de_lk (de_fn (da_cons (de_var 0) (da_cons (de_var 1) (da_cons (de_var 2) da_nil)))))) (dg_name 3) db_yes (de_cb (dc_1 (d1_sum (K := K))) (da_cons (de_var 3) da_nil))) da_nil) (da_cons (de_un d1_neg de_int) da_nil)))) h (by rw [spD_len ln_degree h]; decide) fun xs Qd h => ?_
  obtain ⟨n, d, p, rfl, hn, d0, d6, lp, q⟩ := h
  have ll := len_numb n d p
  refine ⟨n, d, p, rfl, hn, d0, d6, lp, pe (numb n d p), rfl, by rw [List.length_map, pe_len]; omega, fun i z => ∃ y, (numb n d p)[i]? = some y ∧ z = some (.int y.1.sum), fun i y hi => ?_, fun zs h1 h2 => ?_⟩
  · obtain ⟨e, he, rfl⟩ := map_get hi
    obtain ⟨y, hy, rfl⟩ := map_get he
    refine ⟨y.1, ?_, Wk.refl _, y, hy, rfl⟩
    show (ky y.1).map kD = _
    have := kt_ky y.1
    unfold kt ti at this
    exact PyData.tuple.inj this
  · rw [List.length_map, pe_len] at h1
    rw [comp_map (f := fun y : List Int × Int => PyData.int y.1.sum) h1 h2]
    refine ⟨(numb n d p).map fun q => q.1.sum, by rw [List.map_map]; rfl, ?_⟩
    exact q
def dsp_numbers_multiplied : DSp := fun xs Q => ∃ (L M : Pl), xs = [.d (dictD (pe L)), .d (dictD (pe M))] ∧ L.length * M.length < 100000 ∧ (∀ p ∈ L, p.1.length ≤ 1000) ∧ N1 L < 2 ^ 1000 ∧ N1 M < 2 ^ 1000 ∧ Q (.o (.dT (pe (mulP L M))))
theorem ln_numbers_multiplied : ∀ xs Qd, dsp_numbers_multiplied xs Qd → xs.length = 2 := fun xs Qd h => by obtain ⟨a, b, rfl, _⟩ := h; rfl
theorem mulK {i j : Int} (hi : i.natAbs < 2 ^ 1000) (hj : j.natAbs < 2 ^ 1000) : CMulW i j := wide_mul (a := 1000) (b := 1000) hi hj (by decide) (by decide) (by decide)
def rowP (t : List Int × Int) (M : Pl) : Pl := M.map fun q => (add2 t.1 q.1, t.2 * q.2)
theorem terms_take {L M : Pl} {i : Nat} {t : List Int × Int} (h : L[i]? = some t) : terms (L.take (i + 1)) M = terms (L.take i) M ++ rowP t M := by
  unfold terms rowP
  rw [List.take_add_one, h, List.flatMap_append]
  show _ ++ (M.map _ ++ []) = _
  rw [List.append_nil]
theorem row_take {M : Pl} {i : Nat} {t u : List Int × Int} (h : M[i]? = some u) : rowP t (M.take (i + 1)) = rowP t (M.take i) ++ [(add2 t.1 u.1, t.2 * u.2)] := by
  unfold rowP
  rw [List.take_add_one, h, List.map_append]
  rfl
theorem kd_ky (p : List Int) : (ky p).map kD = p.map PyData.int := by
  have := kt_ky p
  unfold kt ti at this
  exact PyData.tuple.inj this
theorem ok_numbers_multiplied {k : Nat} (T : Txt K mg) : FnOk P w K mg base CX0 (k + 1) T.f_numbers_multiplied T.fd_numbers_multiplied ["one", "other"] (spD dsp_numbers_multiplied) := by
  refine T.F_numbers_multiplied.ok sc_numbers_multiplied (fun vs H Q E h => spD_len ln_numbers_multiplied h) (fun cdv A outer s H vs Q E hr h => ?_)
  have hu := hu_of hr
  refine ⟨_, (pss_cons (ps_set (i := 2) sc_numbers_multiplied.nd rfl (Or.inl rfl) pe_dnewT)
      (pss_cons (ps_for PassesOwn.never rfl (pi_itemsT (pv 0)) (pg_tupK (K := K) rfl (pgs_cons (pg_name (i := 3) sc_numbers_multiplied.nd rfl (Or.inl rfl)) (pgs_cons (pg_name (i := 4) sc_numbers_multiplied.nd rfl (Or.inl rfl)) pgs_nil)))
        (pss_one (ps_for PassesOwn.never rfl (pi_itemsT (pv 1)) (pg_tupK (K := K) rfl (pgs_cons (pg_name (i := 5) sc_numbers_multiplied.nd rfl (Or.inl rfl)) (pgs_cons (pg_name (i := 6) sc_numbers_multiplied.nd rfl (Or.inl rfl)) pgs_nil)))
          (pss_cons (ps_set (i := 7) sc_numbers_multiplied.nd rfl (Or.inl rfl) (pe_callTy (call_tupleK (K := K)) (by rfl) T.z_tuple bt_tuple (pa_cons (pe_lc (own := [("x", 8), ("y", 9)]) (g := L2.gTup K 2 (gCons (gName 8) (gCons (gName 9) gNil))) (tt := tYes) rfl sc_numbers_multiplied.nd (pi_zipU (K := K) (by rfl) T.z_zip (pa_cons (pv 3) (pa_cons (pv 5) pa_nil))) (blkOk_by (own := [("x", 8), ("y", 9)]) (N := nm_numbers_multiplied) (sc := defScope st_numbers_multiplied) (by decide +kernel)) (fun _ _ _ _ _ => (pg_tupK (K := K) rfl (pgs_cons (pg_name (i := 8) sc_numbers_multiplied.nd rfl (Or.inl rfl)) (pgs_cons (pg_name (i := 9) sc_numbers_multiplied.nd rfl (Or.inl rfl)) pgs_nil)))) (fun _ _ _ _ _ => pts_nil) (fun _ _ _ _ _ => (pe_op (op_addU (K := K)) (pv 8) (pv 9)))) pa_nil)))
          (pss_one (ps_dput hu (pv 2) (pv 7) (pe_op (op_addU (K := K)) (pe_dget2 hu (pv 2) (pv 7) pe_int ⟨rfl, rfl, rfl, rfl⟩) (pe_op (op_mulU (K := K)) (pv 4) (pv 6))) rfl))))))
      (pss_one (ps_ret (pv 2))))), ?_⟩
  refine DS.run ((ds_seq (ds_set 2 de_dnewT)
      (ds_seq (ds_for (di_items (de_var 0)) (dg_tup2 (K := K) (dg_name 3) (dg_name 4))
        (ds_for (di_items (de_var 1)) (dg_tup2 (K := K) (dg_name 5) (dg_name 6))
          (ds_seq (ds_set 7 (de_cb (dc_1 (d1_tuple (K := K))) (da_cons (de_lc (di_zip (K := K) (da_cons (de_var 3) (da_cons (de_var 5) da_nil))) (dg_tup2 (K := K) (dg_name 8) (dg_name 9)) db_yes (de_op (d2_add (K := K)) (de_var 8) (de_var 9))) da_nil)))
          (ds_dput (de_var 2) (de_var 7) (de_op (d2_add (K := K)) (de_dget2 (de_var 2) (de_var 7) de_int) (de_op (d2_mul (K := K)) (de_var 4) (de_var 6)))))))
      (ds_ret (de_var 2))))) h (by rw [spD_len ln_numbers_multiplied h]; decide) fun xs Qd h => ?_
  obtain ⟨L, M, rfl, hlen, hk, hL, hM, q⟩ := h
  refine ⟨pe L, rfl, fun i ρ μ => ∃ es, ρ = [none, some (.d (dictD (pe M))), some (.r 0), none, none, none, none, none, none, none] ∧ μ = [.dT es] ∧ es = pe (gather [] (terms (L.take i) M)), ?_, fun i y ρ μ hi e => ?_, fun ρ μ e => ?_⟩
  · exact ⟨[0], _, _, ⟨(by repeat (first | exact WkM.nil | refine WkM.cons rfl (by first | exact Or.inl rfl | exact Or.inr (Or.inr ⟨_, rfl, rfl⟩) | exact Or.inr (Or.inl rfl)) ?_)), (by repeat (first | exact WkR.nil | refine WkR.ref rfl ?_ | refine WkR.same trivial ?_ | refine WkR.none ?_)), (by decide)⟩, _, rfl, rfl, rfl⟩
  · obtain ⟨es, rfl, rfl, rfl⟩ := e
    obtain ⟨e1, he, rfl⟩ := map_get hi
    obtain ⟨t, ht, rfl⟩ := map_get he
    obtain ⟨k, a⟩ := t
    refine ⟨pe M, rfl, fun j ρ μ => ∃ es, ρ = [none, some (.d (dictD (pe M))), some (.r 0), some (.d (kt (ky k))), some (.d (.int a)), none, none, none, none, none] ∧ μ = [.dT es] ∧ es = pe (gather [] (terms (L.take i) M ++ rowP (k, a) (M.take j))), ?_, fun j y ρ μ hj e => ?_, fun ρ μ e => ?_⟩
    · exact ⟨[0], _, _, ⟨(by repeat (first | exact WkM.nil | refine WkM.cons rfl (by first | exact Or.inl rfl | exact Or.inr (Or.inr ⟨_, rfl, rfl⟩) | exact Or.inr (Or.inl rfl)) ?_)), (by repeat (first | exact WkR.nil | refine WkR.ref rfl ?_ | refine WkR.same trivial ?_ | refine WkR.none ?_)), (by decide)⟩, _, rfl, rfl, by rw [show rowP (k, a) (M.take 0) = [] from rfl, List.append_nil]⟩
    · obtain ⟨es, rfl, rfl, rfl⟩ := e
      obtain ⟨e1, he, rfl⟩ := map_get hj
      obtain ⟨u, hu2, rfl⟩ := map_get he
      obtain ⟨k2, b⟩ := u
      have lk : k.length ≤ 1000 := hk (k, a) (List.mem_of_getElem? ht)
      have ba : a.natAbs < 2 ^ 1000 := Nat.lt_of_le_of_lt (mem_N1 (List.mem_of_getElem? ht)) hL
      have bb : b.natAbs < 2 ^ 1000 := Nat.lt_of_le_of_lt (mem_N1 (List.mem_of_getElem? hu2)) hM
      show _ ∧ _
      rw [kd_ky, kd_ky, zipD_map]
      refine ⟨by rw [List.length_map, List.length_zip]; omega, fun i z => ∃ y, (k.zip k2)[i]? = some y ∧ z = some (.int (y.1 + y.2)), fun i y hi => ?_, fun zs h1 h2 => ?_⟩
      · obtain ⟨p, hp, rfl⟩ := map_get hi
        exact ⟨Wk.refl _, p, hp, rfl⟩
      · rw [List.length_map] at h1
        have e2 : (k.zip k2).map (fun y => PyData.int (y.1 + y.2)) = (add2 k k2).map PyData.int := by
          unfold add2
          rw [← List.map_uncurry_zip_eq_zipWith, List.map_map]
          rfl
        rw [comp_map (f := fun y : Int × Int => PyData.int (y.1 + y.2)) h1 h2, e2]
        have nd : ((gather [] (terms (L.take i) M ++ rowP (k, a) (M.take j))).map Prod.fst).Nodup := nd_gather List.nodup_nil
        have ll : (gather [] (terms (L.take i) M ++ rowP (k, a) (M.take j))).length < 100000 := by
          have h1 := len_gather (terms (L.take i) M ++ rowP (k, a) (M.take j)) []
          have h2 : (rowP (k, a) (M.take j)).length ≤ M.length := by unfold rowP; rw [List.length_map, List.length_take]; omega
          have h3 : (L.take i).length + 1 ≤ L.length := by
            have := (List.getElem?_eq_some_iff.mp ht).1
            rw [List.length_take]; omega
          rw [List.length_append, len_terms] at h1
          have h4 := Nat.mul_le_mul_right M.length h3
          rw [Nat.add_mul, Nat.one_mul] at h4
          have h5 : ([] : Pl).length = 0 := rfl
          omega
        refine ⟨pe _, rfl, rfl, ky (add2 k k2), .int 0, by rw [kt_ky]; rfl, rfl, ?_⟩
        rw [val_pe]
        refine ⟨mulK ba bb, 0, pe _, ky (add2 k k2), rfl, rfl, by rw [kt_ky]; rfl, by rw [pe_len]; exact ll, ?_⟩
        rw [put_pe nd]
        refine ⟨[0], _, _, ⟨(by repeat (first | exact WkM.nil | refine WkM.cons rfl (by first | exact Or.inl rfl | exact Or.inr (Or.inr ⟨_, rfl, rfl⟩) | exact Or.inr (Or.inl rfl)) ?_)), (by repeat (first | exact WkR.nil | refine WkR.ref rfl ?_ | refine WkR.same trivial ?_ | refine WkR.none ?_)), (by decide)⟩, _, rfl, rfl, ?_⟩
        rw [row_take hu2, ← List.append_assoc]
        exact congrArg pe (gather_app [] (terms (L.take i) M ++ rowP (k, a) (M.take j)) [(add2 k k2, a * b)]).symm
    · obtain ⟨es, rfl, rfl, rfl⟩ := e
      rw [List.length_map, pe_len, List.take_of_length_le (Nat.le_refl _)]
      exact ⟨[0], _, _, ⟨(by repeat (first | exact WkM.nil | refine WkM.cons rfl (by first | exact Or.inl rfl | exact Or.inr (Or.inr ⟨_, rfl, rfl⟩) | exact Or.inr (Or.inl rfl)) ?_)), (by repeat (first | exact WkR.nil | refine WkR.ref rfl ?_ | refine WkR.same trivial ?_ | refine WkR.none ?_)), (by decide)⟩, _, rfl, rfl, by rw [terms_take ht]⟩
  · obtain ⟨es, rfl, rfl, rfl⟩ := e
    rw [List.length_map, pe_len, List.take_of_length_le (Nat.le_refl _)]
    exact q

theorem and2 {c1 c2 : Prop} [Decidable c1] [Decidable c2] {T E : Prop} (h1 : c1 → c2 → T) (h2 : ¬ c1 ∨ ¬ c2 → E) : if c1 then (if c2 then T else E) else (if false = true then T else E) := by
  by_cases h : c1
  · rw [if_pos h]
    exact ifb (fun g => h1 h g) (fun g => h2 (.inr g))
  · rw [if_neg h, if_neg (by decide)]; exact h2 (.inl h)
theorem or2 {c1 c2 : Prop} [Decidable c1] [Decidable c2] {T E : Prop} (h1 : c1 ∨ c2 → T) (h2 : ¬ c1 → ¬ c2 → E) : if c1 then (if true = true then T else E) else (if c2 then T else E) := by
  by_cases h : c1
  · rw [if_pos h, if_pos rfl]; exact h1 (.inl h)
  · rw [if_neg h]; exact ifb (fun g => h1 (.inr g)) (fun g => h2 h g)
theorem cutP_up (ds : List PyData) (y : Nat) : cutP ds none (some (y : Int)) = ds.take y := by
  unfold cutP HT.sIx
  dsimp only
  rw [if_neg (by omega), List.drop_zero, Nat.sub_zero, Int.toNat_natCast]
  by_cases hz : y ≤ ds.length
  · rw [Nat.min_eq_left hz]
  · rw [Nat.min_eq_right (by omega), List.take_length, List.take_of_length_le (by omega)]
theorem cutP_dn (ds : List PyData) (y : Nat) : cutP ds (some (y : Int)) none = ds.drop y := by
  by_cases hz : y ≤ ds.length
  · exact cutP_from hz
  · rw [List.drop_of_length_le (by omega)]
    have := cutP_len ds (some (y : Int)) none
    unfold cutP HT.sIx
    dsimp only
    rw [if_neg (by omega), Int.toNat_natCast, Nat.min_eq_right (by omega), Nat.sub_self, List.take_zero]
/-- a sum as a polynomial, as the program makes it -/
def lin (n : Nat) (line : List Int) : Pl := numb n 1 (line.take 1 ++ (line.drop 1).reverse)
def pw (n : Nat) (line : List Int) : Nat → Pl
  | 0 => [(List.replicate n 0, 1)]
  | k + 1 => mulP (pw n line k) (lin n line)
/-- alike everywhere: the same numbers -/
theorem ord_inj {n : Nat} {d : Int} {p : List Int} (d0 : 0 ≤ d) (hp : p.length = (prods n d).length) {L : Pl} (nd : (L.map Prod.fst).Nodup) (hk : ∀ k ∈ L.map Prod.fst, k ∈ prods n d) (h : ∀ x : List Int, x.length = n → W x L = W x (pz n d p)) : ord n d L = p := by
  have kL : Ks n L := fun k hk2 => by obtain ⟨h1, _, _, h2⟩ := prods_ok d0 (hk k hk2); exact ⟨h1, h2⟩
  have e := W_inj kL (pz_ks d0 p) h
  unfold ord
  refine List.ext_getElem? fun i => ?_
  by_cases hi : i < p.length
  · rw [List.getElem?_map, List.getElem?_eq_getElem (by omega : i < (prods n d).length), List.getElem?_eq_getElem hi]
    show some (cf L (prods n d)[i]) = _
    rw [cf_cS _ nd, e, ← cf_cS _ (pz_nodup n d p)]
    have at_ : ∀ (P : List (List Int)) (q : List Int) (i : Nat) (h1 : i < P.length) (h2 : i < q.length), P.Nodup → cf (P.zip q) P[i] = q[i] := fun P => by
      induction P with
      | nil => intro q i h1; cases h1
      | cons k P ih =>
        intro q i h1 h2 nd
        cases q with
        | nil => cases h2
        | cons c q =>
          obtain ⟨n1, n2⟩ := List.nodup_cons.mp nd
          cases i with
          | zero => show (if k = k then c else _) = c; rw [if_pos rfl]
          | succ i =>
            have h1 : i < P.length := by simpa using h1
            show (if k = P[i] then c else cf (P.zip q) P[i]) = q[i]'(by simpa using h2)
            rw [if_neg (fun z => n1 (by rw [z]; exact List.getElem_mem h1)), ih q i h1 (by simpa using h2) n2]
    exact congrArg some (at_ (prods n d) p i (by omega) hi (prods_nodup n d))
  · rw [List.getElem?_eq_none (by rw [List.length_map]; omega), List.getElem?_eq_none (by omega)]
theorem gather_in {T : Pl} {k : List Int} (h : k ∈ (gather [] T).map Prod.fst) : k ∈ T.map Prod.fst := (key_gather h).resolve_left List.not_mem_nil
theorem counts35 : ∀ n : Fin 4, ∀ d : Fin 5, (raw (d.val : Int) n.val).length ≤ 35 := by decide +kernel
theorem prods35 {n d : Nat} (hn : n ≤ 3) (d4 : d ≤ 4) : (prods n d).length ≤ 35 := by
  have h := counts35 ⟨n, by omega⟩ ⟨d, by omega⟩
  rw [prods_len]
  exact h
/-- a polynomial of products of degree at most a, each once -/
def Po (n : Nat) (a : Int) (L : Pl) : Prop := Ks n L ∧ (L.map Prod.fst).Nodup ∧ ∀ k ∈ L.map Prod.fst, k.sum ≤ a
theorem Po.mul {n : Nat} {a b : Int} {L M : Pl} (hL : Po n a L) (hM : Po n b M) : Po n (a + b) (mulP L M) := by
  refine ⟨hL.1.mul hM.1, nd_gather List.nodup_nil, fun k hk => ?_⟩
  obtain ⟨p, hp, q, hq, rfl⟩ := key_terms (gather_in hk)
  obtain ⟨_, _, h3⟩ := add2_ok (hL.1 p hp).1 (hM.1 q hq).1 (hL.1 p hp).2 (hM.1 q hq).2
  have := hL.2.2 p hp
  have := hM.2.2 q hq
  rw [h3]; omega
theorem pz_po {n d : Nat} (p : List Int) : Po n d (pz n d p) := ⟨pz_ks (by omega) p, pz_nodup n d p, fun k hk => (prods_ok (by omega) (pz_key hk)).2.2.1⟩
theorem numb_po {n d : Nat} (p : List Int) : Po n d (numb n d p) := ⟨numb_ks (by omega) p, numb_nodup n d p, fun k hk => (prods_ok (by omega) (pz_key (numb_key hk))).2.2.1⟩
theorem Po.in {n : Nat} {a : Int} {L : Pl} (h : Po n a L) : ∀ k ∈ L.map Prod.fst, k ∈ prods n a := fun k hk => prods_of (h.1 k hk).1 (h.1 k hk).2 (h.2.2 k hk)
theorem cf_filter {k : List Int} : ∀ {L : Pl}, (L.map Prod.fst).Nodup → cf (L.filter fun q => decide (q.2 ≠ 0)) k = cf L k
  | [], _ => rfl
  | (k0, c) :: r, nd => by
    obtain ⟨n1, n2⟩ := List.nodup_cons.mp nd
    have ih := cf_filter (k := k) n2
    rw [List.filter_cons]
    by_cases e : c = 0
    · rw [if_neg (by show ¬ decide (c ≠ 0) = true; rw [decide_eq_true_iff]; exact fun z => z e), ih]
      show _ = if k0 = k then c else cf r k
      by_cases e2 : k0 = k
      · rw [if_pos e2, e, cf_new (by rw [← e2]; exact n1)]
      · rw [if_neg e2]
    · rw [if_pos (by show decide (c ≠ 0) = true; rw [decide_eq_true_iff]; exact e)]
      show (if k0 = k then c else cf (r.filter _) k) = if k0 = k then c else cf r k
      rw [ih]
theorem ord_numb (n d e : Nat) (p : List Int) : ord n e (numb n d p) = ord n e (pz n d p) := by
  unfold ord
  exact List.map_congr_left fun k _ => cf_filter (pz_nodup n d p)
theorem mono_bnd {B : Nat} (hB : 1 ≤ B) : ∀ (x k : List Int), (∀ y ∈ x, y.natAbs ≤ B) → (∀ y ∈ k, 0 ≤ y) → (mono x k).natAbs ≤ B ^ k.sum.toNat
  | [], k, _, hk => by
    rw [show mono [] k = 1 by cases k <;> rfl]
    exact Nat.pow_pos hB
  | _ :: _, [], _, _ => Nat.le_refl _
  | x :: xs, o :: ks, hx, hk => by
    have ih := mono_bnd hB xs ks (fun y hy => hx y (List.mem_cons_of_mem _ hy)) (fun y hy => hk y (List.mem_cons_of_mem _ hy))
    have o0 := hk o List.mem_cons_self
    have s0 : 0 ≤ ks.sum := by
      have : ∀ l : List Int, (∀ y ∈ l, 0 ≤ y) → 0 ≤ l.sum := fun l => by
        induction l with
        | nil => intro _; decide
        | cons z l ih =>
          intro hl
          have := hl z List.mem_cons_self
          have := ih (fun y hy => hl y (List.mem_cons_of_mem _ hy))
          rw [List.sum_cons]; omega
      exact this _ (fun y hy => hk y (List.mem_cons_of_mem _ hy))
    show (x ^ o.toNat * mono xs ks).natAbs ≤ _
    rw [Int.natAbs_mul, Int.natAbs_pow, List.sum_cons, show (o + ks.sum).toNat = o.toNat + ks.sum.toNat by omega, Nat.pow_add]
    exact Nat.mul_le_mul (Nat.pow_le_pow_left (hx x List.mem_cons_self) _) ih
theorem W_bnd {B a n : Nat} (hB : 1 ≤ B) {x : List Int} (hx : ∀ y ∈ x, y.natAbs ≤ B) : ∀ {L : Pl}, Ks n L → (∀ k ∈ L.map Prod.fst, k.sum ≤ a) → (W x L).natAbs ≤ N1 L * B ^ a
  | [], _, _ => Nat.zero_le _
  | (k, c) :: L, h, hs => by
    obtain ⟨hk, hL⟩ := h.cons
    have ih := W_bnd hB hx hL (fun j hj => hs j (List.mem_cons_of_mem _ hj))
    have h1 := mono_bnd hB x k hx hk.2
    have h2 : k.sum ≤ a := hs k List.mem_cons_self
    have h3 : B ^ k.sum.toNat ≤ B ^ a := Nat.pow_le_pow_right hB (by omega)
    have h4 := Nat.mul_le_mul_left c.natAbs (Nat.le_trans h1 h3)
    rw [← Int.natAbs_mul] at h4
    show (c * mono x k + W x L).natAbs ≤ (c.natAbs + N1 L) * B ^ a
    rw [Nat.add_mul]; omega
theorem N1_zip {B : Nat} : ∀ (P : List (List Int)) (p : List Int), (∀ y ∈ p, y.natAbs ≤ B) → N1 (P.zip p) ≤ p.length * B
  | [], p, _ => by rw [List.zip_nil_left]; exact Nat.zero_le _
  | _ :: _, [], _ => by rw [List.zip_nil_right]; exact Nat.zero_le _
  | k :: P, c :: p, h => by
    have h1 := h c List.mem_cons_self
    have h2 := N1_zip P p (fun y hy => h y (List.mem_cons_of_mem _ hy))
    show c.natAbs + N1 (P.zip p) ≤ (p.length + 1) * B
    rw [Nat.add_mul, Nat.one_mul]; omega
theorem mul_ord {n d e : Nat} (p q : List Int) : ord n (d + e : Nat) (mulP (pz n d p) (pz n e q)) = ord n (d + e : Nat) (mulP (numb n d p) (numb n e q)) := by
  have P1 := (pz_po (n := n) (d := d) p).mul (pz_po (n := n) (d := e) q)
  have P2 := (numb_po (n := n) (d := d) p).mul (numb_po (n := n) (d := e) q)
  have ed : (d : Int) + (e : Int) = ((d + e : Nat) : Int) := by omega
  rw [ed] at P1 P2
  refine ord_inj (by omega) (by unfold ord; rw [List.length_map]) P1.2.1 P1.in fun x hx => ?_
  rw [W_ord x P2.2.1 P2.in, W_mul hx (pz_ks (by omega) p) (pz_ks (by omega) q), W_mul hx (numb_ks (by omega) p) (numb_ks (by omega) q), W_numb, W_numb]
theorem mul_W {n d e : Nat} {x : List Int} (hx : x.length = n) (p q : List Int) : W x (pz n (d + e : Nat) (ord n (d + e : Nat) (mulP (numb n d p) (numb n e q)))) = W x (pz n d p) * W x (pz n e q) := by
  have P2 := (numb_po (n := n) (d := d) p).mul (numb_po (n := n) (d := e) q)
  rw [show (d : Int) + (e : Int) = ((d + e : Nat) : Int) by omega] at P2
  rw [W_ord x P2.2.1 P2.in, W_mul hx (numb_ks (by omega) p) (numb_ks (by omega) q), W_numb, W_numb]

theorem mono_take : ∀ (x k : List Int) (j : Nat) (a b : Int), x[j]? = some a → k[j]? = some b → mono (x.take (j + 1)) (k.take (j + 1)) = mono (x.take j) (k.take j) * a ^ b.toNat
  | [], _, j, a, b, h, _ => by simp at h
  | _ :: _, [], j, a, b, _, h => by simp at h
  | y :: xs, c :: ks, 0, a, b, h1, h2 => by
    cases h1; cases h2
    show y ^ c.toNat * mono (xs.take 0) (ks.take 0) = 1 * y ^ c.toNat
    rw [Int.one_mul]
    show y ^ c.toNat * mono [] [] = _
    rw [show mono [] [] = 1 from rfl, Int.mul_one]
  | y :: xs, c :: ks, j + 1, a, b, h1, h2 => by
    have := mono_take xs ks j a b (by simpa using h1) (by simpa using h2)
    show y ^ c.toNat * mono (xs.take (j + 1)) (ks.take (j + 1)) = y ^ c.toNat * mono (xs.take j) (ks.take j) * a ^ b.toNat
    rw [this, Int.mul_assoc]
theorem W_take (x : List Int) : ∀ (L : Pl) (i : Nat) (k : List Int) (c : Int), L[i]? = some (k, c) → W x (L.take (i + 1)) = W x (L.take i) + c * mono x k
  | [], i, k, c, h => by simp at h
  | (k0, c0) :: L, 0, k, c, h => by
    cases h
    show c0 * mono x k0 + W x (L.take 0) = 0 + c0 * mono x k0
    rw [show W x (L.take 0) = 0 from rfl]; omega
  | (k0, c0) :: L, i + 1, k, c, h => by
    have := W_take x L i k c (by simpa using h)
    show c0 * mono x k0 + W x (L.take (i + 1)) = c0 * mono x k0 + W x (L.take i) + c * mono x k
    omega
def Bx (x : List Int) : Prop := ∀ y ∈ x, y.natAbs ≤ 2 ^ 20
def dsp__law_worth : DSp := fun xs Q => ∃ (n : Nat) (d : Int) (p x : List Int), xs = [.d (.int (n : Int)), .d (.int d), .d (ti p), .d (ti x)] ∧ n ≤ 3 ∧ 0 ≤ d ∧ d ≤ 6 ∧ p.length ≤ 1000 ∧ x.length = n ∧ Bx x ∧ N1 (pz n d p) < 2 ^ 800 ∧ Q (.d (.int (W x (pz n d p))))
theorem ln__law_worth : ∀ xs Qd, dsp__law_worth xs Qd → xs.length = 4 := fun xs Qd h => by obtain ⟨a, b, c, d, rfl, _⟩ := h; rfl
theorem bnd {c : Nat} {m : Nat} {v : Int} (hc : c < 2 ^ 800) (hm : m ≤ 6) (h : v.natAbs ≤ c * (2 ^ 20) ^ m) : v.natAbs < 2 ^ 1000 := by
  have h1 : (2 ^ 20) ^ m ≤ (2 ^ 20) ^ 6 := Nat.pow_le_pow_right (by decide) hm
  have h2 := Nat.mul_le_mul (Nat.le_of_lt hc) h1
  have h3 : 2 ^ 800 * (2 ^ 20) ^ 6 = 2 ^ 920 := by rw [← Nat.pow_mul, ← Nat.pow_add]
  have h4 : 2 ^ 920 < 2 ^ 1000 := Nat.pow_lt_pow_right (by decide) (by decide)
  rw [h3] at h2
  exact Nat.lt_of_le_of_lt (Nat.le_trans h h2) h4
theorem sum_take {k : List Int} (hk : ∀ y ∈ k, 0 ≤ y) : ∀ j, (k.take j).sum ≤ k.sum := by
  induction k with
  | nil => intro j; rw [List.take_nil]; exact Int.le_refl _
  | cons a r ih =>
    intro j
    cases j with
    | zero =>
      have h0 := hk a List.mem_cons_self
      have := ih (fun y hy => hk y (List.mem_cons_of_mem _ hy)) 0
      rw [List.take_zero] at this ⊢
      rw [List.sum_cons]
      have e : ([] : List Int).sum = 0 := rfl
      omega
    | succ j =>
      have := ih (fun y hy => hk y (List.mem_cons_of_mem _ hy)) j
      rw [List.take_succ_cons, List.sum_cons, List.sum_cons]; omega
theorem ok__law_worth {k : Nat} (T : Txt K mg) : FnOk P w K mg base CX0 (k + 2) T.f__law_worth T.fd__law_worth ["_law_n", "_law_d", "_law_p", "_law_boxes_here"] (spD dsp__law_worth) := by
  have G__law_products : FnOk P w K mg base CX0 1 T.f__law_products T.fd__law_products ["_law_n", "_law_d"] (spD dsp__law_products) := ok__law_products T
  refine T.F__law_worth.ok sc__law_worth (fun vs H Q E h => spD_len ln__law_worth h) (fun cdv A outer s H vs Q E hr h => ?_)
  have hu := hu_of hr
  refine ⟨_, (pss_cons (ps_set (i := 4) sc__law_worth.nd rfl (Or.inl rfl) pe_int)
      (pss_cons (ps_for PassesOwn.never rfl (pi_zipU (K := K) (by rfl) T.z_zip (pa_cons (pv 2) (pa_cons (pe_call G__law_products (hr.mono (by omega)) (by rfl) T.g__law_products T.F__law_products.kp T.b__law_products .nil pass0 (pa_cons (pv 0) (pa_cons (pv 1) pa_nil))) pa_nil))) (pg_tupK (K := K) rfl (pgs_cons (pg_name (i := 5) sc__law_worth.nd rfl (Or.inl rfl)) (pgs_cons (pg_name (i := 6) sc__law_worth.nd rfl (Or.inl rfl)) pgs_nil)))
        (pss_cons (ps_for PassesOwn.never rfl (pi_zipU (K := K) (by rfl) T.z_zip (pa_cons (pv 3) (pa_cons (pv 6) pa_nil))) (pg_tupK (K := K) rfl (pgs_cons (pg_name (i := 7) sc__law_worth.nd rfl (Or.inl rfl)) (pgs_cons (pg_name (i := 8) sc__law_worth.nd rfl (Or.inl rfl)) pgs_nil)))
          (pss_one (ps_for PassesOwn.never rfl (pi_range1 (by rfl) T.z_range (pa_cons (pv 8) pa_nil)) (pg_name (i := 9) sc__law_worth.nd rfl (Or.inl rfl))
            (pss_one (ps_set (i := 5) sc__law_worth.nd rfl (Or.inl rfl) (pe_op (op_mulU (K := K)) (pv 5) (pv 7)))))))
        (pss_one (ps_set (i := 4) sc__law_worth.nd rfl (Or.inl rfl) (pe_op (op_addU (K := K)) (pv 4) (pv 5))))))
      (pss_one (ps_ret (pv 4))))), ?_⟩
  refine DS.run ((ds_seq (ds_set 4 de_int)
      (ds_seq (ds_for (di_zip (K := K) (da_cons (de_var 2) (da_cons (de_fn (da_cons (de_var 0) (da_cons (de_var 1) da_nil))) da_nil))) (dg_tup2 (K := K) (dg_name 5) (dg_name 6))
        (ds_seq (ds_for (di_zip (K := K) (da_cons (de_var 3) (da_cons (de_var 6) da_nil))) (dg_tup2 (K := K) (dg_name 7) (dg_name 8))
          (ds_for (di_rng1 (da_cons (de_var 8) da_nil)) (dg_name 9)
            (ds_set 5 (de_op (d2_mul (K := K)) (de_var 5) (de_var 7)))))
        (ds_set 4 (de_op (d2_add (K := K)) (de_var 4) (de_var 5)))))
      (ds_ret (de_var 4))))) h (by rw [spD_len ln__law_worth h]; decide) fun xs Qd h => ?_
  obtain ⟨n, d, p, x, rfl, hn, d0, d6, lp, lx, hx, hN, q⟩ := h
  refine ⟨n, d, rfl, by omega, d0, d6, ?_⟩
  show ∃ _, _
  rw [zipD_map]
  refine ⟨fun i ρ μ => ∃ s : Int, ρ = [none, none, none, some (.d (ti x)), some (.d (.int s)), none, none, none, none, none] ∧ μ = [] ∧ s = W x ((pz n d p).take i), ?_, fun i y ρ μ hi e => ?_, fun ρ μ e => ?_⟩
  · exact ⟨[], _, _, ⟨(by repeat (first | exact WkM.nil | refine WkM.cons rfl (by first | exact Or.inl rfl | exact Or.inr (Or.inr ⟨_, rfl, rfl⟩) | exact Or.inr (Or.inl rfl)) ?_)), (by repeat (first | exact WkR.nil | refine WkR.ref rfl ?_ | refine WkR.same trivial ?_ | refine WkR.none ?_)), (by decide)⟩, 0, rfl, rfl, rfl⟩
  · obtain ⟨s, rfl, rfl, hs⟩ := e
    obtain ⟨y, hy, rfl⟩ := map_get hi
    obtain ⟨c, k⟩ := y
    obtain ⟨hc, hk⟩ := List.getElem?_zip_eq_some.mp hy
    replace hc : p[i]? = some c := hc
    replace hk : (prods n d)[i]? = some k := hk
    have hz : (pz n d p)[i]? = some (k, c) := List.getElem?_zip_eq_some.mpr ⟨hk, hc⟩
    obtain ⟨k1, k2, k3, k4⟩ := prods_ok d0 (List.mem_of_getElem? hk)
    have bc : c.natAbs < 2 ^ 800 := Nat.lt_of_le_of_lt (mem_N1 (List.mem_of_getElem? hz)) hN
    show ∃ _, _
    rw [zipD_map]
    refine ⟨fun j ρ μ => ∃ v : Int, ρ = [none, none, none, some (.d (ti x)), some (.d (.int s)), some (.d (.int v)), none, none, none, none] ∧ μ = [] ∧ v = c * mono (x.take j) (k.take j) ∧ v.natAbs ≤ c.natAbs * (2 ^ 20) ^ ((k.take j).sum).toNat, ?_, fun j y ρ μ hj e => ?_, fun ρ μ e => ?_⟩
    · exact ⟨[], _, _, ⟨(by repeat (first | exact WkM.nil | refine WkM.cons rfl (by first | exact Or.inl rfl | exact Or.inr (Or.inr ⟨_, rfl, rfl⟩) | exact Or.inr (Or.inl rfl)) ?_)), (by repeat (first | exact WkR.nil | refine WkR.ref rfl ?_ | refine WkR.same trivial ?_ | refine WkR.none ?_)), (by decide)⟩, c, rfl, rfl, by show c = c * mono [] []; rw [show mono [] [] = 1 from rfl, Int.mul_one], by show c.natAbs ≤ c.natAbs * (2 ^ 20) ^ 0; rw [Nat.pow_zero, Nat.mul_one]; exact Nat.le_refl _⟩
    · obtain ⟨v, rfl, rfl, hv, bv⟩ := e
      obtain ⟨y, hy2, rfl⟩ := map_get hj
      obtain ⟨a, o⟩ := y
      obtain ⟨ha, ho⟩ := List.getElem?_zip_eq_some.mp hy2
      replace ha : x[j]? = some a := ha
      replace ho : k[j]? = some o := ho
      have o0 := k4 o (List.mem_of_getElem? ho)
      have ba := hx a (List.mem_of_getElem? ha)
      have st := sum_take k4 (j + 1)
      have s1 : (k.take (j + 1)).sum = (k.take j).sum + o := by rw [List.take_add_one, ho, List.sum_append]; show _ + (o + 0) = _; omega
      have s0 : 0 ≤ (k.take j).sum := by
        have : ∀ l : List Int, (∀ y ∈ l, 0 ≤ y) → 0 ≤ l.sum := fun l => by
          induction l with
          | nil => intro _; decide
          | cons z l ih =>
            intro hl
            have := hl z List.mem_cons_self
            have := ih (fun y hy => hl y (List.mem_cons_of_mem _ hy))
            rw [List.sum_cons]; omega
        exact this _ (fun y hy => k4 y (List.mem_of_mem_take hy))
      refine ⟨⟨by omega, by omega⟩, fun t ρ μ => ∃ w : Int, ρ = [none, none, none, some (.d (ti x)), some (.d (.int s)), some (.d (.int w)), none, some (.d (.int a)), none, none] ∧ μ = [] ∧ w = v * a ^ t ∧ w.natAbs ≤ c.natAbs * (2 ^ 20) ^ (((k.take j).sum).toNat + t), ?_, fun t y ρ μ ht e => ?_, fun ρ μ e => ?_⟩
      · exact ⟨[], _, _, ⟨(by repeat (first | exact WkM.nil | refine WkM.cons rfl (by first | exact Or.inl rfl | exact Or.inr (Or.inr ⟨_, rfl, rfl⟩) | exact Or.inr (Or.inl rfl)) ?_)), (by repeat (first | exact WkR.nil | refine WkR.ref rfl ?_ | refine WkR.same trivial ?_ | refine WkR.none ?_)), (by decide)⟩, v, rfl, rfl, by rw [Int.pow_zero, Int.mul_one], bv⟩
      · obtain ⟨w, rfl, rfl, hw, bw⟩ := e
        obtain ⟨ht', rfl⟩ := rngD_get ht
        refine ⟨mulK (bnd bc (by omega) bw) (Nat.lt_of_le_of_lt ba (Nat.pow_lt_pow_right (by decide) (by decide))), [], _, _, ⟨(by repeat (first | exact WkM.nil | refine WkM.cons rfl (by first | exact Or.inl rfl | exact Or.inr (Or.inr ⟨_, rfl, rfl⟩) | exact Or.inr (Or.inl rfl)) ?_)), (by repeat (first | exact WkR.nil | refine WkR.ref rfl ?_ | refine WkR.same trivial ?_ | refine WkR.none ?_)), (by decide)⟩, w * a, rfl, rfl, by rw [hw, Int.pow_succ, Int.mul_assoc], ?_⟩
        rw [Int.natAbs_mul]
        have := Nat.mul_le_mul bw ba
        rw [Nat.mul_assoc, ← Nat.pow_succ] at this
        exact this
      · obtain ⟨w, rfl, rfl, hw, bw⟩ := e
        rw [rngD_len] at hw bw
        refine ⟨[], _, _, ⟨(by repeat (first | exact WkM.nil | refine WkM.cons rfl (by first | exact Or.inl rfl | exact Or.inr (Or.inr ⟨_, rfl, rfl⟩) | exact Or.inr (Or.inl rfl)) ?_)), (by repeat (first | exact WkR.nil | refine WkR.ref rfl ?_ | refine WkR.same trivial ?_ | refine WkR.none ?_)), (by decide)⟩, w, rfl, rfl, by rw [hw, hv, mono_take x k j a o ha ho, Int.mul_assoc], ?_⟩
        rw [s1, show ((k.take j).sum + o).toNat = ((k.take j).sum).toNat + o.toNat by omega]
        exact bw
    · obtain ⟨v, rfl, rfl, hv, bv⟩ := e
      have em : ((x.zip k).map fun q => PyData.tuple [.int q.1, .int q.2]).length = n := by rw [List.length_map, List.length_zip]; omega
      have hv : v = c * mono x k := by
        have hv : v = c * mono (x.take ((x.zip k).map fun q => PyData.tuple [.int q.1, .int q.2]).length) (k.take ((x.zip k).map fun q => PyData.tuple [.int q.1, .int q.2]).length) := hv
        rw [em, List.take_of_length_le (by omega), List.take_of_length_le (by omega)] at hv
        exact hv
      refine ⟨[], _, _, ⟨(by repeat (first | exact WkM.nil | refine WkM.cons rfl (by first | exact Or.inl rfl | exact Or.inr (Or.inr ⟨_, rfl, rfl⟩) | exact Or.inr (Or.inl rfl)) ?_)), (by repeat (first | exact WkR.nil | refine WkR.ref rfl ?_ | refine WkR.same trivial ?_ | refine WkR.none ?_)), (by decide)⟩, s + v, rfl, rfl, ?_⟩
      rw [W_take x _ i k c hz, hv, hs]
  · obtain ⟨s, rfl, rfl, hs⟩ := e
    have e1 : (pz n d p).take ((p.zip (prods n d)).map fun q => PyData.tuple [.int q.1, ti q.2]).length = pz n d p := List.take_of_length_le (by unfold pz; rw [List.length_map, List.length_zip, List.length_zip]; omega)
    rw [e1] at hs
    rw [hs]
    exact q

def dsp__law_poly : DSp := fun xs Q => ∃ many : Nat, xs = [.dl, .d (.int (many : Int))] ∧ many ≤ 1000 ∧ ∀ p : List Int, p.length = many → (∀ y ∈ p, y.natAbs ≤ 1000000) → Q (.d (ti p))
theorem ln__law_poly : ∀ xs Qd, dsp__law_poly xs Qd → xs.length = 2 := fun xs Qd h => by obtain ⟨a, rfl, _⟩ := h; rfl
theorem ok__law_poly {k : Nat} (T : Txt K mg) : FnOk P w K mg base CX0 (k + 2) T.f__law_poly T.fd__law_poly ["_law_deal_here", "_law_many"] (spD dsp__law_poly) := by
  have G__law_draw : FnOk P w K mg base CX0 1 T.f__law_draw T.fd__law_draw ["_law_deal_here", "_law_many"] (spD dsp__law_draw) := ok__law_draw T
  refine T.F__law_poly.ok sc__law_poly (fun vs H Q E h => spD_len ln__law_poly h) (fun cdv A outer s H vs Q E hr h => ?_)
  have hu := hu_of hr
  refine ⟨_, (pss_cons (ps_set (i := 2) sc__law_poly.nd rfl (Or.inl rfl) (pe_lst pa_nil))
      (pss_cons (ps_set (i := 3) sc__law_poly.nd rfl (Or.inl rfl) (pe_call G__law_draw (hr.mono (by omega)) (by rfl) T.g__law_draw T.F__law_draw.kp T.b__law_draw .nil pass0 (pa_cons (pv 0) (pa_cons pe_int pa_nil))))
      (pss_cons (ps_for PassesOwn.never rfl (pi_range1 (by rfl) T.z_range (pa_cons (pv 1) pa_nil)) (pg_name (i := 4) sc__law_poly.nd rfl (Or.inl rfl))
        (pss_cons (ps_set (i := 5) sc__law_poly.nd rfl (Or.inl rfl) (pe_ix (ix_seqK (K := K)) (pe_lst (pa_cons (pe_op op_sub (pe_call G__law_draw (hr.mono (by omega)) (by rfl) T.g__law_draw T.F__law_draw.kp T.b__law_draw .nil pass0 (pa_cons (pv 0) (pa_cons pe_int pa_nil))) pe_int) (pa_cons pe_int (pa_cons (pe_op op_sub (pe_call G__law_draw (hr.mono (by omega)) (by rfl) T.g__law_draw T.F__law_draw.kp T.b__law_draw .nil pass0 (pa_cons (pv 0) (pa_cons (pe_op (op_addU (K := K)) (pe_op (op_mulU (K := K)) pe_int (pe_op op_pow pe_int pe_int)) pe_int) pa_nil))) (pe_op op_pow pe_int pe_int)) pa_nil)))) (pe_call G__law_draw (hr.mono (by omega)) (by rfl) T.g__law_draw T.F__law_draw.kp T.b__law_draw .nil pass0 (pa_cons (pv 0) (pa_cons pe_int pa_nil))) (fun _ _ => rfl)))
        (pss_one (ps_expr (pe_bmK (K := K) PySem.F.plainAttrs_list PySem.F.slot_list_append PySem.F.type_list_append mt_append (pv 2) (pa_cons (pe_op (op_mulU (K := K)) (pv 5) (pe_callTy call_int1 (by rfl) T.z_int bt_int (pa_cons (pe_or (pe_cmpR op_gt (pv 3) pe_int (nomark _)) (pe_one (pe_cmpR (op_eqU (K := K) hr.units) (pe_call G__law_draw (hr.mono (by omega)) (by rfl) T.g__law_draw T.F__law_draw.kp T.b__law_draw .nil pass0 (pa_cons (pv 0) (pa_cons pe_int pa_nil))) pe_int (nomark _)))) pa_nil))) pa_nil))))))
      (pss_one (ps_ret (pe_callTy (call_tupleK (K := K)) (by rfl) T.z_tuple bt_tuple (pa_cons (pv 2) pa_nil))))))), ?_⟩
  refine DS.run ((ds_seq (ds_set 2 (de_lst da_nil))
      (ds_seq (ds_set 3 (de_fn (da_cons (de_var 0) (da_cons de_int da_nil))))
      (ds_seq (ds_for (di_rng1 (da_cons (de_var 1) da_nil)) (dg_name 4)
        (ds_seq (ds_set 5 (de_op (d2_ix (K := K)) (de_lst (da_cons (de_op d2_sub (de_fn (da_cons (de_var 0) (da_cons de_int da_nil))) de_int) (da_cons de_int (da_cons (de_op d2_sub (de_fn (da_cons (de_var 0) (da_cons (de_op (d2_add (K := K)) (de_op (d2_mul (K := K)) de_int (de_op d2_pow de_int de_int)) de_int) da_nil))) (de_op d2_pow de_int de_int)) da_nil)))) (de_fn (da_cons (de_var 0) (da_cons de_int da_nil)))))
        (ds_drop (de_meth (K := K) dm_append (de_var 2) (da_cons (de_op (d2_mul (K := K)) (de_var 5) (de_cb (dc_1 d1_int) (da_cons (de_or (de_op d2_gt (de_var 3) de_int) (de_op (d2_eq (K := K)) (de_fn (da_cons (de_var 0) (da_cons de_int da_nil))) de_int)) da_nil))) da_nil)))))
      (ds_ret (de_cb (dc_1 (d1_tuple (K := K))) (da_cons (de_var 2) da_nil))))))) h (by rw [spD_len ln__law_poly h]; decide) fun xs Qd h => ?_
  obtain ⟨many, rfl, hm, q⟩ := h
  refine ⟨4, rfl, ⟨by decide, by decide⟩, fun form f0 f1 => ?_⟩
  refine ⟨⟨by omega, by omega⟩, fun i ρ μ => ∃ p : List Int, ρ = [some .dl, none, some (.r 0), some (.d (.int form)), none, none] ∧ μ = [.lst (p.map PyData.int)] ∧ p.length = i ∧ ∀ y ∈ p, y.natAbs ≤ 1000000, ?_, fun i y ρ μ hi e => ?_, fun ρ μ e => ?_⟩
  · exact ⟨[0], _, _, ⟨(by repeat (first | exact WkM.nil | refine WkM.cons rfl (by first | exact Or.inl rfl | exact Or.inr (Or.inr ⟨_, rfl, rfl⟩) | exact Or.inr (Or.inl rfl)) ?_)), (by repeat (first | exact WkR.nil | refine WkR.ref rfl ?_ | refine WkR.same trivial ?_ | refine WkR.none ?_)), (by decide)⟩, [], rfl, rfl, rfl, fun y h => absurd h List.not_mem_nil⟩
  · obtain ⟨p, rfl, rfl, lp, hp⟩ := e
    obtain ⟨hi', rfl⟩ := rngD_get hi
    have fin : ∀ (x4 x5 : Option SV) (v : Int), v.natAbs ≤ 1000000 → Wkn (fun ρ μ => ∃ p : List Int, ρ = [some .dl, none, some (.r 0), some (.d (.int form)), none, none] ∧ μ = [.lst (p.map PyData.int)] ∧ p.length = i + 1 ∧ ∀ y ∈ p, y.natAbs ≤ 1000000) [some .dl, none, some (.r 0), some (.d (.int form)), x4, x5] [.lst (p.map PyData.int ++ [.int v])] := fun x4 x5 v hv => by
      have e : p.map PyData.int ++ [.int v] = (p ++ [v]).map PyData.int := by rw [List.map_append]; rfl
      rw [e]
      refine ⟨[0], _, _, ⟨(by repeat (first | exact WkM.nil | refine WkM.cons rfl (by first | exact Or.inl rfl | exact Or.inr (Or.inr ⟨_, rfl, rfl⟩) | exact Or.inr (Or.inl rfl)) ?_)), (by repeat (first | exact WkR.nil | refine WkR.ref rfl ?_ | refine WkR.same trivial ?_ | refine WkR.none ?_)), (by decide)⟩, p ++ [v], rfl, rfl, by rw [List.length_append, lp]; rfl, fun y hy => ?_⟩
      rcases List.mem_append.mp hy with hy | hy
      · exact hp y hy
      · rw [List.mem_singleton.mp hy]; exact hv
    refine ⟨7, rfl, ⟨by decide, by decide⟩, fun r1 a0 a1 => ⟨⟨by decide, by decide, by decide⟩, mul9 (by decide) (by decide), 2000001, rfl, ⟨by decide, by decide⟩, fun r2 b0 b1 => ⟨⟨by decide, by decide, by decide⟩, 3, rfl, ⟨by decide, by decide⟩, fun r3 c0 c1 => ?_⟩⟩⟩
    obtain ⟨z, ez, hz⟩ := at_any (xs := [PyData.int (r1 - 3), .int 0, .int (r2 - (10 : Int) ^ (6 : Int).toNat)]) c0 c1
    obtain ⟨v, rfl, hv⟩ : ∃ v : Int, z = .int v ∧ v.natAbs ≤ 1000000 := by
      simp only [List.mem_cons, List.not_mem_nil, or_false] at hz
      have e6 : (10 : Int) ^ (6 : Int).toNat = 1000000 := by decide
      rcases hz with rfl | rfl | rfl
      · exact ⟨_, rfl, by omega⟩
      · exact ⟨_, rfl, by omega⟩
      · exact ⟨_, rfl, by rw [e6]; omega⟩
    refine ⟨_, ez, ?_⟩
    have lb : (p.map PyData.int).length + 1 ≤ 100000 := by rw [List.length_map]; omega
    have v9 : v.natAbs < 1000000000 := by omega
    refine ifb (fun e => ?_) (fun e => ⟨4, rfl, ⟨by decide, by decide⟩, fun r4 _ _ => ?_⟩)
    · exact ⟨mul9 v9 (by decide), by rw [List.length_map]; omega, fin _ _ (v * 1) (by rw [Int.mul_one]; exact hv)⟩
    · refine ⟨mul9 v9 (by split <;> decide), by rw [List.length_map]; omega, fin _ _ (v * _) ?_⟩
      split
      · rw [Int.mul_one]; exact hv
      · rw [Int.mul_zero]; decide
  · obtain ⟨p, rfl, rfl, lp, hp⟩ := e
    rw [rngD_len, Int.toNat_natCast] at lp
    exact q p lp hp

def dsp__law_boxes : DSp := fun xs Q => ∃ n : Nat, xs = [.dl, .d (.int (n : Int))] ∧ n ≤ 100 ∧ ∀ x : List Int, x.length = n → (∀ y ∈ x, y.natAbs ≤ 1000) → Q (.d (ti x))
theorem ln__law_boxes : ∀ xs Qd, dsp__law_boxes xs Qd → xs.length = 2 := fun xs Qd h => by obtain ⟨a, rfl, _⟩ := h; rfl
theorem ok__law_boxes {k : Nat} (T : Txt K mg) : FnOk P w K mg base CX0 (k + 2) T.f__law_boxes T.fd__law_boxes ["_law_deal_here", "_law_n"] (spD dsp__law_boxes) := by
  have G__law_draw : FnOk P w K mg base CX0 1 T.f__law_draw T.fd__law_draw ["_law_deal_here", "_law_many"] (spD dsp__law_draw) := ok__law_draw T
  refine T.F__law_boxes.ok sc__law_boxes (fun vs H Q E h => spD_len ln__law_boxes h) (fun cdv A outer s H vs Q E hr h => ?_)
  have hu := hu_of hr
  refine ⟨_, (pss_cons (ps_set (i := 2) sc__law_boxes.nd rfl (Or.inr rfl) (pe_ix (ix_seqK (K := K)) (pe_lst (pa_cons pe_int (pa_cons pe_int pa_nil))) (pe_call G__law_draw (hr.mono (by omega)) (by rfl) T.g__law_draw T.F__law_draw.kp T.b__law_draw .nil pass0 (pa_cons (pv 0) (pa_cons pe_int pa_nil))) (fun _ _ => rfl)))
      (pss_one (ps_ret (pe_callTy (call_tupleK (K := K)) (by rfl) T.z_tuple bt_tuple (pa_cons (pe_lc (own := [("_law_k", 3)]) (g := gName 3) (tt := tYes) rfl sc__law_boxes.nd (pi_range1 (by rfl) T.z_range (pa_cons (pv 1) pa_nil)) (blkOk_by (own := [("_law_k", 3)]) (N := nm__law_boxes) (sc := defScope st__law_boxes) (by decide +kernel)) (fun _ _ _ _ _ => (pg_name (i := 3) sc__law_boxes.nd rfl (Or.inl rfl))) (fun _ _ _ _ _ => pts_nil) (fun _ _ _ _ _ => (pe_op op_sub (pe_call G__law_draw (hr.mono (by omega)) (by rfl) T.g__law_draw T.F__law_draw.kp T.b__law_draw .nil pass0 (pa_cons (pv 0) (pa_cons (pe_op (op_addU (K := K)) (pe_op (op_mulU (K := K)) pe_int (pv 2)) pe_int) pa_nil))) (pv 2)))) pa_nil))))), ?_⟩
  refine DS.run ((ds_seq (ds_set 2 (de_op (d2_ix (K := K)) (de_lst (da_cons de_int (da_cons de_int da_nil))) (de_fn (da_cons (de_var 0) (da_cons de_int da_nil)))))
      (ds_ret (de_cb (dc_1 (d1_tuple (K := K))) (da_cons (de_lc (di_rng1 (da_cons (de_var 1) da_nil)) (dg_name 3) db_yes (de_op d2_sub (de_fn (da_cons (de_var 0) (da_cons (de_op (d2_add (K := K)) (de_op (d2_mul (K := K)) de_int (de_var 2)) de_int) da_nil))) (de_var 2))) da_nil))))) h (by rw [spD_len ln__law_boxes h]; decide) fun xs Qd h => ?_
  obtain ⟨n, rfl, hn, q⟩ := h
  refine ⟨2, rfl, ⟨by decide, by decide⟩, fun r r0 r1 => ?_⟩
  obtain ⟨z, ez, hz⟩ := at_any (xs := [PyData.int 4, .int 1000]) r0 r1
  obtain ⟨far, rfl, f0, f1⟩ : ∃ v : Int, z = .int v ∧ 4 ≤ v ∧ v ≤ 1000 := by
    simp only [List.mem_cons, List.not_mem_nil, or_false] at hz
    rcases hz with rfl | rfl
    · exact ⟨_, rfl, by decide, by decide⟩
    · exact ⟨_, rfl, by decide, by decide⟩
  refine ⟨_, ez, ⟨by omega, by omega⟩, by rw [rngD_len]; omega, fun _ z => ∃ y : Int, z = some (.int y) ∧ y.natAbs ≤ 1000, fun i y hi => ⟨mul9 (by decide) (by omega), 2 * far + 1, rfl, ⟨by omega, by omega⟩, fun s s0 s1 => ⟨Wk.refl _, s - far, rfl, by omega⟩⟩, fun zs h1 h2 => ?_⟩
  rw [rngD_len] at h1
  obtain ⟨x, e1, lx, hx⟩ := comp_ex (f := PyData.int) (P := fun y => y.natAbs ≤ 1000) h1 h2
  rw [e1]
  exact q x (by omega) hx
/-- the worth of a sum -/
def dot : List Int → List Int → Int
  | x :: xs, l :: ls => x * l + dot xs ls
  | _, _ => 0
theorem dot_take : ∀ (x l : List Int) (j : Nat) (a b : Int), x[j]? = some a → l[j]? = some b → dot (x.take (j + 1)) (l.take (j + 1)) = dot (x.take j) (l.take j) + a * b
  | [], _, j, a, b, h, _ => by simp at h
  | _ :: _, [], j, a, b, _, h => by simp at h
  | y :: xs, c :: ks, 0, a, b, h1, h2 => by
    cases h1; cases h2
    show y * c + dot (xs.take 0) (ks.take 0) = 0 + y * c
    rw [show dot (xs.take 0) (ks.take 0) = 0 from rfl]; omega
  | y :: xs, c :: ks, j + 1, a, b, h1, h2 => by
    have := dot_take xs ks j a b (by simpa using h1) (by simpa using h2)
    show y * c + dot (xs.take (j + 1)) (ks.take (j + 1)) = y * c + dot (xs.take j) (ks.take j) + a * b
    omega

/-! ### polynomials reckoned: the program's defs -/
theorem show_ti {p : List Int} (h : ∀ x ∈ p, Sml x) (l : p.length ≤ 50) : ShowOk (ti p) := ⟨ti_shaped p, ti_showable h, by have := ti_shown h; omega⟩
theorem sml_of {x : Int} (h : x.natAbs < 2 ^ 1900) : x.natAbs.log2 < 1920 := by
  by_cases e : x.natAbs = 0
  · rw [e]; decide
  · exact Nat.lt_trans ((Nat.log2_lt e).mpr h) (by decide)
def dsp_power_of : DSp := fun xs Q => ∃ (v : Int) (k : Int), xs = [.d (.int v), .d (.int k)] ∧ 0 ≤ k ∧ k ≤ 6 ∧ v.natAbs ≤ 2 ^ 20 ∧ Q (.d (.int (v ^ k.toNat)))
theorem ln_power_of : ∀ xs Qd, dsp_power_of xs Qd → xs.length = 2 := fun xs Qd h => by obtain ⟨a, b, rfl, _⟩ := h; rfl
theorem pow_bnd {v : Int} {t : Nat} (h : v.natAbs ≤ 2 ^ 20) (ht : t ≤ 6) : (v ^ t).natAbs < 2 ^ 1000 := by
  rw [Int.natAbs_pow]
  refine Nat.lt_of_le_of_lt (Nat.pow_le_pow_left h t) ?_
  rw [← Nat.pow_mul]
  exact Nat.pow_lt_pow_right (by decide) (by omega)
theorem ok_power_of {k : Nat} (T : Txt K mg) : FnOk P w K mg base CX0 (k + 1) T.f_power_of T.fd_power_of ["number", "k"] (spD dsp_power_of) := by
  refine T.F_power_of.ok sc_power_of (fun vs H Q E h => spD_len ln_power_of h) (fun cdv A outer s H vs Q E hr h => ?_)
  have hu := hu_of hr
  refine ⟨_, (pss_cons (ps_set (i := 2) sc_power_of.nd rfl (Or.inl rfl) pe_int)
      (pss_cons (ps_for PassesOwn.never rfl (pi_range1 (by rfl) T.z_range (pa_cons (pv 1) pa_nil)) (pg_name (i := 3) sc_power_of.nd rfl (Or.inl rfl))
        (pss_one (ps_set (i := 2) sc_power_of.nd rfl (Or.inl rfl) (pe_op (op_mulU (K := K)) (pv 2) (pv 0)))))
      (pss_one (ps_ret (pv 2))))), ?_⟩
  refine DS.run ((ds_seq (ds_set 2 de_int)
      (ds_seq (ds_for (di_rng1 (da_cons (de_var 1) da_nil)) (dg_name 3)
        (ds_set 2 (de_op (d2_mul (K := K)) (de_var 2) (de_var 0))))
      (ds_ret (de_var 2))))) h (by rw [spD_len ln_power_of h]; decide) fun xs Qd h => ?_
  obtain ⟨v, k, rfl, k0, k6, hv, q⟩ := h
  refine ⟨⟨by omega, by omega⟩, fun t ρ μ => ∃ f : Int, ρ = [some (.d (.int v)), none, some (.d (.int f)), none] ∧ μ = [] ∧ f = v ^ t, ?_, fun t y ρ μ ht e => ?_, fun ρ μ e => ?_⟩
  · exact ⟨[], _, _, ⟨(by repeat (first | exact WkM.nil | refine WkM.cons rfl (by first | exact Or.inl rfl | exact Or.inr (Or.inr ⟨_, rfl, rfl⟩) | exact Or.inr (Or.inl rfl)) ?_)), (by repeat (first | exact WkR.nil | refine WkR.ref rfl ?_ | refine WkR.same trivial ?_ | refine WkR.none ?_)), (by decide)⟩, 1, rfl, rfl, (Int.pow_zero _).symm⟩
  · obtain ⟨f, rfl, rfl, hf⟩ := e
    obtain ⟨ht', rfl⟩ := rngD_get ht
    exact ⟨mulK (by rw [hf]; exact pow_bnd hv (by omega)) (Nat.lt_of_le_of_lt hv (Nat.pow_lt_pow_right (by decide) (by decide))), [], _, _, ⟨(by repeat (first | exact WkM.nil | refine WkM.cons rfl (by first | exact Or.inl rfl | exact Or.inr (Or.inr ⟨_, rfl, rfl⟩) | exact Or.inr (Or.inl rfl)) ?_)), (by repeat (first | exact WkR.nil | refine WkR.ref rfl ?_ | refine WkR.same trivial ?_ | refine WkR.none ?_)), (by decide)⟩, _, rfl, rfl, by rw [hf, Int.pow_succ]⟩
  · obtain ⟨f, rfl, rfl, hf⟩ := e
    rw [rngD_len] at hf
    rw [hf]
    exact q
abbrev dsp_worth : DSp := dsp__law_worth
theorem ln_worth : ∀ xs Qd, dsp_worth xs Qd → xs.length = 4 := ln__law_worth
theorem ok_worth {k : Nat} (T : Txt K mg) : FnOk P w K mg base CX0 (k + 2) T.f_worth T.fd_worth ["n", "d", "p", "boxes"] (spD dsp_worth) := by
  have G_products : FnOk P w K mg base CX0 1 T.f_products T.fd_products ["n", "d"] (spD dsp_products) := ok_products T
  have G_power_of : FnOk P w K mg base CX0 1 T.f_power_of T.fd_power_of ["number", "k"] (spD dsp_power_of) := ok_power_of T
  refine T.F_worth.ok sc_worth (fun vs H Q E h => spD_len ln_worth h) (fun cdv A outer s H vs Q E hr h => ?_)
  have hu := hu_of hr
  refine ⟨_, (pss_cons (ps_set (i := 4) sc_worth.nd rfl (Or.inl rfl) pe_int)
      (pss_cons (ps_for PassesOwn.never rfl (pi_zipU (K := K) (by rfl) T.z_zip (pa_cons (pv 2) (pa_cons (pe_call G_products (hr.mono (by omega)) (by rfl) T.g_products T.F_products.kp T.b_products .nil pass0 (pa_cons (pv 0) (pa_cons (pv 1) pa_nil))) pa_nil))) (pg_tupK (K := K) rfl (pgs_cons (pg_name (i := 5) sc_worth.nd rfl (Or.inl rfl)) (pgs_cons (pg_name (i := 6) sc_worth.nd rfl (Or.inl rfl)) pgs_nil)))
        (pss_cons (ps_for PassesOwn.never rfl (pi_zipU (K := K) (by rfl) T.z_zip (pa_cons (pv 6) (pa_cons (pv 3) pa_nil))) (pg_tupK (K := K) rfl (pgs_cons (pg_name (i := 7) sc_worth.nd rfl (Or.inl rfl)) (pgs_cons (pg_name (i := 8) sc_worth.nd rfl (Or.inl rfl)) pgs_nil)))
          (pss_one (ps_set (i := 5) sc_worth.nd rfl (Or.inl rfl) (pe_op (op_mulU (K := K)) (pv 5) (pe_call G_power_of (hr.mono (by omega)) (by rfl) T.g_power_of T.F_power_of.kp T.b_power_of .nil pass0 (pa_cons (pv 8) (pa_cons (pv 7) pa_nil)))))))
        (pss_one (ps_set (i := 4) sc_worth.nd rfl (Or.inl rfl) (pe_op (op_addU (K := K)) (pv 4) (pv 5))))))
      (pss_one (ps_ret (pv 4))))), ?_⟩
  refine DS.run ((ds_seq (ds_set 4 de_int)
      (ds_seq (ds_for (di_zip (K := K) (da_cons (de_var 2) (da_cons (de_fn (da_cons (de_var 0) (da_cons (de_var 1) da_nil))) da_nil))) (dg_tup2 (K := K) (dg_name 5) (dg_name 6))
        (ds_seq (ds_for (di_zip (K := K) (da_cons (de_var 6) (da_cons (de_var 3) da_nil))) (dg_tup2 (K := K) (dg_name 7) (dg_name 8))
          (ds_set 5 (de_op (d2_mul (K := K)) (de_var 5) (de_fn (da_cons (de_var 8) (da_cons (de_var 7) da_nil))))))
        (ds_set 4 (de_op (d2_add (K := K)) (de_var 4) (de_var 5)))))
      (ds_ret (de_var 4))))) h (by rw [spD_len ln_worth h]; decide) fun xs Qd h => ?_
  obtain ⟨n, d, p, x, rfl, hn, d0, d6, lp, lx, hx, hN, q⟩ := h
  refine ⟨n, d, rfl, by omega, d0, d6, ?_⟩
  show ∃ _, _
  rw [zipD_map]
  refine ⟨fun i ρ μ => ∃ s : Int, ρ = [none, none, none, some (.d (ti x)), some (.d (.int s)), none, none, none, none] ∧ μ = [] ∧ s = W x ((pz n d p).take i), ?_, fun i y ρ μ hi e => ?_, fun ρ μ e => ?_⟩
  · exact ⟨[], _, _, ⟨(by repeat (first | exact WkM.nil | refine WkM.cons rfl (by first | exact Or.inl rfl | exact Or.inr (Or.inr ⟨_, rfl, rfl⟩) | exact Or.inr (Or.inl rfl)) ?_)), (by repeat (first | exact WkR.nil | refine WkR.ref rfl ?_ | refine WkR.same trivial ?_ | refine WkR.none ?_)), (by decide)⟩, 0, rfl, rfl, rfl⟩
  · obtain ⟨s, rfl, rfl, hs⟩ := e
    obtain ⟨y, hy, rfl⟩ := map_get hi
    obtain ⟨c, k⟩ := y
    obtain ⟨hc, hk⟩ := List.getElem?_zip_eq_some.mp hy
    replace hc : p[i]? = some c := hc
    replace hk : (prods n d)[i]? = some k := hk
    have hz : (pz n d p)[i]? = some (k, c) := List.getElem?_zip_eq_some.mpr ⟨hk, hc⟩
    obtain ⟨k1, k2, k3, k4⟩ := prods_ok d0 (List.mem_of_getElem? hk)
    have bc : c.natAbs < 2 ^ 800 := Nat.lt_of_le_of_lt (mem_N1 (List.mem_of_getElem? hz)) hN
    show ∃ _, _
    rw [zipD_map]
    have s0 : ∀ j, 0 ≤ (k.take j).sum := fun j => by
      have : ∀ l : List Int, (∀ y ∈ l, 0 ≤ y) → 0 ≤ l.sum := fun l => by
        induction l with
        | nil => intro _; decide
        | cons z l ih =>
          intro hl
          have := hl z List.mem_cons_self
          have := ih (fun y hy => hl y (List.mem_cons_of_mem _ hy))
          rw [List.sum_cons]; omega
      exact this _ (fun y hy => k4 y (List.mem_of_mem_take hy))
    refine ⟨fun j ρ μ => ∃ v : Int, ρ = [none, none, none, some (.d (ti x)), some (.d (.int s)), some (.d (.int v)), none, none, none] ∧ μ = [] ∧ v = c * mono (x.take j) (k.take j) ∧ v.natAbs ≤ c.natAbs * (2 ^ 20) ^ ((k.take j).sum).toNat, ?_, fun j y ρ μ hj e => ?_, fun ρ μ e => ?_⟩
    · exact ⟨[], _, _, ⟨(by repeat (first | exact WkM.nil | refine WkM.cons rfl (by first | exact Or.inl rfl | exact Or.inr (Or.inr ⟨_, rfl, rfl⟩) | exact Or.inr (Or.inl rfl)) ?_)), (by repeat (first | exact WkR.nil | refine WkR.ref rfl ?_ | refine WkR.same trivial ?_ | refine WkR.none ?_)), (by decide)⟩, c, rfl, rfl, by show c = c * mono [] []; rw [show mono [] [] = 1 from rfl, Int.mul_one], by show c.natAbs ≤ c.natAbs * (2 ^ 20) ^ 0; rw [Nat.pow_zero, Nat.mul_one]; exact Nat.le_refl _⟩
    · obtain ⟨v, rfl, rfl, hv, bv⟩ := e
      obtain ⟨y, hy2, rfl⟩ := map_get hj
      obtain ⟨o, a⟩ := y
      obtain ⟨ho, ha⟩ := List.getElem?_zip_eq_some.mp hy2
      replace ha : x[j]? = some a := ha
      replace ho : k[j]? = some o := ho
      have o0 := k4 o (List.mem_of_getElem? ho)
      have ba := hx a (List.mem_of_getElem? ha)
      have st := sum_take k4 (j + 1)
      have s1 : (k.take (j + 1)).sum = (k.take j).sum + o := by rw [List.take_add_one, ho, List.sum_append]; show _ + (o + 0) = _; omega
      have s0j := s0 j
      refine ⟨a, o, rfl, o0, by omega, ba, ?_⟩
      refine ⟨mulK (bnd bc (by omega) bv) (pow_bnd ba (by omega)), [], _, _, ⟨(by repeat (first | exact WkM.nil | refine WkM.cons rfl (by first | exact Or.inl rfl | exact Or.inr (Or.inr ⟨_, rfl, rfl⟩) | exact Or.inr (Or.inl rfl)) ?_)), (by repeat (first | exact WkR.nil | refine WkR.ref rfl ?_ | refine WkR.same trivial ?_ | refine WkR.none ?_)), (by decide)⟩, v * a ^ o.toNat, rfl, rfl, by rw [hv, mono_take x k j a o ha ho, Int.mul_assoc], ?_⟩
      rw [s1, show ((k.take j).sum + o).toNat = ((k.take j).sum).toNat + o.toNat by omega, Int.natAbs_mul, Int.natAbs_pow, Nat.pow_add, ← Nat.mul_assoc]
      exact Nat.mul_le_mul bv (Nat.pow_le_pow_left ba _)
    · obtain ⟨v, rfl, rfl, hv, bv⟩ := e
      have em : ((k.zip x).map fun q => PyData.tuple [.int q.1, .int q.2]).length = n := by rw [List.length_map, List.length_zip]; omega
      have hv : v = c * mono x k := by
        have hv : v = c * mono (x.take ((k.zip x).map fun q => PyData.tuple [.int q.1, .int q.2]).length) (k.take ((k.zip x).map fun q => PyData.tuple [.int q.1, .int q.2]).length) := hv
        rw [em, List.take_of_length_le (by omega), List.take_of_length_le (by omega)] at hv
        exact hv
      refine ⟨[], _, _, ⟨(by repeat (first | exact WkM.nil | refine WkM.cons rfl (by first | exact Or.inl rfl | exact Or.inr (Or.inr ⟨_, rfl, rfl⟩) | exact Or.inr (Or.inl rfl)) ?_)), (by repeat (first | exact WkR.nil | refine WkR.ref rfl ?_ | refine WkR.same trivial ?_ | refine WkR.none ?_)), (by decide)⟩, s + v, rfl, rfl, ?_⟩
      rw [W_take x _ i k c hz, hv, hs]
  · obtain ⟨s, rfl, rfl, hs⟩ := e
    have e1 : (pz n d p).take ((p.zip (prods n d)).map fun q => PyData.tuple [.int q.1, ti q.2]).length = pz n d p := List.take_of_length_le (by unfold pz; rw [List.length_map, List.length_zip, List.length_zip]; omega)
    rw [e1] at hs
    rw [hs]
    exact q
def dsp_lifted : DSp := fun xs Q => ∃ (n d e : Nat) (p : List Int), xs = [.d (.int (n : Int)), .d (.int (d : Int)), .d (ti p), .d (.int (e : Int))] ∧ n ≤ 3 ∧ d ≤ 4 ∧ e ≤ 4 ∧ p.length ≤ 1000 ∧ Q (.d (ti (ord n e (numb n d p))))
theorem ln_lifted : ∀ xs Qd, dsp_lifted xs Qd → xs.length = 4 := fun xs Qd h => by obtain ⟨a, b, c, d, rfl, _⟩ := h; rfl
theorem ok_lifted {k : Nat} (T : Txt K mg) : FnOk P w K mg base CX0 (k + 3) T.f_lifted T.fd_lifted ["n", "d", "p", "e"] (spD dsp_lifted) := by
  have G_in_order : FnOk P w K mg base CX0 2 T.f_in_order T.fd_in_order ["n", "d", "numbers"] (spD dsp_in_order) := ok_in_order T
  have G_numbered : FnOk P w K mg base CX0 2 T.f_numbered T.fd_numbered ["n", "d", "p"] (spD dsp_numbered) := ok_numbered T
  refine T.F_lifted.ok sc_lifted (fun vs H Q E h => spD_len ln_lifted h) (fun cdv A outer s H vs Q E hr h => ?_)
  have hu := hu_of hr
  refine ⟨_, (pss_one (ps_ret (pe_call G_in_order (hr.mono (by omega)) (by rfl) T.g_in_order T.F_in_order.kp T.b_in_order .nil pass0 (pa_cons (pv 0) (pa_cons (pv 3) (pa_cons (pe_lk (pe_call G_numbered (hr.mono (by omega)) (by rfl) T.g_numbered T.F_numbered.kp T.b_numbered .nil pass0 (pa_cons (pv 0) (pa_cons (pv 1) (pa_cons (pv 2) pa_nil))))) pa_nil)))))), ?_⟩
  refine DS.run ((ds_ret (de_fn (da_cons (de_var 0) (da_cons (de_var 3) (da_cons (de_lk (de_fn (da_cons (de_var 0) (da_cons (de_var 1) (da_cons (de_var 2) da_nil))))) da_nil)))))) h (by rw [spD_len ln_lifted h]; decide) fun xs Qd h => ?_
  obtain ⟨n, d, e, p, rfl, hn, d4, e4, lp, q⟩ := h
  exact ⟨n, d, p, rfl, by omega, by omega, by omega, by omega, n, e, numb n d p, rfl, by omega, by omega, by omega, q⟩
def dsp_added : DSp := fun xs Q => ∃ (p r : List Int), xs = [.d (ti p), .d (ti r)] ∧ p.length ≤ 1000 ∧ Q (.d (ti ((p.zip r).map fun y => y.1 + y.2)))
theorem ln_added : ∀ xs Qd, dsp_added xs Qd → xs.length = 2 := fun xs Qd h => by obtain ⟨a, b, rfl, _⟩ := h; rfl
theorem ok_added {k : Nat} (T : Txt K mg) : FnOk P w K mg base CX0 (k + 1) T.f_added T.fd_added ["p", "other"] (spD dsp_added) := by
  refine T.F_added.ok sc_added (fun vs H Q E h => spD_len ln_added h) (fun cdv A outer s H vs Q E hr h => ?_)
  have hu := hu_of hr
  refine ⟨_, (pss_one (ps_ret (pe_callTy (call_tupleK (K := K)) (by rfl) T.z_tuple bt_tuple (pa_cons (pe_lc (own := [("one", 2), ("two", 3)]) (g := L2.gTup K 2 (gCons (gName 2) (gCons (gName 3) gNil))) (tt := tYes) rfl sc_added.nd (pi_zipU (K := K) (by rfl) T.z_zip (pa_cons (pv 0) (pa_cons (pv 1) pa_nil))) (blkOk_by (own := [("one", 2), ("two", 3)]) (N := nm_added) (sc := defScope st_added) (by decide +kernel)) (fun _ _ _ _ _ => (pg_tupK (K := K) rfl (pgs_cons (pg_name (i := 2) sc_added.nd rfl (Or.inl rfl)) (pgs_cons (pg_name (i := 3) sc_added.nd rfl (Or.inl rfl)) pgs_nil)))) (fun _ _ _ _ _ => pts_nil) (fun _ _ _ _ _ => (pe_op (op_addU (K := K)) (pv 2) (pv 3)))) pa_nil)))), ?_⟩
  refine DS.run ((ds_ret (de_cb (dc_1 (d1_tuple (K := K))) (da_cons (de_lc (di_zip (K := K) (da_cons (de_var 0) (da_cons (de_var 1) da_nil))) (dg_tup2 (K := K) (dg_name 2) (dg_name 3)) db_yes (de_op (d2_add (K := K)) (de_var 2) (de_var 3))) da_nil)))) h (by rw [spD_len ln_added h]; decide) fun xs Qd h => ?_
  obtain ⟨p, r, rfl, lp, q⟩ := h
  show _ ∧ _
  rw [zipD_map]
  refine ⟨by rw [List.length_map, List.length_zip]; omega, fun i z => ∃ y, (p.zip r)[i]? = some y ∧ z = some (.int (y.1 + y.2)), fun i y hi => ?_, fun zs h1 h2 => ?_⟩
  · obtain ⟨y, hy, rfl⟩ := map_get hi
    exact ⟨Wk.refl _, y, hy, rfl⟩
  · rw [List.length_map] at h1
    have e : (p.zip r).map (fun y => PyData.int (y.1 + y.2)) = ((p.zip r).map fun y => y.1 + y.2).map PyData.int := by rw [List.map_map]; rfl
    rw [comp_map (f := fun y : Int × Int => PyData.int (y.1 + y.2)) h1 h2, e]
    exact q
def dsp_scaled : DSp := fun xs Q => ∃ (p : List Int) (k : Int), xs = [.d (ti p), .d (.int k)] ∧ p.length ≤ 1000 ∧ (∀ y ∈ p, y.natAbs ≤ 1000000) ∧ k.natAbs ≤ 1000000 ∧ Q (.d (ti (p.map fun y => k * y)))
theorem ln_scaled : ∀ xs Qd, dsp_scaled xs Qd → xs.length = 2 := fun xs Qd h => by obtain ⟨a, b, rfl, _⟩ := h; rfl
theorem ok_scaled {k : Nat} (T : Txt K mg) : FnOk P w K mg base CX0 (k + 1) T.f_scaled T.fd_scaled ["p", "k"] (spD dsp_scaled) := by
  refine T.F_scaled.ok sc_scaled (fun vs H Q E h => spD_len ln_scaled h) (fun cdv A outer s H vs Q E hr h => ?_)
  have hu := hu_of hr
  refine ⟨_, (pss_one (ps_ret (pe_callTy (call_tupleK (K := K)) (by rfl) T.z_tuple bt_tuple (pa_cons (pe_lc (own := [("number", 2)]) (g := gName 2) (tt := tYes) rfl sc_scaled.nd (pi_seqU (K := K) (pv 0)) (blkOk_by (own := [("number", 2)]) (N := nm_scaled) (sc := defScope st_scaled) (by decide +kernel)) (fun _ _ _ _ _ => (pg_name (i := 2) sc_scaled.nd rfl (Or.inl rfl))) (fun _ _ _ _ _ => pts_nil) (fun _ _ _ _ _ => (pe_op (op_mulU (K := K)) (pv 1) (pv 2)))) pa_nil)))), ?_⟩
  refine DS.run ((ds_ret (de_cb (dc_1 (d1_tuple (K := K))) (da_cons (de_lc (di_seq (K := K) (de_var 0)) (dg_name 2) db_yes (de_op (d2_mul (K := K)) (de_var 1) (de_var 2))) da_nil)))) h (by rw [spD_len ln_scaled h]; decide) fun xs Qd h => ?_
  obtain ⟨p, k, rfl, lp, hp, hk, q⟩ := h
  refine ⟨by rw [List.length_map]; omega, fun i z => ∃ y, p[i]? = some y ∧ z = some (.int (k * y)), fun i y hi => ?_, fun zs h1 h2 => ?_⟩
  · obtain ⟨y, hy, rfl⟩ := map_get hi
    have := hp y (List.mem_of_getElem? hy)
    exact ⟨mul9 (by omega) (by omega), Wk.refl _, y, hy, rfl⟩
  · rw [List.length_map] at h1
    have e : p.map (fun y => PyData.int (k * y)) = (p.map fun y => k * y).map PyData.int := by rw [List.map_map]; rfl
    rw [comp_map (f := fun y : Int => PyData.int (k * y)) h1 h2, e]
    exact q
def dsp_multiplied : DSp := fun xs Q => ∃ (n d e : Nat) (p r : List Int), xs = [.d (.int (n : Int)), .d (.int (d : Int)), .d (ti p), .d (.int (e : Int)), .d (ti r)] ∧ n ≤ 3 ∧ d + e ≤ 4 ∧ p.length ≤ 100 ∧ r.length ≤ 100 ∧ N1 (pz n d p) < 2 ^ 800 ∧ N1 (pz n e r) < 2 ^ 800 ∧ Q (.d (ti (ord n (d + e : Nat) (mulP (numb n d p) (numb n e r)))))
theorem ln_multiplied : ∀ xs Qd, dsp_multiplied xs Qd → xs.length = 5 := fun xs Qd h => by obtain ⟨a, b, c, d, e, rfl, _⟩ := h; rfl
theorem ok_multiplied {k : Nat} (T : Txt K mg) : FnOk P w K mg base CX0 (k + 3) T.f_multiplied T.fd_multiplied ["n", "d", "p", "e", "other"] (spD dsp_multiplied) := by
  have G_in_order : FnOk P w K mg base CX0 2 T.f_in_order T.fd_in_order ["n", "d", "numbers"] (spD dsp_in_order) := ok_in_order T
  have G_numbers_multiplied : FnOk P w K mg base CX0 1 T.f_numbers_multiplied T.fd_numbers_multiplied ["one", "other"] (spD dsp_numbers_multiplied) := ok_numbers_multiplied T
  have G_numbered : FnOk P w K mg base CX0 2 T.f_numbered T.fd_numbered ["n", "d", "p"] (spD dsp_numbered) := ok_numbered T
  refine T.F_multiplied.ok sc_multiplied (fun vs H Q E h => spD_len ln_multiplied h) (fun cdv A outer s H vs Q E hr h => ?_)
  have hu := hu_of hr
  refine ⟨_, (pss_one (ps_ret (pe_call G_in_order (hr.mono (by omega)) (by rfl) T.g_in_order T.F_in_order.kp T.b_in_order .nil pass0 (pa_cons (pv 0) (pa_cons (pe_op (op_addU (K := K)) (pv 1) (pv 3)) (pa_cons (pe_lk (pe_call G_numbers_multiplied (hr.mono (by omega)) (by rfl) T.g_numbers_multiplied T.F_numbers_multiplied.kp T.b_numbers_multiplied .nil pass0 (pa_cons (pe_lk (pe_call G_numbered (hr.mono (by omega)) (by rfl) T.g_numbered T.F_numbered.kp T.b_numbered .nil pass0 (pa_cons (pv 0) (pa_cons (pv 1) (pa_cons (pv 2) pa_nil))))) (pa_cons (pe_lk (pe_call G_numbered (hr.mono (by omega)) (by rfl) T.g_numbered T.F_numbered.kp T.b_numbered .nil pass0 (pa_cons (pv 0) (pa_cons (pv 3) (pa_cons (pv 4) pa_nil))))) pa_nil)))) pa_nil)))))), ?_⟩
  refine DS.run ((ds_ret (de_fn (da_cons (de_var 0) (da_cons (de_op (d2_add (K := K)) (de_var 1) (de_var 3)) (da_cons (de_lk (de_fn (da_cons (de_lk (de_fn (da_cons (de_var 0) (da_cons (de_var 1) (da_cons (de_var 2) da_nil))))) (da_cons (de_lk (de_fn (da_cons (de_var 0) (da_cons (de_var 3) (da_cons (de_var 4) da_nil))))) da_nil)))) da_nil)))))) h (by rw [spD_len ln_multiplied h]; decide) fun xs Qd h => ?_
  obtain ⟨n, d, e, p, r, rfl, hn, de, lp, lr, hp, hr2, q⟩ := h
  have l1 := len_numb n d p
  have l2 := len_numb n e r
  have k8 : 2 ^ 800 < 2 ^ 1000 := Nat.pow_lt_pow_right (by decide) (by decide)
  refine ⟨n, d, p, rfl, by omega, by omega, by omega, by omega, n, e, r, rfl, by omega, by omega, by omega, by omega, numb n d p, numb n e r, rfl, ?_, fun t ht => ?_, Nat.lt_trans (Nat.lt_of_le_of_lt (N1_filter _ _) hp) k8, Nat.lt_trans (Nat.lt_of_le_of_lt (N1_filter _ _) hr2) k8, n, ((d + e : Nat) : Int), mulP (numb n d p) (numb n e r), by rw [show (d : Int) + (e : Int) = ((d + e : Nat) : Int) by omega], by omega, by omega, by omega, q⟩
  · have := Nat.mul_le_mul (Nat.le_trans l1 lp) (Nat.le_trans l2 lr)
    omega
  · rw [(numb_ks (by omega : (0 : Int) ≤ (d : Int)) p t.1 (List.mem_map_of_mem ht)).1]; omega

/-! ### k04: the law's defs -/
def dsp__law_sizes : DSp := fun xs Q => xs = [.dl] ∧ ∀ n d : Nat, n ≤ 3 → 1 ≤ d → d ≤ 4 → Q (.d (.tuple [.int (n : Int), .int (d : Int)]))
theorem ln__law_sizes : ∀ xs Qd, dsp__law_sizes xs Qd → xs.length = 1 := fun xs Qd h => by rw [h.1]; rfl
theorem ok__law_sizes {k : Nat} (T : Txt K mg) : FnOk P w K mg base CX0 (k + 2) T.f__law_sizes T.fd__law_sizes ["_law_deal_here"] (spD dsp__law_sizes) := by
  have G__law_draw : FnOk P w K mg base CX0 1 T.f__law_draw T.fd__law_draw ["_law_deal_here", "_law_many"] (spD dsp__law_draw) := ok__law_draw T
  refine T.F__law_sizes.ok sc__law_sizes (fun vs H Q E h => spD_len ln__law_sizes h) (fun cdv A outer s H vs Q E hr h => ?_)
  have hu := hu_of hr
  refine ⟨_, (pss_cons (ps_set (i := 1) sc__law_sizes.nd rfl (Or.inl rfl) (pe_call G__law_draw (hr.mono (by omega)) (by rfl) T.g__law_draw T.F__law_draw.kp T.b__law_draw .nil pass0 (pa_cons (pv 0) (pa_cons pe_int pa_nil))))
      (pss_one (ps_ret (pe_tup (pa_cons (pv 1) (pa_cons (pe_op (op_addU (K := K)) pe_int (pe_call G__law_draw (hr.mono (by omega)) (by rfl) T.g__law_draw T.F__law_draw.kp T.b__law_draw .nil pass0 (pa_cons (pv 0) (pa_cons (pe_ix (ix_seqK (K := K)) (pe_lst (pa_cons pe_int (pa_cons pe_int (pa_cons pe_int (pa_cons pe_int pa_nil))))) (pv 1) (fun _ _ => rfl)) pa_nil)))) pa_nil)))))), ?_⟩
  refine DS.run ((ds_seq (ds_set 1 (de_fn (da_cons (de_var 0) (da_cons de_int da_nil))))
      (ds_ret (de_tup (da_cons (de_var 1) (da_cons (de_op (d2_add (K := K)) de_int (de_fn (da_cons (de_var 0) (da_cons (de_op (d2_ix (K := K)) (de_lst (da_cons de_int (da_cons de_int (da_cons de_int (da_cons de_int da_nil))))) (de_var 1)) da_nil)))) da_nil)))))) h (by rw [spD_len ln__law_sizes h]; decide) fun xs Qd h => ?_
  obtain ⟨rfl, q⟩ := h
  refine ⟨4, rfl, ⟨by decide, by decide⟩, fun r r0 r1 => ?_⟩
  obtain ⟨z, ez, hz⟩ := at_any (xs := [PyData.int 4, .int 4, .int 4, .int 3]) r0 r1
  obtain ⟨v, rfl, v1, v4⟩ : ∃ v : Int, z = .int v ∧ 1 ≤ v ∧ v ≤ 4 := by
    simp only [List.mem_cons, List.not_mem_nil, or_false] at hz
    rcases hz with rfl | rfl | rfl | rfl <;> exact ⟨_, rfl, by decide, by decide⟩
  refine ⟨_, ez, v, rfl, ⟨by omega, by omega⟩, fun s s0 s1 => ?_⟩
  have := q r.toNat (1 + s).toNat (by omega) (by omega) (by omega)
  rw [Int.toNat_of_nonneg r0, Int.toNat_of_nonneg (by omega)] at this
  exact this
theorem max_of (i j : Int) : (if j > i then j else i) = max i j := by
  by_cases h : j > i
  · rw [if_pos h, Int.max_eq_right (by omega)]
  · rw [if_neg h, Int.max_eq_left (by omega)]
def nzs (L : Pl) : List Int := (L.filter fun q => decide (q.2 ≠ 0)).map fun q => q.1.sum
theorem nzs_take {L : Pl} {i : Nat} {k : List Int} {c : Int} (h : L[i]? = some (k, c)) : nzs (L.take (i + 1)) = nzs (L.take i) ++ if c = 0 then [] else [k.sum] := by
  unfold nzs
  rw [List.take_add_one, h, List.filter_append, List.map_append]
  show _ ++ (List.filter _ [(k, c)]).map _ = _
  by_cases e : c = 0
  · rw [if_pos e, List.filter_cons, if_neg (by show ¬ decide (c ≠ 0) = true; rw [decide_eq_true_iff]; exact fun z => z e)]; rfl
  · rw [if_neg e, List.filter_cons, if_pos (by show decide (c ≠ 0) = true; rw [decide_eq_true_iff]; exact e)]; rfl
theorem mx_fold {ns : List Int} (h : ∀ y ∈ ns, 0 ≤ y) : ns.foldl max (-1) = mxD (-1) ns := by
  cases ns with
  | nil => rfl
  | cons n r =>
    have := h n List.mem_cons_self
    show r.foldl max (max (-1) n) = r.foldl max n
    rw [Int.max_eq_right (by omega)]
def dsp__law_greatest : DSp := fun xs Q => ∃ (n d : Nat) (p : List Int), xs = [.d (.int (n : Int)), .d (.int (d : Int)), .d (ti p)] ∧ n ≤ 3 ∧ d ≤ 4 ∧ Q (.d (.int (deg n d p)))
theorem ln__law_greatest : ∀ xs Qd, dsp__law_greatest xs Qd → xs.length = 3 := fun xs Qd h => by obtain ⟨a, b, c, rfl, _⟩ := h; rfl
theorem ok__law_greatest {k : Nat} (T : Txt K mg) : FnOk P w K mg base CX0 (k + 2) T.f__law_greatest T.fd__law_greatest ["_law_n", "_law_d", "_law_p"] (spD dsp__law_greatest) := by
  have G__law_products : FnOk P w K mg base CX0 1 T.f__law_products T.fd__law_products ["_law_n", "_law_d"] (spD dsp__law_products) := ok__law_products T
  refine T.F__law_greatest.ok sc__law_greatest (fun vs H Q E h => spD_len ln__law_greatest h) (fun cdv A outer s H vs Q E hr h => ?_)
  have hu := hu_of hr
  refine ⟨_, (pss_cons (ps_set (i := 3) sc__law_greatest.nd rfl (Or.inl rfl) (pe_un un_neg pe_int))
      (pss_cons (ps_for PassesOwn.never rfl (pi_zipU (K := K) (by rfl) T.z_zip (pa_cons (pv 2) (pa_cons (pe_call G__law_products (hr.mono (by omega)) (by rfl) T.g__law_products T.F__law_products.kp T.b__law_products .nil pass0 (pa_cons (pv 0) (pa_cons (pv 1) pa_nil))) pa_nil))) (pg_tupK (K := K) rfl (pgs_cons (pg_name (i := 4) sc__law_greatest.nd rfl (Or.inl rfl)) (pgs_cons (pg_name (i := 5) sc__law_greatest.nd rfl (Or.inl rfl)) pgs_nil)))
        (pss_one (ps_if (pt_cmpR (op_neU (K := K) hr.units) (pv 4) pe_int (nomark _)) (pss_one (ps_set (i := 3) sc__law_greatest.nd rfl (Or.inl rfl) (pe_callB (call_max2 rfl) (by rfl) T.z_max bt_max (pa_cons (pv 3) (pa_cons (pe_callB (cr_sumU (K := K) rfl) (by rfl) T.z_sum bt_sum (pa_cons (pv 5) pa_nil)) pa_nil))))) pss_nil)))
      (pss_one (ps_ret (pv 3))))), ?_⟩
  refine DS.run ((ds_seq (ds_set 3 (de_un d1_neg de_int))
      (ds_seq (ds_for (di_zip (K := K) (da_cons (de_var 2) (da_cons (de_fn (da_cons (de_var 0) (da_cons (de_var 1) da_nil))) da_nil))) (dg_tup2 (K := K) (dg_name 4) (dg_name 5))
        (ds_if (db_test (de_op (d2_ne (K := K)) (de_var 4) de_int)) (ds_set 3 (de_cb dc_I2 (da_cons (de_var 3) (da_cons (de_cb (dc_1 (d1_sum (K := K))) (da_cons (de_var 5) da_nil)) da_nil)))) ds_next))
      (ds_ret (de_var 3))))) h (by rw [spD_len ln__law_greatest h]; decide) fun xs Qd h => ?_
  obtain ⟨n, d, p, rfl, hn, d4, q⟩ := h
  have d0 : (0 : Int) ≤ (d : Int) := by omega
  refine ⟨n, d, rfl, by omega, d0, by omega, ?_⟩
  show ∃ _, _
  rw [zipD_map]
  refine ⟨fun i ρ μ => ∃ s : Int, ρ = [none, none, none, some (.d (.int s)), none, none] ∧ μ = [] ∧ s = (nzs ((pz n d p).take i)).foldl max (-1), ?_, fun i y ρ μ hi e => ?_, fun ρ μ e => ?_⟩
  · exact ⟨[], _, _, ⟨(by repeat (first | exact WkM.nil | refine WkM.cons rfl (by first | exact Or.inl rfl | exact Or.inr (Or.inr ⟨_, rfl, rfl⟩) | exact Or.inr (Or.inl rfl)) ?_)), (by repeat (first | exact WkR.nil | refine WkR.ref rfl ?_ | refine WkR.same trivial ?_ | refine WkR.none ?_)), (by decide)⟩, -1, rfl, rfl, rfl⟩
  · obtain ⟨s, rfl, rfl, hs⟩ := e
    obtain ⟨y, hy, rfl⟩ := map_get hi
    obtain ⟨c, k⟩ := y
    obtain ⟨hc, hk⟩ := List.getElem?_zip_eq_some.mp hy
    replace hc : p[i]? = some c := hc
    replace hk : (prods n d)[i]? = some k := hk
    have hz : (pz n d p)[i]? = some (k, c) := List.getElem?_zip_eq_some.mpr ⟨hk, hc⟩
    have st := nzs_take hz
    refine ifb (fun e => ?_) (fun e => ?_)
    · refine ⟨k, rfl, [], _, _, ⟨(by repeat (first | exact WkM.nil | refine WkM.cons rfl (by first | exact Or.inl rfl | exact Or.inr (Or.inr ⟨_, rfl, rfl⟩) | exact Or.inr (Or.inl rfl)) ?_)), (by repeat (first | exact WkR.nil | refine WkR.ref rfl ?_ | refine WkR.same trivial ?_ | refine WkR.none ?_)), (by decide)⟩, _, rfl, rfl, ?_⟩
      rw [st, if_neg (neT e), List.foldl_append, hs]
      exact max_of _ _
    · refine ⟨[], _, _, ⟨(by repeat (first | exact WkM.nil | refine WkM.cons rfl (by first | exact Or.inl rfl | exact Or.inr (Or.inr ⟨_, rfl, rfl⟩) | exact Or.inr (Or.inl rfl)) ?_)), (by repeat (first | exact WkR.nil | refine WkR.ref rfl ?_ | refine WkR.same trivial ?_ | refine WkR.none ?_)), (by decide)⟩, _, rfl, rfl, ?_⟩
      rw [st, if_pos (neF e), List.append_nil, hs]
  · obtain ⟨s, rfl, rfl, hs⟩ := e
    have e1 : (pz n d p).take ((p.zip (prods n d)).map fun q => PyData.tuple [.int q.1, ti q.2]).length = pz n d p := List.take_of_length_le (by unfold pz; rw [List.length_map, List.length_zip, List.length_zip]; omega)
    rw [e1, mx_fold (fun y hy => by
      obtain ⟨t, ht, rfl⟩ := List.mem_map.mp hy
      exact (prods_ok d0 (pz_key (List.mem_map_of_mem (f := Prod.fst) (List.mem_filter.mp ht).1))).2.1)] at hs
    rw [hs]
    exact q
def dsp__law_is_poly : DSp := fun xs Q => ∃ (p : List Int) (m : Nat), xs = [.d (ti p), .d (.int (m : Int))] ∧ p.length = m ∧ m ≤ 1000 ∧ Q (.d (.bool true))
theorem ln__law_is_poly : ∀ xs Qd, dsp__law_is_poly xs Qd → xs.length = 2 := fun xs Qd h => by obtain ⟨a, b, rfl, _⟩ := h; rfl
theorem ok__law_is_poly {k : Nat} (T : Txt K mg) : FnOk P w K mg base CX0 (k + 1) T.f__law_is_poly T.fd__law_is_poly ["_law_found", "_law_many"] (spD dsp__law_is_poly) := by
  refine T.F__law_is_poly.ok sc__law_is_poly (fun vs H Q E h => spD_len ln__law_is_poly h) (fun cdv A outer s H vs Q E hr h => ?_)
  have hu := hu_of hr
  refine ⟨_, (pss_cons (ps_if (PW.pt (pw_or (pt_not (pt_tru (K := K) (pe_callB (call_isiK' (K := K)) (by rfl) T.z_isinstance bt_isinstance (pa_cons (pv 0) (pa_cons (pe_bltn (v := .ty "tuple") (by rfl) T.z_tuple (by decide +kernel) rfl) pa_nil))))) (pw_or1 (pt_cmpR (op_neU (K := K) hr.units) (pe_callB (call_lenU (K := K)) (by rfl) T.z_len bt_len (pa_cons (pv 0) pa_nil)) (pv 1) (nomark _))))) (pss_one (ps_ret pe_bl)) pss_nil)
      (pss_one (ps_ret (pe_callB (cr_allK (K := K) rfl) (by rfl) T.z_all bt_all (pa_cons (pe_lc (own := [("_law_number", 2)]) (g := gName 2) (tt := tYes) rfl sc__law_is_poly.nd (pi_seqU (K := K) (pv 0)) (blkOk_by (own := [("_law_number", 2)]) (N := nm__law_is_poly) (sc := defScope st__law_is_poly) (by decide +kernel)) (fun _ _ _ _ _ => (pg_name (i := 2) sc__law_is_poly.nd rfl (Or.inl rfl))) (fun _ _ _ _ _ => pts_nil) (fun _ _ _ _ _ => (pe_and (pe_callB (call_isiK' (K := K)) (by rfl) T.z_isinstance bt_isinstance (pa_cons (pv 2) (pa_cons (pe_bltn (v := .ty "int") (by rfl) T.z_int (by decide +kernel) rfl) pa_nil))) (pe_one (pe_not (pe_callB (call_isiK' (K := K)) (by rfl) T.z_isinstance bt_isinstance (pa_cons (pv 2) (pa_cons (pe_bltn (v := .ty "bool") (by rfl) T.z_bool (by decide +kernel) rfl) pa_nil)))))))) pa_nil))))), ?_⟩
  refine DS.run ((ds_seq (ds_if (db_or (db_not (db_tru (K := K) (de_isi (K := K) (by decide) (de_var 0)))) (db_test (de_op (d2_ne (K := K)) (de_cb (dc_1 (d1_len (K := K))) (da_cons (de_var 0) da_nil)) (de_var 1)))) (ds_ret de_bl) ds_next)
      (ds_ret (de_cb (dc_1 (d1_all (K := K))) (da_cons (de_lc (di_seq (K := K) (de_var 0)) (dg_name 2) db_yes (de_and (de_isi (K := K) (by decide) (de_var 2)) (de_not (de_isi (K := K) (by decide) (de_var 2))))) da_nil))))) h (by rw [spD_len ln__law_is_poly h]; decide) fun xs Qd h => ?_
  obtain ⟨p, m, rfl, lp, hm, q⟩ := h
  refine or2 (c1 := (!(isiD "tuple" (ti p))) = true) (c2 := (true ^^ decide (((p.map PyData.int).length : Int) = (m : Int))) = true) (fun e => ?_) (fun _ _ => ?_)
  · rcases e with e | e
    · cases e
    · exact absurd (by rw [List.length_map, lp]) (neT e)
  refine ⟨by rw [List.length_map]; omega, fun _ z => ∃ u : Unit, z = some (PyData.bool true) ∧ True, fun i y hi => ?_, fun zs h1 h2 => ?_⟩
  · obtain ⟨v, hv, rfl⟩ := map_get hi
    exact ⟨Wk.refl _, (), rfl, trivial⟩
  obtain ⟨us, e1, _, _⟩ := comp_ex (f := fun _ : Unit => PyData.bool true) (P := fun _ => True) h1 h2
  rw [e1]
  refine ⟨us.map fun _ => true, by rw [List.map_map]; rfl, ?_⟩
  have ea : (us.map fun _ => true).all id = true := List.all_eq_true.mpr fun x hx => by obtain ⟨_, _, rfl⟩ := List.mem_map.mp hx; rfl
  rw [ea]
  exact q
theorem zip_pe (P : List (List Int)) (p : List Int) : zipD (P.map ti) (p.map PyData.int) = (pe (P.zip p)).map DL.pairD := by
  rw [zipD_map]
  unfold pe
  rw [List.map_map]
  refine List.map_congr_left fun q _ => ?_
  show _ = PyData.tuple [kt (ky q.1), .int q.2]
  rw [kt_ky]
theorem merge_pz (n d : Nat) (p : List Int) : mergeD [] (pe (pz n d p)) = pe (pz n d p) := by
  have := merge_pe (L := []) (M := pz n d p) (by rw [List.nil_append]; exact pz_nodup n d p)
  rw [List.nil_append] at this
  exact this
theorem ord_sml {n e d : Nat} {p : List Int} (hp : ∀ y ∈ p, y.natAbs ≤ 1000000) : ∀ x ∈ ord n e (pz n d p), Sml x := fun x hx => by
  obtain ⟨k, _, rfl⟩ := List.mem_map.mp hx
  have : ∀ (P : List (List Int)) (p : List Int), (∀ y ∈ p, y.natAbs ≤ 1000000) → (cf (P.zip p) k).natAbs ≤ 1000000 := fun P => by
    induction P with
    | nil => intro p _; rw [List.zip_nil_left]; exact Nat.zero_le _
    | cons j P ih =>
      intro p hp
      cases p with
      | nil => rw [List.zip_nil_right]; exact Nat.zero_le _
      | cons c p =>
        show (if j = k then c else cf (P.zip p) k).natAbs ≤ _
        split
        · exact hp c List.mem_cons_self
        · exact ih p (fun y hy => hp y (List.mem_cons_of_mem _ hy))
  have h := this (prods n d) p hp
  exact sml_of (Nat.lt_of_le_of_lt h (Nat.lt_of_lt_of_le (by decide : 1000000 < 2 ^ 20) (Nat.pow_le_pow_right (by decide) (by decide))))
def dsp__law_one_right : DSp := fun xs Q => ∃ (n d e : Nat) (p : List Int) (rows : List (List Int)), xs = [.d (.int (n : Int)), .d (.int (d : Int)), .d (ti p), .d (.int (e : Int)), .d (.list (rows.map ti))] ∧ n ≤ 3 ∧ d ≤ 4 ∧ d ≤ e ∧ e ≤ 4 ∧ p.length = (prods n d).length ∧ (∀ y ∈ p, y.natAbs ≤ 1000000) ∧ rows.length ≤ 100 ∧ (∀ x ∈ rows, x.length = n ∧ ∀ y ∈ x, y.natAbs ≤ 1000) ∧ Q (.d (.bool true))
theorem ln__law_one_right : ∀ xs Qd, dsp__law_one_right xs Qd → xs.length = 5 := fun xs Qd h => by obtain ⟨a, b, c, d, e, rfl, _⟩ := h; rfl
theorem pz_small {n d : Nat} {p : List Int} (hn : n ≤ 3) (d4 : d ≤ 4) (lp : p.length = (prods n d).length) (hp : ∀ y ∈ p, y.natAbs ≤ 1000000) : N1 (pz n d p) ≤ 35 * 1000000 := by
  have h := N1_zip (B := 1000000) (prods n d) p hp
  have h2 := prods35 hn d4
  exact Nat.le_trans h (Nat.mul_le_mul_right 1000000 (by omega))
theorem lt800 {N : Nat} (h : N ≤ 35 * 1000000) : N < 2 ^ 800 := Nat.lt_of_le_of_lt h (Nat.lt_of_lt_of_le (by decide : 35 * 1000000 < 2 ^ 40) (Nat.pow_le_pow_right (by decide) (by decide)))
theorem W_sml {n d : Nat} {p x : List Int} (hn : n ≤ 3) (d4 : d ≤ 4) (lp : p.length = (prods n d).length) (hp : ∀ y ∈ p, y.natAbs ≤ 1000000) (hx : ∀ y ∈ x, y.natAbs ≤ 1000) : (W x (pz n d p)).natAbs ≤ 35 * 1000000 * 1000 ^ 4 := by
  have h := W_bnd (B := 1000) (a := d) (n := n) (by decide) hx (pz_ks (by omega : (0 : Int) ≤ (d : Int)) p) (fun k hk => (pz_po (d := d) p).2.2 k hk)
  exact Nat.le_trans h (Nat.mul_le_mul (pz_small hn d4 lp hp) (Nat.pow_le_pow_right (by decide) d4))
theorem ok__law_one_right {k : Nat} (T : Txt K mg) : FnG P w K mg base (k + 4) T.f__law_one_right T.fd__law_one_right ["_law_n", "_law_d", "_law_p", "_law_e", "_law_rows"] (spD dsp__law_one_right) := by
  have G_lifted : FnOk P w K mg base CX0 3 T.f_lifted T.fd_lifted ["n", "d", "p", "e"] (spD dsp_lifted) := ok_lifted T
  have G_degree : FnOk P w K mg base CX0 3 T.f_degree T.fd_degree ["n", "d", "p"] (spD dsp_degree) := ok_degree T
  have G__law_greatest : FnOk P w K mg base CX0 2 T.f__law_greatest T.fd__law_greatest ["_law_n", "_law_d", "_law_p"] (spD dsp__law_greatest) := ok__law_greatest T
  have G__law_products : FnOk P w K mg base CX0 1 T.f__law_products T.fd__law_products ["_law_n", "_law_d"] (spD dsp__law_products) := ok__law_products T
  have G_worth : FnOk P w K mg base CX0 2 T.f_worth T.fd_worth ["n", "d", "p", "boxes"] (spD dsp_worth) := ok_worth T
  have G__law_worth : FnOk P w K mg base CX0 2 T.f__law_worth T.fd__law_worth ["_law_n", "_law_d", "_law_p", "_law_boxes_here"] (spD dsp__law_worth) := ok__law_worth T
  refine okG T.F__law_one_right sc__law_one_right (fun vs H Q E h => spD_len ln__law_one_right h) (fun cdv A outer s H vs Q E hgd hr h => ?_)
  have hu66 : (A.deeper (envOfC "_law_one_right" (defScope st__law_one_right) s.heap.objs.size T.f__law_one_right cdv)).units + 66 < cLine := by have := hr.un; omega
  have hu := hu_of hr
  refine ⟨_, (pss_cons (ps_for PassesOwn.never rfl (pi_seqU (K := K) (pv 4)) (pg_name (i := 5) sc__law_one_right.nd rfl (Or.inl rfl))
        (pss_one (ps_if (pt_cmpR (op_neU (K := K) hr.units) (pe_callB (call_reprU (K := K) hgd hu66) (by rfl) T.z_repr bt_repr (pa_cons (pe_call G_worth (hr.mono (by omega)) (by rfl) T.g_worth T.F_worth.kp T.b_worth .nil pass0 (pa_cons (pv 0) (pa_cons (pv 1) (pa_cons (pv 2) (pa_cons (pv 5) pa_nil))))) pa_nil)) (pe_callB (call_reprU (K := K) hgd hu66) (by rfl) T.z_repr bt_repr (pa_cons (pe_call G__law_worth (hr.mono (by omega)) (by rfl) T.g__law_worth T.F__law_worth.kp T.b__law_worth .nil pass0 (pa_cons (pv 0) (pa_cons (pv 1) (pa_cons (pv 2) (pa_cons (pv 5) pa_nil))))) pa_nil)) (nomark _)) (pss_one (ps_ret pe_bl)) pss_nil)))
      (pss_cons (ps_if (pt_cmpR (op_neU (K := K) hr.units) (pe_callB (call_reprU (K := K) hgd hu66) (by rfl) T.z_repr bt_repr (pa_cons (pe_call G_degree (hr.mono (by omega)) (by rfl) T.g_degree T.F_degree.kp T.b_degree .nil pass0 (pa_cons (pv 0) (pa_cons (pv 1) (pa_cons (pv 2) pa_nil)))) pa_nil)) (pe_callB (call_reprU (K := K) hgd hu66) (by rfl) T.z_repr bt_repr (pa_cons (pe_call G__law_greatest (hr.mono (by omega)) (by rfl) T.g__law_greatest T.F__law_greatest.kp T.b__law_greatest .nil pass0 (pa_cons (pv 0) (pa_cons (pv 1) (pa_cons (pv 2) pa_nil)))) pa_nil)) (nomark _)) (pss_one (ps_ret pe_bl)) pss_nil)
      (pss_cons (ps_set (i := 6) sc__law_one_right.nd rfl (Or.inl rfl) (pe_call G_lifted (hr.mono (by omega)) (by rfl) T.g_lifted T.F_lifted.kp T.b_lifted .nil pass0 (pa_cons (pv 0) (pa_cons (pv 1) (pa_cons (pv 2) (pa_cons (pv 3) pa_nil))))))
      (pss_cons (ps_set (i := 7) sc__law_one_right.nd rfl (Or.inr rfl) (pe_dictZip (K := K) (Nat.lt_of_le_of_lt (Nat.add_le_add_left (by decide : 3 ≤ 64) _) hr.units) rfl (by rfl) T.z_dict (by rfl) T.z_zip (pa_cons (pe_call G__law_products (hr.mono (by omega)) (by rfl) T.g__law_products T.F__law_products.kp T.b__law_products .nil pass0 (pa_cons (pv 0) (pa_cons (pv 1) pa_nil))) (pa_cons (pv 2) pa_nil))))
      (pss_one (ps_ret (pe_cmpR (op_eqU (K := K) hr.units) (pe_callB (call_reprU (K := K) hgd hu66) (by rfl) T.z_repr bt_repr (pa_cons (pv 6) pa_nil)) (pe_callB (call_reprU (K := K) hgd hu66) (by rfl) T.z_repr bt_repr (pa_cons (pe_callTy (call_tupleK (K := K)) (by rfl) T.z_tuple bt_tuple (pa_cons (pe_lc (own := [("_law_product", 8)]) (g := gName 8) (tt := tYes) rfl sc__law_one_right.nd (pi_seqU (K := K) (pe_call G__law_products (hr.mono (by omega)) (by rfl) T.g__law_products T.F__law_products.kp T.b__law_products .nil pass0 (pa_cons (pv 0) (pa_cons (pv 3) pa_nil)))) (blkOk_by (own := [("_law_product", 8)]) (N := nm__law_one_right) (sc := defScope st__law_one_right) (by decide +kernel)) (fun _ _ _ _ _ => (pg_name (i := 8) sc__law_one_right.nd rfl (Or.inl rfl))) (fun _ _ _ _ _ => pts_nil) (fun _ _ _ _ _ => (pe_dget2 hu (pv 7) (pv 8) pe_int ⟨rfl, rfl, rfl, rfl⟩))) pa_nil)) pa_nil)) (nomark _)))))))), ?_⟩
  refine DS.run ((ds_seq (ds_for (di_seq (K := K) (de_var 4)) (dg_name 5)
        (ds_if (db_test (de_op (d2_ne (K := K)) (de_cb (dc_1 (d1_repr (K := K))) (da_cons (de_fn (da_cons (de_var 0) (da_cons (de_var 1) (da_cons (de_var 2) (da_cons (de_var 5) da_nil))))) da_nil)) (de_cb (dc_1 (d1_repr (K := K))) (da_cons (de_fn (da_cons (de_var 0) (da_cons (de_var 1) (da_cons (de_var 2) (da_cons (de_var 5) da_nil))))) da_nil)))) (ds_ret de_bl) ds_next))
      (ds_seq (ds_if (db_test (de_op (d2_ne (K := K)) (de_cb (dc_1 (d1_repr (K := K))) (da_cons (de_fn (da_cons (de_var 0) (da_cons (de_var 1) (da_cons (de_var 2) da_nil)))) da_nil)) (de_cb (dc_1 (d1_repr (K := K))) (da_cons (de_fn (da_cons (de_var 0) (da_cons (de_var 1) (da_cons (de_var 2) da_nil)))) da_nil)))) (ds_ret de_bl) ds_next)
      (ds_seq (ds_set 6 (de_fn (da_cons (de_var 0) (da_cons (de_var 1) (da_cons (de_var 2) (da_cons (de_var 3) da_nil))))))
      (ds_seq (ds_set 7 (de_dictZip (K := K) (da_cons (de_fn (da_cons (de_var 0) (da_cons (de_var 1) da_nil))) (da_cons (de_var 2) da_nil))))
      (ds_ret (de_op (d2_eq (K := K)) (de_cb (dc_1 (d1_repr (K := K))) (da_cons (de_var 6) da_nil)) (de_cb (dc_1 (d1_repr (K := K))) (da_cons (de_cb (dc_1 (d1_tuple (K := K))) (da_cons (de_lc (di_seq (K := K) (de_fn (da_cons (de_var 0) (da_cons (de_var 3) da_nil)))) (dg_name 8) db_yes (de_dget2 (de_var 7) (de_var 8) de_int)) da_nil)) da_nil))))))))) h (by rw [spD_len ln__law_one_right h]; decide) fun xs Qd h => ?_
  obtain ⟨n, d, e, p, rows, rfl, hn, d4, de, e4, lp, hp, lr, hrows, q⟩ := h
  have d0 : (0 : Int) ≤ (d : Int) := by omega
  have pl := prods35 hn d4
  have pe5 := prods35 hn e4
  have pN := lt800 (pz_small hn d4 lp hp)
  refine ⟨fun i ρ μ => ρ = [some (.d (.int (n : Int))), some (.d (.int (d : Int))), some (.d (ti p)), some (.d (.int (e : Int))), none, none, none, none, none] ∧ μ = [], ?_, fun i y ρ μ hi e => ?_, fun ρ μ e => ?_⟩
  · exact ⟨[], _, _, ⟨(by repeat (first | exact WkM.nil | refine WkM.cons rfl (by first | exact Or.inl rfl | exact Or.inr (Or.inr ⟨_, rfl, rfl⟩) | exact Or.inr (Or.inl rfl)) ?_)), (by repeat (first | exact WkR.nil | refine WkR.ref rfl ?_ | refine WkR.same trivial ?_ | refine WkR.none ?_)), (by decide)⟩, rfl, rfl⟩
  · obtain ⟨rfl, rfl⟩ := e
    obtain ⟨x, hx, rfl⟩ := map_get hi
    obtain ⟨lx, bx⟩ := hrows x (List.mem_of_getElem? hx)
    have b20 : Bx x := fun y hy => Nat.le_trans (bx y hy) (by decide)
    have sw := sml_of (Nat.lt_of_le_of_lt (W_sml hn d4 lp hp bx) (Nat.lt_of_lt_of_le (by decide : 35 * 1000000 * 1000 ^ 4 < 2 ^ 80) (Nat.pow_le_pow_right (by decide) (by decide))))
    refine ⟨n, d, p, x, rfl, hn, d0, by omega, by omega, lx, b20, pN, sw, n, d, p, x, rfl, hn, d0, by omega, by omega, lx, b20, pN, sw, ?_⟩
    exact ifb (fun e => absurd rfl (neT e)) (fun _ => ⟨[], _, _, ⟨(by repeat (first | exact WkM.nil | refine WkM.cons rfl (by first | exact Or.inl rfl | exact Or.inr (Or.inr ⟨_, rfl, rfl⟩) | exact Or.inr (Or.inl rfl)) ?_)), (by repeat (first | exact WkR.nil | refine WkR.ref rfl ?_ | refine WkR.same trivial ?_ | refine WkR.none ?_)), (by decide)⟩, rfl, rfl⟩)
  obtain ⟨rfl, rfl⟩ := e
  have dg : (deg n d p).natAbs < 2 ^ 1900 := by
    have : deg n d p = -1 ∨ deg n d p ∈ (numb n d p).map fun q => q.1.sum := by
      unfold deg mxD
      cases (numb n d p).map fun q => q.1.sum with
      | nil => exact .inl rfl
      | cons a r =>
        refine .inr ?_
        have fm : ∀ (r : List Int) (n : Int), r.foldl max n = n ∨ r.foldl max n ∈ r := fun r => by
          induction r with
          | nil => intro n; exact .inl rfl
          | cons y r ih =>
            intro n
            rw [List.foldl_cons]
            rcases ih (max n y) with h | h
            · rw [h]
              by_cases z : n ≤ y
              · exact .inr (by rw [Int.max_eq_right z]; exact List.mem_cons_self)
              · exact .inl (Int.max_eq_left (by omega))
            · exact .inr (List.mem_cons_of_mem _ h)
        rcases fm r a with h | h
        · show r.foldl max a ∈ _
          rw [h]; exact List.mem_cons_self
        · exact List.mem_cons_of_mem _ h
    have b10 : (deg n d p).natAbs ≤ 10 := by
      rcases this with h | h
      · rw [h]; decide
      · obtain ⟨t, ht, e⟩ := List.mem_map.mp h
        obtain ⟨_, g2, g3, _⟩ := prods_ok d0 (pz_key (numb_key (List.mem_map_of_mem (f := Prod.fst) ht)))
        have e : t.1.sum = deg n d p := e
        omega
    exact Nat.lt_of_le_of_lt b10 (Nat.lt_of_lt_of_le (by decide : 10 < 2 ^ 10) (Nat.pow_le_pow_right (by decide) (by decide)))
  have ds := sml_of dg
  refine ⟨n, d, p, rfl, by omega, d0, by omega, by omega, ds, n, d, p, rfl, hn, d4, ds, ?_⟩
  refine ifb (fun e => absurd rfl (neT e)) (fun _ => ?_)
  refine ⟨n, d, e, p, rfl, hn, d4, e4, by omega, ?_⟩
  refine ⟨n, d, rfl, by omega, d0, by omega, by rw [List.length_map]; omega, pe (pz n d p), zip_pe (prods n d) p, ?_⟩
  rw [merge_pz]
  have oS : ShowOk (ti (ord n e (pz n d p))) := show_ti (ord_sml hp) (by unfold ord; rw [List.length_map]; omega)
  rw [ord_numb]
  refine ⟨oS, n, e, rfl, by omega, by omega, by omega, by rw [List.length_map]; omega, fun i z => ∃ y, (prods n e)[i]? = some y ∧ z = some (.int (cf (pz n d p) y)), fun i y hi => ?_, fun zs h1 h2 => ?_⟩
  · obtain ⟨k, hk, rfl⟩ := map_get hi
    refine ⟨pe (pz n d p), rfl, rfl, ky k, .int 0, by rw [kt_ky], rfl, Wk.refl _, k, hk, ?_⟩
    rw [val_pe]
  · rw [List.length_map] at h1
    rw [comp_map (f := fun y => PyData.int (cf (pz n d p) y)) h1 h2]
    have eo : (prods n e).map (fun y => PyData.int (cf (pz n d p) y)) = (ord n e (pz n d p)).map PyData.int := by unfold ord; rw [List.map_map]; rfl
    rw [eo]
    refine ⟨oS, ?_⟩
    show Qd (.d (.bool (false ^^ decide ((ti (ord n e (pz n d p))).shown = (ti (ord n e (pz n d p))).shown))))
    rw [decide_eq_true rfl]
    exact q

/-! ### k04: products of polynomials, and the law -/
def dsp__law_two_right : DSp := fun xs Q => ∃ (n d e : Nat) (p r : List Int) (rows : List (List Int)), xs = [.d (.int (n : Int)), .d (.int (d : Int)), .d (ti p), .d (.int (e : Int)), .d (ti r), .d (.list (rows.map ti))] ∧ n ≤ 3 ∧ d + e ≤ 4 ∧ p.length = (prods n d).length ∧ (∀ y ∈ p, y.natAbs ≤ 1000000) ∧ r.length = (prods n e).length ∧ (∀ y ∈ r, y.natAbs ≤ 1000000) ∧ rows.length ≤ 100 ∧ (∀ x ∈ rows, x.length = n ∧ ∀ y ∈ x, y.natAbs ≤ 1000) ∧ Q (.d (.bool true))
theorem ln__law_two_right : ∀ xs Qd, dsp__law_two_right xs Qd → xs.length = 6 := fun xs Qd h => by obtain ⟨a, b, c, d, e, f, rfl, _⟩ := h; rfl
theorem ok__law_two_right {k : Nat} (T : Txt K mg) : FnOk P w K mg base CX0 (k + 4) T.f__law_two_right T.fd__law_two_right ["_law_n", "_law_d", "_law_p", "_law_e", "_law_other", "_law_rows"] (spD dsp__law_two_right) := by
  have G_multiplied : FnOk P w K mg base CX0 3 T.f_multiplied T.fd_multiplied ["n", "d", "p", "e", "other"] (spD dsp_multiplied) := ok_multiplied T
  have G__law_is_poly : FnOk P w K mg base CX0 1 T.f__law_is_poly T.fd__law_is_poly ["_law_found", "_law_many"] (spD dsp__law_is_poly) := ok__law_is_poly T
  have G__law_products : FnOk P w K mg base CX0 1 T.f__law_products T.fd__law_products ["_law_n", "_law_d"] (spD dsp__law_products) := ok__law_products T
  have G_worth : FnOk P w K mg base CX0 2 T.f_worth T.fd_worth ["n", "d", "p", "boxes"] (spD dsp_worth) := ok_worth T
  have G__law_worth : FnOk P w K mg base CX0 2 T.f__law_worth T.fd__law_worth ["_law_n", "_law_d", "_law_p", "_law_boxes_here"] (spD dsp__law_worth) := ok__law_worth T
  refine T.F__law_two_right.ok sc__law_two_right (fun vs H Q E h => spD_len ln__law_two_right h) (fun cdv A outer s H vs Q E hr h => ?_)
  have hu := hu_of hr
  refine ⟨_, (pss_cons (ps_set (i := 6) sc__law_two_right.nd rfl (Or.inl rfl) (pe_call G_multiplied (hr.mono (by omega)) (by rfl) T.g_multiplied T.F_multiplied.kp T.b_multiplied .nil pass0 (pa_cons (pv 0) (pa_cons (pv 1) (pa_cons (pv 2) (pa_cons (pv 3) (pa_cons (pv 4) pa_nil)))))))
      (pss_cons (ps_if (pt_not (pt_tru (K := K) (pe_call G__law_is_poly (hr.mono (by omega)) (by rfl) T.g__law_is_poly T.F__law_is_poly.kp T.b__law_is_poly .nil pass0 (pa_cons (pv 6) (pa_cons (pe_callB (call_lenU (K := K)) (by rfl) T.z_len bt_len (pa_cons (pe_call G__law_products (hr.mono (by omega)) (by rfl) T.g__law_products T.F__law_products.kp T.b__law_products .nil pass0 (pa_cons (pv 0) (pa_cons (pe_op (op_addU (K := K)) (pv 1) (pv 3)) pa_nil))) pa_nil)) pa_nil))))) (pss_one (ps_ret pe_bl)) pss_nil)
      (pss_cons (ps_set (i := 7) sc__law_two_right.nd rfl (Or.inr rfl) pe_dnewT)
      (pss_cons (ps_for PassesOwn.never rfl (pi_zipU (K := K) (by rfl) T.z_zip (pa_cons (pe_call G__law_products (hr.mono (by omega)) (by rfl) T.g__law_products T.F__law_products.kp T.b__law_products .nil pass0 (pa_cons (pv 0) (pa_cons (pv 1) pa_nil))) (pa_cons (pv 2) pa_nil))) (pg_tupK (K := K) rfl (pgs_cons (pg_name (i := 8) sc__law_two_right.nd rfl (Or.inl rfl)) (pgs_cons (pg_name (i := 9) sc__law_two_right.nd rfl (Or.inl rfl)) pgs_nil)))
        (pss_one (ps_for PassesOwn.never rfl (pi_zipU (K := K) (by rfl) T.z_zip (pa_cons (pe_call G__law_products (hr.mono (by omega)) (by rfl) T.g__law_products T.F__law_products.kp T.b__law_products .nil pass0 (pa_cons (pv 0) (pa_cons (pv 3) pa_nil))) (pa_cons (pv 4) pa_nil))) (pg_tupK (K := K) rfl (pgs_cons (pg_name (i := 10) sc__law_two_right.nd rfl (Or.inl rfl)) (pgs_cons (pg_name (i := 11) sc__law_two_right.nd rfl (Or.inl rfl)) pgs_nil)))
          (pss_cons (ps_set (i := 12) sc__law_two_right.nd rfl (Or.inl rfl) (pe_callTy (call_tupleK (K := K)) (by rfl) T.z_tuple bt_tuple (pa_cons (pe_lc (own := [("_law_x", 13), ("_law_y", 14)]) (g := L2.gTup K 2 (gCons (gName 13) (gCons (gName 14) gNil))) (tt := tYes) rfl sc__law_two_right.nd (pi_zipU (K := K) (by rfl) T.z_zip (pa_cons (pv 8) (pa_cons (pv 10) pa_nil))) (blkOk_by (own := [("_law_x", 13), ("_law_y", 14)]) (N := nm__law_two_right) (sc := defScope st__law_two_right) (by decide +kernel)) (fun _ _ _ _ _ => (pg_tupK (K := K) rfl (pgs_cons (pg_name (i := 13) sc__law_two_right.nd rfl (Or.inl rfl)) (pgs_cons (pg_name (i := 14) sc__law_two_right.nd rfl (Or.inl rfl)) pgs_nil)))) (fun _ _ _ _ _ => pts_nil) (fun _ _ _ _ _ => (pe_op (op_addU (K := K)) (pv 13) (pv 14)))) pa_nil)))
          (pss_one (ps_dput hu (pv 7) (pv 12) (pe_op (op_addU (K := K)) (pe_dget2 hu (pv 7) (pv 12) pe_int ⟨rfl, rfl, rfl, rfl⟩) (pe_op (op_mulU (K := K)) (pv 9) (pv 11))) rfl))))))
      (pss_cons (ps_if (pt_cmpR (op_neU (K := K) hr.units) (pv 6) (pe_callTy (call_tupleK (K := K)) (by rfl) T.z_tuple bt_tuple (pa_cons (pe_lc (own := [("_law_product", 15)]) (g := gName 15) (tt := tYes) rfl sc__law_two_right.nd (pi_seqU (K := K) (pe_call G__law_products (hr.mono (by omega)) (by rfl) T.g__law_products T.F__law_products.kp T.b__law_products .nil pass0 (pa_cons (pv 0) (pa_cons (pe_op (op_addU (K := K)) (pv 1) (pv 3)) pa_nil)))) (blkOk_by (own := [("_law_product", 15)]) (N := nm__law_two_right) (sc := defScope st__law_two_right) (by decide +kernel)) (fun _ _ _ _ _ => (pg_name (i := 15) sc__law_two_right.nd rfl (Or.inl rfl))) (fun _ _ _ _ _ => pts_nil) (fun _ _ _ _ _ => (pe_dget2 hu (pv 7) (pv 15) pe_int ⟨rfl, rfl, rfl, rfl⟩))) pa_nil)) (nomark _)) (pss_one (ps_ret pe_bl)) pss_nil)
      (pss_cons (ps_for PassesOwn.never rfl (pi_seqU (K := K) (pv 5)) (pg_name (i := 16) sc__law_two_right.nd rfl (Or.inl rfl))
        (pss_one (ps_if (pt_cmpR (op_neU (K := K) hr.units) (pe_call G_worth (hr.mono (by omega)) (by rfl) T.g_worth T.F_worth.kp T.b_worth .nil pass0 (pa_cons (pv 0) (pa_cons (pe_op (op_addU (K := K)) (pv 1) (pv 3)) (pa_cons (pv 6) (pa_cons (pv 16) pa_nil))))) (pe_op (op_mulU (K := K)) (pe_call G__law_worth (hr.mono (by omega)) (by rfl) T.g__law_worth T.F__law_worth.kp T.b__law_worth .nil pass0 (pa_cons (pv 0) (pa_cons (pv 1) (pa_cons (pv 2) (pa_cons (pv 16) pa_nil))))) (pe_call G__law_worth (hr.mono (by omega)) (by rfl) T.g__law_worth T.F__law_worth.kp T.b__law_worth .nil pass0 (pa_cons (pv 0) (pa_cons (pv 3) (pa_cons (pv 4) (pa_cons (pv 16) pa_nil)))))) (nomark _)) (pss_one (ps_ret pe_bl)) pss_nil)))
      (pss_one (ps_ret pe_bl)))))))), ?_⟩
  refine DS.run ((ds_seq (ds_set 6 (de_fn (da_cons (de_var 0) (da_cons (de_var 1) (da_cons (de_var 2) (da_cons (de_var 3) (da_cons (de_var 4) da_nil)))))))
      (ds_seq (ds_if (db_not (db_tru (K := K) (de_fn (da_cons (de_var 6) (da_cons (de_cb (dc_1 (d1_len (K := K))) (da_cons (de_fn (da_cons (de_var 0) (da_cons (de_op (d2_add (K := K)) (de_var 1) (de_var 3)) da_nil))) da_nil)) da_nil))))) (ds_ret de_bl) ds_next)
      (ds_seq (ds_set 7 de_dnewT)
      (ds_seq (ds_for (di_zip (K := K) (da_cons (de_fn (da_cons (de_var 0) (da_cons (de_var 1) da_nil))) (da_cons (de_var 2) da_nil))) (dg_tup2 (K := K) (dg_name 8) (dg_name 9))
        (ds_for (di_zip (K := K) (da_cons (de_fn (da_cons (de_var 0) (da_cons (de_var 3) da_nil))) (da_cons (de_var 4) da_nil))) (dg_tup2 (K := K) (dg_name 10) (dg_name 11))
          (ds_seq (ds_set 12 (de_cb (dc_1 (d1_tuple (K := K))) (da_cons (de_lc (di_zip (K := K) (da_cons (de_var 8) (da_cons (de_var 10) da_nil))) (dg_tup2 (K := K) (dg_name 13) (dg_name 14)) db_yes (de_op (d2_add (K := K)) (de_var 13) (de_var 14))) da_nil)))
          (ds_dput (de_var 7) (de_var 12) (de_op (d2_add (K := K)) (de_dget2 (de_var 7) (de_var 12) de_int) (de_op (d2_mul (K := K)) (de_var 9) (de_var 11)))))))
      (ds_seq (ds_if (db_test (de_op (d2_ne (K := K)) (de_var 6) (de_cb (dc_1 (d1_tuple (K := K))) (da_cons (de_lc (di_seq (K := K) (de_fn (da_cons (de_var 0) (da_cons (de_op (d2_add (K := K)) (de_var 1) (de_var 3)) da_nil)))) (dg_name 15) db_yes (de_dget2 (de_var 7) (de_var 15) de_int)) da_nil)))) (ds_ret de_bl) ds_next)
      (ds_seq (ds_for (di_seq (K := K) (de_var 5)) (dg_name 16)
        (ds_if (db_test (de_op (d2_ne (K := K)) (de_fn (da_cons (de_var 0) (da_cons (de_op (d2_add (K := K)) (de_var 1) (de_var 3)) (da_cons (de_var 6) (da_cons (de_var 16) da_nil))))) (de_op (d2_mul (K := K)) (de_fn (da_cons (de_var 0) (da_cons (de_var 1) (da_cons (de_var 2) (da_cons (de_var 16) da_nil))))) (de_fn (da_cons (de_var 0) (da_cons (de_var 3) (da_cons (de_var 4) (da_cons (de_var 16) da_nil)))))))) (ds_ret de_bl) ds_next))
      (ds_ret de_bl)))))))) h (by rw [spD_len ln__law_two_right h]; decide) fun xs Qd h => ?_
  obtain ⟨n, d, e, p, r, rows, rfl, hn, de, lp, hp, lr2, hr2, lr, hrows, q⟩ := h
  have d0 : (0 : Int) ≤ (d : Int) := by omega
  have e0 : (0 : Int) ≤ (e : Int) := by omega
  have pl := prods35 hn (show d ≤ 4 by omega)
  have rl := prods35 hn (show e ≤ 4 by omega)
  have fl := prods35 hn de
  have pN := pz_small hn (show d ≤ 4 by omega) lp hp
  have rN := pz_small hn (show e ≤ 4 by omega) lr2 hr2
  have ede : (d : Int) + (e : Int) = ((d + e : Nat) : Int) := by omega
  refine ⟨n, d, e, p, r, rfl, hn, de, by omega, by omega, lt800 pN, lt800 rN, ?_⟩
  have lo : (ord n (d + e : Nat) (mulP (numb n d p) (numb n e r))).length = (prods n (d + e : Nat)).length := by unfold ord; rw [List.length_map]
  refine ⟨n, ((d + e : Nat) : Int), by rw [ede], by omega, by omega, by omega, ord n (d + e : Nat) (mulP (numb n d p) (numb n e r)), ((prods n (d + e : Nat)).map ti).length, rfl, by rw [List.length_map]; exact lo, by rw [List.length_map]; omega, ?_⟩
  refine ⟨n, d, rfl, by omega, d0, by omega, ?_⟩
  show ∃ _, _
  rw [zipD_map]
  refine ⟨fun i ρ μ => ∃ es, ρ = [some (.d (.int (n : Int))), some (.d (.int (d : Int))), some (.d (ti p)), some (.d (.int (e : Int))), some (.d (ti r)), some (.d (.list (rows.map ti))), some (.d (ti (ord n (d + e : Nat) (mulP (numb n d p) (numb n e r))))), some (.r 0), none, none, none, none, none, none, none, none, none] ∧ μ = [.dT es] ∧ es = pe (gather [] (terms ((pz n d p).take i) (pz n e r))), ?_, fun i y ρ μ hi e => ?_, fun ρ μ e => ?_⟩
  · exact ⟨[0], _, _, ⟨(by repeat (first | exact WkM.nil | refine WkM.cons rfl (by first | exact Or.inl rfl | exact Or.inr (Or.inr ⟨_, rfl, rfl⟩) | exact Or.inr (Or.inl rfl)) ?_)), (by repeat (first | exact WkR.nil | refine WkR.ref rfl ?_ | refine WkR.same trivial ?_ | refine WkR.none ?_)), (by decide)⟩, _, rfl, rfl, rfl⟩
  · obtain ⟨es, rfl, rfl, rfl⟩ := e
    obtain ⟨t, ht, rfl⟩ := map_get hi
    replace ht : (pz n d p)[i]? = some t := ht
    obtain ⟨k, a⟩ := t
    refine ⟨n, _, rfl, by omega, e0, by omega, ?_⟩
    show ∃ _, _
    rw [zipD_map]
    refine ⟨fun j ρ μ => ∃ es, ρ = [some (.d (.int (n : Int))), some (.d (.int (d : Int))), some (.d (ti p)), some (.d (.int (e : Int))), some (.d (ti r)), some (.d (.list (rows.map ti))), some (.d (ti (ord n (d + e : Nat) (mulP (numb n d p) (numb n e r))))), some (.r 0), some (.d (ti k)), some (.d (.int a)), none, none, none, none, none, none, none] ∧ μ = [.dT es] ∧ es = pe (gather [] (terms ((pz n d p).take i) (pz n e r) ++ rowP (k, a) ((pz n e r).take j))), ?_, fun j y ρ μ hj e => ?_, fun ρ μ e => ?_⟩
    · exact ⟨[0], _, _, ⟨(by repeat (first | exact WkM.nil | refine WkM.cons rfl (by first | exact Or.inl rfl | exact Or.inr (Or.inr ⟨_, rfl, rfl⟩) | exact Or.inr (Or.inl rfl)) ?_)), (by repeat (first | exact WkR.nil | refine WkR.ref rfl ?_ | refine WkR.same trivial ?_ | refine WkR.none ?_)), (by decide)⟩, _, rfl, rfl, by rw [show rowP (k, a) ((pz n e r).take 0) = [] from rfl, List.append_nil]⟩
    · obtain ⟨es, rfl, rfl, rfl⟩ := e
      obtain ⟨u, hu2, rfl⟩ := map_get hj
      replace hu2 : (pz n e r)[j]? = some u := hu2
      obtain ⟨k2, b⟩ := u
      have lk : k.length = n := (pz_ks d0 p k (List.mem_map_of_mem (f := Prod.fst) (List.mem_of_getElem? ht))).1
      have ba : a.natAbs < 2 ^ 1000 := Nat.lt_trans (Nat.lt_of_le_of_lt (mem_N1 (List.mem_of_getElem? ht)) (lt800 pN)) (Nat.pow_lt_pow_right (by decide) (by decide))
      have bb : b.natAbs < 2 ^ 1000 := Nat.lt_trans (Nat.lt_of_le_of_lt (mem_N1 (List.mem_of_getElem? hu2)) (lt800 rN)) (Nat.pow_lt_pow_right (by decide) (by decide))
      show _ ∧ _
      rw [zipD_map]
      refine ⟨by rw [List.length_map, List.length_zip]; omega, fun i z => ∃ y, (k.zip k2)[i]? = some y ∧ z = some (.int (y.1 + y.2)), fun i y hi => ?_, fun zs h1 h2 => ?_⟩
      · obtain ⟨p, hp, rfl⟩ := map_get hi
        exact ⟨Wk.refl _, p, hp, rfl⟩
      · rw [List.length_map] at h1
        have e2 : (k.zip k2).map (fun y => PyData.int (y.1 + y.2)) = (add2 k k2).map PyData.int := by
          unfold add2
          rw [← List.map_uncurry_zip_eq_zipWith, List.map_map]
          rfl
        rw [comp_map (f := fun y : Int × Int => PyData.int (y.1 + y.2)) h1 h2, e2]
        have nd : ((gather [] (terms ((pz n d p).take i) (pz n e r) ++ rowP (k, a) ((pz n e r).take j))).map Prod.fst).Nodup := nd_gather List.nodup_nil
        have lL : (pz n d p).length ≤ 35 := by unfold pz; rw [List.length_zip]; omega
        have lM : (pz n e r).length ≤ 35 := by unfold pz; rw [List.length_zip]; omega
        have ll : (gather [] (terms ((pz n d p).take i) (pz n e r) ++ rowP (k, a) ((pz n e r).take j))).length < 100000 := by
          have h1 := len_gather (terms ((pz n d p).take i) (pz n e r) ++ rowP (k, a) ((pz n e r).take j)) []
          have h2 : (rowP (k, a) ((pz n e r).take j)).length ≤ 35 := by unfold rowP; rw [List.length_map, List.length_take]; omega
          have h3 : ((pz n d p).take i).length ≤ 35 := by rw [List.length_take]; omega
          rw [List.length_append, len_terms] at h1
          have h4 := Nat.mul_le_mul h3 lM
          have h5 : ([] : Pl).length = 0 := rfl
          omega
        refine ⟨pe _, rfl, rfl, ky (add2 k k2), .int 0, by rw [kt_ky]; rfl, rfl, ?_⟩
        rw [val_pe]
        refine ⟨mulK ba bb, 0, pe _, ky (add2 k k2), rfl, rfl, by rw [kt_ky]; rfl, by rw [pe_len]; exact ll, ?_⟩
        rw [put_pe nd]
        refine ⟨[0], _, _, ⟨(by repeat (first | exact WkM.nil | refine WkM.cons rfl (by first | exact Or.inl rfl | exact Or.inr (Or.inr ⟨_, rfl, rfl⟩) | exact Or.inr (Or.inl rfl)) ?_)), (by repeat (first | exact WkR.nil | refine WkR.ref rfl ?_ | refine WkR.same trivial ?_ | refine WkR.none ?_)), (by decide)⟩, _, rfl, rfl, ?_⟩
        rw [row_take hu2, ← List.append_assoc]
        exact congrArg pe (gather_app [] (terms ((pz n d p).take i) (pz n e r) ++ rowP (k, a) ((pz n e r).take j)) [(add2 k k2, a * b)]).symm
    · obtain ⟨es, rfl, rfl, rfl⟩ := e
      rw [List.length_map]
      show Wkn _ _ [.dT (pe (gather [] (terms ((pz n d p).take i) (pz n e r) ++ rowP (k, a) ((pz n e r).take (pz n e r).length))))]
      rw [List.take_of_length_le (Nat.le_refl _)]
      exact ⟨[0], _, _, ⟨(by repeat (first | exact WkM.nil | refine WkM.cons rfl (by first | exact Or.inl rfl | exact Or.inr (Or.inr ⟨_, rfl, rfl⟩) | exact Or.inr (Or.inl rfl)) ?_)), (by repeat (first | exact WkR.nil | refine WkR.ref rfl ?_ | refine WkR.same trivial ?_ | refine WkR.none ?_)), (by decide)⟩, _, rfl, rfl, by rw [terms_take ht]⟩
  obtain ⟨es, rfl, rfl, rfl⟩ := e
  rw [List.length_map]
  have eT : (pz n d p).take ((prods n d).zip p).length = pz n d p := List.take_of_length_le (Nat.le_refl _)
  rw [eT]
  refine ⟨n, ((d + e : Nat) : Int), by rw [ede], by omega, by omega, by omega, by rw [List.length_map]; omega, fun i z => ∃ y, (prods n (d + e : Nat))[i]? = some y ∧ z = some (.int (cf (mulP (pz n d p) (pz n e r)) y)), fun i y hi => ?_, fun zs h1 h2 => ?_⟩
  · obtain ⟨k, hk, rfl⟩ := map_get hi
    refine ⟨pe _, rfl, rfl, ky k, .int 0, by rw [kt_ky], rfl, Wk.refl _, k, hk, ?_⟩
    rw [val_pe]
    rfl
  rw [List.length_map] at h1
  rw [comp_map (f := fun y => PyData.int (cf (mulP (pz n d p) (pz n e r)) y)) h1 h2]
  have eo : (prods n (d + e : Nat)).map (fun y => PyData.int (cf (mulP (pz n d p) (pz n e r)) y)) = (ord n (d + e : Nat) (mulP (numb n d p) (numb n e r))).map PyData.int := by rw [← mul_ord]; unfold ord; rw [List.map_map]; rfl
  rw [eo]
  refine ⟨⟨ti_shaped _, ti_shaped _⟩, ?_⟩
  have er : PyData.eqv (ti (ord n (d + e : Nat) (mulP (numb n d p) (numb n e r)))) (PyData.tuple ((ord n (d + e : Nat) (mulP (numb n d p) (numb n e r))).map PyData.int)) = true := eqv_refl _ (ti_shaped _)
  rw [er]
  refine ⟨fun i ρ μ => ρ = [some (.d (.int (n : Int))), some (.d (.int (d : Int))), some (.d (ti p)), some (.d (.int (e : Int))), some (.d (ti r)), none, some (.d (ti (ord n (d + e : Nat) (mulP (numb n d p) (numb n e r))))), none, none, none, none, none, none, none, none, none, none] ∧ μ = [], ?_, fun i y ρ μ hi e => ?_, fun ρ μ e => ?_⟩
  · exact ⟨[], _, _, ⟨(by repeat (first | exact WkM.nil | refine WkM.cons rfl (by first | exact Or.inl rfl | exact Or.inr (Or.inr ⟨_, rfl, rfl⟩) | exact Or.inr (Or.inl rfl)) ?_)), (by repeat (first | exact WkR.nil | refine WkR.ref rfl ?_ | refine WkR.same trivial ?_ | refine WkR.none ?_)), (by decide)⟩, rfl, rfl⟩
  · obtain ⟨rfl, rfl⟩ := e
    obtain ⟨x, hx, rfl⟩ := map_get hi
    obtain ⟨lx, bx⟩ := hrows x (List.mem_of_getElem? hx)
    have b20 : Bx x := fun y hy => Nat.le_trans (bx y hy) (by decide)
    have fN : N1 (pz n (d + e : Nat) (ord n (d + e : Nat) (mulP (numb n d p) (numb n e r)))) < 2 ^ 800 := by
      have h := N1_zip (B := N1 (mulP (numb n d p) (numb n e r))) (prods n (d + e : Nat)) (ord n (d + e : Nat) (mulP (numb n d p) (numb n e r))) (fun y hy => by unfold ord at hy; obtain ⟨k, _, rfl⟩ := List.mem_map.mp hy; exact cf_N1 k _)
      have h2 := Nat.le_trans (N1_mul (numb n d p) (numb n e r)) (Nat.mul_le_mul (Nat.le_trans (N1_filter _ _) pN) (Nat.le_trans (N1_filter _ _) rN))
      have h3 := Nat.le_trans h (Nat.mul_le_mul (show _ ≤ 35 by omega) h2)
      exact Nat.lt_of_le_of_lt h3 (Nat.lt_of_lt_of_le (by decide : 35 * (35 * 1000000 * (35 * 1000000)) < 2 ^ 80) (Nat.pow_le_pow_right (by decide) (by decide)))
    have k80 : ∀ {v : Nat}, v ≤ 35 * 1000000 * 1000 ^ 4 → v < 2 ^ 1000 := fun h => Nat.lt_of_le_of_lt h (Nat.lt_of_lt_of_le (by decide : 35 * 1000000 * 1000 ^ 4 < 2 ^ 80) (Nat.pow_le_pow_right (by decide) (by decide)))
    refine ⟨n, ((d + e : Nat) : Int), _, x, by rw [ede], hn, by omega, by omega, by omega, lx, b20, fN, ?_⟩
    refine ⟨n, d, p, x, rfl, hn, d0, by omega, by omega, lx, b20, lt800 pN, n, _, r, x, rfl, hn, e0, by omega, by omega, lx, b20, lt800 rN, ?_⟩
    refine ⟨mulK (k80 (W_sml hn (show d ≤ 4 by omega) lp hp bx)) (k80 (W_sml hn (show _ ≤ 4 by omega) lr2 hr2 bx)), ?_⟩
    refine ifb (fun e => absurd (mul_W lx p r) (neT e)) (fun _ => ⟨[], _, _, ⟨(by repeat (first | exact WkM.nil | refine WkM.cons rfl (by first | exact Or.inl rfl | exact Or.inr (Or.inr ⟨_, rfl, rfl⟩) | exact Or.inr (Or.inl rfl)) ?_)), (by repeat (first | exact WkR.nil | refine WkR.ref rfl ?_ | refine WkR.same trivial ?_ | refine WkR.none ?_)), (by decide)⟩, rfl, rfl⟩)
  · exact q
def sp_law (K : PySem.W.Frag) : Sp := fun vs H Q _ => ∃ (a : Addr) (ns : List Int), vs = [.ref a] ∧ SqL K H a (ns.map V.int) ∧ ns.length ≤ 63 ∧ ∀ H', Q (.bl true) H'
theorem ok_law {k : Nat} (T : Txt K mg) : FnG P w K mg base (k + 5) T.f_law T.fd_law ["_law_script"] (sp_law K) := by
  have G__law_deal : FnOk P w K mg base CX0 1 T.f__law_deal T.fd__law_deal ["_law_script", "_law_base"] (sp_deal K) := ok_deal T
  have G__law_sizes : FnOk P w K mg base CX0 2 T.f__law_sizes T.fd__law_sizes ["_law_deal_here"] (spD dsp__law_sizes) := ok__law_sizes T
  have G__law_one_right : FnG P w K mg base 4 T.f__law_one_right T.fd__law_one_right ["_law_n", "_law_d", "_law_p", "_law_e", "_law_rows"] (spD dsp__law_one_right) := ok__law_one_right T
  have G__law_draw : FnOk P w K mg base CX0 1 T.f__law_draw T.fd__law_draw ["_law_deal_here", "_law_many"] (spD dsp__law_draw) := ok__law_draw T
  have G__law_products : FnOk P w K mg base CX0 1 T.f__law_products T.fd__law_products ["_law_n", "_law_d"] (spD dsp__law_products) := ok__law_products T
  have G__law_poly : FnOk P w K mg base CX0 2 T.f__law_poly T.fd__law_poly ["_law_deal_here", "_law_many"] (spD dsp__law_poly) := ok__law_poly T
  have G__law_boxes : FnOk P w K mg base CX0 2 T.f__law_boxes T.fd__law_boxes ["_law_deal_here", "_law_n"] (spD dsp__law_boxes) := ok__law_boxes T
  have G__law_two_right : FnOk P w K mg base CX0 4 T.f__law_two_right T.fd__law_two_right ["_law_n", "_law_d", "_law_p", "_law_e", "_law_other", "_law_rows"] (spD dsp__law_two_right) := ok__law_two_right T
  have G_added : FnOk P w K mg base CX0 1 T.f_added T.fd_added ["p", "other"] (spD dsp_added) := ok_added T
  have G_scaled : FnOk P w K mg base CX0 1 T.f_scaled T.fd_scaled ["p", "k"] (spD dsp_scaled) := ok_scaled T
  refine okG T.F_law sc_law (fun vs H Q E h => by obtain ⟨a, ns, rfl, _⟩ := h; rfl) (fun cdv A outer s H vs Q E hgd hr h => ?_)
  have hu66 : (A.deeper (envOfC "law" (defScope st_law) s.heap.objs.size T.f_law cdv)).units + 66 < cLine := by have := hr.un; omega
  obtain ⟨a, ns, rfl, hS, hlen, fin⟩ := h
  have hu := hu_of hr
  refine ⟨_, (pss_cons (ps_set (i := 1) sc_law.nd rfl (Or.inr rfl) (pe_call G__law_deal (hr.mono (by omega)) (by rfl) T.g__law_deal T.F__law_deal.kp T.b__law_deal .nil pass0 (pa_cons (pv 0) (pa_cons pe_int pa_nil))))
    (pss_cons (ps_asg (pe_call G__law_sizes (hr.mono (by omega)) (by rfl) T.g__law_sizes T.F__law_sizes.kp T.b__law_sizes .nil pass0 (pa_cons (pv 1) pa_nil)) (pg_tupK (K := K) rfl (pgs_cons (pg_name (i := 2) sc_law.nd rfl (Or.inr rfl)) (pgs_cons (pg_name (i := 3) sc_law.nd rfl (Or.inl rfl)) pgs_nil))))
      (pss_cons (ps_set (i := 4) sc_law.nd rfl (Or.inl rfl) (pe_op (op_addU (K := K)) pe_int (pe_call G__law_draw (hr.mono (by omega)) (by rfl) T.g__law_draw T.F__law_draw.kp T.b__law_draw .nil pass0 (pa_cons (pv 1) (pa_cons pe_int pa_nil)))))
      (Evl.pss_cut (ps_set (i := 5) sc_law.nd rfl (Or.inl rfl) (pe_op (op_addU (K := K)) pe_int (pe_call G__law_draw (hr.mono (by omega)) (by rfl) T.g__law_draw T.F__law_draw.kp T.b__law_draw .nil pass0 (pa_cons (pv 1) (pa_cons (pe_op op_sub pe_int (pv 4)) pa_nil)))))
      (pss_cons (ps_set (i := 6) sc_law.nd rfl (Or.inl rfl) (pe_callB (call_lenU (K := K)) (by rfl) T.z_len bt_len (pa_cons (pe_call G__law_products (hr.mono (by omega)) (by rfl) T.g__law_products T.F__law_products.kp T.b__law_products .nil pass0 (pa_cons (pv 2) (pa_cons (pv 3) pa_nil))) pa_nil)))
      (pss_cons (ps_par (i := 7) (j := 8) (by rfl) sc_law.nd rfl rfl (by decide) rfl rfl (pa_cons (pe_call G__law_poly (hr.mono (by omega)) (by rfl) T.g__law_poly T.F__law_poly.kp T.b__law_poly .nil pass0 (pa_cons (pv 1) (pa_cons (pv 6) pa_nil))) (pa_cons (pe_call G__law_poly (hr.mono (by omega)) (by rfl) T.g__law_poly T.F__law_poly.kp T.b__law_poly .nil pass0 (pa_cons (pv 1) (pa_cons (pv 6) pa_nil))) pa_nil)) (by rfl))
      (pss_cons (ps_asg (pe_lc (own := [("_law_to", 11)]) (g := gName 11) (tt := tYes) rfl sc_law.nd (pi_seqU (K := K) (pe_tup (pa_cons (pv 4) (pa_cons (pv 5) pa_nil)))) (blkOk_by (own := [("_law_to", 11)]) (N := nm_law) (sc := defScope st_law) (by decide +kernel)) (fun _ _ _ _ _ => (pg_name (i := 11) sc_law.nd rfl (Or.inl rfl))) (fun _ _ _ _ _ => pts_nil) (fun _ _ _ _ _ => (pe_call G__law_poly (hr.mono (by omega)) (by rfl) T.g__law_poly T.F__law_poly.kp T.b__law_poly .nil pass0 (pa_cons (pv 1) (pa_cons (pe_callB (call_lenU (K := K)) (by rfl) T.z_len bt_len (pa_cons (pe_call G__law_products (hr.mono (by omega)) (by rfl) T.g__law_products T.F__law_products.kp T.b__law_products .nil pass0 (pa_cons (pv 2) (pa_cons (pv 11) pa_nil))) pa_nil)) pa_nil))))) (pg_lstK (K := K) rfl (pgs_cons (pg_name (i := 9) sc_law.nd rfl (Or.inl rfl)) (pgs_cons (pg_name (i := 10) sc_law.nd rfl (Or.inl rfl)) pgs_nil))))
      (pss_cons (ps_setLc (i := 12) (own := [("_law_k", 13)]) (g := gName 13) (tt := tYes) rfl sc_law.nd rfl rfl (sw_true rfl rfl rfl (by decide +kernel)) (pi_range1 (by rfl) T.z_range (pa_cons pe_int pa_nil)) (blkOk_by (own := [("_law_k", 13)]) (N := nm_law) (sc := defScope st_law) (by decide +kernel)) (fun _ _ _ _ _ => (pg_name (i := 13) sc_law.nd rfl (Or.inl rfl))) (fun _ _ _ _ _ => pts_nil) (fun _ _ _ _ _ => (pe_call G__law_boxes (hr.mono (by omega)) (by rfl) T.g__law_boxes T.F__law_boxes.kp T.b__law_boxes .nil pass0 (pa_cons (pv 1) (pa_cons (pv 2) pa_nil)))))
      (pss_cons (ps_set (i := 13) sc_law.nd rfl (Or.inr rfl) (pe_op op_sub (pe_call G__law_draw (hr.mono (by omega)) (by rfl) T.g__law_draw T.F__law_draw.kp T.b__law_draw .nil pass0 (pa_cons (pv 1) (pa_cons (pe_ix (ix_seqK (K := K)) (pe_lst (pa_cons pe_int (pa_cons pe_int pa_nil))) (pe_call G__law_draw (hr.mono (by omega)) (by rfl) T.g__law_draw T.F__law_draw.kp T.b__law_draw .nil pass0 (pa_cons (pv 1) (pa_cons pe_int pa_nil))) (fun _ _ => rfl)) pa_nil))) pe_int))
      (pss_cons (ps_for PassesOwn.never rfl (pi_range1 (by rfl) T.z_range (pa_cons pe_int pa_nil)) (pg_name (i := 14) sc_law.nd rfl (Or.inl rfl))
        (pss_cons (ps_if (pt_not (pt_tru (K := K) (pe_callG G__law_one_right hgd (hr.mono (by omega)) (by rfl) T.g__law_one_right T.F__law_one_right.kp T.b__law_one_right (pa_cons (pv 2) (pa_cons (pv 3) (pa_cons (pv 7) (pa_cons (pe_op (op_addU (K := K)) (pv 3) (pe_call G__law_draw (hr.mono (by omega)) (by rfl) T.g__law_draw T.F__law_draw.kp T.b__law_draw .nil pass0 (pa_cons (pv 1) (pa_cons (pe_op op_sub pe_int (pv 3)) pa_nil)))) (pa_cons (pv 12) pa_nil))))) (E := E0)))) (pss_one (ps_ret pe_bl)) pss_nil)
        (pss_cons (ps_if (pt_cmpR (op_neU (K := K) hr.units) (pe_callB (call_reprU (K := K) hgd hu66) (by rfl) T.z_repr bt_repr (pa_cons (pe_call G_added (hr.mono (by omega)) (by rfl) T.g_added T.F_added.kp T.b_added .nil pass0 (pa_cons (pv 7) (pa_cons (pv 8) pa_nil))) pa_nil)) (pe_callB (call_reprU (K := K) hgd hu66) (by rfl) T.z_repr bt_repr (pa_cons (pe_callTy (call_tupleK (K := K)) (by rfl) T.z_tuple bt_tuple (pa_cons (pe_lc (own := [("_law_a", 15), ("_law_b", 16)]) (g := L2.gTup K 2 (gCons (gName 15) (gCons (gName 16) gNil))) (tt := tYes) rfl sc_law.nd (pi_zipU (K := K) (by rfl) T.z_zip (pa_cons (pv 7) (pa_cons (pv 8) pa_nil))) (blkOk_by (own := [("_law_a", 15), ("_law_b", 16)]) (N := nm_law) (sc := defScope st_law) (by decide +kernel)) (fun _ _ _ _ _ => (pg_tupK (K := K) rfl (pgs_cons (pg_name (i := 15) sc_law.nd rfl (Or.inl rfl)) (pgs_cons (pg_name (i := 16) sc_law.nd rfl (Or.inl rfl)) pgs_nil)))) (fun _ _ _ _ _ => pts_nil) (fun _ _ _ _ _ => (pe_op (op_addU (K := K)) (pv 15) (pv 16)))) pa_nil)) pa_nil)) (nomark _)) (pss_one (ps_ret pe_bl)) pss_nil)
        (pss_cons (ps_if (pt_cmpR (op_neU (K := K) hr.units) (pe_callB (call_reprU (K := K) hgd hu66) (by rfl) T.z_repr bt_repr (pa_cons (pe_call G_scaled (hr.mono (by omega)) (by rfl) T.g_scaled T.F_scaled.kp T.b_scaled .nil pass0 (pa_cons (pv 7) (pa_cons (pv 13) pa_nil))) pa_nil)) (pe_callB (call_reprU (K := K) hgd hu66) (by rfl) T.z_repr bt_repr (pa_cons (pe_callTy (call_tupleK (K := K)) (by rfl) T.z_tuple bt_tuple (pa_cons (pe_lc (own := [("_law_number", 17)]) (g := gName 17) (tt := tYes) rfl sc_law.nd (pi_seqU (K := K) (pv 7)) (blkOk_by (own := [("_law_number", 17)]) (N := nm_law) (sc := defScope st_law) (by decide +kernel)) (fun _ _ _ _ _ => (pg_name (i := 17) sc_law.nd rfl (Or.inl rfl))) (fun _ _ _ _ _ => pts_nil) (fun _ _ _ _ _ => (pe_op (op_mulU (K := K)) (pv 13) (pv 17)))) pa_nil)) pa_nil)) (nomark _)) (pss_one (ps_ret pe_bl)) pss_nil)
        (pss_one (ps_if (pt_not (pt_tru (K := K) (pe_call G__law_two_right (hr.mono (by omega)) (by rfl) T.g__law_two_right T.F__law_two_right.kp T.b__law_two_right .nil pass0 (pa_cons (pv 2) (pa_cons (pv 4) (pa_cons (pv 9) (pa_cons (pv 5) (pa_cons (pv 10) (pa_cons (pe_slice (sl_U (K := K)) (pv 12) po_none (po_some pe_int)) pa_nil))))))))) (pss_one (ps_ret pe_bl)) pss_nil))))))
      (pss_one (ps_ret (pe_callG G__law_one_right hgd (hr.mono (by omega)) (by rfl) T.g__law_one_right T.F__law_one_right.kp T.b__law_one_right (pa_cons (pv 2) (pa_cons (pv 4) (pa_cons (pv 9) (pa_cons (pv 4) (pa_cons (pv 12) pa_nil))))) (E := E0)))))))))))))), ?_⟩
  refine law_run ((ds_seq (ds_asg (de_fn (da_cons (de_var 1) da_nil)) (dg_tup2 (K := K) (dg_name 2) (dg_name 3)))
      (ds_seq (ds_set 4 (de_op (d2_add (K := K)) de_int (de_fn (da_cons (de_var 1) (da_cons de_int da_nil)))))
      (ds_cut (ds_set 5 (de_op (d2_add (K := K)) de_int (de_fn (da_cons (de_var 1) (da_cons (de_op d2_sub de_int (de_var 4)) da_nil)))))
      (ds_seq (ds_set 6 (de_cb (dc_1 (d1_len (K := K))) (da_cons (de_fn (da_cons (de_var 2) (da_cons (de_var 3) da_nil))) da_nil)))
      (ds_seq (ds_par 7 8 (da_cons (de_fn (da_cons (de_var 1) (da_cons (de_var 6) da_nil))) (da_cons (de_fn (da_cons (de_var 1) (da_cons (de_var 6) da_nil))) da_nil)))
      (ds_seq (ds_asg (de_lc (di_seq (K := K) (de_tup (da_cons (de_var 4) (da_cons (de_var 5) da_nil)))) (dg_name 11) db_yes (de_fn (da_cons (de_var 1) (da_cons (de_cb (dc_1 (d1_len (K := K))) (da_cons (de_fn (da_cons (de_var 2) (da_cons (de_var 11) da_nil))) da_nil)) da_nil)))) (dg_lst2 (K := K) (dg_name 9) (dg_name 10)))
      (ds_seq (ds_set 12 (de_lc (di_rng1 (da_cons de_int da_nil)) (dg_name 13) db_yes (de_fn (da_cons (de_var 1) (da_cons (de_var 2) da_nil)))))
      (ds_seq (ds_set 13 (de_op d2_sub (de_fn (da_cons (de_var 1) (da_cons (de_op (d2_ix (K := K)) (de_lst (da_cons de_int (da_cons de_int da_nil))) (de_fn (da_cons (de_var 1) (da_cons de_int da_nil)))) da_nil))) de_int))
      (ds_seq (ds_for (di_rng1 (da_cons de_int da_nil)) (dg_name 14)
        (ds_seq (ds_if (db_not (db_tru (K := K) (de_fn (da_cons (de_var 2) (da_cons (de_var 3) (da_cons (de_var 7) (da_cons (de_op (d2_add (K := K)) (de_var 3) (de_fn (da_cons (de_var 1) (da_cons (de_op d2_sub de_int (de_var 3)) da_nil)))) (da_cons (de_var 12) da_nil)))))))) (ds_ret de_bl) ds_next)
        (ds_seq (ds_if (db_test (de_op (d2_ne (K := K)) (de_cb (dc_1 (d1_repr (K := K))) (da_cons (de_fn (da_cons (de_var 7) (da_cons (de_var 8) da_nil))) da_nil)) (de_cb (dc_1 (d1_repr (K := K))) (da_cons (de_cb (dc_1 (d1_tuple (K := K))) (da_cons (de_lc (di_zip (K := K) (da_cons (de_var 7) (da_cons (de_var 8) da_nil))) (dg_tup2 (K := K) (dg_name 15) (dg_name 16)) db_yes (de_op (d2_add (K := K)) (de_var 15) (de_var 16))) da_nil)) da_nil)))) (ds_ret de_bl) ds_next)
        (ds_seq (ds_if (db_test (de_op (d2_ne (K := K)) (de_cb (dc_1 (d1_repr (K := K))) (da_cons (de_fn (da_cons (de_var 7) (da_cons (de_var 13) da_nil))) da_nil)) (de_cb (dc_1 (d1_repr (K := K))) (da_cons (de_cb (dc_1 (d1_tuple (K := K))) (da_cons (de_lc (di_seq (K := K) (de_var 7)) (dg_name 17) db_yes (de_op (d2_mul (K := K)) (de_var 13) (de_var 17))) da_nil)) da_nil)))) (ds_ret de_bl) ds_next)
        (ds_if (db_not (db_tru (K := K) (de_fn (da_cons (de_var 2) (da_cons (de_var 4) (da_cons (de_var 9) (da_cons (de_var 5) (da_cons (de_var 10) (da_cons (de_slice (K := K) (de_var 12) do_none (do_some de_int)) da_nil))))))))) (ds_ret de_bl) ds_next)))))
      (ds_ret (de_fn (da_cons (de_var 2) (da_cons (de_var 4) (da_cons (de_var 9) (da_cons (de_var 4) (da_cons (de_var 12) da_nil))))))))))))))))) (by decide) hS hlen ⟨by decide, by decide⟩ fin ?_
  refine ⟨rfl, fun n d hn d1 d4 => ?_⟩
  refine ⟨3, rfl, ⟨by decide, by decide⟩, fun r r0 r1 => ?_⟩
  refine ⟨fun ρ μ => ∃ (e f : Nat) (ee ff : Int), ρ = [none, some .dl, some (.d (.int (n : Int))), some (.d (.int (d : Int))), some (.d (.int ee)), some (.d (.int ff)), none, none, none, none, none, none, none, none, none, none, none, none] ∧ μ = [] ∧ ee = e ∧ ff = f ∧ 1 ≤ e ∧ 1 ≤ f ∧ e + f ≤ 4, ?_, fun ρ μ e => ?_⟩
  · exact ⟨4 - (1 + r), rfl, ⟨by omega, by omega⟩, fun s s0 s1 => ⟨[], _, _, ⟨(by repeat (first | exact WkM.nil | refine WkM.cons rfl (by first | exact Or.inl rfl | exact Or.inr (Or.inr ⟨_, rfl, rfl⟩) | exact Or.inr (Or.inl rfl)) ?_)), (by repeat (first | exact WkR.nil | refine WkR.ref rfl ?_ | refine WkR.same trivial ?_ | refine WkR.none ?_)), (by decide)⟩, (1 + r).toNat, (1 + s).toNat, _, _, rfl, rfl, by omega, by omega, by omega, by omega, by omega⟩⟩
  obtain ⟨e, f, _, _, rfl, rfl, rfl, rfl, e1, f1, ef⟩ := e
  have pl := prods35 hn d4
  have el := prods35 hn (show e ≤ 4 by omega)
  have fl := prods35 hn (show f ≤ 4 by omega)
  refine ⟨n, d, rfl, by omega, by omega, by omega, ((prods n d).map ti).length, rfl, by rw [List.length_map]; omega, fun p lp hp => ⟨((prods n d).map ti).length, rfl, by rw [List.length_map]; omega, fun m lm hm => ?_⟩⟩
  rw [List.length_map] at lp lm
  refine ⟨by show 2 ≤ 100000; decide, fun j z => ∃ x : List Int, z = some (ti x) ∧ (j = 0 → x.length = (prods n e).length) ∧ (j = 1 → x.length = (prods n f).length) ∧ ∀ y ∈ x, y.natAbs ≤ 1000000, fun j y hj => ?_, fun zs h1 h2 => ?_⟩
  · have hj2 : (j = 0 ∧ y = .int (e : Int)) ∨ (j = 1 ∧ y = .int (f : Int)) := by
      match j, hj with
      | 0, hj => cases hj; exact .inl ⟨rfl, rfl⟩
      | 1, hj => cases hj; exact .inr ⟨rfl, rfl⟩
    rcases hj2 with ⟨rfl, rfl⟩ | ⟨rfl, rfl⟩
    · exact ⟨n, e, rfl, by omega, by omega, by omega, _, rfl, by rw [List.length_map]; omega, fun x lx hx => ⟨Wk.refl _, x, rfl, fun _ => by rw [lx, List.length_map], fun z => (by cases z), hx⟩⟩
    · exact ⟨n, f, rfl, by omega, by omega, by omega, _, rfl, by rw [List.length_map]; omega, fun x lx hx => ⟨Wk.refl _, x, rfl, fun z => (by cases z), fun _ => by rw [lx, List.length_map], hx⟩⟩
  obtain ⟨z0, z1, rfl⟩ : ∃ a b, zs = [a, b] := by
    match zs, h1 with
    | [a, b], _ => exact ⟨a, b, rfl⟩
  obtain ⟨u, rfl, lu, _, hu2⟩ := h2 0 z0 rfl
  obtain ⟨v, rfl, _, lv, hv⟩ := h2 1 z1 rfl
  replace lu := lu rfl
  replace lv := lv rfl
  refine ⟨⟨by decide, by decide⟩, by rw [rngD_len]; decide, fun _ z => ∃ x : List Int, z = some (ti x) ∧ (x.length = n ∧ ∀ y ∈ x, y.natAbs ≤ 1000), fun i y hi => ⟨n, rfl, by omega, fun x lx hx => ⟨Wk.refl _, x, rfl, lx, hx⟩⟩, fun zs h1 h2 => ?_⟩
  rw [rngD_len] at h1
  obtain ⟨rows, er, lr, hrows⟩ := comp_ex (f := ti) (P := fun x => x.length = n ∧ ∀ y ∈ x, y.natAbs ≤ 1000) h1 h2
  rw [er]
  have l5 : rows.length = 5 := lr
  refine ⟨2, rfl, ⟨by decide, by decide⟩, fun t t0 t1 => ?_⟩
  obtain ⟨z, ez, hz⟩ := at_any (xs := [PyData.int 7, .int 2001]) t0 t1
  obtain ⟨w, rfl, w1, w4⟩ : ∃ w : Int, z = .int w ∧ 1 ≤ w ∧ w ≤ 2001 := by
    simp only [List.mem_cons, List.not_mem_nil, or_false] at hz
    rcases hz with rfl | rfl <;> exact ⟨_, rfl, by decide, by decide⟩
  refine ⟨_, ez, w, rfl, ⟨by omega, by omega⟩, fun k k0 k1 => ?_⟩
  have bk : (k - 3).natAbs ≤ 1000000 := by omega
  have s20 : ∀ {x : Int}, x.natAbs ≤ 2000000 * 1000000 → Sml x := fun h => sml_of (Nat.lt_of_le_of_lt h (Nat.lt_of_lt_of_le (by decide : 2000000 * 1000000 < 2 ^ 80) (Nat.pow_le_pow_right (by decide) (by decide))))
  have oA : ShowOk (ti ((p.zip m).map fun y => y.1 + y.2)) := show_ti (fun x hx => by
    obtain ⟨y, hy, rfl⟩ := List.mem_map.mp hx
    obtain ⟨y1, y2⟩ := List.of_mem_zip hy
    have := hp _ y1
    have := hm _ y2
    exact s20 (by omega)) (by rw [List.length_map, List.length_zip]; omega)
  have oS : ShowOk (ti (p.map fun y => (k - 3) * y)) := show_ti (fun x hx => by
    obtain ⟨y, hy, rfl⟩ := List.mem_map.mp hx
    have h1 := Nat.mul_le_mul bk (hp _ hy)
    rw [← Int.natAbs_mul] at h1
    exact s20 (by omega)) (by rw [List.length_map]; omega)
  have eA : (p.zip m).map (fun y => PyData.int (y.1 + y.2)) = ((p.zip m).map fun y => y.1 + y.2).map PyData.int := by rw [List.map_map]; rfl
  have eS : p.map (fun y => PyData.int ((k - 3) * y)) = (p.map fun y => (k - 3) * y).map PyData.int := by rw [List.map_map]; rfl
  refine ⟨⟨by decide, by decide⟩, fun i ρ μ => ρ = [none, some .dl, some (.d (.int (n : Int))), some (.d (.int (d : Int))), some (.d (.int (e : Int))), some (.d (.int (f : Int))), none, some (.d (ti p)), some (.d (ti m)), some (.d (ti u)), some (.d (ti v)), none, some (.r 0), some (.d (.int (k - 3))), none, none, none, none] ∧ μ = [.fz (.list (rows.map ti))], ?_, fun i y ρ μ hi e => ?_, fun ρ μ e => ?_⟩
  · exact ⟨[0], _, _, ⟨(by repeat (first | exact WkM.nil | refine WkM.cons rfl (by first | exact Or.inl rfl | exact Or.inr (Or.inr ⟨_, rfl, rfl⟩) | exact Or.inr (Or.inl rfl)) ?_)), (by repeat (first | exact WkR.nil | refine WkR.ref rfl ?_ | refine WkR.same trivial ?_ | refine WkR.none ?_)), (by decide)⟩, rfl, rfl⟩
  · obtain ⟨rfl, rfl⟩ := e
    refine ⟨5 - (d : Int), rfl, ⟨by omega, by omega⟩, fun s s0 s1 => ?_⟩
    obtain ⟨g, hg⟩ : ∃ g : Nat, (d : Int) + s = (g : Int) := ⟨((d : Int) + s).toNat, by omega⟩
    refine ⟨n, d, g, p, rows, by rw [hg], hn, d4, by omega, by omega, lp, hp, by omega, hrows, ?_⟩
    refine ⟨p, m, rfl, by omega, oA, ?_⟩
    show _ ∧ _
    rw [zipD_map]
    refine ⟨by rw [List.length_map, List.length_zip]; omega, fun i z => ∃ y, (p.zip m)[i]? = some y ∧ z = some (.int (y.1 + y.2)), fun i y hi => ?_, fun zs h1 h2 => ?_⟩
    · obtain ⟨y, hy, rfl⟩ := map_get hi
      exact ⟨Wk.refl _, y, hy, rfl⟩
    rw [List.length_map] at h1
    rw [comp_map (f := fun y : Int × Int => PyData.int (y.1 + y.2)) h1 h2, eA]
    refine ⟨oA, ifb (fun e => absurd rfl (neT e)) (fun _ => ?_)⟩
    refine ⟨p, k - 3, rfl, by omega, hp, bk, oS, ?_⟩
    refine ⟨by rw [List.length_map]; omega, fun i z => ∃ y, p[i]? = some y ∧ z = some (.int ((k - 3) * y)), fun i y hi => ?_, fun zs h1 h2 => ?_⟩
    · obtain ⟨y, hy, rfl⟩ := map_get hi
      have := hp y (List.mem_of_getElem? hy)
      exact ⟨mul9 (by omega) (by omega), Wk.refl _, y, hy, rfl⟩
    rw [List.length_map] at h1
    rw [comp_map (f := fun y : Int => PyData.int ((k - 3) * y)) h1 h2, eS]
    refine ⟨oS, ifb (fun e => absurd rfl (neT e)) (fun _ => ?_)⟩
    obtain ⟨rs, er3, lr3, hr3⟩ := cutP_map ti rows none (some 3)
    refine ⟨n, e, f, u, v, rs, by rw [er3], hn, ef, lu, hu2, lv, hv, by omega, fun x hx => hrows x (hr3 x hx), ?_⟩
    exact ⟨[0], _, _, ⟨(by repeat (first | exact WkM.nil | refine WkM.cons rfl (by first | exact Or.inl rfl | exact Or.inr (Or.inr ⟨_, rfl, rfl⟩) | exact Or.inr (Or.inl rfl)) ?_)), (by repeat (first | exact WkR.nil | refine WkR.ref rfl ?_ | refine WkR.same trivial ?_ | refine WkR.none ?_)), (by decide)⟩, rfl, rfl⟩
  · obtain ⟨rfl, rfl⟩ := e
    exact ⟨n, e, e, u, rows, rfl, hn, by omega, by omega, by omega, lu, hu2, by omega, hrows, rfl⟩
abbrev level : Nat := 5
theorem law_starts {K : PySem.W.Frag} {H : Hp} {a : Addr} {ns : List Int} (hl : ns.length ≤ 63) (hS : SqL K H a (ns.map V.int)) : sp_law K [.ref a] H (fun v _ => v = .bl true) fun _ _ _ => False := ⟨a, ns, rfl, hS, hl, fun _ => rfl⟩
theorem law_ok {fa : Addr} (hmg : mg "law" = some (.ref fa)) (T : Txt K mg) :
    ∃ fd : FuncData, (∀ (s : Shared) (v : Value), BindsTo s fd ⟨[v], []⟩ [("_law_script", v)]) ∧ ∀ base : Heap, K.In base → base.Ns mainGlobals mg → FnG P w K mg base level fa fd ["_law_script"] (sp_law K) := by
  have e := hmg.symm.trans T.g_law
  cases e
  refine ⟨T.fd_law, fun s v => ?_, fun base _ _ => ok_law (k := 0) T⟩
  obtain ⟨oc, od, kV, doc, pm, an, cdv, ct, osl, e, lk, hcd⟩ := T.F_law.ex
  rw [e]
  exact .of_eq rfl

end
def txt_mk {K : PySem.W.Frag} {h : Heap} {mg : Str → Option Value} (X : K.In h) (G : h.Ns mainGlobals mg)
    {f_products : Addr} {od_products an_products : Option Addr} {sl_products : Array (Option Value)} {oc_products kV_products dc_products pm_products cd_products ct_products : Value}
    (a_products : PySem.W.nsIn K mainGlobals "products" = some (some (.ref f_products))) (l_products : K.lookup f_products = some ⟨oc_products, od_products, .func (PySem.W.fnOf "products" "products" (defArgs st_products) (defBody st_products) (defScope st_products) .none kV_products dc_products pm_products an_products cd_products ct_products), sl_products⟩) (c_products : PySem.W.codeIn K cd_products "products" = true) (k_products : PySem.W.keepIn K (.ref f_products) = true)
    {f_power_of : Addr} {od_power_of an_power_of : Option Addr} {sl_power_of : Array (Option Value)} {oc_power_of kV_power_of dc_power_of pm_power_of cd_power_of ct_power_of : Value}
    (a_power_of : PySem.W.nsIn K mainGlobals "power_of" = some (some (.ref f_power_of))) (l_power_of : K.lookup f_power_of = some ⟨oc_power_of, od_power_of, .func (PySem.W.fnOf "power_of" "power_of" (defArgs st_power_of) (defBody st_power_of) (defScope st_power_of) .none kV_power_of dc_power_of pm_power_of an_power_of cd_power_of ct_power_of), sl_power_of⟩) (c_power_of : PySem.W.codeIn K cd_power_of "power_of" = true) (k_power_of : PySem.W.keepIn K (.ref f_power_of) = true)
    {f_worth : Addr} {od_worth an_worth : Option Addr} {sl_worth : Array (Option Value)} {oc_worth kV_worth dc_worth pm_worth cd_worth ct_worth : Value}
    (a_worth : PySem.W.nsIn K mainGlobals "worth" = some (some (.ref f_worth))) (l_worth : K.lookup f_worth = some ⟨oc_worth, od_worth, .func (PySem.W.fnOf "worth" "worth" (defArgs st_worth) (defBody st_worth) (defScope st_worth) .none kV_worth dc_worth pm_worth an_worth cd_worth ct_worth), sl_worth⟩) (c_worth : PySem.W.codeIn K cd_worth "worth" = true) (k_worth : PySem.W.keepIn K (.ref f_worth) = true)
    {f_numbered : Addr} {od_numbered an_numbered : Option Addr} {sl_numbered : Array (Option Value)} {oc_numbered kV_numbered dc_numbered pm_numbered cd_numbered ct_numbered : Value}
    (a_numbered : PySem.W.nsIn K mainGlobals "numbered" = some (some (.ref f_numbered))) (l_numbered : K.lookup f_numbered = some ⟨oc_numbered, od_numbered, .func (PySem.W.fnOf "numbered" "numbered" (defArgs st_numbered) (defBody st_numbered) (defScope st_numbered) .none kV_numbered dc_numbered pm_numbered an_numbered cd_numbered ct_numbered), sl_numbered⟩) (c_numbered : PySem.W.codeIn K cd_numbered "numbered" = true) (k_numbered : PySem.W.keepIn K (.ref f_numbered) = true)
    {f_in_order : Addr} {od_in_order an_in_order : Option Addr} {sl_in_order : Array (Option Value)} {oc_in_order kV_in_order dc_in_order pm_in_order cd_in_order ct_in_order : Value}
    (a_in_order : PySem.W.nsIn K mainGlobals "in_order" = some (some (.ref f_in_order))) (l_in_order : K.lookup f_in_order = some ⟨oc_in_order, od_in_order, .func (PySem.W.fnOf "in_order" "in_order" (defArgs st_in_order) (defBody st_in_order) (defScope st_in_order) .none kV_in_order dc_in_order pm_in_order an_in_order cd_in_order ct_in_order), sl_in_order⟩) (c_in_order : PySem.W.codeIn K cd_in_order "in_order" = true) (k_in_order : PySem.W.keepIn K (.ref f_in_order) = true)
    {f_degree : Addr} {od_degree an_degree : Option Addr} {sl_degree : Array (Option Value)} {oc_degree kV_degree dc_degree pm_degree cd_degree ct_degree : Value}
    (a_degree : PySem.W.nsIn K mainGlobals "degree" = some (some (.ref f_degree))) (l_degree : K.lookup f_degree = some ⟨oc_degree, od_degree, .func (PySem.W.fnOf "degree" "degree" (defArgs st_degree) (defBody st_degree) (defScope st_degree) .none kV_degree dc_degree pm_degree an_degree cd_degree ct_degree), sl_degree⟩) (c_degree : PySem.W.codeIn K cd_degree "degree" = true) (k_degree : PySem.W.keepIn K (.ref f_degree) = true)
    {f_lifted : Addr} {od_lifted an_lifted : Option Addr} {sl_lifted : Array (Option Value)} {oc_lifted kV_lifted dc_lifted pm_lifted cd_lifted ct_lifted : Value}
    (a_lifted : PySem.W.nsIn K mainGlobals "lifted" = some (some (.ref f_lifted))) (l_lifted : K.lookup f_lifted = some ⟨oc_lifted, od_lifted, .func (PySem.W.fnOf "lifted" "lifted" (defArgs st_lifted) (defBody st_lifted) (defScope st_lifted) .none kV_lifted dc_lifted pm_lifted an_lifted cd_lifted ct_lifted), sl_lifted⟩) (c_lifted : PySem.W.codeIn K cd_lifted "lifted" = true) (k_lifted : PySem.W.keepIn K (.ref f_lifted) = true)
    {f_added : Addr} {od_added an_added : Option Addr} {sl_added : Array (Option Value)} {oc_added kV_added dc_added pm_added cd_added ct_added : Value}
    (a_added : PySem.W.nsIn K mainGlobals "added" = some (some (.ref f_added))) (l_added : K.lookup f_added = some ⟨oc_added, od_added, .func (PySem.W.fnOf "added" "added" (defArgs st_added) (defBody st_added) (defScope st_added) .none kV_added dc_added pm_added an_added cd_added ct_added), sl_added⟩) (c_added : PySem.W.codeIn K cd_added "added" = true) (k_added : PySem.W.keepIn K (.ref f_added) = true)
    {f_scaled : Addr} {od_scaled an_scaled : Option Addr} {sl_scaled : Array (Option Value)} {oc_scaled kV_scaled dc_scaled pm_scaled cd_scaled ct_scaled : Value}
    (a_scaled : PySem.W.nsIn K mainGlobals "scaled" = some (some (.ref f_scaled))) (l_scaled : K.lookup f_scaled = some ⟨oc_scaled, od_scaled, .func (PySem.W.fnOf "scaled" "scaled" (defArgs st_scaled) (defBody st_scaled) (defScope st_scaled) .none kV_scaled dc_scaled pm_scaled an_scaled cd_scaled ct_scaled), sl_scaled⟩) (c_scaled : PySem.W.codeIn K cd_scaled "scaled" = true) (k_scaled : PySem.W.keepIn K (.ref f_scaled) = true)
    {f_numbers_multiplied : Addr} {od_numbers_multiplied an_numbers_multiplied : Option Addr} {sl_numbers_multiplied : Array (Option Value)} {oc_numbers_multiplied kV_numbers_multiplied dc_numbers_multiplied pm_numbers_multiplied cd_numbers_multiplied ct_numbers_multiplied : Value}
    (a_numbers_multiplied : PySem.W.nsIn K mainGlobals "numbers_multiplied" = some (some (.ref f_numbers_multiplied))) (l_numbers_multiplied : K.lookup f_numbers_multiplied = some ⟨oc_numbers_multiplied, od_numbers_multiplied, .func (PySem.W.fnOf "numbers_multiplied" "numbers_multiplied" (defArgs st_numbers_multiplied) (defBody st_numbers_multiplied) (defScope st_numbers_multiplied) .none kV_numbers_multiplied dc_numbers_multiplied pm_numbers_multiplied an_numbers_multiplied cd_numbers_multiplied ct_numbers_multiplied), sl_numbers_multiplied⟩) (c_numbers_multiplied : PySem.W.codeIn K cd_numbers_multiplied "numbers_multiplied" = true) (k_numbers_multiplied : PySem.W.keepIn K (.ref f_numbers_multiplied) = true)
    {f_multiplied : Addr} {od_multiplied an_multiplied : Option Addr} {sl_multiplied : Array (Option Value)} {oc_multiplied kV_multiplied dc_multiplied pm_multiplied cd_multiplied ct_multiplied : Value}
    (a_multiplied : PySem.W.nsIn K mainGlobals "multiplied" = some (some (.ref f_multiplied))) (l_multiplied : K.lookup f_multiplied = some ⟨oc_multiplied, od_multiplied, .func (PySem.W.fnOf "multiplied" "multiplied" (defArgs st_multiplied) (defBody st_multiplied) (defScope st_multiplied) .none kV_multiplied dc_multiplied pm_multiplied an_multiplied cd_multiplied ct_multiplied), sl_multiplied⟩) (c_multiplied : PySem.W.codeIn K cd_multiplied "multiplied" = true) (k_multiplied : PySem.W.keepIn K (.ref f_multiplied) = true)
    {f__law_deal : Addr} {od__law_deal an__law_deal : Option Addr} {sl__law_deal : Array (Option Value)} {oc__law_deal kV__law_deal dc__law_deal pm__law_deal cd__law_deal ct__law_deal : Value}
    (a__law_deal : PySem.W.nsIn K mainGlobals "_law_deal" = some (some (.ref f__law_deal))) (l__law_deal : K.lookup f__law_deal = some ⟨oc__law_deal, od__law_deal, .func (PySem.W.fnOf "_law_deal" "_law_deal" (defArgs st__law_deal) (defBody st__law_deal) (defScope st__law_deal) .none kV__law_deal dc__law_deal pm__law_deal an__law_deal cd__law_deal ct__law_deal), sl__law_deal⟩) (c__law_deal : PySem.W.codeIn K cd__law_deal "_law_deal" = true) (k__law_deal : PySem.W.keepIn K (.ref f__law_deal) = true)
    {f__law_draw : Addr} {od__law_draw an__law_draw : Option Addr} {sl__law_draw : Array (Option Value)} {oc__law_draw kV__law_draw dc__law_draw pm__law_draw cd__law_draw ct__law_draw : Value}
    (a__law_draw : PySem.W.nsIn K mainGlobals "_law_draw" = some (some (.ref f__law_draw))) (l__law_draw : K.lookup f__law_draw = some ⟨oc__law_draw, od__law_draw, .func (PySem.W.fnOf "_law_draw" "_law_draw" (defArgs st__law_draw) (defBody st__law_draw) (defScope st__law_draw) .none kV__law_draw dc__law_draw pm__law_draw an__law_draw cd__law_draw ct__law_draw), sl__law_draw⟩) (c__law_draw : PySem.W.codeIn K cd__law_draw "_law_draw" = true) (k__law_draw : PySem.W.keepIn K (.ref f__law_draw) = true)
    {f__law_products : Addr} {od__law_products an__law_products : Option Addr} {sl__law_products : Array (Option Value)} {oc__law_products kV__law_products dc__law_products pm__law_products cd__law_products ct__law_products : Value}
    (a__law_products : PySem.W.nsIn K mainGlobals "_law_products" = some (some (.ref f__law_products))) (l__law_products : K.lookup f__law_products = some ⟨oc__law_products, od__law_products, .func (PySem.W.fnOf "_law_products" "_law_products" (defArgs st__law_products) (defBody st__law_products) (defScope st__law_products) .none kV__law_products dc__law_products pm__law_products an__law_products cd__law_products ct__law_products), sl__law_products⟩) (c__law_products : PySem.W.codeIn K cd__law_products "_law_products" = true) (k__law_products : PySem.W.keepIn K (.ref f__law_products) = true)
    {f__law_worth : Addr} {od__law_worth an__law_worth : Option Addr} {sl__law_worth : Array (Option Value)} {oc__law_worth kV__law_worth dc__law_worth pm__law_worth cd__law_worth ct__law_worth : Value}
    (a__law_worth : PySem.W.nsIn K mainGlobals "_law_worth" = some (some (.ref f__law_worth))) (l__law_worth : K.lookup f__law_worth = some ⟨oc__law_worth, od__law_worth, .func (PySem.W.fnOf "_law_worth" "_law_worth" (defArgs st__law_worth) (defBody st__law_worth) (defScope st__law_worth) .none kV__law_worth dc__law_worth pm__law_worth an__law_worth cd__law_worth ct__law_worth), sl__law_worth⟩) (c__law_worth : PySem.W.codeIn K cd__law_worth "_law_worth" = true) (k__law_worth : PySem.W.keepIn K (.ref f__law_worth) = true)
    {f__law_sizes : Addr} {od__law_sizes an__law_sizes : Option Addr} {sl__law_sizes : Array (Option Value)} {oc__law_sizes kV__law_sizes dc__law_sizes pm__law_sizes cd__law_sizes ct__law_sizes : Value}
    (a__law_sizes : PySem.W.nsIn K mainGlobals "_law_sizes" = some (some (.ref f__law_sizes))) (l__law_sizes : K.lookup f__law_sizes = some ⟨oc__law_sizes, od__law_sizes, .func (PySem.W.fnOf "_law_sizes" "_law_sizes" (defArgs st__law_sizes) (defBody st__law_sizes) (defScope st__law_sizes) .none kV__law_sizes dc__law_sizes pm__law_sizes an__law_sizes cd__law_sizes ct__law_sizes), sl__law_sizes⟩) (c__law_sizes : PySem.W.codeIn K cd__law_sizes "_law_sizes" = true) (k__law_sizes : PySem.W.keepIn K (.ref f__law_sizes) = true)
    {f__law_poly : Addr} {od__law_poly an__law_poly : Option Addr} {sl__law_poly : Array (Option Value)} {oc__law_poly kV__law_poly dc__law_poly pm__law_poly cd__law_poly ct__law_poly : Value}
    (a__law_poly : PySem.W.nsIn K mainGlobals "_law_poly" = some (some (.ref f__law_poly))) (l__law_poly : K.lookup f__law_poly = some ⟨oc__law_poly, od__law_poly, .func (PySem.W.fnOf "_law_poly" "_law_poly" (defArgs st__law_poly) (defBody st__law_poly) (defScope st__law_poly) .none kV__law_poly dc__law_poly pm__law_poly an__law_poly cd__law_poly ct__law_poly), sl__law_poly⟩) (c__law_poly : PySem.W.codeIn K cd__law_poly "_law_poly" = true) (k__law_poly : PySem.W.keepIn K (.ref f__law_poly) = true)
    {f__law_boxes : Addr} {od__law_boxes an__law_boxes : Option Addr} {sl__law_boxes : Array (Option Value)} {oc__law_boxes kV__law_boxes dc__law_boxes pm__law_boxes cd__law_boxes ct__law_boxes : Value}
    (a__law_boxes : PySem.W.nsIn K mainGlobals "_law_boxes" = some (some (.ref f__law_boxes))) (l__law_boxes : K.lookup f__law_boxes = some ⟨oc__law_boxes, od__law_boxes, .func (PySem.W.fnOf "_law_boxes" "_law_boxes" (defArgs st__law_boxes) (defBody st__law_boxes) (defScope st__law_boxes) .none kV__law_boxes dc__law_boxes pm__law_boxes an__law_boxes cd__law_boxes ct__law_boxes), sl__law_boxes⟩) (c__law_boxes : PySem.W.codeIn K cd__law_boxes "_law_boxes" = true) (k__law_boxes : PySem.W.keepIn K (.ref f__law_boxes) = true)
    {f__law_greatest : Addr} {od__law_greatest an__law_greatest : Option Addr} {sl__law_greatest : Array (Option Value)} {oc__law_greatest kV__law_greatest dc__law_greatest pm__law_greatest cd__law_greatest ct__law_greatest : Value}
    (a__law_greatest : PySem.W.nsIn K mainGlobals "_law_greatest" = some (some (.ref f__law_greatest))) (l__law_greatest : K.lookup f__law_greatest = some ⟨oc__law_greatest, od__law_greatest, .func (PySem.W.fnOf "_law_greatest" "_law_greatest" (defArgs st__law_greatest) (defBody st__law_greatest) (defScope st__law_greatest) .none kV__law_greatest dc__law_greatest pm__law_greatest an__law_greatest cd__law_greatest ct__law_greatest), sl__law_greatest⟩) (c__law_greatest : PySem.W.codeIn K cd__law_greatest "_law_greatest" = true) (k__law_greatest : PySem.W.keepIn K (.ref f__law_greatest) = true)
    {f__law_is_poly : Addr} {od__law_is_poly an__law_is_poly : Option Addr} {sl__law_is_poly : Array (Option Value)} {oc__law_is_poly kV__law_is_poly dc__law_is_poly pm__law_is_poly cd__law_is_poly ct__law_is_poly : Value}
    (a__law_is_poly : PySem.W.nsIn K mainGlobals "_law_is_poly" = some (some (.ref f__law_is_poly))) (l__law_is_poly : K.lookup f__law_is_poly = some ⟨oc__law_is_poly, od__law_is_poly, .func (PySem.W.fnOf "_law_is_poly" "_law_is_poly" (defArgs st__law_is_poly) (defBody st__law_is_poly) (defScope st__law_is_poly) .none kV__law_is_poly dc__law_is_poly pm__law_is_poly an__law_is_poly cd__law_is_poly ct__law_is_poly), sl__law_is_poly⟩) (c__law_is_poly : PySem.W.codeIn K cd__law_is_poly "_law_is_poly" = true) (k__law_is_poly : PySem.W.keepIn K (.ref f__law_is_poly) = true)
    {f__law_one_right : Addr} {od__law_one_right an__law_one_right : Option Addr} {sl__law_one_right : Array (Option Value)} {oc__law_one_right kV__law_one_right dc__law_one_right pm__law_one_right cd__law_one_right ct__law_one_right : Value}
    (a__law_one_right : PySem.W.nsIn K mainGlobals "_law_one_right" = some (some (.ref f__law_one_right))) (l__law_one_right : K.lookup f__law_one_right = some ⟨oc__law_one_right, od__law_one_right, .func (PySem.W.fnOf "_law_one_right" "_law_one_right" (defArgs st__law_one_right) (defBody st__law_one_right) (defScope st__law_one_right) .none kV__law_one_right dc__law_one_right pm__law_one_right an__law_one_right cd__law_one_right ct__law_one_right), sl__law_one_right⟩) (c__law_one_right : PySem.W.codeIn K cd__law_one_right "_law_one_right" = true) (k__law_one_right : PySem.W.keepIn K (.ref f__law_one_right) = true)
    {f__law_two_right : Addr} {od__law_two_right an__law_two_right : Option Addr} {sl__law_two_right : Array (Option Value)} {oc__law_two_right kV__law_two_right dc__law_two_right pm__law_two_right cd__law_two_right ct__law_two_right : Value}
    (a__law_two_right : PySem.W.nsIn K mainGlobals "_law_two_right" = some (some (.ref f__law_two_right))) (l__law_two_right : K.lookup f__law_two_right = some ⟨oc__law_two_right, od__law_two_right, .func (PySem.W.fnOf "_law_two_right" "_law_two_right" (defArgs st__law_two_right) (defBody st__law_two_right) (defScope st__law_two_right) .none kV__law_two_right dc__law_two_right pm__law_two_right an__law_two_right cd__law_two_right ct__law_two_right), sl__law_two_right⟩) (c__law_two_right : PySem.W.codeIn K cd__law_two_right "_law_two_right" = true) (k__law_two_right : PySem.W.keepIn K (.ref f__law_two_right) = true)
    {f_law : Addr} {od_law an_law : Option Addr} {sl_law : Array (Option Value)} {oc_law kV_law dc_law pm_law cd_law ct_law : Value}
    (a_law : PySem.W.nsIn K mainGlobals "law" = some (some (.ref f_law))) (l_law : K.lookup f_law = some ⟨oc_law, od_law, .func (PySem.W.fnOf "law" "law" (defArgs st_law) (defBody st_law) (defScope st_law) .none kV_law dc_law pm_law an_law cd_law ct_law), sl_law⟩) (c_law : PySem.W.codeIn K cd_law "law" = true) (k_law : PySem.W.keepIn K (.ref f_law) = true)
    (z_all : PySem.W.nsIn K mainGlobals "all" = some none)
    (z_bool : PySem.W.nsIn K mainGlobals "bool" = some none)
    (z_dict : PySem.W.nsIn K mainGlobals "dict" = some none)
    (z_int : PySem.W.nsIn K mainGlobals "int" = some none)
    (z_isinstance : PySem.W.nsIn K mainGlobals "isinstance" = some none)
    (z_len : PySem.W.nsIn K mainGlobals "len" = some none)
    (z_list : PySem.W.nsIn K mainGlobals "list" = some none)
    (z_max : PySem.W.nsIn K mainGlobals "max" = some none)
    (z_range : PySem.W.nsIn K mainGlobals "range" = some none)
    (z_repr : PySem.W.nsIn K mainGlobals "repr" = some none)
    (z_reversed : PySem.W.nsIn K mainGlobals "reversed" = some none)
    (z_sorted : PySem.W.nsIn K mainGlobals "sorted" = some none)
    (z_sum : PySem.W.nsIn K mainGlobals "sum" = some none)
    (z_tuple : PySem.W.nsIn K mainGlobals "tuple" = some none)
    (z_zip : PySem.W.nsIn K mainGlobals "zip" = some none) : Txt K mg :=
  {
    f_products := f_products, fd_products := _, F_products := fun_mk (st := st_products) l_products c_products k_products, b_products := (fun_mk (st := st_products) l_products c_products k_products).binds (ps := ["n", "d"]) fun _ _ _ _ _ _ us hl => match us, hl with | [_, _], _ => rfl, g_products := PySem.W.mg_of X G a_products,
    f_power_of := f_power_of, fd_power_of := _, F_power_of := fun_mk (st := st_power_of) l_power_of c_power_of k_power_of, b_power_of := (fun_mk (st := st_power_of) l_power_of c_power_of k_power_of).binds (ps := ["number", "k"]) fun _ _ _ _ _ _ us hl => match us, hl with | [_, _], _ => rfl, g_power_of := PySem.W.mg_of X G a_power_of,
    f_worth := f_worth, fd_worth := _, F_worth := fun_mk (st := st_worth) l_worth c_worth k_worth, b_worth := (fun_mk (st := st_worth) l_worth c_worth k_worth).binds (ps := ["n", "d", "p", "boxes"]) fun _ _ _ _ _ _ us hl => match us, hl with | [_, _, _, _], _ => rfl, g_worth := PySem.W.mg_of X G a_worth,
    f_numbered := f_numbered, fd_numbered := _, F_numbered := fun_mk (st := st_numbered) l_numbered c_numbered k_numbered, b_numbered := (fun_mk (st := st_numbered) l_numbered c_numbered k_numbered).binds (ps := ["n", "d", "p"]) fun _ _ _ _ _ _ us hl => match us, hl with | [_, _, _], _ => rfl, g_numbered := PySem.W.mg_of X G a_numbered,
    f_in_order := f_in_order, fd_in_order := _, F_in_order := fun_mk (st := st_in_order) l_in_order c_in_order k_in_order, b_in_order := (fun_mk (st := st_in_order) l_in_order c_in_order k_in_order).binds (ps := ["n", "d", "numbers"]) fun _ _ _ _ _ _ us hl => match us, hl with | [_, _, _], _ => rfl, g_in_order := PySem.W.mg_of X G a_in_order,
    f_degree := f_degree, fd_degree := _, F_degree := fun_mk (st := st_degree) l_degree c_degree k_degree, b_degree := (fun_mk (st := st_degree) l_degree c_degree k_degree).binds (ps := ["n", "d", "p"]) fun _ _ _ _ _ _ us hl => match us, hl with | [_, _, _], _ => rfl, g_degree := PySem.W.mg_of X G a_degree,
    f_lifted := f_lifted, fd_lifted := _, F_lifted := fun_mk (st := st_lifted) l_lifted c_lifted k_lifted, b_lifted := (fun_mk (st := st_lifted) l_lifted c_lifted k_lifted).binds (ps := ["n", "d", "p", "e"]) fun _ _ _ _ _ _ us hl => match us, hl with | [_, _, _, _], _ => rfl, g_lifted := PySem.W.mg_of X G a_lifted,
    f_added := f_added, fd_added := _, F_added := fun_mk (st := st_added) l_added c_added k_added, b_added := (fun_mk (st := st_added) l_added c_added k_added).binds (ps := ["p", "other"]) fun _ _ _ _ _ _ us hl => match us, hl with | [_, _], _ => rfl, g_added := PySem.W.mg_of X G a_added,
    f_scaled := f_scaled, fd_scaled := _, F_scaled := fun_mk (st := st_scaled) l_scaled c_scaled k_scaled, b_scaled := (fun_mk (st := st_scaled) l_scaled c_scaled k_scaled).binds (ps := ["p", "k"]) fun _ _ _ _ _ _ us hl => match us, hl with | [_, _], _ => rfl, g_scaled := PySem.W.mg_of X G a_scaled,
    f_numbers_multiplied := f_numbers_multiplied, fd_numbers_multiplied := _, F_numbers_multiplied := fun_mk (st := st_numbers_multiplied) l_numbers_multiplied c_numbers_multiplied k_numbers_multiplied, b_numbers_multiplied := (fun_mk (st := st_numbers_multiplied) l_numbers_multiplied c_numbers_multiplied k_numbers_multiplied).binds (ps := ["one", "other"]) fun _ _ _ _ _ _ us hl => match us, hl with | [_, _], _ => rfl, g_numbers_multiplied := PySem.W.mg_of X G a_numbers_multiplied,
    f_multiplied := f_multiplied, fd_multiplied := _, F_multiplied := fun_mk (st := st_multiplied) l_multiplied c_multiplied k_multiplied, b_multiplied := (fun_mk (st := st_multiplied) l_multiplied c_multiplied k_multiplied).binds (ps := ["n", "d", "p", "e", "other"]) fun _ _ _ _ _ _ us hl => match us, hl with | [_, _, _, _, _], _ => rfl, g_multiplied := PySem.W.mg_of X G a_multiplied,
    f__law_deal := f__law_deal, fd__law_deal := _, F__law_deal := fun_mk (st := st__law_deal) l__law_deal c__law_deal k__law_deal, b__law_deal := (fun_mk (st := st__law_deal) l__law_deal c__law_deal k__law_deal).binds (ps := ["_law_script", "_law_base"]) fun _ _ _ _ _ _ us hl => match us, hl with | [_, _], _ => rfl, g__law_deal := PySem.W.mg_of X G a__law_deal,
    f__law_draw := f__law_draw, fd__law_draw := _, F__law_draw := fun_mk (st := st__law_draw) l__law_draw c__law_draw k__law_draw, b__law_draw := (fun_mk (st := st__law_draw) l__law_draw c__law_draw k__law_draw).binds (ps := ["_law_deal_here", "_law_many"]) fun _ _ _ _ _ _ us hl => match us, hl with | [_, _], _ => rfl, g__law_draw := PySem.W.mg_of X G a__law_draw,
    f__law_products := f__law_products, fd__law_products := _, F__law_products := fun_mk (st := st__law_products) l__law_products c__law_products k__law_products, b__law_products := (fun_mk (st := st__law_products) l__law_products c__law_products k__law_products).binds (ps := ["_law_n", "_law_d"]) fun _ _ _ _ _ _ us hl => match us, hl with | [_, _], _ => rfl, g__law_products := PySem.W.mg_of X G a__law_products,
    f__law_worth := f__law_worth, fd__law_worth := _, F__law_worth := fun_mk (st := st__law_worth) l__law_worth c__law_worth k__law_worth, b__law_worth := (fun_mk (st := st__law_worth) l__law_worth c__law_worth k__law_worth).binds (ps := ["_law_n", "_law_d", "_law_p", "_law_boxes_here"]) fun _ _ _ _ _ _ us hl => match us, hl with | [_, _, _, _], _ => rfl, g__law_worth := PySem.W.mg_of X G a__law_worth,
    f__law_sizes := f__law_sizes, fd__law_sizes := _, F__law_sizes := fun_mk (st := st__law_sizes) l__law_sizes c__law_sizes k__law_sizes, b__law_sizes := (fun_mk (st := st__law_sizes) l__law_sizes c__law_sizes k__law_sizes).binds (ps := ["_law_deal_here"]) fun _ _ _ _ _ _ us hl => match us, hl with | [_], _ => rfl, g__law_sizes := PySem.W.mg_of X G a__law_sizes,
    f__law_poly := f__law_poly, fd__law_poly := _, F__law_poly := fun_mk (st := st__law_poly) l__law_poly c__law_poly k__law_poly, b__law_poly := (fun_mk (st := st__law_poly) l__law_poly c__law_poly k__law_poly).binds (ps := ["_law_deal_here", "_law_many"]) fun _ _ _ _ _ _ us hl => match us, hl with | [_, _], _ => rfl, g__law_poly := PySem.W.mg_of X G a__law_poly,
    f__law_boxes := f__law_boxes, fd__law_boxes := _, F__law_boxes := fun_mk (st := st__law_boxes) l__law_boxes c__law_boxes k__law_boxes, b__law_boxes := (fun_mk (st := st__law_boxes) l__law_boxes c__law_boxes k__law_boxes).binds (ps := ["_law_deal_here", "_law_n"]) fun _ _ _ _ _ _ us hl => match us, hl with | [_, _], _ => rfl, g__law_boxes := PySem.W.mg_of X G a__law_boxes,
    f__law_greatest := f__law_greatest, fd__law_greatest := _, F__law_greatest := fun_mk (st := st__law_greatest) l__law_greatest c__law_greatest k__law_greatest, b__law_greatest := (fun_mk (st := st__law_greatest) l__law_greatest c__law_greatest k__law_greatest).binds (ps := ["_law_n", "_law_d", "_law_p"]) fun _ _ _ _ _ _ us hl => match us, hl with | [_, _, _], _ => rfl, g__law_greatest := PySem.W.mg_of X G a__law_greatest,
    f__law_is_poly := f__law_is_poly, fd__law_is_poly := _, F__law_is_poly := fun_mk (st := st__law_is_poly) l__law_is_poly c__law_is_poly k__law_is_poly, b__law_is_poly := (fun_mk (st := st__law_is_poly) l__law_is_poly c__law_is_poly k__law_is_poly).binds (ps := ["_law_found", "_law_many"]) fun _ _ _ _ _ _ us hl => match us, hl with | [_, _], _ => rfl, g__law_is_poly := PySem.W.mg_of X G a__law_is_poly,
    f__law_one_right := f__law_one_right, fd__law_one_right := _, F__law_one_right := fun_mk (st := st__law_one_right) l__law_one_right c__law_one_right k__law_one_right, b__law_one_right := (fun_mk (st := st__law_one_right) l__law_one_right c__law_one_right k__law_one_right).binds (ps := ["_law_n", "_law_d", "_law_p", "_law_e", "_law_rows"]) fun _ _ _ _ _ _ us hl => match us, hl with | [_, _, _, _, _], _ => rfl, g__law_one_right := PySem.W.mg_of X G a__law_one_right,
    f__law_two_right := f__law_two_right, fd__law_two_right := _, F__law_two_right := fun_mk (st := st__law_two_right) l__law_two_right c__law_two_right k__law_two_right, b__law_two_right := (fun_mk (st := st__law_two_right) l__law_two_right c__law_two_right k__law_two_right).binds (ps := ["_law_n", "_law_d", "_law_p", "_law_e", "_law_other", "_law_rows"]) fun _ _ _ _ _ _ us hl => match us, hl with | [_, _, _, _, _, _], _ => rfl, g__law_two_right := PySem.W.mg_of X G a__law_two_right,
    f_law := f_law, fd_law := _, F_law := fun_mk (st := st_law) l_law c_law k_law, b_law := (fun_mk (st := st_law) l_law c_law k_law).binds (ps := ["_law_script"]) fun _ _ _ _ _ _ us hl => match us, hl with | [_], _ => rfl, g_law := PySem.W.mg_of X G a_law,
    z_all := PySem.W.mg_none_of X G z_all,
    z_bool := PySem.W.mg_none_of X G z_bool,
    z_dict := PySem.W.mg_none_of X G z_dict,
    z_int := PySem.W.mg_none_of X G z_int,
    z_isinstance := PySem.W.mg_none_of X G z_isinstance,
    z_len := PySem.W.mg_none_of X G z_len,
    z_list := PySem.W.mg_none_of X G z_list,
    z_max := PySem.W.mg_none_of X G z_max,
    z_range := PySem.W.mg_none_of X G z_range,
    z_repr := PySem.W.mg_none_of X G z_repr,
    z_reversed := PySem.W.mg_none_of X G z_reversed,
    z_sorted := PySem.W.mg_none_of X G z_sorted,
    z_sum := PySem.W.mg_none_of X G z_sum,
    z_tuple := PySem.W.mg_none_of X G z_tuple,
    z_zip := PySem.W.mg_none_of X G z_zip }
end LW
open PySem PySem.W PyProof.Rows
set_option maxHeartbeats 0 in
theorem PySem.Challenge.cw_curvekept_k04_polynomials_reckoned_holds : PySem.Challenge.rw_curvekept_k04_polynomials_reckoned.Holds := by
  w_on; o_law; k_head; (case hw => w_witness2)
  k_fill
  refine CB.walkG (l := PySem.Challenge.rw_curvekept_k04_polynomials_reckoned) (n := 63) (k := LW.level) (x := "_law_script") (sp := fun w => LW.sp_law _) rfl (by decide) rfl ⟨rfl, by decide, by decide⟩ (fun w h Y => PySem.W.kIn_of Y) ?F (fun _ _ a ns hl hS => LW.law_starts hl hS)
  case F =>
    intro w mg fa h KX G hmg
    refine' LW.law_ok hmg (LW.txt_mk KX G ?a_products ?l_products ?c_products ?k_products ?a_power_of ?l_power_of ?c_power_of ?k_power_of ?a_worth ?l_worth ?c_worth ?k_worth ?a_numbered ?l_numbered ?c_numbered ?k_numbered ?a_in_order ?l_in_order ?c_in_order ?k_in_order ?a_degree ?l_degree ?c_degree ?k_degree ?a_lifted ?l_lifted ?c_lifted ?k_lifted ?a_added ?l_added ?c_added ?k_added ?a_scaled ?l_scaled ?c_scaled ?k_scaled ?a_numbers_multiplied ?l_numbers_multiplied ?c_numbers_multiplied ?k_numbers_multiplied ?a_multiplied ?l_multiplied ?c_multiplied ?k_multiplied ?a__law_deal ?l__law_deal ?c__law_deal ?k__law_deal ?a__law_draw ?l__law_draw ?c__law_draw ?k__law_draw ?a__law_products ?l__law_products ?c__law_products ?k__law_products ?a__law_worth ?l__law_worth ?c__law_worth ?k__law_worth ?a__law_sizes ?l__law_sizes ?c__law_sizes ?k__law_sizes ?a__law_poly ?l__law_poly ?c__law_poly ?k__law_poly ?a__law_boxes ?l__law_boxes ?c__law_boxes ?k__law_boxes ?a__law_greatest ?l__law_greatest ?c__law_greatest ?k__law_greatest ?a__law_is_poly ?l__law_is_poly ?c__law_is_poly ?k__law_is_poly ?a__law_one_right ?l__law_one_right ?c__law_one_right ?k__law_one_right ?a__law_two_right ?l__law_two_right ?c__law_two_right ?k__law_two_right ?a_law ?l_law ?c_law ?k_law ?z_all ?z_bool ?z_dict ?z_int ?z_isinstance ?z_len ?z_list ?z_max ?z_range ?z_repr ?z_reversed ?z_sorted ?z_sum ?z_tuple ?z_zip)
    (case a_products => k_is); (case l_products => k_is); (case c_products => k_is); (case k_products => k_is); (case a_power_of => k_is); (case l_power_of => k_is); (case c_power_of => k_is); (case k_power_of => k_is); (case a_worth => k_is); (case l_worth => k_is); (case c_worth => k_is); (case k_worth => k_is); (case a_numbered => k_is); (case l_numbered => k_is); (case c_numbered => k_is); (case k_numbered => k_is); (case a_in_order => k_is); (case l_in_order => k_is); (case c_in_order => k_is); (case k_in_order => k_is); (case a_degree => k_is); (case l_degree => k_is); (case c_degree => k_is); (case k_degree => k_is); (case a_lifted => k_is); (case l_lifted => k_is); (case c_lifted => k_is); (case k_lifted => k_is); (case a_added => k_is); (case l_added => k_is); (case c_added => k_is); (case k_added => k_is); (case a_scaled => k_is); (case l_scaled => k_is); (case c_scaled => k_is); (case k_scaled => k_is); (case a_numbers_multiplied => k_is); (case l_numbers_multiplied => k_is); (case c_numbers_multiplied => k_is); (case k_numbers_multiplied => k_is); (case a_multiplied => k_is); (case l_multiplied => k_is); (case c_multiplied => k_is); (case k_multiplied => k_is); (case a__law_deal => k_is); (case l__law_deal => k_is); (case c__law_deal => k_is); (case k__law_deal => k_is); (case a__law_draw => k_is); (case l__law_draw => k_is); (case c__law_draw => k_is); (case k__law_draw => k_is); (case a__law_products => k_is); (case l__law_products => k_is); (case c__law_products => k_is); (case k__law_products => k_is); (case a__law_worth => k_is); (case l__law_worth => k_is); (case c__law_worth => k_is); (case k__law_worth => k_is); (case a__law_sizes => k_is); (case l__law_sizes => k_is); (case c__law_sizes => k_is); (case k__law_sizes => k_is); (case a__law_poly => k_is); (case l__law_poly => k_is); (case c__law_poly => k_is); (case k__law_poly => k_is); (case a__law_boxes => k_is); (case l__law_boxes => k_is); (case c__law_boxes => k_is); (case k__law_boxes => k_is); (case a__law_greatest => k_is); (case l__law_greatest => k_is); (case c__law_greatest => k_is); (case k__law_greatest => k_is); (case a__law_is_poly => k_is); (case l__law_is_poly => k_is); (case c__law_is_poly => k_is); (case k__law_is_poly => k_is); (case a__law_one_right => k_is); (case l__law_one_right => k_is); (case c__law_one_right => k_is); (case k__law_one_right => k_is); (case a__law_two_right => k_is); (case l__law_two_right => k_is); (case c__law_two_right => k_is); (case k__law_two_right => k_is); (case a_law => k_is); (case l_law => k_is); (case c_law => k_is); (case k_law => k_is); (case z_all => k_is); (case z_bool => k_is); (case z_dict => k_is); (case z_int => k_is); (case z_isinstance => k_is); (case z_len => k_is); (case z_list => k_is); (case z_max => k_is); (case z_range => k_is); (case z_repr => k_is); (case z_reversed => k_is); (case z_sorted => k_is); (case z_sum => k_is); (case z_tuple => k_is); (case z_zip => k_is)
