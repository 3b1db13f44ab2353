import PyProof.Rows.All
import Wide.All
import OpenK.AllK
import Wide.FinOn
import HandS.ForMost
import HandS.IsInst
import HandS.Rev
import HandS.Style
import HandS.Conv
import HandS.TupAny
import HandS.Evl
import HandS.Walk
import HandS.Deep
import HandS.Zip
import PyProof.ListStr
import KE.SortData
import KE.SortKeyHeap
import PyProof.ReprRoads
import PySem.Challenge.RW_curvekept_k01_names
set_option Elab.async false
set_option linter.all false
set_option maxRecDepth 100000
set_option maxHeartbeats 2000000
namespace CB
open PySem PySem.Spec PyProof.Rows L2

/-! ### list(reversed(l)) -/
section
variable {prog : Program} {w : World} {A : Around} {E : Value → Shared → Prop} {s : Shared}
theorem extend_rev {it l S : Addr} {items : Array Value} {c0 : Nat} {R : Result → Shared → Prop} (hh : A.handled = none) (hit : s.heap.IsRevIter it l ((items.size : Int) - 1)) (hl : s.heap.IsList l items) (hne : l ≠ it) (hn : items.size ≤ sizeLine)
    (hS : s.heap.get? S = some { cls := .type "list", data := .seq #[] c0 }) (hSi : S ≠ it) (hSl : S ≠ l)
    (hR : ∀ s' acc c', (∀ b o, b ≠ S → b ≠ it → s.heap.get? b = some o → s'.heap.get? b = some o) → (∃ h' tk, s' = { s with heap := h', toks := tk }) →
      s'.heap.get? S = some { cls := .type "list", dict := none, data := .seq acc c', slots := #[] } → ItemsOf (fun i v => items[items.size - 1 - i]? = some v) acc items.size → R (.ok (.ret .none)) s') :
    wpAny (model prog w) A.in1 (Builtin.List.listExtendWith (.ref S) (.ref it) .none)
      (fun fin s' => match fin with | .done f => R (.ok f) s' | .again c' => c'.quiet = true ∧ codeAny (model prog w) A c' R s') (fun e s' => R (.error e) s') s := by
  have W := (Walks.listRev (prog := prog) (w := w) (A := A.in1) hh it l hne items).toS
  have hSf : S ∉ [it, l] := by simp only [List.mem_cons, List.not_mem_nil, or_false, not_or]; exact ⟨hSi, hSl⟩
  have hT := hit.typeIs
  have h1 : Builtin.List.listSameRef (.ref S) (.ref it) = false := by simp [Builtin.List.listSameRef, hSi]
  unfold Builtin.List.listExtendWith
  refine wpAny_bind (wpAny_typeOf hT ?_)
  rw [if_neg (by rw [h1]; decide)]
  refine wpAny_bind (wpAny_pyIter_revIter hit ?_)
  refine wpAny_bind (wpAny_holding ?_)
  unfold Builtin.List.listLengthHint
  refine wpAny_bind (wpAny_specialOf hT RT.nolen_lri ?_)
  show wpAny _ A.in1 (specialOf (Value.ref it) (Str.ofString "__length_hint__") >>= _) _ _ _
  refine wpAny_bind (wpAny_specialOf hT RT.hint_lri ?_)
  generalize hid : ("list_reverseiterator.__length_hint__" : String) = id0
  wp_delta
  rw [show splitId id0 = some ("list_reverseiterator", "__length_hint__") from by subst hid; decide +kernel]
  subst hid
  refine wpAny_bind (wpAny_isInstance (b := true) hT (by rw [isSubtype_type]; kernel_rfl) ?_)
  refine wpAny_pure ?_
  rw [if_neg (by decide)]
  have e0 : ((items.size : Nat) : Int) - 1 - ((0 : Nat) : Int) = (items.size : Int) - 1 := by omega
  refine wpAny_pure ⟨plainId_quiet F.plain_extend_loop _, codeAny_extend_loopS W hn _ hSf _ items.size 0 _ _ _ rfl (Nat.zero_le _) ⟨Nat.zero_le _, by rw [e0]; exact hit, hl⟩ hS (ItemsOf.nil _) fun s' acc' c' hm hS' hacc => ?_⟩
  refine hR s' acc' c' (fun b o hb hb2 e => hm.heap b o (fun hmem => ?_) e) ⟨_, _, Moved.eq_with hm⟩ hS' hacc
  rcases List.mem_cons.mp hmem with e' | hmem
  · exact hb e'
  · exact hb2 (List.mem_singleton.mp hmem)
theorem call_list_rev {it l : Addr} {items : Array Value} {Q : Value → Shared → Prop} (hh : A.handled = none) (hit : s.heap.IsRevIter it l ((items.size : Int) - 1)) (hl : s.heap.IsList l items) (hne : l ≠ it) (hn : items.size ≤ sizeLine)
    (hQ : ∀ h' tk acc c', (∀ b o, b ≠ it → s.heap.get? b = some o → h'.get? b = some o) → h'.get? s.heap.objs.size = some { cls := .type "list", dict := none, data := .seq acc c', slots := #[] } →
      ItemsOf (fun i v => items[items.size - 1 - i]? = some v) acc items.size → Q (.ref s.heap.objs.size) { s with heap := h', toks := tk }) :
    wpAny (model prog w) A (call (.type "list") [.ref it]) Q E s := by
  obtain ⟨oi, hoi, _⟩ := id hit
  obtain ⟨ol, hol, _⟩ := id hl
  have hSi : s.heap.objs.size ≠ it := Nat.ne_of_gt (Heap.lt_size hoi)
  have hSl : s.heap.objs.size ≠ l := Nat.ne_of_gt (Heap.lt_size hol)
  refine callType_codes (Q₁ := fun obj s₁ => obj = .ref s.heap.objs.size ∧ s₁ = { s with heap := s.heap.push { cls := .type "list", data := .seq #[] } }) F.called_list (F.typeCall_list_1 _) F.entry_list_init
    (code_list_new _ ⟨rfl, rfl⟩) fun obj s₁ h₁ => ?_
  obtain ⟨rfl, rfl⟩ := h₁
  have hS : (s.heap.push { cls := .type "list", data := .seq #[] }).get? s.heap.objs.size = some { cls := .type "list", data := .seq #[] } := Heap.get?_push_size _ rfl
  refine ⟨⟨_, hS, rfl⟩, F.args_list_init_2 _ _, ?_⟩
  show wpAny _ A.in1.in1 (do let old ← Builtin.List.listItems (.ref s.heap.objs.size); Builtin.List.listUpdate (.ref s.heap.objs.size) (fun _ => #[]); letGo old.toList.reverse; Builtin.List.listExtendWith (.ref s.heap.objs.size) (.ref it) .none) _ _ _
  refine wpAny_bind ?_
  unfold Builtin.List.listItems
  refine wpAny_bind (wpAny_seqItems hS rfl (wpAny_pure ?_))
  show wpAny _ _ (updateSeq s.heap.objs.size (fun _ => #[]) >>= fun _ => letGo (#[] : Array Value).toList.reverse >>= fun _ => Builtin.List.listExtendWith (.ref s.heap.objs.size) (.ref it) .none) _ _ _
  refine wpAny_bind (wpAny_updateSeq hS rfl ?_)
  have hS2 := Heap.get?_update_self (Obj.mapSeq (fun _ => (#[] : Array Value))) hS rfl
  have oth : ∀ b o, s.heap.get? b = some o → ((s.heap.push { cls := .type "list", data := .seq #[] }).update s.heap.objs.size (Obj.mapSeq (fun _ => (#[] : Array Value)))).get? b = some o :=
    fun b o e => (Heap.get?_update_other _ _ (Nat.ne_of_gt (Heap.lt_size e))).trans (Heap.get?_push_of_some _ e)
  refine wpAny_bind (wpAny_letGo ?_)
  refine extend_rev (A := A.in1) hh (hit.at fun o e => oth _ o e) (Heap.IsList.at hl fun o e => oth _ o e) hne hn hS2 hSi hSl fun s' acc c' hk he hS' hi => ?_
  obtain ⟨h', tk, rfl⟩ := he
  exact ⟨rfl, hQ h' tk acc c' (fun b o hb e => hk b o (Nat.ne_of_lt (Heap.lt_size e)) hb (oth b o e)) hS' hi⟩
end
/-- list(reversed(x)), x a list: a new list -/
def tListRev (K : PySem.W.Frag) (te : TE) : TE := fun σ H Q => te σ H fun v H1 => ∃ (a : Addr) (xs : List V), v = .ref a ∧ SqL K H1 a xs ∧ ∀ q, H1 q = none → Q (.ref q) (upd H1 q (.lst xs.reverse))
section
variable {X : Cx}
theorem pe_listRev {e : Expr} {te : TE} {p p2 pos pos2 : Pos} (hc : X.calm = true) (hg : Gl X "list") (hm : X.mg "list" = none) (hg2 : Gl X "reversed") (hm2 : X.mg "reversed" = none) (he : PE X e te)
    (hs : starEach [e] X.env = (false, eval e X.env) :: starEach [] X.env := by rfl)
    (hs2 : starEach [.Call (.Name "reversed" p2) [e] [] pos2] X.env = (false, eval (.Call (.Name "reversed" p2) [e] [] pos2) X.env) :: starEach [] X.env := by rfl) :
    PE X (.Call (.Name "list" p) [.Call (.Name "reversed" p2) [e] [] pos2] [] pos) (tListRev X.K te) := by
  refine ⟨fun pins s σ H Q I h => ?_⟩
  refine Call_ (ld_blt I hg hm boot_list (PyProof.Rows.callWith_type1 (args_cons (Call_ (ld_blt I hg2 hm2 PyProof.Rows.boot_reversed (PyProof.Rows.callWith_type1 (args_cons (thn (he.run pins s σ H _ I h) fun u s1 ⟨v, H1, I1, r1, q1⟩ => args_nil ?_) hs) hs rfl))) hs2) hs2 rfl))
  obtain ⟨a, xs, ev, hq, q⟩ := q1
  subst ev
  obtain rfl : u = Value.ref a := r1
  obtain ⟨its, rv, p', hz⟩ := I1.list hq
  refine call_reversed_list p'.isList (args_nil ?_)
  have k0 : ∀ b o, s1.heap.get? b = some o → (s1.heap.push (revObj a ((its.toArray.size : Int) - 1))).get? b = some o := fun b o e => Heap.get?_push_of_some _ e
  have I2 : Inv X pins σ H1 { s1 with heap := s1.heap.push (revObj a ((its.toArray.size : Int) - 1)) } := I1.kept (t' := s1.toks) k0
  obtain ⟨f0, f1, f2, f3, f4, f5⟩ := I1.fpOk (H' := H1) (b := s1.heap.objs.size) (Nat.le_refl _) (I1.hok.fresh (Nat.le_refl _))
  have hl := p'.isList
  obtain ⟨ol, hol, _⟩ := id hl
  have hne : a ≠ s1.heap.objs.size := Nat.ne_of_lt (Heap.lt_size hol)
  have hn : its.toArray.size ≤ sizeLine := by rw [List.size_toArray, ← rv.length]; exact hz
  refine call_list_rev (s := { s1 with heap := s1.heap.push (revObj a ((its.toArray.size : Int) - 1)) }) (I1.ok.hd hc) ⟨_, Heap.get?_push_size _ rfl, rfl, rfl⟩ (hl.push _) hne hn fun h' tk acc c' hk hS' hi => ?_
  refine ⟨.ref _, upd H1 _ (.lst xs.reverse), I1.laid (t' := tk) (fun b u e => hk b u (Nat.ne_of_lt (Heap.lt_size e)) (k0 b u e)) (by rw [Heap.size_push]; omega) (show ObjOk X.prog X.w _ _ _ (.lst xs.reverse) from ⟨by rw [List.length_reverse]; exact hz, acc.toList, c', RT.vals_rev rv hi, ?_⟩), rfl, q _ (I2.hok.fresh (Nat.le_refl _))⟩
  rw [Array.toArray_toList]
  exact hS'
/-! ### list(a text) -/
theorem call_listS (hc : X.calm = true) : CallR X (.type "list") (fun xs H Q => ∃ z : Str, xs = [.str z] ∧ z.length ≤ sizeLine ∧ ∀ l, H l = none → Q (.ref l) (upd H l (.lst (z.cps.toList.map fun c => V.str ⟨#[c]⟩)))) := by
  intro pins s σ H xs us Q I r h
  obtain ⟨z, rfl, hz, q⟩ := h
  obtain ⟨u, rfl, t, rfl⟩ := vals1 r
  refine PySem.call_list_str (I.ok.hd hc) z t (fun h' tk acc' c' hk hS hi => ?_) hz
  refine ⟨.ref s.heap.objs.size, upd H s.heap.objs.size _, I.laid hk (Nat.le_refl _) (show ObjOk X.prog X.w _ _ _ (.lst (z.cps.toList.map fun c => V.str ⟨#[c]⟩)) from ⟨?_, acc'.toList, c', ?_, ?_⟩), rfl, q _ (I.hok.fresh (Nat.le_refl _))⟩
  · rw [List.length_map, Array.length_toList]; exact hz
  · have el : acc'.toList.length = acc'.size := by simp
    refine vals_of_at (by rw [List.length_map, Array.length_toList, el, hi.1]) fun j x w h1 h2 => ?_
    have h3 := hi.2 j w (by rw [← Array.getElem?_toList]; exact h2)
    rw [List.getElem?_map] at h1
    obtain ⟨c, hc1, rfl⟩ := Option.map_eq_some_iff.mp h1
    obtain ⟨c2, u, e1, rfl⟩ := h3
    rw [Array.getElem?_toList] at hc1
    rw [hc1] at e1
    cases e1
    exact ⟨u, rfl⟩
  · rw [Array.toArray_toList]; exact hS
end
end CB

set_option Elab.async false
set_option linter.all false
set_option maxRecDepth 100000
set_option maxHeartbeats 2000000
namespace CB
open PySem PySem.Spec PyProof.Rows L2

abbrev Ex := Evl.Ex
/-! ### what is frozen (F) within what stands (H) -/
structure Gr (S : Addr → Prop) (F H F' H' : Hp) : Prop where
  fz : Ex F F'
  sub : Ex F' H'
  kp : ∀ a o, ¬ S a → H a = some o → H' a = some o
  al : ∀ a, H a ≠ none → H' a ≠ none
  nf : ∀ a, F a = none → H a ≠ none → F' a = none
abbrev NoS : Addr → Prop := fun _ => False
abbrev DL (d l : Addr) : Addr → Prop := fun a => a = d ∨ a = l
section
variable {S : Addr → Prop} {F H F1 H1 F2 H2 : Hp} {p : Addr} {o x : HO}
theorem Gr.refl (h : Ex F H) : Gr S F H F H := ⟨fun _ _ e => e, h, fun _ _ _ e => e, fun _ e => e, fun _ e _ => e⟩
theorem Gr.trans (g : Gr S F H F1 H1) (k : Gr S F1 H1 F2 H2) : Gr S F H F2 H2 :=
  ⟨g.fz.trans k.fz, k.sub, fun a o n e => k.kp a o n (g.kp a o n e), fun a e => k.al a (g.al a e), fun a e n => k.nf a (g.nf a e n) (g.al a n)⟩
theorem Gr.mono {S' : Addr → Prop} (g : Gr S F H F1 H1) (h : ∀ a, S a → S' a) : Gr S' F H F1 H1 :=
  ⟨g.fz, g.sub, fun a o n e => g.kp a o (fun z => n (h a z)) e, g.al, g.nf⟩
theorem Gr.pure (g : Gr NoS F H F1 H1) : Gr S F H F1 H1 := g.mono fun _ h => h.elim
theorem Gr.ex (g : Gr NoS F H F1 H1) : Ex H H1 := fun a o e => g.kp a o (fun h => h) e
theorem sub_none (h : Ex F H) (e : H p = none) : F p = none := Evl.fresh_back h e
/-- a new object, frozen at once -/
theorem Gr.new (g : Gr S F H F1 H1) (hp : H1 p = none) : Gr S F H (upd F1 p o) (upd H1 p o) := by
  have hf : F1 p = none := sub_none g.sub hp
  refine ⟨g.fz.trans (Evl.Ex.new hf), fun a u e => ?_, fun a u n e => ?_, fun a e => ?_, fun a e n => ?_⟩
  · by_cases h : a = p
    · subst h; rw [upd_same] at e ⊢; exact e
    · rw [upd_ne h] at e ⊢; exact g.sub a u e
  · have := g.kp a u n e
    rw [upd_ne (ne_of_none this hp)]; exact this
  · have := g.al a e
    by_cases h : a = p
    · subst h; exact absurd hp this
    · rw [upd_ne h]; exact this
  · have h : a ≠ p := fun h => g.al a n (h ▸ hp)
    rw [upd_ne h]; exact g.nf a e n
/-- a new object that may still change -/
theorem Gr.newm (g : Gr S F H F1 H1) (hp : H1 p = none) : Gr S F H F1 (upd H1 p o) := by
  refine ⟨g.fz, fun a u e => ?_, fun a u n e => ?_, fun a e => ?_, g.nf⟩
  · have := g.sub a u e
    rw [upd_ne (ne_of_none this hp)]; exact this
  · have := g.kp a u n e
    rw [upd_ne (ne_of_none this hp)]; exact this
  · have := g.al a e
    by_cases h : a = p
    · subst h; exact absurd hp this
    · rw [upd_ne h]; exact this
/-- an object of ours (new since the start, not frozen) changes -/
theorem Gr.mut (g : Gr S F H F1 H1) (hp : H p = none) (hf : F1 p = none) : Gr S F H F1 (upd H1 p o) := by
  refine ⟨g.fz, fun a u e => ?_, fun a u n e => ?_, fun a e => ?_, g.nf⟩
  · rw [upd_ne (ne_of_none e hf)]; exact g.sub a u e
  · rw [upd_ne (ne_of_none e hp)]; exact g.kp a u n e
  · by_cases h : a = p
    · subst h; rw [upd_same]; exact fun z => by cases z
    · rw [upd_ne h]; exact g.al a e
/-- an object of ours is frozen -/
theorem Gr.freeze (g : Gr S F H F1 H1) (hp : H p = none) (hf : F1 p = none) (ho : H1 p = some o) : Gr S F H (upd F1 p o) H1 := by
  refine ⟨g.fz.trans (Evl.Ex.new hf), fun a u e => ?_, g.kp, g.al, fun a e n => ?_⟩
  · by_cases h : a = p
    · subst h; rw [upd_same] at e; cases e; exact ho
    · rw [upd_ne h] at e; exact g.sub a u e
  · have h : a ≠ p := fun h => n (h ▸ hp)
    rw [upd_ne h]; exact g.nf a e n
/-- what is not frozen and stands stays so -/
theorem Gr.keepm (g : Gr S F H F1 H1) (hs : ¬ S p) (hf : F p = none) (ho : H p = some o) : F1 p = none ∧ H1 p = some o :=
  ⟨g.nf p hf (by rw [ho]; exact fun z => by cases z), g.kp p o hs ho⟩
theorem Gr.none (g : Gr S F H F1 H1) (h : H1 p = none) : H p = none := by
  cases e : H p with
  | none => rfl
  | some o => exact absurd h (g.al p (by rw [e]; exact fun z => by cases z))
theorem Gr.exs (g : Gr S F H F1 H1) : Ex F H1 := g.fz.trans g.sub
end
end CB
namespace L2
open PySem PySem.Spec PyProof.Rows CB
section
variable {K : PySem.W.Frag} {F F' H : Hp} {a : Addr} {xs : List V}
theorem ex_L (e : Ex F F') (h : SqL K F a xs) : SqL K F' a xs := Evl.ex_l e h
theorem ex_T (e : Ex F F') (h : SqT K F a xs) : SqT K F' a xs := Evl.ex_t e h
mutual
theorem Dp.ex (e : Ex F F') : ∀ {v : V} {d : PyData}, Dp K F v d → Dp K F' v d
  | _, _, .non => .non
  | _, _, .bl b => .bl b
  | _, _, .int i => .int i
  | _, _, .str x => .str x
  | _, _, .lst h hs => .lst (ex_L e h) (DpAll.ex e hs)
  | _, _, .tup h hs => .tup (ex_T e h) (DpAll.ex e hs)
theorem DpAll.ex (e : Ex F F') : ∀ {vs : List V} {ds : List PyData}, DpAll K F vs ds → DpAll K F' vs ds
  | _, _, .nil => .nil
  | _, _, .cons h hs => .cons (Dp.ex e h) (DpAll.ex e hs)
end
theorem DpAll.length : ∀ {vs : List V} {ds : List PyData}, DpAll K F vs ds → vs.length = ds.length
  | _, _, .nil => rfl
  | _, _, .cons _ h => by rw [List.length_cons, List.length_cons, DpAll.length h]
theorem DpAll.get : ∀ {vs : List V} {ds : List PyData} {i : Nat} {v : V}, DpAll K F vs ds → vs[i]? = some v → ∃ d, ds[i]? = some d ∧ Dp K F v d
  | _, _, _, _, .nil, e => by simp at e
  | _, _, 0, _, .cons h _, e => by simp at e; subst e; exact ⟨_, rfl, h⟩
  | _, _, i + 1, _, .cons _ h, e => by
    obtain ⟨d, e1, e2⟩ := DpAll.get (i := i) h (by simpa using e)
    exact ⟨d, by simpa using e1, e2⟩
theorem DpAll.get' : ∀ {vs : List V} {ds : List PyData} {i : Nat} {d : PyData}, DpAll K F vs ds → ds[i]? = some d → ∃ v, vs[i]? = some v ∧ Dp K F v d
  | _, _, _, _, .nil, e => by simp at e
  | _, _, 0, _, .cons h _, e => by simp at e; subst e; exact ⟨_, rfl, h⟩
  | _, _, i + 1, _, .cons _ h, e => by
    obtain ⟨d, e1, e2⟩ := DpAll.get' (i := i) h (by simpa using e)
    exact ⟨d, by simpa using e1, e2⟩
theorem DpAll.append : ∀ {vs ws : List V} {ds es : List PyData}, DpAll K F vs ds → DpAll K F ws es → DpAll K F (vs ++ ws) (ds ++ es)
  | _, _, _, _, .nil, h => h
  | _, _, _, _, .cons h hs, k => .cons h (DpAll.append hs k)
theorem DpAll.snoc {vs : List V} {v : V} {ds : List PyData} {d : PyData} (h : DpAll K F vs ds) (k : Dp K F v d) : DpAll K F (vs ++ [v]) (ds ++ [d]) := h.append (.cons k .nil)
theorem DpAll.ints : ∀ ns : List Int, DpAll K F (ns.map V.int) (ns.map PyData.int)
  | [] => .nil
  | n :: r => .cons (.int n) (DpAll.ints r)
theorem DpAll.strs : ∀ ns : List Str, DpAll K F (ns.map V.str) (ns.map PyData.str)
  | [] => .nil
  | n :: r => .cons (.str n) (DpAll.strs r)
theorem ints_of : ∀ {vs : List V} {ns : List Int}, DpAll K F vs (ns.map PyData.int) → vs = ns.map V.int
  | _, [], h => by cases h; rfl
  | _, n :: r, h => by
    cases h with
    | cons h1 h2 => cases h1; rw [ints_of h2]; rfl
end
/-- tuples of ints, tuples of those -/
abbrev ti (ns : List Int) : PyData := .tuple (ns.map PyData.int)
abbrev li (ns : List Int) : PyData := .list (ns.map PyData.int)
abbrev tti (r : List (List Int)) : PyData := .tuple (r.map ti)
abbrev lti (r : List (List Int)) : PyData := .list (r.map ti)
section
variable {K : PySem.W.Frag} {F F' H : Hp} {v : V}
theorem Dp.tup_inv {ds : List PyData} (h : Dp K F v (.tuple ds)) : ∃ a xs, v = .ref a ∧ SqT K F a xs ∧ DpAll K F xs ds := by
  cases h with
  | tup h1 h2 => exact ⟨_, _, rfl, h1, h2⟩
theorem Dp.lst_inv {ds : List PyData} (h : Dp K F v (.list ds)) : ∃ a xs, v = .ref a ∧ SqL K F a xs ∧ DpAll K F xs ds := by
  cases h with
  | lst h1 h2 => exact ⟨_, _, rfl, h1, h2⟩
theorem Dp.ti_inv {ns : List Int} (h : Dp K F v (ti ns)) : ∃ a, v = .ref a ∧ SqT K F a (ns.map V.int) := by
  obtain ⟨a, xs, e, h1, h2⟩ := h.tup_inv
  rw [ints_of h2] at h1
  exact ⟨a, e, h1⟩
theorem Dp.li_inv {ns : List Int} (h : Dp K F v (li ns)) : ∃ a, v = .ref a ∧ SqL K F a (ns.map V.int) := by
  obtain ⟨a, xs, e, h1, h2⟩ := h.lst_inv
  rw [ints_of h2] at h1
  exact ⟨a, e, h1⟩
theorem Dp.of_ti {a : Addr} {ns : List Int} (h : SqT K F a (ns.map V.int)) : Dp K F (.ref a) (ti ns) := .tup h (DpAll.ints ns)
theorem Dp.of_li {a : Addr} {ns : List Int} (h : SqL K F a (ns.map V.int)) : Dp K F (.ref a) (li ns) := .lst h (DpAll.ints ns)
theorem Dp.int_inv {i : Int} (h : Dp K F v (.int i)) : v = .int i := by cases h; rfl
theorem Dp.str_inv {i : Str} (h : Dp K F v (.str i)) : v = .str i := by cases h; rfl
end

end L2
namespace CB
open PySem PySem.Spec PyProof.Rows L2
/-! ### data that may be compared -/
theorem canLay_strs : ∀ l : List Str, (∀ x ∈ l, PyData.strOk x = true) → PyData.canLayAll0 (l.map PyData.str) = true
  | [], _ => rfl
  | x :: r, h => by
    show (PyData.strOk x && PyData.canLayAll0 (r.map PyData.str)) = true
    rw [h x List.mem_cons_self, canLay_strs r fun y hy => h y (List.mem_cons_of_mem _ hy)]
    rfl
theorem canLay_ints : ∀ l : List Int, PyData.canLayAll0 (l.map PyData.int) = true
  | [] => rfl
  | x :: r => by
    show (true && PyData.canLayAll0 (r.map PyData.int)) = true
    rw [canLay_ints r]
    rfl
theorem depth_strs : ∀ l : List Str, PyData.depthAll (l.map PyData.str) = 0
  | [] => rfl
  | x :: r => by
    show max 0 (PyData.depthAll (r.map PyData.str)) = 0
    rw [depth_strs r]
    rfl
theorem shaped_strs (l : List Str) (h : ∀ x ∈ l, PyData.strOk x = true) : SeqAt.shaped (.list (l.map PyData.str)) = true := by
  unfold SeqAt.shaped
  rw [Bool.and_eq_true, decide_eq_true_eq]
  refine ⟨canLay_strs l h, ?_⟩
  show PyData.depthAll (l.map PyData.str) + 1 ≤ 64
  rw [depth_strs]
  decide
/-! ### the drawing of numbers -/
abbrev kSeed : Key := Sum.inr "seed"
abbrev kNumber : Key := Sum.inr "number"
abbrev kLeft : Key := Sum.inr "left"
def dealD (s n : Int) (l : Addr) : List (Key × V) := [(kSeed, .int s), (kNumber, .int n), (kLeft, .ref l)]
theorem deal_seed {s n : Int} {l : Addr} : valV (dealD s n l) kSeed = some (.int s) := by
  exact valV_pos rfl
structure Deal (H : Hp) (d l : Addr) (s n : Int) (ls : List Int) : Prop where
  hd : H d = some (.dK (dealD s n l))
  hl : H l = some (.lst (ls.map V.int))
  s0 : 0 ≤ s
  s1 : s < 2147483648
  n0 : 0 ≤ n
  pos : ∀ x ∈ ls, 0 < x
  len : ls.length ≤ 63
def IsDeal (H : Hp) (d l : Addr) : Prop := ∃ s n ls, Deal H d l s n ls
theorem Deal.ne {H : Hp} {d l : Addr} {s n : Int} {ls : List Int} (h : Deal H d l s n ls) : d ≠ l := ne_of h.hd h.hl (by intro z; cases z)
theorem IsDeal.keep {H H' : Hp} {d l : Addr} (h : IsDeal H d l) (k : ∀ o, H d = some o → H' d = some o) (k2 : ∀ o, H l = some o → H' l = some o) : IsDeal H' d l := by
  obtain ⟨s, n, ls, h⟩ := h
  exact ⟨s, n, ls, k _ h.hd, k2 _ h.hl, h.s0, h.s1, h.n0, h.pos, h.len⟩
theorem ne_sn : ¬ kSeed = kNumber := by decide +kernel
theorem ne_sl : ¬ kSeed = kLeft := by decide +kernel
theorem ne_nl : ¬ kNumber = kLeft := by decide +kernel
theorem deal_number {s n : Int} {l : Addr} : valV (dealD s n l) kNumber = some (.int n) := by
  unfold dealD
  rw [valV_neg ne_sn, valV_pos rfl]
theorem deal_left {s n : Int} {l : Addr} : valV (dealD s n l) kLeft = some (.ref l) := by
  unfold dealD
  rw [valV_neg ne_sl, valV_neg ne_nl, valV_pos rfl]
theorem put_number {s n m : Int} {l : Addr} : putK (dealD s n l) kNumber (.int m) = dealD s m l := by
  unfold putK dealD
  rw [if_pos (by rw [List.any_cons, List.any_cons, decide_eq_true rfl]; simp)]
  simp only [List.map_cons, List.map_nil, if_neg ne_sn, if_true, if_neg (fun h => ne_nl (Eq.symm h))]
theorem put_seed {s n m : Int} {l : Addr} : putK (dealD s n l) kSeed (.int m) = dealD m n l := by
  unfold putK dealD
  rw [if_pos (by rw [List.any_cons, decide_eq_true rfl]; simp)]
  simp only [List.map_cons, List.map_nil, if_true, if_neg (fun h => ne_sn (Eq.symm h)), if_neg (fun h => ne_sl (Eq.symm h))]
theorem merge_deal {s n : Int} {l : Addr} : mergeK [] (dealD s n l) = dealD s n l := by
  have a1 : ([] : List (Key × V)).any (fun kv => decide (kv.1 = kSeed)) = false := rfl
  have a2 : ([(kSeed, V.int s)] : List (Key × V)).any (fun kv => decide (kv.1 = kNumber)) = false := by simp only [List.any_cons, List.any_nil, decide_eq_false ne_sn, Bool.or_false]
  have a3 : ([(kSeed, V.int s), (kNumber, V.int n)] : List (Key × V)).any (fun kv => decide (kv.1 = kLeft)) = false := by simp only [List.any_cons, List.any_nil, decide_eq_false ne_sl, decide_eq_false ne_nl, Bool.or_false]
  have e1 : putK ([] : List (Key × V)) kSeed (.int s) = [(kSeed, .int s)] := by unfold putK; rw [a1]; rfl
  have e2 : putK [(kSeed, V.int s)] kNumber (.int n) = [(kSeed, .int s), (kNumber, .int n)] := by unfold putK; rw [a2]; rfl
  have e3 : putK [(kSeed, V.int s), (kNumber, V.int n)] kLeft (.ref l) = dealD s n l := by unfold putK; rw [a3]; rfl
  show putK (putK (putK [] kSeed (.int s)) kNumber (.int n)) kLeft (.ref l) = _
  rw [e1, e2, e3]
section
variable {H : Hp} {d l : Addr} {s n : Int} {ls : List Int}
theorem Deal.g_seed (h : Deal H d l s n ls) : DGet H d (.str "seed") (some (.int s)) := by
  have e := DGet.k (k := kSeed) h.hd
  rw [deal_seed] at e
  exact e
theorem Deal.g_number (h : Deal H d l s n ls) : DGet H d (.str "number") (some (.int n)) := by
  have e := DGet.k (k := kNumber) h.hd
  rw [deal_number] at e
  exact e
theorem Deal.g_left (h : Deal H d l s n ls) : DGet H d (.str "left") (some (.ref l)) := by
  have e := DGet.k (k := kLeft) h.hd
  rw [deal_left] at e
  exact e
theorem Deal.p_number (h : Deal H d l s n ls) (m : Int) : DPut H d (.str "number") (.int m) (upd H d (.dK (dealD s m l))) := by
  have e := DPut.k (k := kNumber) (v := .int m) h.hd (by show 3 < sizeLine; decide)
  rw [put_number] at e
  exact e
theorem Deal.p_seed (h : Deal H d l s n ls) (m : Int) : DPut H d (.str "seed") (.int m) (upd H d (.dK (dealD m n l))) := by
  have e := DPut.k (k := kSeed) (v := .int m) h.hd (by show 3 < sizeLine; decide)
  rw [put_seed] at e
  exact e
theorem Deal.pop (h : Deal H d l s n ls) (hn : ls ≠ []) : Deal (upd H l (.lst (ls.map V.int).dropLast)) d l s n ls.dropLast :=
  ⟨by rw [upd_ne h.ne]; exact h.hd, by rw [upd_same, List.map_dropLast], h.s0, h.s1, h.n0, fun x hx => h.pos x (List.dropLast_subset _ hx), by have := h.len; rw [List.length_dropLast]; omega⟩
theorem Deal.last (h : Deal H d l s n ls) (hn : ls ≠ []) : ∃ y, 0 < y ∧ (ls.map V.int)[(ls.map V.int).length - 1]? = some (.int y) := by
  refine ⟨ls.getLast hn, h.pos _ (List.getLast_mem hn), ?_⟩
  rw [List.length_map, List.getElem?_map, ← List.getLast?_eq_getElem?, List.getLast?_eq_some_getLast hn]
  rfl
theorem Deal.with_number (h : Deal H d l s n ls) {m : Int} (m0 : 0 ≤ m) : Deal (upd H d (.dK (dealD s m l))) d l s m ls :=
  ⟨upd_same, by rw [upd_ne h.ne.symm]; exact h.hl, h.s0, h.s1, m0, h.pos, h.len⟩
theorem Deal.with_seed (h : Deal H d l s n ls) {m : Int} (m0 : 0 ≤ m) (m1 : m < 2147483648) : Deal (upd H d (.dK (dealD m n l))) d l m n ls :=
  ⟨upd_same, by rw [upd_ne h.ne.symm]; exact h.hl, m0, m1, h.n0, h.pos, h.len⟩
end
theorem fmod_in (x k : Int) (hk : 0 < k) : 0 ≤ x.fmod k ∧ x.fmod k < k := by
  rw [Int.fmod_eq_emod_of_nonneg x (by omega)]
  exact ⟨Int.emod_nonneg _ (by omega), Int.emod_lt_of_pos _ hk⟩
theorem cut_ints (ns : List Int) (lo hi : Option Int) : ∃ ms : List Int, cutV (ns.map V.int) lo hi = ms.map V.int ∧ ms.length ≤ ns.length :=
  ⟨(ns.drop (HT.sIx ns.length 0 lo)).take (HT.sIx ns.length ns.length hi - HT.sIx ns.length 0 lo), by
    unfold cutV
    rw [List.length_map, ← List.map_drop, ← List.map_take], by
    rw [List.length_take, List.length_drop]
    omega⟩
/-- what stands beside the deal stays -/
def Kp (d l : Addr) (H H' : Hp) : Prop := ∀ b o, b ≠ d → b ≠ l → H b = some o → H' b = some o
section
variable {d l p : Addr} {H H1 H2 : Hp} {o : HO}
theorem Kp.refl : Kp d l H H := fun _ _ _ _ e => e
theorem Kp.trans (a : Kp d l H H1) (b : Kp d l H1 H2) : Kp d l H H2 := fun x o h1 h2 e => b x o h1 h2 (a x o h1 h2 e)
theorem Kp.of_ex (a : Ex H H1) : Kp d l H H1 := fun x o _ _ e => a x o e
theorem Kp.of_draw (a : ∀ b, b ≠ d → b ≠ l → H1 b = H b) : Kp d l H H1 := fun x o h1 h2 e => (a x h1 h2).trans e
theorem Kp.mut (a : Kp d l H H1) (h : H p = none) : Kp d l H (upd H1 p o) := fun x u h1 h2 e => by
  rw [upd_ne (ne_of_none e h)]
  exact a x u h1 h2 e
theorem IsDeal.ex (h : IsDeal H d l) (e : Ex H H1) : IsDeal H1 d l := h.keep (fun o => e d o) (fun o => e l o)
theorem IsDeal.upd (h : IsDeal H d l) (hd : p ≠ d) (hl : p ≠ l) : IsDeal (L2.upd H p o) d l := h.keep (fun o e => by rw [upd_ne hd.symm]; exact e) (fun o e => by rw [upd_ne hl.symm]; exact e)
theorem IsDeal.nd (h : IsDeal H d l) (e : H p = none) : p ≠ d ∧ p ≠ l := by
  obtain ⟨s, n, ls, h⟩ := h
  exact ⟨(ne_of_none h.hd e).symm, (ne_of_none h.hl e).symm⟩
/-- an object other than the deal's two -/
theorem IsDeal.ne_str (h : IsDeal H d l) {y : Str} {ys : List V} (e : H p = some (.lst (.str y :: ys))) : p ≠ d ∧ p ≠ l := by
  obtain ⟨s, n, ls, h⟩ := h
  refine ⟨fun z => ?_, fun z => ?_⟩
  · rw [z, h.hd] at e; cases e
  · rw [z, h.hl] at e
    cases ls with
    | nil => cases e
    | cons a r => cases e
end
theorem at_in {xs : List V} {r : Int} (h0 : 0 ≤ r) (h1 : r < xs.length) : ∃ v, atI xs r = some v ∧ v ∈ xs := by
  have h2 : r.toNat < xs.length := by omega
  have e : xs[r.toNat]? = some xs[r.toNat] := List.getElem?_eq_getElem h2
  have e2 := atI_nat e
  rw [Int.toNat_of_nonneg h0] at e2
  exact ⟨_, e2, List.getElem_mem h2⟩
theorem at_inA {xs : List Nat} {r : Int} (h0 : 0 ≤ r) (h1 : r < xs.length) : ∃ v, atI xs r = some v ∧ v ∈ xs := by
  have h2 : r.toNat < xs.length := by omega
  have e : xs[r.toNat]? = some xs[r.toNat] := List.getElem?_eq_getElem h2
  have e2 := atI_nat e
  rw [Int.toNat_of_nonneg h0] at e2
  exact ⟨_, e2, List.getElem_mem h2⟩
theorem cut_strs (ns : List Str) (lo hi : Option Int) : ∃ ms : List Str, cutV (ns.map V.str) lo hi = ms.map V.str ∧ ms.length ≤ ns.length ∧ ∀ y ∈ ms, y ∈ ns :=
  ⟨(ns.drop (HT.sIx ns.length 0 lo)).take (HT.sIx ns.length ns.length hi - HT.sIx ns.length 0 lo), by
    unfold cutV
    rw [List.length_map, ← List.map_drop, ← List.map_take], by
    rw [List.length_take, List.length_drop]
    omega, fun y h => List.mem_of_mem_drop (List.mem_of_mem_take h)⟩
/-- the promise of the deal that is made of the script -/
def sp_deal (K : PySem.W.Frag) : Sp := fun vs H Q _ => ∃ (a : Addr) (ns : List Int) (b : Int), vs = [.ref a, .int b] ∧ SqL K H a (ns.map V.int) ∧ ns.length ≤ 63 ∧ 0 ≤ b ∧ b ≤ 63 ∧
  ∀ (d l : Addr) (H' : Hp), Ex H H' → H d = none → H l = none → IsDeal H' d l → Q (.ref d) H'
/-- the promise of a draw: some number below many -/
def sp_draw : Sp := fun vs H Q _ => ∃ (d l : Addr) (m : Int), vs = [.ref d, .int m] ∧ IsDeal H d l ∧ 0 < m ∧ m < 1073741824 ∧
  ∀ (r : Int) (H' : Hp), 0 ≤ r → r < m → IsDeal H' d l → Kp d l H H' → Q (.int r) H'
end CB

set_option Elab.async false
set_option linter.all false
set_option maxRecDepth 100000
set_option maxHeartbeats 4000000
namespace LW
open PySem PySem.Spec PyProof.Rows L2 CB
def topS (i : Nat) : Stmt := PySem.Challenge.pw_curvekept_k01_names.main.body.getD i (.Pass ⟨0, 0, 0, 0⟩)
abbrev nm_is_name : List Str := ["text", "sign"]
abbrev st_is_name : Stmt := topS 4
theorem sc_is_name : FnScope ["text", "sign"] ["text"] (defScope st_is_name) := ⟨rfl, rfl, rfl, by decide +kernel, rfl, by decide +kernel, by decide +kernel⟩

abbrev nm__law_deal : List Str := ["_law_script", "_law_base", "_law_some", "_law_one", "_law_number"]
abbrev st__law_deal : Stmt := topS 6
theorem sc__law_deal : FnScope ["_law_script", "_law_base", "_law_some", "_law_one", "_law_number"] ["_law_script", "_law_base"] (defScope st__law_deal) := ⟨rfl, rfl, rfl, by decide +kernel, rfl, by decide +kernel, by decide +kernel⟩

abbrev nm__law_draw : List Str := ["_law_deal_here", "_law_many", "_law_number", "_law_one", "_law_other"]
abbrev st__law_draw : Stmt := topS 7
theorem sc__law_draw : FnScope ["_law_deal_here", "_law_many", "_law_number", "_law_one", "_law_other"] ["_law_deal_here", "_law_many"] (defScope st__law_draw) := ⟨rfl, rfl, rfl, by decide +kernel, rfl, by decide +kernel, by decide +kernel⟩

abbrev nm__law_signs : List Str := ["_law_signs_here"]
abbrev st__law_signs : Stmt := topS 8
theorem sc__law_signs : FnScope ["_law_signs_here"] [] (defScope st__law_signs) := ⟨rfl, rfl, rfl, by decide +kernel, rfl, by decide +kernel, by decide +kernel⟩

abbrev nm__law_kept : List Str := []
abbrev st__law_kept : Stmt := topS 9
theorem sc__law_kept : FnScope [] [] (defScope st__law_kept) := ⟨rfl, rfl, rfl, by decide +kernel, rfl, by decide +kernel, by decide +kernel⟩

abbrev nm__law_is_name : List Str := ["_law_word", "_law_sign"]
abbrev st__law_is_name : Stmt := topS 10
theorem sc__law_is_name : FnScope ["_law_word", "_law_sign"] ["_law_word"] (defScope st__law_is_name) := ⟨rfl, rfl, rfl, by decide +kernel, rfl, by decide +kernel, by decide +kernel⟩

abbrev nm__law_any_text : List Str := ["_law_deal_here", "_law_letters", "_law_word", "_law_k", "_law_form", "_law_at", "_law_turn", "_law_more", "_law_signs_here"]
abbrev st__law_any_text : Stmt := topS 11
theorem sc__law_any_text : FnScope ["_law_deal_here", "_law_letters", "_law_word", "_law_k", "_law_form", "_law_at", "_law_turn", "_law_more", "_law_signs_here"] ["_law_deal_here"] (defScope st__law_any_text) := ⟨rfl, rfl, rfl, by decide +kernel, rfl, by decide +kernel, by decide +kernel⟩

abbrev nm_law : List Str := ["_law_script", "_law_deal_here", "_law_texts", "_law_k", "_law_text", "_law_found"]
abbrev st_law : Stmt := topS 12
theorem sc_law : FnScope ["_law_script", "_law_deal_here", "_law_texts", "_law_k", "_law_text", "_law_found"] ["_law_script"] (defScope st_law) := ⟨rfl, rfl, rfl, by decide +kernel, rfl, by decide +kernel, by decide +kernel⟩

/-! ### what the top leaves -/
structure Txt (K : PySem.W.Frag) (mg : Str → Option Value) where
  f_is_name : Addr
  fd_is_name : FuncData
  F_is_name : Fun K "is_name" "is_name" st_is_name f_is_name fd_is_name
  b_is_name : Binds K fd_is_name ["text"] []
  g_is_name : mg "is_name" = some (.ref f_is_name)
  f__law_deal : Addr
  fd__law_deal : FuncData
  F__law_deal : Fun K "_law_deal" "_law_deal" st__law_deal f__law_deal fd__law_deal
  b__law_deal : Binds K fd__law_deal ["_law_script", "_law_base"] []
  g__law_deal : mg "_law_deal" = some (.ref f__law_deal)
  f__law_draw : Addr
  fd__law_draw : FuncData
  F__law_draw : Fun K "_law_draw" "_law_draw" st__law_draw f__law_draw fd__law_draw
  b__law_draw : Binds K fd__law_draw ["_law_deal_here", "_law_many"] []
  g__law_draw : mg "_law_draw" = some (.ref f__law_draw)
  f__law_signs : Addr
  fd__law_signs : FuncData
  F__law_signs : Fun K "_law_signs" "_law_signs" st__law_signs f__law_signs fd__law_signs
  b__law_signs : Binds K fd__law_signs [] []
  g__law_signs : mg "_law_signs" = some (.ref f__law_signs)
  f__law_kept : Addr
  fd__law_kept : FuncData
  F__law_kept : Fun K "_law_kept" "_law_kept" st__law_kept f__law_kept fd__law_kept
  b__law_kept : Binds K fd__law_kept [] []
  g__law_kept : mg "_law_kept" = some (.ref f__law_kept)
  f__law_is_name : Addr
  fd__law_is_name : FuncData
  F__law_is_name : Fun K "_law_is_name" "_law_is_name" st__law_is_name f__law_is_name fd__law_is_name
  b__law_is_name : Binds K fd__law_is_name ["_law_word"] []
  g__law_is_name : mg "_law_is_name" = some (.ref f__law_is_name)
  f__law_any_text : Addr
  fd__law_any_text : FuncData
  F__law_any_text : Fun K "_law_any_text" "_law_any_text" st__law_any_text f__law_any_text fd__law_any_text
  b__law_any_text : Binds K fd__law_any_text ["_law_deal_here"] []
  g__law_any_text : mg "_law_any_text" = some (.ref f__law_any_text)
  f_law : Addr
  fd_law : FuncData
  F_law : Fun K "law" "law" st_law f_law fd_law
  b_law : Binds K fd_law ["_law_script"] []
  g_law : mg "law" = some (.ref f_law)
  a_KEPT : Addr
  g_KEPT : mg "KEPT" = some (.ref a_KEPT)
  r_KEPT : RelV (.ref a_KEPT) (.ref a_KEPT)
  s_KEPT : ∀ H : Hp, SqT K H a_KEPT ([("boxes" : Str), "part", "own", "any", "call", "rest", "all", "none"].map V.str)
  u_LETTERS : Value
  g_LETTERS : mg "LETTERS" = some u_LETTERS
  r_LETTERS : RelV (.str "abcdefghijklmnopqrstuvwxyz") u_LETTERS
  u_MOST_SIGNS : Value
  g_MOST_SIGNS : mg "MOST_SIGNS" = some u_MOST_SIGNS
  r_MOST_SIGNS : RelV (.int 6) u_MOST_SIGNS
  z_all : mg "all" = none
  z_bool : mg "bool" = none
  z_isinstance : mg "isinstance" = none
  z_len : mg "len" = none
  z_list : mg "list" = none
  z_max : mg "max" = none
  z_range : mg "range" = none
  z_reversed : mg "reversed" = none
section
variable {P : Program} {w : World} {K : PySem.W.Frag} {mg : Str → Option Value} {base : Heap}
/-! ### a draw -/
theorem ok_draw {k : Nat} (T : Txt K mg) : FnOk P w K mg base CX0 (k + 1) T.f__law_draw T.fd__law_draw ["_law_deal_here", "_law_many"] sp_draw := by
  refine T.F__law_draw.ok sc__law_draw (fun vs H Q E h => ?_) (fun cdv A outer s H vs Q E hr h => ?_)
  · obtain ⟨d, l, m, rfl, _⟩ := h
    rfl
  · obtain ⟨d, l, m, rfl, hD, m0, m1, q⟩ := h
    have hu := hu_of hr
    refine ⟨_, (Evl.pss_cut (ps_while PassesOwn.never (PW.pt (pw_and (pt_cmpR op_eq (pe_dget hu (pv 0) pe_str (fun _ _ => rfl)) pe_int (nomark _)) (pw_and1 (pt_cmpR op_gt (pe_callB call_len_seq (by rfl) T.z_len PySem.boot_len (pa_cons (pe_dget hu (pv 0) pe_str (fun _ _ => rfl)) pa_nil)) pe_int (nomark _)))))
        (pss_one (ps_dput hu (pv 0) pe_str (pe_bm0 PySem.F.plainAttrs_list PySem.F.slot_list_pop PySem.F.type_list_pop mt_pop (pe_dget hu (pv 0) pe_str (fun _ _ => rfl))) rfl)))
      (pss_cons (ps_set (i := 2) sc__law_draw.nd rfl (Or.inl rfl) (pe_dget hu (pv 0) pe_str (fun _ _ => rfl)))
      (pss_cons (ps_if (pt_cmpR op_gt (pv 2) pe_int (nomark _)) (pss_cons (ps_dput hu (pv 0) pe_str (pe_op op_fdivN (pv 2) (pv 1)) rfl)
        (pss_one (ps_ret (pe_op op_modN (pv 2) (pv 1))))) pss_nil)
      (pss_cons (ps_set (i := 3) sc__law_draw.nd rfl (Or.inl rfl) (pe_op op_modN (pe_op op_add (pe_op op_mul (pe_dget hu (pv 0) pe_str (fun _ _ => rfl)) pe_int) pe_int) pe_int))
      (pss_cons (ps_dput hu (pv 0) pe_str (pe_op op_modN (pe_op op_add (pe_op op_mul (pv 3) pe_int) pe_int) pe_int) rfl)
      (pss_cons (ps_set (i := 4) sc__law_draw.nd rfl (Or.inl rfl) (pe_op op_modN (pe_op op_mul (pe_dget hu (pv 0) pe_str (fun _ _ => rfl)) (pe_dget hu (pv 0) pe_str (fun _ _ => rfl))) pe_int))
      (pss_one (ps_ret (pe_op op_modN (pe_op op_add (pe_op op_mul (pe_op op_modN (pe_op op_mul (pv 3) (pv 3)) pe_int) pe_int) (pv 4)) (pv 1)))))))))), ?_⟩
    refine ⟨fun σ H1 => ∃ s n ls, σ = [some (.ref d), some (.int m), none, none, none] ∧ Deal H1 d l s n ls ∧ (∀ b, b ≠ d → b ≠ l → H1 b = H b), ?_, ?_⟩
    · refine ⟨fun mm σ H1 => ∃ s n ls, σ = [some (.ref d), some (.int m), none, none, none] ∧ Deal H1 d l s n ls ∧ ls.length = mm ∧ (∀ b, b ≠ d → b ≠ l → H1 b = H b), ?_, ?_⟩
      · obtain ⟨s, n, ls, h⟩ := hD
        exact ⟨_, s, n, ls, rfl, h, rfl, fun _ _ _ => rfl⟩
      · rintro mm σ H1 ⟨s, n, ls, rfl, D, el, fr⟩
        refine ⟨.ref d, rfl, d, .int n, rfl, D.g_number, rfl, _, rfl, ite2 (fun e => ?_) (fun e => ⟨s, n, ls, rfl, D, fr⟩)⟩
        refine ⟨.ref d, rfl, d, .ref l, rfl, D.g_left, l, ls.map V.int, rfl, .inl (SqL.of D.hl), _, _, rfl, rfl, _, rfl, ite2 (fun e2 => ?_) (fun e2 => ⟨s, n, ls, rfl, D, fr⟩)⟩
        refine ⟨_, fun σ' H' h => h, ?_⟩
        have hls : ls ≠ [] := fun z => by
          subst z
          exact absurd (of_decide_eq_true e2) (by simp)
        obtain ⟨y, y0, hy⟩ := D.last hls
        refine ⟨.ref d, rfl, d, .ref l, rfl, D.g_left, .inl ⟨rfl, _, SqL.of D.hl⟩, l, _, _, rfl, rfl, D.hl, hy, .ref d, rfl, d, _, rfl, (D.pop hls).p_number _, ls.length - 1, ?_, s, y, ls.dropLast, rfl, (D.pop hls).with_number (by omega), List.length_dropLast, fun b h1 h2 => ?_⟩
        · have : 0 < ls.length := List.length_pos_iff.mpr hls
          omega
        · rw [upd_ne h1, upd_ne h2]
          exact fr b h1 h2
    · rintro σ H1 ⟨s, n, ls, rfl, D, fr⟩
      refine ⟨.ref d, rfl, d, .int n, rfl, D.g_number, ?_⟩
      refine ⟨.int n, rfl, n, 0, rfl, rfl, _, rfl, ite2 (fun e => ?_) (fun e => ?_)⟩
      · have hn : 0 < n := of_decide_eq_true e
        refine ⟨.int n, rfl, .int m, rfl, n, m, rfl, rfl, ⟨by omega, by omega⟩, .ref d, rfl, d, _, rfl, D.p_number _, ?_⟩
        refine ⟨.int n, rfl, .int m, rfl, n, m, rfl, rfl, by omega, ?_⟩
        have e1 : n.fmod m = n % m := Int.fmod_eq_emod_of_nonneg n (by omega)
        have e2 : n.fdiv m = n / m := Int.fdiv_eq_ediv_of_nonneg n (by omega)
        show Q (.int (n.fmod m)) (upd H1 d (.dK (dealD s (n.fdiv m) l)))
        rw [e1, e2]
        exact q _ _ (Int.emod_nonneg _ (by omega)) (Int.emod_lt_of_pos _ m0) ⟨_, _, _, D.with_number (Int.ediv_nonneg (by omega) (by omega))⟩ (Kp.of_draw fun b h1 h2 => by rw [upd_ne h1]; exact fr b h1 h2)
      · have fm : ∀ x k : Int, 0 < k → 0 ≤ x.fmod k ∧ x.fmod k < k := fun x k hk => by
          rw [Int.fmod_eq_emod_of_nonneg x (by omega)]
          exact ⟨Int.emod_nonneg _ (by omega), Int.emod_lt_of_pos _ hk⟩
        have z0 := D.s0
        have z1 := D.s1
        have b1 := fm (s * 48271 + 7919) 2147483647 (by omega)
        obtain ⟨one, hone⟩ : ∃ x, x = (s * 48271 + 7919).fmod 2147483647 := ⟨_, rfl⟩
        rw [← hone] at b1
        refine ⟨.ref d, rfl, d, .int s, rfl, D.g_seed, _, _, rfl, rfl, .inl ⟨by omega, by omega⟩, _, _, rfl, rfl, _, _, rfl, rfl, by dsimp only; decide, ?_⟩
        have b2 := fm (one * 40692 + 104729) 2147483399 (by omega)
        refine ⟨.int one, by rw [hone]; rfl, _, _, rfl, rfl, .inl ⟨by omega, by omega⟩, _, _, rfl, rfl, _, _, rfl, rfl, by dsimp only; decide, .ref d, rfl, d, _, rfl, D.p_seed _, ?_⟩
        have D2 := D.with_seed (m := (one * 40692 + 104729).fmod 2147483399) b2.1 (by omega)
        have b4 := fm (one * one) 2147483629 (by omega)
        refine ⟨.ref d, rfl, d, _, rfl, D2.g_seed, .ref d, rfl, d, _, rfl, D2.g_seed, _, _, rfl, rfl, .inl ⟨by omega, by omega⟩, _, _, rfl, rfl, by dsimp only; decide, ?_⟩
        refine ⟨.int one, by rw [hone]; rfl, .int one, by rw [hone]; rfl, _, _, rfl, rfl, .inl ⟨by omega, by omega⟩, _, _, rfl, rfl, by dsimp only; decide, _, _, rfl, rfl, .inl ⟨by omega, by omega⟩, _, rfl, _, _, rfl, rfl, .int m, rfl, _, _, rfl, rfl, by dsimp only; omega, ?_⟩
        exact q _ _ (fm _ m m0).1 (fm _ m m0).2 ⟨_, _, _, D2⟩ (Kp.of_draw fun b h1 h2 => by rw [upd_ne h1]; exact fr b h1 h2)

/-! ### the deal -/
theorem ok_deal {k : Nat} (T : Txt K mg) : FnOk P w K mg base CX0 (k + 1) T.f__law_deal T.fd__law_deal ["_law_script", "_law_base"] (sp_deal K) := by
  refine T.F__law_deal.ok sc__law_deal (fun vs H Q E h => ?_) (fun cdv A outer s H vs Q E hr h => ?_)
  · obtain ⟨a, ns, b, rfl, _⟩ := h
    rfl
  · obtain ⟨a, ns, b, rfl, hS, hlen, b0, b1, q⟩ := h
    refine ⟨_, (pss_cons (ps_setLc (i := 2) (own := [("_law_one", 3)]) (g := gName 3) (tt := tYes) rfl sc__law_deal.nd rfl rfl (sw_true rfl rfl rfl (by decide +kernel)) (pi_list (pe_slice sl_list (pv 0) (po_some (pv 1)) (po_some pe_int))) (blkOk_by (own := [("_law_one", 3)]) (N := nm__law_deal) (sc := defScope st__law_deal) (by decide +kernel)) (fun _ _ _ _ _ => (pg_name (i := 3) sc__law_deal.nd rfl (Or.inl rfl))) (fun _ _ _ _ _ => pts_nil) (fun _ _ _ _ _ => (pe_callB (call_max2 rfl) (by rfl) T.z_max (by decide +kernel) (pa_cons (pv 3) (pa_cons (pe_op op_sub pe_int (pv 3)) pa_nil)))))
      (pss_cons (ps_set (i := 4) sc__law_deal.nd rfl (Or.inl rfl) (pe_op op_add pe_int (pv 1)))
      (Evl.pss_cut (ps_for PassesOwn.never rfl (pi_list (pv 2)) (pg_name (i := 3) sc__law_deal.nd rfl (Or.inl rfl))
        (pss_one (ps_set (i := 4) sc__law_deal.nd rfl (Or.inl rfl) (pe_op op_modN (pe_op op_add (pe_op op_mul (pv 4) pe_int) (pe_op op_modN (pv 3) pe_int)) pe_int))))
      (pss_one (ps_ret (pe_disp (pps_cons pe_str (pv 4) (pps_cons pe_str pe_int (pps_cons pe_str (pe_listRev rfl (by rfl) T.z_list (by rfl) T.z_reversed (pe_lc (own := [("_law_one", 3)]) (g := gName 3) rfl sc__law_deal.nd (pi_list (pv 2)) (blkOk_by (own := [("_law_one", 3)]) (N := nm__law_deal) (sc := defScope st__law_deal) (by decide +kernel)) (fun _ _ _ _ _ => (pg_name (i := 3) sc__law_deal.nd rfl (Or.inl rfl))) (fun _ _ _ _ _ => (pts_one (pt_cmpR op_ge (pv 3) (pe_op op_pow pe_int pe_int) (nomark _)))) (fun _ _ _ _ _ => (pv 3)))) pps_nil))) (by rfl) (by rfl) (fun z => by cases z) (by decide))))))), ?_⟩
    refine ⟨.ref a, rfl, .int b, rfl, b, rfl, 63, rfl, a, _, rfl, hS, fun p np => ⟨p, rfl, ⟨_, SqL.of upd_same⟩, fun D nD => ?_⟩⟩
    obtain ⟨ms, ems, lms⟩ := cut_ints ns (some b) (some 63)
    rw [ems] at nD ⊢
    have x0 : Ex H (upd H p (.lst (ms.map V.int))) := Evl.Ex.new np
    have hDp : D ≠ p := fun e => by rw [e, upd_same] at nD; cases nD
    have nDH : H D = none := Evl.fresh_back x0 nD
    refine lc_list (K := K) (a := p) (xs := ms.map V.int) (fun i H' => Ex H H' ∧ H' p = some (.lst (ms.map V.int)) ∧ ∃ bs : List Int, bs.length = i ∧ H' D = some (.lst (bs.map V.int))) ⟨x0.trans (Evl.Ex.new nD), by rw [upd_ne hDp.symm, upd_same], [], rfl, upd_same⟩ (fun i H' _ h => SqL.of h.2.1) (fun i x H' hx h => ?_) (fun H' h => ?_)
    · obtain ⟨x1, hp, bs, el, hb⟩ := h
      obtain ⟨z, rfl⟩ : ∃ z, x = .int z := by
        rw [List.getElem?_map] at hx
        obtain ⟨z, _, e⟩ := Option.map_eq_some_iff.mp hx
        exact ⟨z, e.symm⟩
      have hi : i < ms.length := by
        have := (List.getElem?_eq_some_iff.mp hx).1
        rw [List.length_map] at this
        exact this
      refine ⟨rfl, .int z, rfl, _, rfl, _, _, rfl, rfl, _, _, rfl, bs.map V.int, hb, small1000 (by rw [List.length_map]; omega), Evl.Ex.mut x1 nDH, by rw [upd_ne hDp.symm]; exact hp, bs ++ [_], by rw [List.length_append, el]; rfl, by rw [upd_same, List.map_append]; rfl⟩
    · obtain ⟨x1, hp, bs, el, hb⟩ := h
      rw [List.length_map] at el
      refine ⟨.int b, rfl, _, _, rfl, rfl, ?_⟩
      refine ⟨fun σ H3 => ∃ n, σ = [some (.ref a), some (.int b), some (.ref D), σ.getD 3 none, some (.int n)] ∧ 0 ≤ n ∧ n < 2147483648 ∧ H3 = H', ?_, ?_⟩
      · refine ⟨.ref D, rfl, D, rfl, ⟨_, SqL.of hb⟩, for_list (K := K) (a := D) (xs := bs.map V.int) (fun i σ H3 => ∃ n, σ = [some (.ref a), some (.int b), some (.ref D), σ.getD 3 none, some (.int n)] ∧ 0 ≤ n ∧ n < 2147483648 ∧ H3 = H') ⟨7919 + b, rfl, by omega, by omega, rfl⟩ (fun i σ H3 _ h => ?_) (fun i x σ H3 hx h => ?_) (fun σ H3 h => h)⟩
        · obtain ⟨n, _, _, _, rfl⟩ := h
          exact SqL.of hb
        · obtain ⟨n, e, n0, n1, rfl⟩ := h
          generalize σ.getD 3 none = y at e
          subst e
          obtain ⟨z, rfl⟩ : ∃ z, x = .int z := by
            rw [List.getElem?_map] at hx
            obtain ⟨z, _, e⟩ := Option.map_eq_some_iff.mp hx
            exact ⟨z, e.symm⟩
          refine ⟨.int n, rfl, _, _, rfl, rfl, .inl ⟨by omega, by omega⟩, .int z, rfl, _, _, rfl, rfl, by dsimp only; decide, _, _, rfl, rfl, _, _, rfl, rfl, by dsimp only; decide, ?_⟩
          exact ⟨_, rfl, (fmod_in _ _ (by decide)).1, Int.lt_trans (fmod_in _ 2147483647 (by decide)).2 (by decide), rfl⟩
      · rintro σ H3 ⟨n, e, n0, n1, rfl⟩
        generalize σ.getD 3 none = y at e
        subst e
        -- the dict
        intro d nd
        have ndH : H d = none := Evl.fresh_back x1 nd
        have hdD : D ≠ d := ne_of_none hb nd
        refine ⟨.int n, rfl, ?_⟩
        refine ⟨.ref D, rfl, D, rfl, ⟨_, SqL.of (by rw [upd_ne hdD]; exact hb)⟩, fun D2 nD2 => ?_⟩
        have hdD2 : D2 ≠ d := fun e => by rw [e, upd_same] at nD2; cases nD2
        have nD2H : H3 D2 = none := by rw [upd_ne hdD2] at nD2; exact nD2
        have hDD2 : D ≠ D2 := ne_of_none hb nD2H
        refine lc_list (K := K) (a := D) (xs := bs.map V.int) (fun i H' => Ex H H' ∧ H' D = some (.lst (bs.map V.int)) ∧ H' d = some (.dK []) ∧ ∃ cs : List Int, cs.length ≤ i ∧ (∀ x ∈ cs, 0 < x) ∧ H' D2 = some (.lst (cs.map V.int))) ⟨Evl.Ex.mut (Evl.Ex.mut x1 ndH) (Evl.fresh_back x1 nD2H), by rw [upd_ne hDD2, upd_ne hdD]; exact hb, by rw [upd_ne hdD2.symm, upd_same], [], by simp, fun x hx => by simp at hx, upd_same⟩ (fun i H' _ h => SqL.of h.2.1) (fun i x H' hx h => ?_) (fun H' h => ?_)
        · obtain ⟨x2, hb2, hd2, cs, lc, pc, hc⟩ := h
          obtain ⟨z, rfl⟩ : ∃ z, x = .int z := by
            rw [List.getElem?_map] at hx
            obtain ⟨z, _, e⟩ := Option.map_eq_some_iff.mp hx
            exact ⟨z, e.symm⟩
          have hi : i < bs.length := by
            have := (List.getElem?_eq_some_iff.mp hx).1
            rw [List.length_map] at this
            exact this
          refine ⟨rfl, .int z, rfl, _, _, rfl, rfl, ⟨by decide, by decide, by decide⟩, _, _, rfl, rfl, _, rfl, ite2 (fun e => ?_) (fun e => ?_)⟩
          · have hz : (10 : Int) ^ (18 : Int).toNat ≤ z := of_decide_eq_true e
            have hz0 : 0 < z := Int.lt_of_lt_of_le (by decide) hz
            refine ⟨.int z, rfl, cs.map V.int, hc, small1000 (by rw [List.length_map]; omega), Evl.Ex.mut x2 (Evl.fresh_back x1 nD2H), by rw [upd_ne hDD2]; exact hb2, by rw [upd_ne hdD2.symm]; exact hd2, cs ++ [z], by rw [List.length_append]; show cs.length + 1 ≤ i + 1; omega, fun x hx => ?_, by rw [upd_same, List.map_append]; rfl⟩
            rcases List.mem_append.mp hx with h | h
            · exact pc x h
            · rw [List.mem_singleton.mp h]; exact hz0
          · exact ⟨x2, hb2, hd2, cs, by omega, pc, hc⟩
        · obtain ⟨x2, hb2, hd2, cs, lc, pc, hc⟩ := h
          rw [List.length_map] at lc
          refine ⟨D2, _, rfl, SqL.of hc, fun l nl => ?_⟩
          have hdl : d ≠ l := ne_of_none hd2 nl
          refine ⟨by rw [upd_ne hdl]; exact hd2, dealD n 0 l, rfl, by show 3 ≤ 15; decide, ?_⟩
          rw [merge_deal]
          refine q d l _ (Evl.Ex.mut (Evl.Ex.mut x2 (Evl.fresh_back x2 nl)) ndH) ndH (Evl.fresh_back x2 nl) ⟨n, 0, cs.reverse, upd_same, ?_, n0, n1, by omega, fun x hx => pc x (List.mem_reverse.mp hx), by rw [List.length_reverse]; omega⟩
          rw [upd_ne hdl.symm, upd_same, List.map_reverse]

/-! ### names -/
abbrev lettersS : Str := "abcdefghijklmnopqrstuvwxyz"
def keptL : List Str := ["boxes", "part", "own", "any", "call", "rest", "all", "none"]
abbrev isL (c : Nat) : Bool := decide (c ∈ lettersS.cps.toList)
def nameB (t : Str) : Bool := !(decide (t.length < 1) || (decide (6 < t.length) || inV (.str t) (keptL.map V.str))) && t.cps.toList.all isL
def GoodT (t : Str) : Prop := t.length ≤ 900 ∧ ∀ c ∈ t.cps.toList, c < 1114112
def sp_name : Sp := fun vs H Q _ => ∃ t : Str, vs = [.str t] ∧ GoodT t ∧ ∀ H', Ex H H' → Q (.bl (nameB t)) H'
theorem all_map_id (l : List Nat) (f : Nat → Bool) : (l.map f).all id = l.all f := by
  rw [List.all_map]
  rfl
theorem flat_strs (l : List Str) : (l.map V.str).all flatV = true := by
  rw [List.all_map, List.all_eq_true]
  intro x _
  rfl
theorem ok_is_name {k : Nat} (T : Txt K mg) : FnOk P w K mg base CX0 (k + 1) T.f_is_name T.fd_is_name ["text"] sp_name := by
  refine T.F_is_name.ok sc_is_name (fun vs H Q E h => ?_) (fun cdv A outer s H vs Q E hr h => ?_)
  · obtain ⟨t, rfl, _⟩ := h
    rfl
  · obtain ⟨t, rfl, ⟨hl, _⟩, q⟩ := h
    have hz : t.length ≤ sizeLine := Nat.le_of_lt (small1000 (by omega))
    refine ⟨_, (pss_cons (ps_if (PW.pt (pw_or (pt_cmpR op_lt (pe_callB call_len_str (by rfl) T.z_len PySem.boot_len (pa_cons (pv 0) pa_nil)) pe_int (nomark _)) (pw_or (pt_cmpR op_gt (pe_callB call_len_str (by rfl) T.z_len PySem.boot_len (pa_cons (pv 0) pa_nil)) (pe_glob rfl T.g_MOST_SIGNS (T.r_MOST_SIGNS)) (nomark _)) (pw_or1 (pt_cmpR op_in_seq (pv 0) (pe_glob rfl T.g_KEPT (T.r_KEPT)) rfl))))) (pss_one (ps_ret pe_bl)) pss_nil)
      (pss_one (ps_ret (pe_callB (cr_all rfl) (by rfl) T.z_all (by decide +kernel) (pa_cons (pe_lc (own := [("sign", 1)]) (g := gName 1) (tt := tYes) rfl sc_is_name.nd (pi_str (pv 0)) (blkOk_by (own := [("sign", 1)]) (N := nm_is_name) (sc := defScope st_is_name) (by decide +kernel)) (fun _ _ _ _ _ => (pg_name (i := 1) sc_is_name.nd rfl (Or.inl rfl))) (fun _ _ _ _ _ => pts_nil) (fun _ _ _ _ _ => (pe_cmpR op_in_sign (pv 1) (pe_glob rfl T.g_LETTERS (T.r_LETTERS)) rfl))) pa_nil))))), ?_⟩
    have no : ∀ {c : Bool}, (c = true → nameB t = false) → c = true → Q (.bl false) H := fun f e => by
      have := q H (Evl.Ex.refl H)
      rw [f e] at this
      exact this
    refine ⟨.str t, rfl, t, rfl, hz, _, _, rfl, rfl, _, rfl, ite2 (fun e => iteT (no (fun e => ?_) e)) (fun e => ?_)⟩
    · have e' : decide (t.length < 1) = true := by rw [decide_eq_true_eq] at e ⊢; omega
      unfold nameB
      rw [e']
      rfl
    refine ⟨.str t, rfl, t, rfl, hz, _, _, rfl, rfl, _, rfl, ite2 (fun e2 => iteT (no (fun e => ?_) e2)) (fun e2 => ?_)⟩
    · have e' : decide (6 < t.length) = true := by rw [decide_eq_true_eq] at e ⊢; omega
      unfold nameB
      rw [e', Bool.true_or, Bool.or_true]
      rfl
    refine ⟨.str t, rfl, T.a_KEPT, keptL.map V.str, rfl, .inr (T.s_KEPT H), rfl, flat_strs _, _, rfl, ite2 (fun e3 => no (fun e => ?_) e3) (fun e3 => ?_)⟩
    · unfold nameB
      rw [show inV (.str t) (keptL.map V.str) = true from e, Bool.or_true, Bool.or_true]
      rfl
    refine ⟨.str t, rfl, t, rfl, fun D nD => ?_⟩
    refine lc_it walk_str (fun i H' => Ex H H' ∧ H' D = some (.lst (((t.cps.toList.take i).map isL).map V.bl))) ⟨Evl.Ex.new nD, upd_same⟩ (fun _ _ _ _ => trivial) (fun i x H' H'' hi h y => ?_) (fun H' h => ?_)
    · obtain ⟨rfl, c, hc, rfl⟩ := y
      refine ⟨rfl, .str ⟨#[c]⟩, rfl, c, lettersS, rfl, rfl, _, h.2, small1000 ?_, Evl.Ex.mut h.1 nD, ?_⟩
      · rw [List.length_map, List.length_map, List.length_take]
        have : t.length = t.cps.size := rfl
        omega
      · rw [upd_same, List.take_add_one, Array.getElem?_toList, hc, List.map_append, List.map_append]
        rfl
    · refine ⟨D, _, rfl, SqL.of h.2, ?_⟩
      have hn : t.cps.toList.take t.cps.size = t.cps.toList := List.take_of_length_le (by simp)
      rw [hn, all_map_id]
      have := q H' h.1
      have e4 : nameB t = t.cps.toList.all isL := by
        unfold nameB
        have a1 : decide (t.length < 1) = false := by
          rw [decide_eq_true_eq] at e
          exact decide_eq_false (by omega)
        have a2 : decide (6 < t.length) = false := by
          rw [decide_eq_true_eq] at e2
          exact decide_eq_false (by omega)
        have a3 : inV (.str t) (keptL.map V.str) = false := Bool.eq_false_iff.mpr e3
        rw [a1, a2, a3]
        rfl
      rw [e4] at this
      exact this

/-! ### the law's own -/
abbrev signsS : Str := (" !\"#$&'()*+,-./0123456789:;<=>?@ABCDEFGHIJKLMNOPQRSTUVWXYZ" : Str) ++ ("[\\]^_`abcdefghijklmnopqrstuvwxyz{|}~\n" : Str)
theorem signs_len : 0 < signsS.length ∧ signsS.length ≤ 200 := by decide +kernel
theorem signs_small : ∀ c ∈ signsS.cps.toList, c < 1114112 := by decide +kernel
theorem letters_small : ∀ c ∈ lettersS.cps.toList, c < 1114112 := by decide +kernel
theorem kept_small : ∀ x ∈ keptL, x.length ≤ 5 ∧ ∀ c ∈ x.cps.toList, c < 1114112 := by decide +kernel
def sp_signs : Sp := fun vs H Q _ => vs = [] ∧ Q (.str signsS) H
theorem ok_signs {k : Nat} (T : Txt K mg) : FnOk P w K mg base CX0 (k + 1) T.f__law_signs T.fd__law_signs [] sp_signs := by
  refine T.F__law_signs.ok sc__law_signs (fun vs H Q E h => by rw [h.1]; rfl) (fun cdv A outer s H vs Q E hr h => ?_)
  obtain ⟨rfl, q⟩ := h
  refine ⟨_, (pss_cons (ps_set (i := 0) sc__law_signs.nd rfl (Or.inl rfl) pe_str)
      (pss_one (ps_ret (pe_op op_add_str (pv 0) pe_str)))), ?_⟩
  exact ⟨_, rfl, _, _, rfl, rfl, by decide +kernel, q⟩
def sp_kept : Sp := fun vs H Q _ => vs = [] ∧ ∀ p, H p = none → Q (.ref p) (upd H p (.lst (keptL.map V.str)))
theorem ok_kept {k : Nat} (T : Txt K mg) : FnOk P w K mg base CX0 (k + 1) T.f__law_kept T.fd__law_kept [] sp_kept := by
  refine T.F__law_kept.ok sc__law_kept (fun vs H Q E h => by rw [h.1]; rfl) (fun cdv A outer s H vs Q E hr h => ?_)
  obtain ⟨rfl, q⟩ := h
  refine ⟨_, (pss_one (ps_ret (pe_lst (pa_cons pe_str (pa_cons pe_str (pa_cons pe_str (pa_cons pe_str (pa_cons pe_str (pa_cons pe_str (pa_cons pe_str (pa_cons pe_str pa_nil))))))))))), ?_⟩
  exact ⟨by show 8 ≤ sizeLine; decide, q⟩
theorem ok_law_is_name {k : Nat} (T : Txt K mg) : FnOk P w K mg base CX0 (k + 2) T.f__law_is_name T.fd__law_is_name ["_law_word"] sp_name := by
  have G__law_kept : FnOk P w K mg base CX0 1 T.f__law_kept T.fd__law_kept [] sp_kept := ok_kept T
  refine T.F__law_is_name.ok sc__law_is_name (fun vs H Q E h => ?_) (fun cdv A outer s H vs Q E hr h => ?_)
  · obtain ⟨t, rfl, _⟩ := h
    rfl
  · obtain ⟨t, rfl, ⟨hl, hc⟩, q⟩ := h
    have hz : t.length ≤ sizeLine := Nat.le_of_lt (small1000 (by omega))
    refine ⟨_, (pss_cons (ps_if (PW.pt (pw_or (pt_cmpR op_in_seq (pv 0) (pe_call0 G__law_kept (hr.mono (by omega)) (by rfl) T.g__law_kept T.F__law_kept.kp T.b__law_kept .nil pass0) rfl) (pw_or1 (pt_not (pt_chain op_lt op_lt pe_int (pe_callB call_len_str (by rfl) T.z_len PySem.boot_len (pa_cons (pv 0) pa_nil)) pe_int))))) (pss_one (ps_ret pe_bl)) pss_nil)
      (pss_one (ps_ret (pe_cmpR (op_eqD hr.units) (pe_lc (own := [("_law_sign", 1)]) (g := gName 1) rfl sc__law_is_name.nd (pi_str (pv 0)) (blkOk_by (own := [("_law_sign", 1)]) (N := nm__law_is_name) (sc := defScope st__law_is_name) (by decide +kernel)) (fun _ _ _ _ _ => (pg_name (i := 1) sc__law_is_name.nd rfl (Or.inl rfl))) (fun _ _ _ _ _ => (pts_one (pt_cmpR op_notIn_sign (pv 1) pe_str rfl))) (fun _ _ _ _ _ => (pv 1))) (pe_lst pa_nil) (nomark _))))), ?_⟩
    have no : ∀ {H'}, Ex H H' → nameB t = false → Q (.bl false) H' := fun e f => by
      have := q _ e
      rw [f] at this
      exact this
    refine ⟨.str t, rfl, rfl, fun p np => ?_⟩
    have x0 : Ex H (upd H p (.lst (keptL.map V.str))) := Evl.Ex.new np
    refine ⟨p, keptL.map V.str, rfl, .inl (SqL.of upd_same), rfl, flat_strs _, _, rfl, ite2 (fun e => iteT (no x0 ?_)) (fun e => ?_)⟩
    · unfold nameB
      rw [show inV (.str t) (keptL.map V.str) = true from e, Bool.or_true, Bool.or_true]
      rfl
    have a3 : inV (.str t) (keptL.map V.str) = false := Bool.eq_false_iff.mpr e
    refine ⟨.str t, rfl, t, rfl, hz, _, _, rfl, rfl, _, rfl, ite2 (fun e1 => ?_) (fun e1 => ⟨false, rfl, iteT (no x0 (by
      have e' : decide (t.length < 1) = true := by rw [decide_eq_true_eq] at e1 ⊢; omega
      unfold nameB
      rw [e']
      rfl))⟩)⟩
    have a1 : decide (t.length < 1) = false := by
      rw [decide_eq_true_eq] at e1
      exact decide_eq_false (by omega)
    refine ⟨_, _, rfl, rfl, _, rfl, ite2 (fun e2 => no x0 ?_) (fun e2 => ?_)⟩
    · have e' : decide (6 < t.length) = true := by
        rw [Bool.not_eq_true', decide_eq_false_iff_not] at e2
        rw [decide_eq_true_eq]
        omega
      unfold nameB
      rw [e', Bool.true_or, Bool.or_true]
      rfl
    have a2 : decide (6 < t.length) = false := by
      rw [Bool.not_eq_true', decide_eq_false_iff_not] at e2
      exact decide_eq_false (by omega)
    have e4 : nameB t = t.cps.toList.all isL := by
      unfold nameB
      rw [a1, a2, a3]
      rfl
    refine ⟨.str t, rfl, t, rfl, fun D nD => ?_⟩
    have nDH : H D = none := Evl.fresh_back x0 nD
    refine lc_it walk_str (fun i H' => Ex H H' ∧ H' D = some (.lst ((((t.cps.toList.take i).filter fun c => !isL c).map fun c => (⟨#[c]⟩ : Str)).map V.str))) ⟨x0.trans (Evl.Ex.new nD), upd_same⟩ (fun _ _ _ _ => trivial) (fun i x H' H'' hi h y => ?_) (fun H' h => ?_)
    · obtain ⟨rfl, c, hc, rfl⟩ := y
      refine ⟨rfl, .str ⟨#[c]⟩, rfl, c, lettersS, rfl, rfl, _, rfl, ite2 (fun e5 => ?_) (fun e5 => ?_)⟩
      · refine ⟨.str ⟨#[c]⟩, rfl, _, h.2, small1000 ?_, Evl.Ex.mut h.1 nDH, ?_⟩
        · rw [List.length_map, List.length_map]
          refine Nat.le_trans (List.length_filter_le _ _) ?_
          rw [List.length_take]
          have : t.length = t.cps.size := rfl
          omega
        · rw [upd_same, List.take_add_one, Array.getElem?_toList, hc, List.filter_append, List.map_append, List.map_append]
          have e6 : (!isL c) = true := e5
          simp [e6]
      · refine ⟨h.1, ?_⟩
        rw [h.2, List.take_add_one, Array.getElem?_toList, hc, List.filter_append]
        have e6 : (!isL c) = false := Bool.eq_false_iff.mpr e5
        simp [e6]
    · have hn : t.cps.toList.take t.cps.size = t.cps.toList := List.take_of_length_le (by simp)
      rw [hn] at h
      refine ⟨by show 0 ≤ sizeLine; decide, fun p2 np2 => ?_⟩
      have x2 : Ex H (upd H' p2 (.lst [])) := h.1.trans (Evl.Ex.new np2)
      have hD : D ≠ p2 := ne_of_none h.2 np2
      refine ⟨_, .list [], .lst (SqL.of (by rw [upd_ne hD]; exact h.2)) (DpAll.strs _), .lst (SqL.of upd_same) .nil, ?_, by decide +kernel, ?_⟩
      · exact shaped_strs _ fun x hx => by
          obtain ⟨c, hc1, rfl⟩ := List.mem_map.mp hx
          have := hc c (List.mem_filter.mp hc1).1
          show (#[c] : Array Nat).all (· < 0x110000) = true
          simpa using this
      · have := q _ x2
        have e7 : PyData.eqv (.list ((((t.cps.toList).filter fun c => !isL c).map fun c => (⟨#[c]⟩ : Str)).map PyData.str)) (.list []) = nameB t := by
          rw [e4]
          generalize t.cps.toList = l
          induction l with
          | nil => rfl
          | cons c r ih =>
            rw [List.filter_cons, List.all_cons]
            cases hc : isL c with
            | true => exact ih
            | false => rfl
        rw [e7]
        exact this

/-! ### any text -/
/-- a list of texts of one sign each -/
structure Wd (H : Hp) (d l p : Addr) (n : Nat) (ys : List Str) : Prop where
  at' : H p = some (.lst (ys.map V.str))
  nd : p ≠ d
  nl : p ≠ l
  len : ys.length ≤ n
  one : ∀ y ∈ ys, ∃ c, y = ⟨#[c]⟩ ∧ c < 1114112
theorem Wd.kp {H H' : Hp} {d l p : Addr} {n : Nat} {ys : List Str} (h : Wd H d l p n ys) (k : Kp d l H H') : Wd H' d l p n ys := ⟨k p _ h.nd h.nl h.at', h.nd, h.nl, h.len, h.one⟩
theorem Wd.mono {H : Hp} {d l p : Addr} {n m : Nat} {ys : List Str} (h : Wd H d l p n ys) (e : n ≤ m) : Wd H d l p m ys := ⟨h.at', h.nd, h.nl, Nat.le_trans h.len e, h.one⟩
def sp_text : Sp := fun vs H Q _ => ∃ (d l : Addr), vs = [.ref d] ∧ IsDeal H d l ∧ ∀ (t : Str) (H' : Hp), GoodT t → IsDeal H' d l → Kp d l H H' → Q (.str t) H'
theorem join_good {ys : List Str} {n : Nat} (hl : ys.length ≤ 900) (h1 : ∀ y ∈ ys, ∃ c, y = ⟨#[c]⟩ ∧ c < 1114112) : GoodT (Txt.join ("" : Str) ys) := by
  have key : ∀ ys : List Str, (∀ y ∈ ys, ∃ c, y = ⟨#[c]⟩ ∧ c < 1114112) → (TL.joinL [] (ys.map TL.tl)).length = ys.length ∧ ∀ c ∈ TL.joinL [] (ys.map TL.tl), c < 1114112 := by
    intro ys
    induction ys with
    | nil => intro _; exact ⟨rfl, fun c hc => by cases hc⟩
    | cons y r ih =>
      intro h
      obtain ⟨c, rfl, hc⟩ := h y List.mem_cons_self
      obtain ⟨i1, i2⟩ := ih fun z hz => h z (List.mem_cons_of_mem _ hz)
      cases r with
      | nil => exact ⟨rfl, fun z hz => by rw [List.mem_singleton.mp (show z ∈ [c] from hz)]; exact hc⟩
      | cons z r =>
        have e : TL.joinL [] (((⟨#[c]⟩ : Str) :: z :: r).map TL.tl) = c :: TL.joinL [] ((z :: r).map TL.tl) := rfl
        rw [e]
        refine ⟨by rw [List.length_cons, i1]; rfl, fun x hx => ?_⟩
        rcases List.mem_cons.mp hx with rfl | hx
        · exact hc
        · exact i2 x hx
  obtain ⟨k1, k2⟩ := key ys h1
  have e : TL.tl (Txt.join ("" : Str) ys) = TL.joinL [] (ys.map TL.tl) := by
    rw [TL.join_eq, TL.tl_join]
    rfl
  refine ⟨?_, fun c hc => k2 c (by rw [← e]; exact hc)⟩
  rw [TL.len_tl, e, k1]
  exact hl
theorem one_sum {ys : List Str} (h1 : ∀ y ∈ ys, ∃ c, y = ⟨#[c]⟩ ∧ c < 1114112) : (ys.map (·.length)).sum = ys.length := by
  induction ys with
  | nil => rfl
  | cons y r ih =>
    obtain ⟨c, rfl, hc⟩ := h1 y List.mem_cons_self
    rw [List.map_cons, List.sum_cons, ih fun z hz => h1 z (List.mem_cons_of_mem _ hz)]
    show 1 + r.length = r.length + 1
    omega
section
variable {H : Hp} {d l p m : Addr} {n k : Nat} {ys zs : List Str} {at' : Int} {σ : L2.St}
/-- word[:at] -/
theorem cut_lo (W : Wd H d l p n ys) (D : IsDeal H d l) {te : TO} {th : TO} {lo hi : Option Int} (e1 : Evl.EvO te σ H lo) (e2 : Evl.EvO th σ H hi) (h2 : σ[2]? = some (some (.ref p))) {Q : VK}
    (q : ∀ p' H' ws, Ex H H' → IsDeal H' d l → Wd H' d l p' n ws → Q (.ref p') H') : tSl (rSlL K) (tVar 2) te th σ H Q := by
  refine ⟨.ref p, h2, e1 H (Evl.Ex.refl _) _ fun H1 x1 => e2 H1 x1 _ fun H2 x2 => ⟨p, _, rfl, SqL.of ((x1.trans x2) _ _ W.at'), fun p' np => ?_⟩⟩
  obtain ⟨ws, ew, lw, mw⟩ := cut_strs ys lo hi
  rw [ew]
  have D2 := D.ex (x1.trans x2)
  obtain ⟨n1, n2⟩ := D2.nd np
  exact q p' _ ws ((x1.trans x2).trans (Evl.Ex.new np)) (D2.upd n1 n2) ⟨upd_same, n1, n2, Nat.le_trans lw W.len, fun y hy => W.one y (mw y hy)⟩
theorem cat_two {ta tb : TE} (hn : n + k ≤ 900)
    (ha : ∀ {Q : VK}, (∀ p' H' ws, Ex H H' → IsDeal H' d l → Wd H' d l p' n ws → Q (.ref p') H') → ta σ H Q)
    (hb : ∀ {H1 : Hp}, Ex H H1 → IsDeal H1 d l → ∀ {Q : VK}, (∀ p' H' ws, Ex H1 H' → IsDeal H' d l → Wd H' d l p' k ws → Q (.ref p') H') → tb σ H1 Q) {Q : VK}
    (q : ∀ p' H' ws, Ex H H' → IsDeal H' d l → Wd H' d l p' (n + k) ws → Q (.ref p') H') : tOp rCat ta tb σ H Q := by
  refine ha fun p1 H1 w1 x1 D1 W1 => hb x1 D1 fun p2 H2 w2 x2 D2 W2 => ?_
  refine ⟨p1, p2, _, _, rfl, rfl, x2 _ _ W1.at', W2.at', Nat.le_of_lt (small1000 ?_), fun p3 np => ?_⟩
  · rw [List.length_map, List.length_map]
    have := W1.len
    have := W2.len
    omega
  · obtain ⟨n1, n2⟩ := D2.nd np
    refine q p3 _ (w1 ++ w2) ((x1.trans x2).trans (Evl.Ex.new np)) (D2.upd n1 n2) ⟨by rw [upd_same, List.map_append], n1, n2, ?_, fun y hy => ?_⟩
    · rw [List.length_append]
      have := W1.len
      have := W2.len
      omega
    · rcases List.mem_append.mp hy with h | h
      · exact W1.one y h
      · exact W2.one y h
theorem var_wd {i : Nat} (W : Wd H d l m k zs) (D : IsDeal H d l) (h : σ[i]? = some (some (.ref m))) {Q : VK} (q : ∀ p' H' ws, Ex H H' → IsDeal H' d l → Wd H' d l p' k ws → Q (.ref p') H') : tVar i σ H Q :=
  ⟨.ref m, h, q m H zs (Evl.Ex.refl _) D W⟩
end

theorem letter_at {r : Int} (h0 : 0 ≤ r) (h1 : r < 26) : ∃ c, atI lettersS.cps.toList r = some c ∧ c < 1114112 := by
  obtain ⟨c, e, hc⟩ := at_inA (xs := lettersS.cps.toList) h0 (by
    have : lettersS.cps.toList.length = 26 := by decide +kernel
    omega)
  exact ⟨c, e, letters_small c hc⟩
theorem sign_at {r : Int} (h0 : 0 ≤ r) (h1 : r < signsS.length) : ∃ c, atI signsS.cps.toList r = some c ∧ c < 1114112 := by
  obtain ⟨c, e, hc⟩ := at_inA (xs := signsS.cps.toList) h0 (by rw [Array.length_toList]; exact h1)
  exact ⟨c, e, signs_small c hc⟩
theorem Wd.new {H : Hp} {d l p : Addr} (D : IsDeal H d l) (np : H p = none) {ys : List Str} {n : Nat} (hl : ys.length ≤ n) (h1 : ∀ y ∈ ys, ∃ c, y = ⟨#[c]⟩ ∧ c < 1114112) : Wd (upd H p (.lst (ys.map V.str))) d l p n ys :=
  ⟨upd_same, (D.nd np).1, (D.nd np).2, hl, h1⟩
/-- word = [A, B, C, word][turn] -/
theorem pick_case {A B C : TE} {D : Ends} {H : Hp} {d l p : Addr} {n m : Nat} {ys : List Str} {σ : L2.St} {i : Int} (hm : m ≤ n) (DM : IsDeal H d l) (W : Wd H d l p m ys) (u0 : 0 ≤ i) (u1 : i < 4)
    (hA : ∀ {Q : VK}, (∀ p' H' ws, Ex H H' → IsDeal H' d l → Wd H' d l p' n ws → Q (.ref p') H') → A σ H Q)
    (hB : ∀ {H1 : Hp}, Ex H H1 → IsDeal H1 d l → ∀ {Q : VK}, (∀ p' H' ws, Ex H1 H' → IsDeal H' d l → Wd H' d l p' n ws → Q (.ref p') H') → B σ H1 Q)
    (hC : ∀ {H1 : Hp}, Ex H H1 → IsDeal H1 d l → ∀ {Q : VK}, (∀ p' H' ws, Ex H1 H' → IsDeal H' d l → Wd H' d l p' n ws → Q (.ref p') H') → C σ H1 Q)
    (h2 : σ[2]? = some (some (.ref p))) (h6 : σ[6]? = some (some (.int i)))
    (q : ∀ p' H' ws, Ex H H' → IsDeal H' d l → Wd H' d l p' n ws → D.nx (σ.set 2 (some (.ref p'))) H') :
    tAsg (tOp (rIxL K) (tLst (tCons A (tCons B (tCons C (tCons (tVar 2) tNil))))) (tVar 6)) (gName 2) D σ H := by
  refine hA fun pA HA wA xA DA WA => ?_
  refine hB xA DA fun pB HB wB xB DB WB => ?_
  refine hC (xA.trans xB) DB fun pC HC wC xC DC WC => ?_
  refine ⟨.ref p, h2, by show 4 ≤ sizeLine; decide, fun pl npl => ⟨.int i, h6, ?_⟩⟩
  obtain ⟨v, ev, hv⟩ := at_in (xs := [.ref pA, .ref pB, .ref pC, .ref p]) u0 (by simpa using u1)
  refine ⟨pl, _, i, v, rfl, rfl, SqL.of upd_same, ev, ?_⟩
  have xl : Ex HC (upd HC pl (.lst [.ref pA, .ref pB, .ref pC, .ref p])) := Evl.Ex.new npl
  have Dl := DC.ex xl
  have X := ((xA.trans xB).trans xC).trans xl
  simp only [List.mem_cons, List.not_mem_nil, or_false] at hv
  rcases hv with rfl | rfl | rfl | rfl
  · exact q _ _ _ X Dl (WA.kp (Kp.of_ex ((xB.trans xC).trans xl)))
  · exact q _ _ _ X Dl (WB.kp (Kp.of_ex (xC.trans xl)))
  · exact q _ _ _ X Dl (WC.kp (Kp.of_ex xl))
  · exact q _ _ _ X Dl ((W.kp (Kp.of_ex X)).mono hm)
def bnd : Nat → Nat
  | 0 => 40
  | i + 1 => 2 * bnd i + 1
theorem bnd_le {i : Nat} (h : i ≤ 3) : bnd i ≤ 327 := by
  have : i = 0 ∨ i = 1 ∨ i = 2 ∨ i = 3 := by omega
  rcases this with rfl | rfl | rfl | rfl <;> decide
theorem ok_any_text {k : Nat} (T : Txt K mg) : FnOk P w K mg base CX0 (k + 2) T.f__law_any_text T.fd__law_any_text ["_law_deal_here"] sp_text := by
  have G__law_kept : FnOk P w K mg base CX0 1 T.f__law_kept T.fd__law_kept [] sp_kept := ok_kept T
  have G__law_signs : FnOk P w K mg base CX0 1 T.f__law_signs T.fd__law_signs [] sp_signs := ok_signs T
  have G__law_draw : FnOk P w K mg base CX0 1 T.f__law_draw T.fd__law_draw ["_law_deal_here", "_law_many"] sp_draw := ok_draw T
  refine T.F__law_any_text.ok sc__law_any_text (fun vs H Q E h => ?_) (fun cdv A outer s H vs Q E hr h => ?_)
  · obtain ⟨d, l, rfl, _⟩ := h
    rfl
  · obtain ⟨d, l, rfl, D0, q⟩ := h
    refine ⟨_, (pss_cons (ps_set (i := 1) sc__law_any_text.nd rfl (Or.inr rfl) pe_str)
      (pss_cons (ps_setLc (i := 2) (own := [("_law_k", 3)]) (g := gName 3) (tt := tYes) rfl sc__law_any_text.nd rfl rfl (sw_true rfl rfl rfl (by decide +kernel)) (pi_range1 (by rfl) T.z_range (pa_cons (pe_call G__law_draw (hr.mono (by omega)) (by rfl) T.g__law_draw T.F__law_draw.kp T.b__law_draw .nil pass0 (pa_cons (pv 0) (pa_cons (pe_ix ix_list (pe_lst (pa_cons pe_int (pa_cons pe_int (pa_cons pe_int (pa_cons pe_int pa_nil))))) (pe_call G__law_draw (hr.mono (by omega)) (by rfl) T.g__law_draw T.F__law_draw.kp T.b__law_draw .nil pass0 (pa_cons (pv 0) (pa_cons pe_int pa_nil))) (fun _ _ => rfl)) pa_nil))) pa_nil)) (blkOk_by (own := [("_law_k", 3)]) (N := nm__law_any_text) (sc := defScope st__law_any_text) (by decide +kernel)) (fun _ _ _ _ _ => (pg_name (i := 3) sc__law_any_text.nd rfl (Or.inl rfl))) (fun _ _ _ _ _ => pts_nil) (fun _ _ _ _ _ => (pe_ix ix_str (pv 1) (pe_call G__law_draw (hr.mono (by omega)) (by rfl) T.g__law_draw T.F__law_draw.kp T.b__law_draw .nil pass0 (pa_cons (pv 0) (pa_cons pe_int pa_nil))) (fun _ _ => rfl))))
      (pss_cons (ps_set (i := 4) sc__law_any_text.nd rfl (Or.inl rfl) (pe_call G__law_draw (hr.mono (by omega)) (by rfl) T.g__law_draw T.F__law_draw.kp T.b__law_draw .nil pass0 (pa_cons (pv 0) (pa_cons pe_int pa_nil))))
      (Evl.pss_cut (ps_if (pt_cmpR op_eq (pv 4) pe_int (nomark _)) (pss_cons (ps_set (i := 2) sc__law_any_text.nd rfl (Or.inl rfl) (pe_callTy (call_listS rfl) (by rfl) T.z_list (by decide +kernel) (pa_cons (pe_ix ix_list (pe_call0 G__law_kept (hr.mono (by omega)) (by rfl) T.g__law_kept T.F__law_kept.kp T.b__law_kept .nil pass0) (pe_call G__law_draw (hr.mono (by omega)) (by rfl) T.g__law_draw T.F__law_draw.kp T.b__law_draw .nil pass0 (pa_cons (pv 0) (pa_cons pe_int pa_nil))) (fun _ _ => rfl)) pa_nil)))
        (pss_cons (ps_set (i := 5) sc__law_any_text.nd rfl (Or.inl rfl) (pe_call G__law_draw (hr.mono (by omega)) (by rfl) T.g__law_draw T.F__law_draw.kp T.b__law_draw .nil pass0 (pa_cons (pv 0) (pa_cons (pe_op op_add (pe_callB call_len_seq (by rfl) T.z_len PySem.boot_len (pa_cons (pv 2) pa_nil)) pe_int) pa_nil))))
        (pss_cons (ps_set (i := 6) sc__law_any_text.nd rfl (Or.inl rfl) (pe_call G__law_draw (hr.mono (by omega)) (by rfl) T.g__law_draw T.F__law_draw.kp T.b__law_draw .nil pass0 (pa_cons (pv 0) (pa_cons pe_int pa_nil))))
        (pss_cons (ps_set (i := 7) sc__law_any_text.nd rfl (Or.inl rfl) (pe_lst (pa_cons (pe_ix ix_str (pv 1) (pe_call G__law_draw (hr.mono (by omega)) (by rfl) T.g__law_draw T.F__law_draw.kp T.b__law_draw .nil pass0 (pa_cons (pv 0) (pa_cons pe_int pa_nil))) (fun _ _ => rfl)) pa_nil)))
        (pss_one (ps_set (i := 2) sc__law_any_text.nd rfl (Or.inl rfl) (pe_ix ix_list (pe_lst (pa_cons (pe_op op_cat (pe_op op_cat (pe_slice sl_list (pv 2) po_none (po_some (pv 5))) (pv 7)) (pe_slice sl_list (pv 2) (po_some (pv 5)) po_none)) (pa_cons (pe_op op_cat (pe_op op_cat (pe_slice sl_list (pv 2) po_none (po_some (pv 5))) (pv 7)) (pe_slice sl_list (pv 2) (po_some (pe_op op_add (pv 5) pe_int)) po_none)) (pa_cons (pe_op op_cat (pe_slice sl_list (pv 2) po_none (po_some (pv 5))) (pe_slice sl_list (pv 2) (po_some (pe_op op_add (pv 5) pe_int)) po_none)) (pa_cons (pv 2) pa_nil))))) (pv 6) (fun _ _ => rfl)))))))) pss_nil)
      (Evl.pss_cut (ps_if (pt_cmpR op_eq (pv 4) pe_int (nomark _)) (pss_cons (ps_set (i := 8) sc__law_any_text.nd rfl (Or.inl rfl) (pe_call0 G__law_signs (hr.mono (by omega)) (by rfl) T.g__law_signs T.F__law_signs.kp T.b__law_signs .nil pass0))
        (pss_one (ps_for PassesOwn.never rfl (pi_range1 (by rfl) T.z_range (pa_cons (pe_op op_add pe_int (pe_call G__law_draw (hr.mono (by omega)) (by rfl) T.g__law_draw T.F__law_draw.kp T.b__law_draw .nil pass0 (pa_cons (pv 0) (pa_cons pe_int pa_nil)))) pa_nil)) (pg_name (i := 3) sc__law_any_text.nd rfl (Or.inl rfl))
          (pss_cons (ps_set (i := 5) sc__law_any_text.nd rfl (Or.inl rfl) (pe_call G__law_draw (hr.mono (by omega)) (by rfl) T.g__law_draw T.F__law_draw.kp T.b__law_draw .nil pass0 (pa_cons (pv 0) (pa_cons (pe_op op_add (pe_callB call_len_seq (by rfl) T.z_len PySem.boot_len (pa_cons (pv 2) pa_nil)) pe_int) pa_nil))))
          (pss_one (ps_set (i := 2) sc__law_any_text.nd rfl (Or.inl rfl) (pe_op op_cat (pe_op op_cat (pe_slice sl_list (pv 2) po_none (po_some (pv 5))) (pe_lst (pa_cons (pe_ix ix_str (pv 8) (pe_call G__law_draw (hr.mono (by omega)) (by rfl) T.g__law_draw T.F__law_draw.kp T.b__law_draw .nil pass0 (pa_cons (pv 0) (pa_cons (pe_callB call_len_str (by rfl) T.z_len PySem.boot_len (pa_cons (pv 8) pa_nil)) pa_nil))) (fun _ _ => rfl)) pa_nil))) (pe_slice sl_list (pv 2) (po_some (pe_op op_add (pv 5) (pe_call G__law_draw (hr.mono (by omega)) (by rfl) T.g__law_draw T.F__law_draw.kp T.b__law_draw .nil pass0 (pa_cons (pv 0) (pa_cons pe_int pa_nil))))) po_none)))))))) pss_nil)
      (pss_one (ps_ret (pe_join pe_str (pv 2))))))))), ?_⟩
    -- the word's length
    refine ⟨.ref d, rfl, by show 4 ≤ sizeLine; decide, fun p np => ⟨.ref d, rfl, ⟨d, l, _, rfl, (D0.upd (D0.nd np).1 (D0.nd np).2), by decide, by decide, fun r H2 r0 r1 D2 k2 => ?_⟩⟩⟩
    obtain ⟨v, ev, hv⟩ := at_in (xs := [.int 9, .int 9, .int 9, .int 40]) r0 (by simpa using r1)
    obtain ⟨n, rfl, n0, n1⟩ : ∃ n, v = .int n ∧ 0 < n ∧ n ≤ 40 := by
      simp only [List.mem_cons, List.not_mem_nil, or_false] at hv
      rcases hv with rfl | rfl | rfl | rfl <;> exact ⟨_, rfl, by decide, by decide⟩
    refine ⟨p, _, r, _, rfl, rfl, SqL.of (k2 p _ (D0.nd np).1 (D0.nd np).2 upd_same), ev, ⟨d, l, _, rfl, D2, n0, by omega, fun n2 H3 a0 a1 D3 k3 => ⟨n2, rfl, by omega, by omega, fun DD nD => ?_⟩⟩⟩
    have K3 : Kp d l H H3 := ((Kp.of_ex (Evl.Ex.new np)).trans k2).trans k3
    have nDH : H DD = none := by
      cases e : H DD with
      | none => rfl
      | some o =>
        by_cases h1 : DD = d
        · exact absurd h1 (D3.nd nD).1
        · by_cases h2 : DD = l
          · exact absurd h2 (D3.nd nD).2
          · rw [K3 DD o h1 h2 e] at nD; cases nD
    refine lc_range (lo := 0) (n := n2.toNat) (fun i H' => IsDeal H' d l ∧ Kp d l H H' ∧ ∃ ys, ys.length = i ∧ Wd H' d l DD 40 ys) ⟨D3.upd (D3.nd nD).1 (D3.nd nD).2, K3.trans (Kp.of_ex (Evl.Ex.new nD)), [], rfl, Wd.new (ys := []) D3 nD (by decide) (fun y hy => by cases hy)⟩ (fun i H' hi h => ?_) (fun H' h => ?_)
    · obtain ⟨D4, k4, ys, el, W⟩ := h
      refine ⟨rfl, .str lettersS, rfl, .ref d, rfl, ⟨d, l, _, rfl, D4, by decide, by decide, fun r5 H5 b0 b1 D5 k5 => ?_⟩⟩
      obtain ⟨c, ec, hc⟩ := letter_at b0 b1
      have W5 := W.kp k5
      refine ⟨lettersS, r5, c, rfl, rfl, by decide +kernel, ec, ys.map V.str, W5.at', small1000 (by rw [List.length_map]; have := W.len; omega), D5.upd W5.nd W5.nl, (k4.trans k5).mut nDH, ys ++ [⟨#[c]⟩], by rw [List.length_append, el]; rfl, ⟨by rw [upd_same, List.map_append]; rfl, W5.nd, W5.nl, by rw [List.length_append]; show ys.length + 1 ≤ 40; omega, fun y hy => ?_⟩⟩
      rcases List.mem_append.mp hy with h | h
      · exact W.one y h
      · exact ⟨c, List.mem_singleton.mp h, hc⟩
    · obtain ⟨D4, k4, ys, el, W⟩ := h
      refine ⟨.ref d, rfl, ⟨d, l, _, rfl, D4, by decide, by decide, fun form H5 f0 f1 D5 k5 => ?_⟩⟩
      refine ⟨fun σ H' => ∃ p ys y3 y5 y6 y7, σ = [some (.ref d), some (.str lettersS), some (.ref p), y3, some (.int form), y5, y6, y7, none] ∧ IsDeal H' d l ∧ Kp d l H H' ∧ Wd H' d l p 40 ys, ?_, ?_⟩
      · refine ⟨.int form, rfl, rfl, _, rfl, ite2 (fun e => ?_) (fun e => ⟨_, ys, _, _, _, _, rfl, D5, k4.trans k5, W.kp k5⟩)⟩
        refine ⟨rfl, fun p np => ⟨.ref d, rfl, ⟨d, l, _, rfl, (D5.upd (D5.nd np).1 (D5.nd np).2), by decide, by decide, fun r H6 r0 r1 D6 k6 => ?_⟩⟩⟩
        obtain ⟨v, ev, hv⟩ := at_in (xs := keptL.map V.str) r0 (by rw [List.length_map]; exact r1)
        obtain ⟨z, hz, rfl⟩ := List.mem_map.mp hv
        obtain ⟨z1, z2⟩ := kept_small z hz
        refine ⟨p, _, r, _, rfl, rfl, SqL.of (k6 p _ (D5.nd np).1 (D5.nd np).2 upd_same), ev, z, rfl, Nat.le_of_lt (small1000 (by omega)), fun w nw => ?_⟩
        have e1 : (z.cps.toList.map fun c => V.str ⟨#[c]⟩) = ((z.cps.toList.map fun c => (⟨#[c]⟩ : Str))).map V.str := by rw [List.map_map]; rfl
        rw [e1]
        have W7 : Wd (upd H6 w (.lst ((z.cps.toList.map fun c => (⟨#[c]⟩ : Str)).map V.str))) d l w 5 (z.cps.toList.map fun c => (⟨#[c]⟩ : Str)) := Wd.new D6 nw (by rw [List.length_map, Array.length_toList]; exact z1) (fun y hy => by
          obtain ⟨c, hc, rfl⟩ := List.mem_map.mp hy
          exact ⟨c, rfl, z2 c hc⟩)
        have D7 : IsDeal (upd H6 w (.lst ((z.cps.toList.map fun c => (⟨#[c]⟩ : Str)).map V.str))) d l := D6.upd (D6.nd nw).1 (D6.nd nw).2
        have k7 : Kp d l H (upd H6 w (.lst ((z.cps.toList.map fun c => (⟨#[c]⟩ : Str)).map V.str))) := (((k4.trans k5).trans (Kp.of_ex (Evl.Ex.new np))).trans k6).trans (Kp.of_ex (Evl.Ex.new nw))
        generalize (z.cps.toList.map fun c => (⟨#[c]⟩ : Str)) = ws at W7 D7 k7
        generalize upd H6 w (.lst (ws.map V.str)) = H7 at W7 D7 k7
        refine ⟨.ref d, rfl, .ref w, rfl, w, _, rfl, .inl (SqL.of W7.at'), _, _, rfl, rfl, ⟨d, l, _, rfl, D7, by rw [List.length_map]; omega, by rw [List.length_map]; have := W7.len; omega, fun at' H8 t0 t1 D8 k8 => ?_⟩⟩
        refine ⟨.ref d, rfl, ⟨d, l, _, rfl, D8, by decide, by decide, fun turn H9 u0 u1 D9 k9 => ?_⟩⟩
        refine ⟨.str lettersS, rfl, .ref d, rfl, ⟨d, l, _, rfl, D9, by decide, by decide, fun r10 H10 b0 b1 D10 k10 => ?_⟩⟩
        obtain ⟨c, ec, hc⟩ := letter_at b0 b1
        refine ⟨lettersS, r10, c, rfl, rfl, by decide +kernel, ec, by show 1 ≤ sizeLine; decide, fun m nm => ?_⟩
        have WM : Wd (upd H10 m (.lst ([(⟨#[c]⟩ : Str)].map V.str))) d l m 1 [⟨#[c]⟩] := Wd.new D10 nm (Nat.le_refl _) (fun y hy => ⟨c, List.mem_singleton.mp hy, hc⟩)
        have DM : IsDeal (upd H10 m (.lst ([(⟨#[c]⟩ : Str)].map V.str))) d l := D10.upd (D10.nd nm).1 (D10.nd nm).2
        have kM : Kp d l H7 (upd H10 m (.lst ([(⟨#[c]⟩ : Str)].map V.str))) := ((k8.trans k9).trans k10).trans (Kp.of_ex (Evl.Ex.new nm))
        have WW := W7.kp kM
        have KM := k7.trans kM
        refine pick_case (K := K) (d := d) (l := l) (n := 11) (p := w) (i := turn) (by decide) DM WW u0 u1
          (fun q => cat_two (d := d) (l := l) (n := 5 + 1) (k := 5) (by decide) (fun q => cat_two (d := d) (l := l) (n := 5) (k := 1) (by decide) (fun q => cut_lo (K := K) WW DM Evl.eo_none (Evl.eo_some (Evl.ev_var rfl)) rfl q) (fun x D _ q => var_wd (WM.kp (Kp.of_ex x)) D rfl q) q) (fun x D _ q => cut_lo (K := K) (WW.kp (Kp.of_ex x)) D (Evl.eo_some (Evl.ev_var rfl)) Evl.eo_none rfl q) q)
          (fun xA DA _ q => cat_two (d := d) (l := l) (n := 5 + 1) (k := 5) (by decide) (fun q => cat_two (d := d) (l := l) (n := 5) (k := 1) (by decide) (fun q => cut_lo (K := K) (WW.kp (Kp.of_ex xA)) DA Evl.eo_none (Evl.eo_some (Evl.ev_var rfl)) rfl q) (fun x D _ q => var_wd ((WM.kp (Kp.of_ex xA)).kp (Kp.of_ex x)) D rfl q) q) (fun x D _ q => cut_lo (K := K) ((WW.kp (Kp.of_ex xA)).kp (Kp.of_ex x)) D (Evl.eo_some (Evl.ev_op (Evl.ev_var rfl) Evl.ev_c Evl.rv_I0)) Evl.eo_none rfl q) q)
          (fun xB DB _ q => cat_two (d := d) (l := l) (n := 5) (k := 5) (by decide) (fun q => cut_lo (K := K) (WW.kp (Kp.of_ex xB)) DB Evl.eo_none (Evl.eo_some (Evl.ev_var rfl)) rfl q) (fun x D _ q => cut_lo (K := K) ((WW.kp (Kp.of_ex xB)).kp (Kp.of_ex x)) D (Evl.eo_some (Evl.ev_op (Evl.ev_var rfl) Evl.ev_c Evl.rv_I0)) Evl.eo_none rfl q) fun p' H' ws x D W => q p' H' ws x D (W.mono (by decide)))
          rfl rfl (fun pz Hz wz xz Dz Wz => ?_)
        exact ⟨pz, wz, _, _, _, _, rfl, Dz, KM.trans (Kp.of_ex xz), Wz.mono (by decide)⟩
      · rintro σ H6 ⟨p, ys, y3, y5, y6, y7, rfl, D6, k6, W6⟩
        refine ⟨fun σ H' => ∃ p ys, σ[2]? = some (some (.ref p)) ∧ IsDeal H' d l ∧ Kp d l H H' ∧ Wd H' d l p 900 ys, ?_, ?_⟩
        · refine ⟨.int form, rfl, rfl, _, rfl, ite2 (fun e => ?_) (fun e => ⟨p, ys, rfl, D6, k6, W6.mono (by decide)⟩)⟩
          refine ⟨rfl, ?_⟩
          refine ⟨.ref d, rfl, ⟨d, l, _, rfl, D6, by decide, by decide, fun r H7 r0 r1 D7 k7 => ⟨_, _, rfl, rfl, 1 + r, rfl, by omega, by omega, ?_⟩⟩⟩
          refine for_range (lo := 0) (n := (1 + r).toNat) (fun i σ H' => ∃ p ys y3 y5, σ = [some (.ref d), some (.str lettersS), some (.ref p), y3, some (.int form), y5, y6, y7, some (.str signsS)] ∧ IsDeal H' d l ∧ Kp d l H H' ∧ Wd H' d l p (bnd i) ys) ⟨p, ys, y3, y5, rfl, D7, k6.trans k7, W6.kp k7⟩ (fun i σ H' hi h => ?_) (fun σ H' h => ?_)
          · obtain ⟨p, ys, y3, y5, rfl, D8, k8, W8⟩ := h
            have hb := bnd_le (i := i) (by omega)
            have hb' : bnd i ≤ 163 := by
              have : i = 0 ∨ i = 1 ∨ i = 2 := by omega
              rcases this with rfl | rfl | rfl <;> decide
            refine ⟨.ref d, rfl, .ref p, rfl, p, _, rfl, .inl (SqL.of W8.at'), _, _, rfl, rfl, ⟨d, l, _, rfl, D8, by rw [List.length_map]; omega, by rw [List.length_map]; have := W8.len; omega, fun at' H9 t0 t1 D9 k9 => ?_⟩⟩
            have W9 := W8.kp k9
            refine cut_lo (K := K) W9 D9 Evl.eo_none (Evl.eo_some (Evl.ev_var rfl)) rfl fun pa Ha wa xa Da Wa => ?_
            refine ⟨.str signsS, rfl, .ref d, rfl, .str signsS, rfl, signsS, rfl, by decide +kernel, ⟨d, l, _, rfl, Da, by decide +kernel, by decide +kernel, fun rs Hs s0 s1 Ds ks => ?_⟩⟩
            obtain ⟨c, ec, hc⟩ := sign_at s0 s1
            refine ⟨signsS, rs, c, rfl, rfl, by decide +kernel, ec, by show 1 ≤ sizeLine; decide, fun m nm => ?_⟩
            have WM : Wd (upd Hs m (.lst ([(⟨#[c]⟩ : Str)].map V.str))) d l m 1 [⟨#[c]⟩] := Wd.new Ds nm (Nat.le_refl _) (fun y hy => ⟨c, List.mem_singleton.mp hy, hc⟩)
            have DM : IsDeal (upd Hs m (.lst ([(⟨#[c]⟩ : Str)].map V.str))) d l := Ds.upd (Ds.nd nm).1 (Ds.nd nm).2
            have xm : Ex Hs (upd Hs m (.lst ([(⟨#[c]⟩ : Str)].map V.str))) := Evl.Ex.new nm
            have Wa2 := (Wa.kp ks).kp (Kp.of_ex xm)
            have Wp2 := ((W9.kp (Kp.of_ex xa)).kp ks).kp (Kp.of_ex xm)
            have km : Kp d l H' (upd Hs m (.lst ([(⟨#[c]⟩ : Str)].map V.str))) := ((k9.trans (Kp.of_ex xa)).trans ks).trans (Kp.of_ex xm)
            refine ⟨pa, m, _, _, rfl, rfl, Wa2.at', WM.at', Nat.le_of_lt (small1000 (by rw [List.length_map, List.length_map]; have := Wa2.len; have := WM.len; omega)), fun pc nc => ?_⟩
            have xc := Evl.Ex.new (o := .lst ((wa.map V.str) ++ ([(⟨#[c]⟩ : Str)].map V.str))) nc
            have Wc : Wd (upd (upd Hs m (.lst ([(⟨#[c]⟩ : Str)].map V.str))) pc (.lst ((wa ++ [(⟨#[c]⟩ : Str)]).map V.str))) d l pc (bnd i + 1) (wa ++ [⟨#[c]⟩]) := Wd.new DM nc (by rw [List.length_append]; have := Wa2.len; show wa.length + 1 ≤ bnd i + 1; omega) (fun y hy => by
              rcases List.mem_append.mp hy with h | h
              · exact Wa2.one y h
              · exact ⟨c, List.mem_singleton.mp h, hc⟩)
            rw [List.map_append] at Wc
            have Dc := DM.ex xc
            have Wp3 := Wp2.kp (Kp.of_ex xc)
            -- word[at + draw(2):]
            refine ⟨.ref p, rfl, .int at', rfl, .ref d, rfl, ⟨d, l, _, rfl, Dc, by decide, by decide, fun r2 Ht v0 v1 Dt kt => ⟨_, _, rfl, rfl, _, rfl, p, _, rfl, SqL.of (Wp3.kp kt).at', fun pe ne => ?_⟩⟩⟩
            obtain ⟨we, ee, le, me⟩ := cut_strs ys (some (at' + r2)) none
            have We : Wd (upd Ht pe (.lst (we.map V.str))) d l pe (bnd i) we := Wd.new Dt ne (Nat.le_trans le W8.len) (fun y hy => W8.one y (me y hy))
            have De : IsDeal (upd Ht pe (.lst (we.map V.str))) d l := Dt.upd (Dt.nd ne).1 (Dt.nd ne).2
            have xe : Ex Ht (upd Ht pe (.lst (we.map V.str))) := Evl.Ex.new ne
            have Wc3 := (Wc.kp kt).kp (Kp.of_ex xe)
            refine ⟨pc, pe, (wa ++ [(⟨#[c]⟩ : Str)]).map V.str, we.map V.str, rfl, rfl, by rw [ee]; exact Wc3.at', by rw [ee]; exact We.at', Nat.le_of_lt (small1000 (by rw [List.length_map, List.length_map]; have := Wc3.len; have := We.len; omega)), fun pf nf => ?_⟩
            rw [ee] at nf ⊢
            refine ⟨pf, (wa ++ [⟨#[c]⟩]) ++ we, _, _, rfl, De.upd (De.nd nf).1 (De.nd nf).2, ?_, ?_⟩
            · exact ((((k8.trans km).trans (Kp.of_ex xc)).trans kt).trans (Kp.of_ex xe)).trans (Kp.of_ex (Evl.Ex.new nf))
            · rw [← List.map_append]
              refine Wd.new De nf ?_ (fun y hy => ?_)
              · rw [List.length_append]
                have := Wc3.len
                have := We.len
                show _ ≤ 2 * bnd i + 1
                omega
              · rcases List.mem_append.mp hy with h | h
                · exact Wc3.one y h
                · exact We.one y h
          · obtain ⟨p, ys, y3, y5, rfl, D8, k8, W8⟩ := h
            exact ⟨p, ys, rfl, D8, k8, W8.mono (Nat.le_trans (bnd_le (by omega)) (by decide))⟩
        · rintro σ H7 ⟨p, ys, e2, D7, k7, W7⟩
          refine ⟨⟨_, rfl⟩, .ref p, e2, "", p, ys, rfl, rfl, .inl (SqL.of W7.at'), ?_, q _ _ (join_good (n := 900) W7.len W7.one) D7 k7⟩
          rw [one_sum W7.one]
          have := W7.len
          show ys.length + ys.length * 0 ≤ 16777216
          omega

/-! ### the law -/
def sp_law (K : PySem.W.Frag) : Sp := fun vs H Q _ => ∃ (a : Addr) (ns : List Int), vs = [.ref a] ∧ SqL K H a (ns.map V.int) ∧ ns.length ≤ 63 ∧ ∀ H', Q (.bl true) H'
theorem rest_good : GoodT "rest" := ⟨by decide +kernel, by decide +kernel⟩
theorem none_good : GoodT "none" := ⟨by decide +kernel, by decide +kernel⟩
theorem empty_good : GoodT "" := ⟨by decide +kernel, fun c hc => by cases hc⟩
theorem ok_law {k : Nat} (T : Txt K mg) : FnOk P w K mg base CX0 (k + 3) T.f_law T.fd_law ["_law_script"] (sp_law K) := by
  have G__law_deal : FnOk P w K mg base CX0 1 T.f__law_deal T.fd__law_deal ["_law_script", "_law_base"] (sp_deal K) := ok_deal T
  have G__law_any_text : FnOk P w K mg base CX0 2 T.f__law_any_text T.fd__law_any_text ["_law_deal_here"] sp_text := ok_any_text T
  have G__law_is_name : FnOk P w K mg base CX0 2 T.f__law_is_name T.fd__law_is_name ["_law_word"] sp_name := ok_law_is_name T
  have G_is_name : FnOk P w K mg base CX0 1 T.f_is_name T.fd_is_name ["text"] sp_name := ok_is_name T
  refine T.F_law.ok sc_law (fun vs H Q E h => ?_) (fun cdv A outer s H vs Q E hr h => ?_)
  · obtain ⟨a, ns, rfl, _⟩ := h
    rfl
  · obtain ⟨a, ns, rfl, hS, hlen, q⟩ := h
    refine ⟨_, (pss_cons (ps_set (i := 1) sc_law.nd rfl (Or.inr rfl) (pe_call G__law_deal (hr.mono (by omega)) (by rfl) T.g__law_deal T.F__law_deal.kp T.b__law_deal .nil pass0 (pa_cons (pv 0) (pa_cons pe_int pa_nil))))
      (pss_cons (ps_set (i := 2) sc_law.nd rfl (Or.inl rfl) (pe_op op_cat (pe_lst (pa_cons pe_str (pa_cons pe_str (pa_cons pe_str pa_nil)))) (pe_lc (own := [("_law_k", 3)]) (g := gName 3) (tt := tYes) rfl sc_law.nd (pi_range1 (by rfl) T.z_range (pa_cons pe_int pa_nil)) (blkOk_by (own := [("_law_k", 3)]) (N := nm_law) (sc := defScope st_law) (by decide +kernel)) (fun _ _ _ _ _ => (pg_name (i := 3) sc_law.nd rfl (Or.inl rfl))) (fun _ _ _ _ _ => pts_nil) (fun _ _ _ _ _ => (pe_call G__law_any_text (hr.mono (by omega)) (by rfl) T.g__law_any_text T.F__law_any_text.kp T.b__law_any_text .nil pass0 (pa_cons (pv 1) pa_nil))))))
      (Evl.pss_cut (ps_for PassesOwn.never rfl (pi_list (pe_op op_cat (pv 2) (pe_revL (pv 2)))) (pg_name (i := 4) sc_law.nd rfl (Or.inl rfl))
        (pss_cons (ps_set (i := 5) sc_law.nd rfl (Or.inl rfl) (pe_call G_is_name (hr.mono (by omega)) (by rfl) T.g_is_name T.F_is_name.kp T.b_is_name .nil pass0 (pa_cons (pv 4) pa_nil)))
        (pss_one (ps_if (PW.pt (pw_or (pt_not (pt_val (pe_callB call_isi (by rfl) T.z_isinstance (by decide +kernel) (pa_cons (pv 5) (pa_cons (pe_bltn (v := .ty "bool") (by rfl) T.z_bool (by decide +kernel) rfl) pa_nil))))) (pw_or1 (pt_cmpR op_ne (pv 5) (pe_call G__law_is_name (hr.mono (by omega)) (by rfl) T.g__law_is_name T.F__law_is_name.kp T.b__law_is_name .nil pass0 (pa_cons (pv 4) pa_nil)) (nomark _))))) (pss_one (ps_ret pe_bl)) pss_nil))))
      (pss_one (ps_ret pe_bl))))), ?_⟩
    refine ⟨.ref a, rfl, a, ns, 0, rfl, hS, hlen, by decide, by decide, fun d l H1 x1 nd nl D1 => ?_⟩
    refine ⟨by show 3 ≤ sizeLine; decide, fun p np => ⟨16, rfl, by decide, by decide, fun DD nD => ?_⟩⟩
    have D2 : IsDeal (upd H1 p (.lst [.str "", .str "rest", .str "none"])) d l := D1.upd (D1.nd np).1 (D1.nd np).2
    refine lc_range (lo := 0) (n := 16) (fun i H' => IsDeal H' d l ∧ H' p = some (.lst [.str "", .str "rest", .str "none"]) ∧ ∃ ts : List Str, ts.length = i ∧ (∀ t ∈ ts, GoodT t) ∧ H' DD = some (.lst (ts.map V.str))) ⟨D2.upd (D2.nd nD).1 (D2.nd nD).2, by rw [upd_ne (ne_of_none upd_same nD), upd_same], [], rfl, fun t ht => (by cases ht), upd_same⟩ (fun i H' hi h => ?_) (fun H' h => ?_)
    · obtain ⟨D3, hp, ts, el, hg, hD⟩ := h
      refine ⟨rfl, .ref d, rfl, d, l, rfl, D3, fun t H4 gt D4 k4 => ⟨ts.map V.str, k4 DD _ (D2.nd nD).1 (D2.nd nD).2 hD, small1000 (by rw [List.length_map]; omega), D4.upd (D2.nd nD).1 (D2.nd nD).2, ?_, ts ++ [t], by rw [List.length_append, el]; rfl, fun z hz => ?_, by rw [upd_same, List.map_append]; rfl⟩⟩
      · rw [upd_ne (ne_of_none upd_same nD)]
        exact k4 p _ (D1.nd np).1 (D1.nd np).2 hp
      · rcases List.mem_append.mp hz with h | h
        · exact hg z h
        · rw [List.mem_singleton.mp h]; exact gt
    · obtain ⟨D3, hp, ts, el, hg, hD⟩ := h
      refine ⟨p, DD, _, _, rfl, rfl, hp, hD, Nat.le_of_lt (small1000 (by rw [List.length_map]; show 3 + ts.length ≤ 1000; omega)), fun m nm => ?_⟩
      have em : [V.str "", .str "rest", .str "none"] ++ ts.map V.str = (("" : Str) :: "rest" :: "none" :: ts).map V.str := rfl
      rw [em]
      have hall : ∀ t ∈ (("" : Str) :: "rest" :: "none" :: ts), GoodT t := fun t ht => by
        simp only [List.mem_cons] at ht
        rcases ht with rfl | rfl | rfl | ht
        · exact empty_good
        · exact rest_good
        · exact none_good
        · exact hg t ht
      have hlen2 : (("" : Str) :: "rest" :: "none" :: ts).length = 19 := by
        show ts.length + 3 = 19
        omega
      generalize (("" : Str) :: "rest" :: "none" :: ts) = all at nm hall hlen2
      -- the loop
      refine ⟨fun _ _ => True, ?_, fun σ' H'' _ => q _⟩
      refine ⟨.ref m, rfl, .ref m, rfl, m, _, rfl, SqL.of upd_same, fun m2 nm2 => ?_⟩
      have e0 : m ≠ m2 := ne_of_none upd_same nm2
      refine ⟨m, m2, _, _, rfl, rfl, by rw [upd_ne e0, upd_same], upd_same, Nat.le_of_lt (small1000 (by rw [List.length_reverse, List.length_map]; omega)), fun m3 nm3 => ?_⟩
      have er : all.map V.str ++ (all.map V.str).reverse = (all ++ all.reverse).map V.str := by rw [List.map_append, List.map_reverse]
      rw [er]
      refine ⟨m3, rfl, ⟨_, SqL.of upd_same⟩, for_list (K := K) (a := m3) (xs := (all ++ all.reverse).map V.str) (fun i σ H5 => (∃ y4 y5, σ = [some (.ref a), some (.ref d), some (.ref m), none, y4, y5]) ∧ H5 m3 = some (.lst ((all ++ all.reverse).map V.str))) ⟨⟨_, _, rfl⟩, upd_same⟩ (fun i σ H5 _ h => SqL.of h.2) (fun i x σ H5 hx h => ?_) (fun σ H5 h => trivial)⟩
      obtain ⟨⟨y4, y5, rfl⟩, h3⟩ := h
      obtain ⟨t, ht, rfl⟩ : ∃ t, GoodT t ∧ x = .str t := by
        rw [List.getElem?_map] at hx
        obtain ⟨t, e1, e2⟩ := Option.map_eq_some_iff.mp hx
        have := List.mem_of_getElem? e1
        rcases List.mem_append.mp this with h | h
        · exact ⟨t, hall t h, e2.symm⟩
        · exact ⟨t, hall t (List.mem_reverse.mp h), e2.symm⟩
      refine ⟨.str t, rfl, t, rfl, ht, fun H6 x6 => ?_⟩
      refine ⟨.bl (nameB t), rfl, .bl (nameB t), .ty "bool", .type "bool", .type "bool", true, rfl, .ty _, .base (.bl _), kit_ty (by decide +kernel), true, rfl, ?_⟩
      refine iteF ?_
      refine ⟨.bl (nameB t), rfl, .str t, rfl, t, rfl, ht, fun H7 x7 => ?_⟩
      refine ⟨rfl, _, rfl, ?_⟩
      rw [decide_eq_true rfl]
      exact iteF ⟨⟨_, _, rfl⟩, x7 _ _ (x6 _ _ h3)⟩
abbrev level : Nat := 3
theorem law_starts {K : PySem.W.Frag} {H : Hp} {a : Addr} {ns : List Int} (hl : ns.length ≤ 63) (hS : SqL K H a (ns.map V.int)) : sp_law K [.ref a] H (fun v _ => v = .bl true) fun _ _ _ => False := ⟨a, ns, rfl, hS, hl, fun _ => rfl⟩
theorem law_ok {fa : Addr} (hmg : mg "law" = some (.ref fa)) (T : Txt K mg) :
    ∃ fd : FuncData, (∀ (s : Shared) (v : Value), BindsTo s fd ⟨[v], []⟩ [("_law_script", v)]) ∧ ∀ base : Heap, K.In base → base.Ns mainGlobals mg → FnOk P w K mg base CX0 level fa fd ["_law_script"] (sp_law K) := by
  have e := hmg.symm.trans T.g_law
  cases e
  refine ⟨T.fd_law, fun s v => ?_, fun base _ _ => ok_law T⟩
  obtain ⟨oc, od, kV, doc, pm, an, cdv, ct, osl, e, lk, hcd⟩ := T.F_law.ex
  rw [e]
  exact .of_eq rfl

end
def txt_mk {K : PySem.W.Frag} {h : Heap} {mg : Str → Option Value} (X : K.In h) (G : h.Ns mainGlobals mg) {tL tM t1 t2 t3 t4 t5 t6 t7 t8 : Tok} {aK : Addr} {odK : Option Addr} {nK : Nat} {slK : Array (Option Value)}
    {f_is_name : Addr} {od_is_name an_is_name : Option Addr} {sl_is_name : Array (Option Value)} {oc_is_name kV_is_name dc_is_name pm_is_name cd_is_name ct_is_name : Value}
    (a_is_name : PySem.W.nsIn K mainGlobals "is_name" = some (some (.ref f_is_name))) (l_is_name : K.lookup f_is_name = some ⟨oc_is_name, od_is_name, .func (PySem.W.fnOf "is_name" "is_name" (defArgs st_is_name) (defBody st_is_name) (defScope st_is_name) .none kV_is_name dc_is_name pm_is_name an_is_name cd_is_name ct_is_name), sl_is_name⟩) (c_is_name : PySem.W.codeIn K cd_is_name "is_name" = true) (k_is_name : PySem.W.keepIn K (.ref f_is_name) = true)
    {f__law_deal : Addr} {od__law_deal an__law_deal : Option Addr} {sl__law_deal : Array (Option Value)} {oc__law_deal kV__law_deal dc__law_deal pm__law_deal cd__law_deal ct__law_deal : Value}
    (a__law_deal : PySem.W.nsIn K mainGlobals "_law_deal" = some (some (.ref f__law_deal))) (l__law_deal : K.lookup f__law_deal = some ⟨oc__law_deal, od__law_deal, .func (PySem.W.fnOf "_law_deal" "_law_deal" (defArgs st__law_deal) (defBody st__law_deal) (defScope st__law_deal) .none kV__law_deal dc__law_deal pm__law_deal an__law_deal cd__law_deal ct__law_deal), sl__law_deal⟩) (c__law_deal : PySem.W.codeIn K cd__law_deal "_law_deal" = true) (k__law_deal : PySem.W.keepIn K (.ref f__law_deal) = true)
    {f__law_draw : Addr} {od__law_draw an__law_draw : Option Addr} {sl__law_draw : Array (Option Value)} {oc__law_draw kV__law_draw dc__law_draw pm__law_draw cd__law_draw ct__law_draw : Value}
    (a__law_draw : PySem.W.nsIn K mainGlobals "_law_draw" = some (some (.ref f__law_draw))) (l__law_draw : K.lookup f__law_draw = some ⟨oc__law_draw, od__law_draw, .func (PySem.W.fnOf "_law_draw" "_law_draw" (defArgs st__law_draw) (defBody st__law_draw) (defScope st__law_draw) .none kV__law_draw dc__law_draw pm__law_draw an__law_draw cd__law_draw ct__law_draw), sl__law_draw⟩) (c__law_draw : PySem.W.codeIn K cd__law_draw "_law_draw" = true) (k__law_draw : PySem.W.keepIn K (.ref f__law_draw) = true)
    {f__law_signs : Addr} {od__law_signs an__law_signs : Option Addr} {sl__law_signs : Array (Option Value)} {oc__law_signs kV__law_signs dc__law_signs pm__law_signs cd__law_signs ct__law_signs : Value}
    (a__law_signs : PySem.W.nsIn K mainGlobals "_law_signs" = some (some (.ref f__law_signs))) (l__law_signs : K.lookup f__law_signs = some ⟨oc__law_signs, od__law_signs, .func (PySem.W.fnOf "_law_signs" "_law_signs" (defArgs st__law_signs) (defBody st__law_signs) (defScope st__law_signs) .none kV__law_signs dc__law_signs pm__law_signs an__law_signs cd__law_signs ct__law_signs), sl__law_signs⟩) (c__law_signs : PySem.W.codeIn K cd__law_signs "_law_signs" = true) (k__law_signs : PySem.W.keepIn K (.ref f__law_signs) = true)
    {f__law_kept : Addr} {od__law_kept an__law_kept : Option Addr} {sl__law_kept : Array (Option Value)} {oc__law_kept kV__law_kept dc__law_kept pm__law_kept cd__law_kept ct__law_kept : Value}
    (a__law_kept : PySem.W.nsIn K mainGlobals "_law_kept" = some (some (.ref f__law_kept))) (l__law_kept : K.lookup f__law_kept = some ⟨oc__law_kept, od__law_kept, .func (PySem.W.fnOf "_law_kept" "_law_kept" (defArgs st__law_kept) (defBody st__law_kept) (defScope st__law_kept) .none kV__law_kept dc__law_kept pm__law_kept an__law_kept cd__law_kept ct__law_kept), sl__law_kept⟩) (c__law_kept : PySem.W.codeIn K cd__law_kept "_law_kept" = true) (k__law_kept : PySem.W.keepIn K (.ref f__law_kept) = true)
    {f__law_is_name : Addr} {od__law_is_name an__law_is_name : Option Addr} {sl__law_is_name : Array (Option Value)} {oc__law_is_name kV__law_is_name dc__law_is_name pm__law_is_name cd__law_is_name ct__law_is_name : Value}
    (a__law_is_name : PySem.W.nsIn K mainGlobals "_law_is_name" = some (some (.ref f__law_is_name))) (l__law_is_name : K.lookup f__law_is_name = some ⟨oc__law_is_name, od__law_is_name, .func (PySem.W.fnOf "_law_is_name" "_law_is_name" (defArgs st__law_is_name) (defBody st__law_is_name) (defScope st__law_is_name) .none kV__law_is_name dc__law_is_name pm__law_is_name an__law_is_name cd__law_is_name ct__law_is_name), sl__law_is_name⟩) (c__law_is_name : PySem.W.codeIn K cd__law_is_name "_law_is_name" = true) (k__law_is_name : PySem.W.keepIn K (.ref f__law_is_name) = true)
    {f__law_any_text : Addr} {od__law_any_text an__law_any_text : Option Addr} {sl__law_any_text : Array (Option Value)} {oc__law_any_text kV__law_any_text dc__law_any_text pm__law_any_text cd__law_any_text ct__law_any_text : Value}
    (a__law_any_text : PySem.W.nsIn K mainGlobals "_law_any_text" = some (some (.ref f__law_any_text))) (l__law_any_text : K.lookup f__law_any_text = some ⟨oc__law_any_text, od__law_any_text, .func (PySem.W.fnOf "_law_any_text" "_law_any_text" (defArgs st__law_any_text) (defBody st__law_any_text) (defScope st__law_any_text) .none kV__law_any_text dc__law_any_text pm__law_any_text an__law_any_text cd__law_any_text ct__law_any_text), sl__law_any_text⟩) (c__law_any_text : PySem.W.codeIn K cd__law_any_text "_law_any_text" = true) (k__law_any_text : PySem.W.keepIn K (.ref f__law_any_text) = true)
    {f_law : Addr} {od_law an_law : Option Addr} {sl_law : Array (Option Value)} {oc_law kV_law dc_law pm_law cd_law ct_law : Value}
    (a_law : PySem.W.nsIn K mainGlobals "law" = some (some (.ref f_law))) (l_law : K.lookup f_law = some ⟨oc_law, od_law, .func (PySem.W.fnOf "law" "law" (defArgs st_law) (defBody st_law) (defScope st_law) .none kV_law dc_law pm_law an_law cd_law ct_law), sl_law⟩) (c_law : PySem.W.codeIn K cd_law "law" = true) (k_law : PySem.W.keepIn K (.ref f_law) = true)
    (z_all : PySem.W.nsIn K mainGlobals "all" = some none)
    (z_bool : PySem.W.nsIn K mainGlobals "bool" = some none)
    (z_isinstance : PySem.W.nsIn K mainGlobals "isinstance" = some none)
    (z_len : PySem.W.nsIn K mainGlobals "len" = some none)
    (z_list : PySem.W.nsIn K mainGlobals "list" = some none)
    (z_max : PySem.W.nsIn K mainGlobals "max" = some none)
    (z_range : PySem.W.nsIn K mainGlobals "range" = some none)
    (z_reversed : PySem.W.nsIn K mainGlobals "reversed" = some none)
    (aL : PySem.W.nsIn K mainGlobals "LETTERS" = some (some (.str "abcdefghijklmnopqrstuvwxyz" tL)))
    (aM : PySem.W.nsIn K mainGlobals "MOST_SIGNS" = some (some (.int 6 tM)))
    (aKp : PySem.W.nsIn K mainGlobals "KEPT" = some (some (.ref aK)))
    (lKp : K.lookup aK = some ⟨.type "tuple", odK, .seq #[.str "boxes" t1, .str "part" t2, .str "own" t3, .str "any" t4, .str "call" t5, .str "rest" t6, .str "all" t7, .str "none" t8] nK, slK⟩) : Txt K mg :=
  {
    f_is_name := f_is_name, fd_is_name := _, F_is_name := fun_mk (st := st_is_name) l_is_name c_is_name k_is_name, b_is_name := (fun_mk (st := st_is_name) l_is_name c_is_name k_is_name).binds (ps := ["text"]) fun _ _ _ _ _ _ us hl => match us, hl with | [_], _ => rfl, g_is_name := PySem.W.mg_of X G a_is_name,
    f__law_deal := f__law_deal, fd__law_deal := _, F__law_deal := fun_mk (st := st__law_deal) l__law_deal c__law_deal k__law_deal, b__law_deal := (fun_mk (st := st__law_deal) l__law_deal c__law_deal k__law_deal).binds (ps := ["_law_script", "_law_base"]) fun _ _ _ _ _ _ us hl => match us, hl with | [_, _], _ => rfl, g__law_deal := PySem.W.mg_of X G a__law_deal,
    f__law_draw := f__law_draw, fd__law_draw := _, F__law_draw := fun_mk (st := st__law_draw) l__law_draw c__law_draw k__law_draw, b__law_draw := (fun_mk (st := st__law_draw) l__law_draw c__law_draw k__law_draw).binds (ps := ["_law_deal_here", "_law_many"]) fun _ _ _ _ _ _ us hl => match us, hl with | [_, _], _ => rfl, g__law_draw := PySem.W.mg_of X G a__law_draw,
    f__law_signs := f__law_signs, fd__law_signs := _, F__law_signs := fun_mk (st := st__law_signs) l__law_signs c__law_signs k__law_signs, b__law_signs := (fun_mk (st := st__law_signs) l__law_signs c__law_signs k__law_signs).binds (ps := []) fun _ _ _ _ _ _ us hl => match us, hl with | [], _ => rfl, g__law_signs := PySem.W.mg_of X G a__law_signs,
    f__law_kept := f__law_kept, fd__law_kept := _, F__law_kept := fun_mk (st := st__law_kept) l__law_kept c__law_kept k__law_kept, b__law_kept := (fun_mk (st := st__law_kept) l__law_kept c__law_kept k__law_kept).binds (ps := []) fun _ _ _ _ _ _ us hl => match us, hl with | [], _ => rfl, g__law_kept := PySem.W.mg_of X G a__law_kept,
    f__law_is_name := f__law_is_name, fd__law_is_name := _, F__law_is_name := fun_mk (st := st__law_is_name) l__law_is_name c__law_is_name k__law_is_name, b__law_is_name := (fun_mk (st := st__law_is_name) l__law_is_name c__law_is_name k__law_is_name).binds (ps := ["_law_word"]) fun _ _ _ _ _ _ us hl => match us, hl with | [_], _ => rfl, g__law_is_name := PySem.W.mg_of X G a__law_is_name,
    f__law_any_text := f__law_any_text, fd__law_any_text := _, F__law_any_text := fun_mk (st := st__law_any_text) l__law_any_text c__law_any_text k__law_any_text, b__law_any_text := (fun_mk (st := st__law_any_text) l__law_any_text c__law_any_text k__law_any_text).binds (ps := ["_law_deal_here"]) fun _ _ _ _ _ _ us hl => match us, hl with | [_], _ => rfl, g__law_any_text := PySem.W.mg_of X G a__law_any_text,
    f_law := f_law, fd_law := _, F_law := fun_mk (st := st_law) l_law c_law k_law, b_law := (fun_mk (st := st_law) l_law c_law k_law).binds (ps := ["_law_script"]) fun _ _ _ _ _ _ us hl => match us, hl with | [_], _ => rfl, g_law := PySem.W.mg_of X G a_law,
    z_all := PySem.W.mg_none_of X G z_all,
    z_bool := PySem.W.mg_none_of X G z_bool,
    z_isinstance := PySem.W.mg_none_of X G z_isinstance,
    z_len := PySem.W.mg_none_of X G z_len,
    z_list := PySem.W.mg_none_of X G z_list,
    z_max := PySem.W.mg_none_of X G z_max,
    z_range := PySem.W.mg_none_of X G z_range,
    z_reversed := PySem.W.mg_none_of X G z_reversed,
    a_KEPT := aK,
    g_KEPT := PySem.W.mg_of X G aKp,
    r_KEPT := rfl,
    s_KEPT := fun H => .inr ⟨_, _, _, lKp, rfl, rfl, by show 8 ≤ sizeLine; decide, .cons ⟨t1, rfl⟩ (.cons ⟨t2, rfl⟩ (.cons ⟨t3, rfl⟩ (.cons ⟨t4, rfl⟩ (.cons ⟨t5, rfl⟩ (.cons ⟨t6, rfl⟩ (.cons ⟨t7, rfl⟩ (.cons ⟨t8, rfl⟩ .nil)))))))⟩,
    u_LETTERS := _,
    g_LETTERS := PySem.W.mg_of X G aL,
    r_LETTERS := ⟨tL, rfl⟩,
    u_MOST_SIGNS := _,
    g_MOST_SIGNS := PySem.W.mg_of X G aM,
    r_MOST_SIGNS := ⟨tM, rfl⟩ }
end LW
open PySem PySem.W PyProof.Rows
set_option maxHeartbeats 0 in
theorem PySem.Challenge.cw_curvekept_k01_names_holds : PySem.Challenge.rw_curvekept_k01_names.Holds := by
  w_on; o_law; k_head; (case hw => w_witness2)
  k_fill
  refine L2.walk_of (l := PySem.Challenge.rw_curvekept_k01_names) (n := 63) (k := LW.level) (x := "_law_script") (CX := fun _ => L2.CX0) (sp := fun w => LW.sp_law _) rfl (by decide) rfl ⟨rfl, by decide, by decide⟩ (fun w h Y => PySem.W.kIn_of Y) ?F (fun _ _ a ns hl _ hS => LW.law_starts hl hS) (fun _ _ _ _ _ h => h)
  case F =>
    intro w mg fa h KX G hmg
    refine' LW.law_ok hmg (LW.txt_mk KX G ?a_is_name ?l_is_name ?c_is_name ?k_is_name ?a__law_deal ?l__law_deal ?c__law_deal ?k__law_deal ?a__law_draw ?l__law_draw ?c__law_draw ?k__law_draw ?a__law_signs ?l__law_signs ?c__law_signs ?k__law_signs ?a__law_kept ?l__law_kept ?c__law_kept ?k__law_kept ?a__law_is_name ?l__law_is_name ?c__law_is_name ?k__law_is_name ?a__law_any_text ?l__law_any_text ?c__law_any_text ?k__law_any_text ?a_law ?l_law ?c_law ?k_law ?z_all ?z_bool ?z_isinstance ?z_len ?z_list ?z_max ?z_range ?z_reversed ?aL ?aM ?aKp ?lKp)
    (case a_is_name => k_is); (case l_is_name => k_is); (case c_is_name => k_is); (case k_is_name => k_is); (case a__law_deal => k_is); (case l__law_deal => k_is); (case c__law_deal => k_is); (case k__law_deal => k_is); (case a__law_draw => k_is); (case l__law_draw => k_is); (case c__law_draw => k_is); (case k__law_draw => k_is); (case a__law_signs => k_is); (case l__law_signs => k_is); (case c__law_signs => k_is); (case k__law_signs => k_is); (case a__law_kept => k_is); (case l__law_kept => k_is); (case c__law_kept => k_is); (case k__law_kept => k_is); (case a__law_is_name => k_is); (case l__law_is_name => k_is); (case c__law_is_name => k_is); (case k__law_is_name => k_is); (case a__law_any_text => k_is); (case l__law_any_text => k_is); (case c__law_any_text => k_is); (case k__law_any_text => k_is); (case a_law => k_is); (case l_law => k_is); (case c_law => k_is); (case k_law => k_is); (case z_all => k_is); (case z_bool => k_is); (case z_isinstance => k_is); (case z_len => k_is); (case z_list => k_is); (case z_max => k_is); (case z_range => k_is); (case z_reversed => k_is); (case aL => k_is); (case aM => k_is); (case aKp => k_is); (case lKp => k_is)
