import PyProof.Rows.All
import Wide.All
import OpenK.AllK
import Wide.FinOn
import KE.KStateDown
import Lean
import HandS.ForMost
import HandS.ForExc
import HandS.TupAny
import HandS.Deep
import HandS.SortInts
import HandS.IsInst
import HandS.SetFor
import HandS.RevRange
import HandS.TryOnly
import HandS.Style
import HandS.Conv
import HandS.Rev
import HandS.RevTup
import PyProof.ListRange
import HandS.ExcIs
import HandS.Defaults
import HandS.Head0
import HandS.Head1
import HandS.Head2
import HandS.HeadEnd
import HandS.HeadHook1
import HandS.HeadHook2
import HandS.HeadHook3
import HandS.HeadHook4
import PySem.Challenge.RW_racewise_k08_woven
set_option Elab.async false
set_option linter.all false
set_option maxRecDepth 100000
namespace Rk
open PySem PySem.Spec PyProof.Rows L2
/-! ### plain values: what a Python value is, as a tree; o: it is one's own (true) or does not change any more (false) -/
inductive PV where
  | non | bl (b : Bool) | int (i : Int) | str (s : Str)
  | scr (ns : List Int)
  | tup (xs : List PV)
  | lst (o : Bool) (xs : List PV)
  | dic (o : Bool) (ks : List PV) (xs : List PV)
  | ins (o : Bool) (c : Str) (fs : List Str) (xs : List PV)
  | exn (c : Str)
def kP : Key → PV
  | .inl i => .int i
  | .inr s => .str s
mutual
/-- it does not change any more -/
def isF : PV → Bool
  | .tup xs => isFs xs
  | .lst o xs => !o && isFs xs
  | .dic o _ xs => !o && isFs xs
  | .ins o _ _ xs => !o && isFs xs
  | _ => true
def isFs : List PV → Bool
  | [] => true
  | x :: xs => isF x && isFs xs
end
mutual
/-- given up, below the n-th list -/
def frz : Nat → PV → PV
  | n, .tup xs => .tup (frzs n xs)
  | 0, .lst _ xs => .lst false (frzs 0 xs)
  | n + 1, .lst o xs => .lst o (frzs n xs)
  | 0, .dic _ ks xs => .dic false ks (frzs 0 xs)
  | _ + 1, .dic o ks xs => .dic o ks (frzs 0 xs)
  | 0, .ins _ c fs xs => .ins false c fs (frzs 0 xs)
  | n + 1, .ins o c fs xs => .ins o c fs (frzs n xs)
  | _, x => x
def frzs : Nat → List PV → List PV
  | _, [] => []
  | n, x :: xs => frz n x :: frzs n xs
end

/-! ### what a run comes to: stuck, an error, a thing; and the slots then -/
abbrev Slots := List (Option PV)
inductive Res (α : Type) where
  | stuck | exc (x : Str) (e : Slots) | ok (a : α) (e : Slots)
def Res.bind {α β : Type} : Res α → (α → Slots → Res β) → Res β
  | .stuck, _ => .stuck
  | .exc x e, _ => .exc x e
  | .ok a e, k => k a e
abbrev Fn := List PV → Res PV
end Rk

set_option Elab.async false
set_option linter.all false
set_option maxRecDepth 100000
set_option maxHeartbeats 4000000
/-! RkSrt: sorted of a dict's whole keys. -/
namespace Rk
open PySem PySem.Spec PySem.Calls PyProof.Rows L2
section
variable {prog : Program} {w : World} {A : Around} {E : Value → Shared → Prop} {s : Shared} {T : String} {r d : Addr} {n : Nat} {P : Nat → Value → Prop} {OK : Heap → Prop}
theorem collect_kdl {Q : List Value → Shared → Prop} (K : PySem.W.KdlSrc prog w T r d n P OK) (hh : A.handled = none) (hok : OK s.heap) (hn : n ≤ sizeLine)
    (hQ : ∀ h' tk acc', (∀ b o, s.heap.get? b = some o → h'.get? b = some o) → s.heap.objs.size ≤ h'.objs.size → ItemsOf P acc' n → Q acc'.toList { s with heap := h', toks := tk }) :
    wpAny (model prog w) A (collect (.ref r)) Q E s := by
  have hlt := K.there _ hok
  unfold collect
  refine wpAny_bind (wpAny_runValue (codeAny_builtin F.entry_proto_collect ?_))
  rw [Around.under_plainId F.plain_proto_collect _]
  show wpAny _ A.in1 (newList [] >>= fun l => again (.builtin "list.__iadd__" ⟨[l, .ref r], []⟩)) _ _ s
  refine wpAny_bind (wpAny_newObj_type ?_)
  refine wpAny_pure ⟨plainId_quiet F.plain_list_iadd _, codeAny_builtin F.entry_list_iadd ?_⟩
  rw [Around.under_plainId F.plain_list_iadd _]
  have hS : (s.heap.push { cls := .type "list", data := .seq ([] : List Value).toArray }).get? s.heap.objs.size = some { cls := .type "list", data := .seq ([] : List Value).toArray } := Heap.get?_push_size _ rfl
  show wpAny _ A.in1 (Builtin.List.listExtendWith (.ref s.heap.objs.size) (.ref r) (.ref s.heap.objs.size)) _ _ { s with heap := s.heap.push { cls := .type "list", data := .seq ([] : List Value).toArray } }
  refine PySem.W.kdl_extend (R := fun r s' => match r with | .ok (.ret v) => (fun v s' => wpAny (model prog w) A (match v with | Value.ref a => (do let o ← load a; match o.data with | .seq xs _ => pure xs.toList | _ => unsupported "internal:collect") | _ => unsupported "internal:collect") Q E s') v s' | .ok _ => False | .error e => E e s') (A := A) (s := { s with heap := s.heap.push { cls := .type "list", data := .seq ([] : List Value).toArray } }) K hh (K.keep s.heap _ hok fun b _ o e => Heap.get?_push_of_some _ e) s.heap.objs.size (Nat.ne_of_gt hlt.1) (Nat.ne_of_gt hlt.2) _ _ hS (fun h' tk acc' c' hk hS' hacc => ?_) hn
  show wpAny _ A (load s.heap.objs.size >>= _) _ _ _
  refine wpAny_bind (wpAny_load hS' ?_)
  refine wpAny_pure ?_
  exact hQ h' tk acc' (fun b o e => hk b o (Nat.ne_of_lt (Heap.lt_size e)) (Heap.get?_push_of_some _ e)) (Nat.le_of_lt (Heap.lt_size hS')) hacc
end
/-- sorted(d), whole keys -/
def rSortedD : List V → Hp → VK → Prop := fun vs H Q => ∃ (a : Addr) (kvs : List (Key × V)) (ns : List Int), vs = [V.ref a] ∧ H a = some (.dK kvs) ∧ (kvs.map fun kv => kV kv.1) = ns.map V.int ∧
  ∀ (ns' : List Int) (p : Addr), ns'.Perm ns → ns'.Pairwise (· ≤ ·) → H p = none → Q (.ref p) (upd H p (.lst (ns'.map V.int)))
theorem cr_sortedD {X : Cx} (hc : X.calm = true) : CallR X (.builtin "sorted") rSortedD := by
  intro pins s σ H xs us Q I r h
  obtain ⟨p, kvs, ns, e, hk, hns, q⟩ := h
  subst e
  obtain ⟨u, eu, rx⟩ := vals1 r
  subst eu
  obtain rfl : u = Value.ref p := rx
  obtain ⟨z, lo, vs, rk, hd⟩ := (show ObjOk X.prog X.w H s.heap p (.dK kvs) from I.hok p _ hk)
  obtain ⟨ep, hat⟩ := hd.dictAt
  have hl : kvs.length = vs.length := Paired.length rk
  refine Calls.call_function_entry kind_sorted plain_sorted entry_sorted (args_sorted1 _) ?_
  unfold Builtin.«sorted»
  refine wpAny_bind (m := checkCount "sorted" 1 1 _) (wpAny_pure ?_)
  refine wpAny_bind (collect_kdl (PySem.W.kdl_dict (knd := mixKind X.prog X.w) (kvs := vs) (ep := ep) lo) (I.ok.hd hc) hat (by rw [← hl]; exact z) fun h' tk acc' hkeep hsz hacc => ?_)
  have hV : Vals (ns.map V.int) acc'.toList := by
    rw [← hns]
    have el : acc'.toList.length = acc'.size := by simp
    refine vals_of_at (by rw [List.length_map, el, hacc.1, hl]) fun j x w h1 h2 => ?_
    obtain ⟨k, y, hky, hi⟩ := hacc.2 j w (by rw [← Array.getElem?_toList]; exact h2)
    have e1 : (kvs.map (·.1))[j]? = some k := by
      rw [KV.keys rk, List.getElem?_map, hky] <;> rfl
    have e2 : (kvs.map fun kv => kV kv.1)[j]? = some (kV k) := by
      have e3 : (kvs.map fun kv => kV kv.1) = (kvs.map (·.1)).map kV := by rw [List.map_map] <;> rfl
      rw [e3, List.getElem?_map, e1] <;> rfl
    rw [e2] at h1
    cases h1
    exact keyIs_rel hi
  have hi := hV.ints
  have hz : acc'.toList.length ≤ sizeLine := by
    rw [Array.length_toList, hacc.1, ← hl]; exact z
  refine wpAny_bind (wpAny_newList ?_ hz)
  have hoL : (h'.push { cls := .type "list", data := .seq acc'.toList.toArray }).get? h'.objs.size = some (seqObj "list" acc'.toList.toArray 0) := Heap.get?_push_size _ rfl
  refine wpAny_bind (wpAny_holding (wpAny_call_entry slot_list_sort ⟨_, hoL, rfl⟩ entry_list_sort (SrtO.list_sort_ord SrtO.swo_int hoL hz (fun h2 => SrtO.ints_sortable hi h2) fun out h1 h2 => ⟨_, rfl, ?_⟩) (args_list_sort _)))
  refine wpAny_pure ⟨_, rfl, ?_⟩
  obtain ⟨k1, k2, k3⟩ := SrtO.ints_out hi h1 h2
  obtain ⟨ep2, he'⟩ := PyProof.Rows.sortedHeap_at (vs := acc'.toList) (out := out.toArray) hoL
  have hlen : ((out.map SrtO.iv).map V.int).length ≤ sizeLine := by
    rw [List.length_map, k2.length_eq]
    have := hV.length
    rw [List.length_map] at this
    rw [this]; exact hz
  refine ⟨.ref h'.objs.size, upd H h'.objs.size (.lst ((out.map SrtO.iv).map V.int)), I.laid (t' := tk) (fun b u e => ?_) hsz ⟨hlen, out, ep2, vals_of_ints k1, he'⟩, rfl, q _ _ k2 k3 (I.hok.fresh hsz)⟩
  have hb := hkeep b u e
  have hlt := Heap.lt_size hb
  rw [PyProof.Rows.sortedHeap_old (Nat.ne_of_lt hlt) (by rw [size_push']; exact Nat.lt_succ_of_lt hlt)]
  exact Heap.get?_push_of_some _ hb
end Rk

set_option Elab.async false
set_option linter.all false
set_option maxRecDepth 100000
/-! list(reversed(a list)): a new list -/
namespace RT
open PySem PySem.Spec PyProof.Rows
section
variable {prog : Program} {w : World} {A : Around} {E : Value → Shared → Prop} {s : Shared}
theorem rk_list_init_rev {R : Result → Shared → Prop} {it l S : Addr} {items : Array Value} (hh : A.handled = none) (hit : s.heap.IsRevIter it l ((items.size : Int) - 1)) (hl : s.heap.IsList l items) (hne : l ≠ it) (hn : items.size ≤ sizeLine)
    (hSi : S ≠ it) (hSl : S ≠ l) (hS : s.heap.get? S = some { cls := .type "list", data := .seq #[] })
    (hR : ∀ h' tk acc' c', (∀ b o, b ≠ S → b ≠ it → s.heap.get? b = some o → h'.get? b = some o) → h'.get? S = some { cls := .type "list", dict := none, data := .seq acc' c', slots := #[] } →
      ItemsOf (fun i v => items[items.size - 1 - i]? = some v) acc' items.size → R (.ok (.ret .none)) { s with heap := h', toks := tk }) :
    wpAny (model prog w) A.in1 (Builtin.«list.__init__» ⟨[.ref S, .ref it], []⟩)
      (fun fin s' => match fin with | .done f => R (.ok f) s' | .again c' => c'.quiet = true ∧ codeAny (model prog w) A c' R s') (fun e s' => R (.error e) s') s := by
  have W := (Walks.listRev (prog := prog) (w := w) (A := A.in1) hh it l hne items).toS
  have hSf : S ∉ [it, l] := by simp only [List.mem_cons, List.not_mem_nil, or_false, not_or]; exact ⟨hSi, hSl⟩
  show wpAny _ _ (do let old ← Builtin.List.listItems (.ref S); Builtin.List.listUpdate (.ref S) (fun _ => #[]); letGo old.toList.reverse; Builtin.List.listExtendWith (.ref S) (.ref it) .none) _ _ s
  refine wpAny_bind ?_
  unfold Builtin.List.listItems
  refine wpAny_bind (wpAny_seqItems hS rfl (wpAny_pure ?_))
  show wpAny _ _ (updateSeq S (fun _ => #[]) >>= fun _ => letGo (#[] : Array Value).toList.reverse >>= fun _ => Builtin.List.listExtendWith (.ref S) (.ref it) .none) _ _ s
  refine wpAny_bind (wpAny_updateSeq hS rfl ?_)
  have hS₂ := Heap.get?_update_self (Obj.mapSeq (fun _ => (#[] : Array Value))) hS rfl
  have oth : ∀ b o, b ≠ S → s.heap.get? b = some o → (s.heap.update S (Obj.mapSeq (fun _ => (#[] : Array Value)))).get? b = some o :=
    fun b o hb e => (Heap.get?_update_other _ _ (Ne.symm hb)).trans e
  refine wpAny_bind (wpAny_letGo ?_)
  have hit1 : (s.heap.update S (Obj.mapSeq (fun _ => (#[] : Array Value)))).IsRevIter it l ((items.size : Int) - 1) := hit.at fun o e => oth it o (Ne.symm hSi) e
  have hl1 : (s.heap.update S (Obj.mapSeq (fun _ => (#[] : Array Value)))).IsList l items := by
    obtain ⟨o, ho, r⟩ := hl
    exact ⟨o, oth l o (Ne.symm hSl) ho, r⟩
  have hT : ({ s with heap := s.heap.update S (Obj.mapSeq (fun _ => (#[] : Array Value))) } : Shared).TypeIs (.ref it) "list_reverseiterator" := Heap.IsRevIter.typeIs (s := { s with heap := s.heap.update S (Obj.mapSeq (fun _ => (#[] : Array Value))) }) hit1
  have h1 : Builtin.List.listSameRef (.ref S) (.ref it) = false := by simp [Builtin.List.listSameRef, hSi]
  unfold Builtin.List.listExtendWith
  refine wpAny_bind (wpAny_typeOf hT ?_)
  rw [if_neg (by rw [h1]; decide)]
  refine wpAny_bind (wpAny_pyIter_revIter (s := { s with heap := s.heap.update S (Obj.mapSeq (fun _ => (#[] : Array Value))) }) hit1 ?_)
  refine wpAny_bind (wpAny_holding ?_)
  unfold Builtin.List.listLengthHint
  refine wpAny_bind (wpAny_specialOf hT nolen_lri ?_)
  show wpAny _ A.in1 (specialOf (Value.ref it) (Str.ofString "__length_hint__") >>= _) _ _ _
  refine wpAny_bind (wpAny_specialOf hT hint_lri ?_)
  generalize hid : ("list_reverseiterator.__length_hint__" : String) = id0
  wp_delta
  rw [show splitId id0 = some ("list_reverseiterator", "__length_hint__") from by subst hid; decide +kernel]
  subst hid
  refine wpAny_bind (wpAny_isInstance (b := true) hT (by rw [isSubtype_type]; kernel_rfl) ?_)
  refine wpAny_pure ?_
  rw [if_neg (by decide)]
  have e0 : ((items.size : Nat) : Int) - 1 - ((0 : Nat) : Int) = (items.size : Int) - 1 := by omega
  refine wpAny_pure ⟨plainId_quiet F.plain_extend_loop _, codeAny_extend_loopS W hn _ hSf _ items.size 0 _ _ _ rfl (Nat.zero_le _) ⟨Nat.zero_le _, by rw [e0]; exact hit1, hl1⟩ hS₂ (ItemsOf.nil _) fun s' acc' c' hm hS' hacc => ?_⟩
  rw [Moved.eq_with hm]
  refine hR s'.heap s'.toks acc' c' (fun b o hb hb2 e => hm.heap b o (fun hmem => ?_) (oth b o hb e)) hS' hacc
  rcases List.mem_cons.mp hmem with e' | hmem
  · exact hb e'
  · exact hb2 (List.mem_singleton.mp hmem)
theorem rk_call_list_rev {it l : Addr} {items : Array Value} {Q : Value → Shared → Prop} (hh : A.handled = none) (hit : s.heap.IsRevIter it l ((items.size : Int) - 1)) (hl : s.heap.IsList l items) (hne : l ≠ it) (hn : items.size ≤ sizeLine)
    (hQ : ∀ h' tk acc' c', (∀ b o, b ≠ it → s.heap.get? b = some o → h'.get? b = some o) →
      h'.get? s.heap.objs.size = some { cls := .type "list", dict := none, data := .seq acc' c', slots := #[] } → ItemsOf (fun i v => items[items.size - 1 - i]? = some v) acc' items.size → Q (.ref s.heap.objs.size) { s with heap := h', toks := tk }) :
    wpAny (model prog w) A (call (.type "list") [.ref it]) Q E s := by
  refine callType_codes (Q₁ := fun obj s₁ => obj = .ref s.heap.objs.size ∧ s₁ = { s with heap := s.heap.push { cls := .type "list", data := .seq #[] } }) F.called_list (F.typeCall_list_1 _) F.entry_list_init
    (code_list_new _ ⟨rfl, rfl⟩) fun obj s₁ h₁ => ?_
  obtain ⟨rfl, rfl⟩ := h₁
  have hS : (s.heap.push { cls := .type "list", data := .seq #[] }).get? s.heap.objs.size = some { cls := .type "list", data := .seq #[] } := Heap.get?_push_size _ rfl
  obtain ⟨oi, hoi, _⟩ := id hit
  obtain ⟨ol, hol, _⟩ := id hl
  have hit1 : (s.heap.push { cls := .type "list", data := .seq #[] }).IsRevIter it l ((items.size : Int) - 1) := hit.at fun o e => Heap.get?_push_of_some _ e
  refine ⟨⟨_, hS, rfl⟩, F.args_list_init_2 _ _, rk_list_init_rev (A := A.in1) hh hit1 (hl.push _) hne hn (Nat.ne_of_gt (Heap.lt_size hoi)) (Nat.ne_of_gt (Heap.lt_size hol)) hS fun h' tk acc' c' hk hS' hacc => ?_⟩
  exact ⟨rfl, hQ h' tk acc' c' (fun b o hb e => hk b o (Nat.ne_of_lt (Heap.lt_size e)) hb (Heap.get?_push_of_some _ e)) hS' hacc⟩
end
end RT
namespace RT
open PySem PySem.Spec PyProof.Rows L2
/-- list(reversed(x)), x a list: a new list -/
def tLstRev (K : PySem.W.Frag) (te : TE) : TE := fun σ H Q => te σ H fun v H1 => ∃ (a : Addr) (xs : List V), v = .ref a ∧ SqL K H1 a xs ∧ ∀ q, H1 q = none → Q (.ref q) (upd H1 q (.lst xs.reverse))
section
variable {X : Cx}
theorem pe_lstRev {e : Expr} {te : TE} {p p2 pos pos2 : Pos} (hc : X.calm = true) (hg : Gl X "list") (hm : X.mg "list" = none) (hg2 : Gl X "reversed") (hm2 : X.mg "reversed" = none) (he : PE X e te)
    (hs : starEach [e] X.env = (false, eval e X.env) :: starEach [] X.env := by rfl)
    (hs2 : starEach [.Call (.Name "reversed" p2) [e] [] pos2] X.env = (false, eval (.Call (.Name "reversed" p2) [e] [] pos2) X.env) :: starEach [] X.env := by rfl) :
    PE X (.Call (.Name "list" p) [.Call (.Name "reversed" p2) [e] [] pos2] [] pos) (tLstRev X.K te) := by
  refine ⟨fun pins s σ H Q I h => ?_⟩
  refine Call_ (ld_blt I hg hm boot_list (PyProof.Rows.callWith_type1 (args_cons (Call_ (ld_blt I hg2 hm2 PyProof.Rows.boot_reversed (PyProof.Rows.callWith_type1 (args_cons (thn (he.run pins s σ H _ I h) fun u s1 ⟨v, H1, I1, r1, q1⟩ => args_nil ?_) hs) hs rfl))) hs2) hs2 rfl))
  obtain ⟨a, xs, ev, hq, q⟩ := q1
  subst ev
  obtain rfl : u = Value.ref a := r1
  obtain ⟨its, rv, p', hz⟩ := I1.list hq
  refine call_reversed_list p'.isList (args_nil ?_)
  have k0 : ∀ b o, s1.heap.get? b = some o → (s1.heap.push (revObj a ((its.toArray.size : Int) - 1))).get? b = some o := fun b o e => Heap.get?_push_of_some _ e
  have I2 : Inv X pins σ H1 { s1 with heap := s1.heap.push (revObj a ((its.toArray.size : Int) - 1)) } := I1.kept (t' := s1.toks) k0
  obtain ⟨f0, f1, f2, f3, f4, f5⟩ := I1.fpOk (H' := H1) (b := s1.heap.objs.size) (Nat.le_refl _) (I1.hok.fresh (Nat.le_refl _))
  have hl := p'.isList
  obtain ⟨ol, hol, _⟩ := id hl
  have hne : a ≠ s1.heap.objs.size := Nat.ne_of_lt (Heap.lt_size hol)
  have hn : its.toArray.size ≤ sizeLine := by rw [List.size_toArray, ← rv.length]; exact hz
  refine rk_call_list_rev (s := { s1 with heap := s1.heap.push (revObj a ((its.toArray.size : Int) - 1)) }) (I1.ok.hd hc) ⟨_, Heap.get?_push_size _ rfl, rfl, rfl⟩ (hl.push _) hne hn fun h' tk acc c' hk e' hi => ?_
  have hfp : ∀ b ∈ [s1.heap.objs.size], FpOk X pins H1 b := fun b hb => by
    rw [List.mem_singleton.mp hb]
    exact I1.fpOk (H' := H1) (b := s1.heap.objs.size) (Nat.le_refl _) (I1.hok.fresh (Nat.le_refl _))
  have hfr : H1 (s1.heap.push (revObj a ((its.toArray.size : Int) - 1))).objs.size = none := I2.hok.fresh (Nat.le_refl _)
  refine ⟨.ref (s1.heap.push (revObj a ((its.toArray.size : Int) - 1))).objs.size, upd H1 (s1.heap.push (revObj a ((its.toArray.size : Int) - 1))).objs.size (.lst xs.reverse), I2.turnedNew (t' := tk) (ch := [s1.heap.objs.size]) (fun b o hb e => hk b o (fun z => hb (by simp [z])) e) hfp (Nat.le_refl _)
    (show ObjOk X.prog X.w _ _ _ (.lst xs.reverse) from ⟨by rw [List.length_reverse]; exact hz, acc.toList, c', vals_rev rv hi, ?_⟩), rfl, q _ hfr⟩
  rw [Array.toArray_toList]
  exact e'
end
end RT

set_option Elab.async false
set_option linter.all false
set_option maxRecDepth 100000
/-! RkCode: a small language without positions (our own), its meaning by the layer's words, a look that tells whether a text of the
    model's syntax is that code, and the theorem that it then means that. -/
namespace Rk
open PySem PySem.Spec PyProof.Rows L2

inductive IK where
  | lst | tup | rng1 | rng2 | enum | zip | rev | str | rrg
  deriving DecidableEq
inductive Blt where
  | len | lstOf | tupOf | intOf | strI | sum | max2 | min2 | all | any | sortI | sortD
  deriving DecidableEq
inductive Bm where
  | append | clear | pop0 | pop1 | insert | removeI | reverse | extend | lindex | split | join | startswith
  deriving DecidableEq
inductive CE where
  | var (i : Nat) | mov (i : Nat) | frz (n : Nat) (a : CE)
  | int (n : Int) | str (s : Str) | non | bl (b : Bool) | nop
  | con (x : Str) (v : PV)
  | bin (op : Operator) (a b : CE) | cat (op : Operator) (a b : CE)
  | neg (a : CE)
  | cmp (op : CmpOp) (a b : CE)
  | chn (op op2 : CmpOp) (a b c : CE)
  | and (es : List CE) | or (es : List CE) | not (a : CE)
  | tup (es : List CE) | lst (es : List CE) | dct (tk : Bool)
  | ix (a i : CE) | dix (a i : CE) | din (neg : Bool) (a d : CE)
  | sl (a lo hi : CE)
  | fld (a : CE) (f : Str)
  | call (x : Str) (f : Fn) (es : List CE)
  | make (x : Str) (f : Fn) (es : List CE)
  | callP (n : Nat) (x : Str) (f : Fn) (es : List CE)
  | makeP (n : Nat) (x : Str) (f : Fn) (es : List CE)
  | meth (c : Str) (o : CE) (m : Str) (f : Fn) (es : List CE)
  | blt (b : Blt) (es : List CE)
  | isi (a : CE) (ty : String)
  | bm (b : Bm) (o : CE) (es : List CE)
  | dget1 (d k : CE) | dget2 (d k x : CE) | dpop1 (d k : CE)
  | lrg (a : CE) | lrv (a : CE)
  | lc (elt : CE) (tg : List Nat) (k : IK) (es : List CE) (cond : List CE)

/-! ### meaning -/
/-- what the text's top has left -/
structure Tab where
  fn : Str → Option Sp
  con : Str → Option V
  cls : Str → Option (Addr × Sp)
  mth : Str → Str → Option (Addr × Sp)
  exc : Str → Option Addr
  tr : Bool
  adr : Str → Option Addr
  flds : List Str

def tNo : TE := fun _ _ _ => False
def ttNo : TT := fun _ _ _ => False
def rNo : R2 := fun _ _ _ _ => False
def rO (a b : R2) : R2 := fun x y H Q => a x y H Q ∨ b x y H Q
def rAddS : R2 := fun x y H Q => ∃ i j, x = .str i ∧ y = .str j ∧ i.length + j.length ≤ sizeLine ∧ Q (.str (i ++ j)) H
def binR (K : PySem.W.Frag) : Operator → R2
  | .Add => rO (rI0 fun i j => .int (i + j)) (rO rAddS (rO rCat (rCatA K)))
  | .Sub => rI0 fun i j => .int (i - j)
  | .Mult => rO (rI CMul fun i j => .int (i * j)) rRep
  | .FloorDiv => rI CDivN fun i j => .int (i.fdiv j)
  | .Mod => rI (fun _ j => j ≠ 0) fun i j => .int (i.fmod j)
  | .Pow => rI CPow fun i j => .int (i ^ j.toNat)
  | _ => rNo
def rIsN : R2 := fun x y H Q => y = .non ∧ Q (.bl (decide (x = .non))) H
def rNotN : R2 := fun x y H Q => y = .non ∧ Q (.bl (!decide (x = .non))) H
def rInS : R2 := fun x y H Q => ∃ i j, x = .str i ∧ y = .str j ∧ Q (.bl (!(Builtin.Str.occurrences j i 0 j.length 1).isEmpty)) H
def rNotInS : R2 := fun x y H Q => ∃ i j, x = .str i ∧ y = .str j ∧ Q (.bl (!(!(Builtin.Str.occurrences j i 0 j.length 1).isEmpty))) H
def cmpR (K : PySem.W.Frag) : CmpOp → R2
  | .Eq => rO rEq (rEqD K)
  | .NotEq => rO rNe (rNeD K)
  | .Lt => rI0 fun i j => .bl (decide (i < j))
  | .LtE => rI0 fun i j => .bl (decide (i ≤ j))
  | .Gt => rI0 fun i j => .bl (decide (j < i))
  | .GtE => rI0 fun i j => .bl (decide (j ≤ i))
  | .Is => rO rIsN rIsB
  | .IsNot => rO rNotN rNotB
  | .In => rO (rIn K false) (rO rInS (rInD K))
  | .NotIn => rO (rIn K true) (rO rNotInS (rNotInD K))
def semAndV : List TE → TE
  | [] => tNo
  | [t] => t
  | t :: r => tAndV t (semAndV r)
def semOrV : List TE → TE
  | [] => tNo
  | [t] => t
  | t :: r => tOrV t (semOrV r)
def semAndT : List TT → TT
  | [] => ttNo
  | [t] => t
  | t :: r => tAnd t (semAndT r)
def semOrT : List TT → TT
  | [] => ttNo
  | [t] => t
  | t :: r => tOr t (semOrT r)
def taOf : List TE → TA
  | [] => tNil
  | t :: r => tCons t (taOf r)
def tTru (K : PySem.W.Frag) (te : TE) : TT := fun σ H Q => te σ H fun x H1 => ∃ k, TruV K x H1 k ∧ Q k H1
def slR (K : PySem.W.Frag) : V → Option Int → Option Int → Hp → VK → Prop := fun x lo hi H Q => rSlL K x lo hi H Q ∨ rSlA K x lo hi H Q ∨ rSlS x lo hi H Q
abbrev RC := List V → Hp → VK → Prop
def rLen (K : PySem.W.Frag) : RC := fun xs H Q => (∃ x n, xs = [x] ∧ LenV K x H n ∧ Q (.int n) H) ∨ ∃ a kvs, xs = [.ref a] ∧ Rd H a (.dK kvs) ∧ Q (.int kvs.length) H
def rLstOf (K : PySem.W.Frag) : RC := fun xs H Q => ∃ p ys, xs = [.ref p] ∧ (SqL K H p ys ∨ SqT K H p ys) ∧ ∀ l, H l = none → Q (.ref l) (upd H l (.lst ys))
def rTupOf (K : PySem.W.Frag) : RC := fun xs H Q => ∃ p ys, xs = [.ref p] ∧ ((SqL K H p ys ∧ ∀ l, H l = none → Q (.ref l) (upd H l (.tup ys))) ∨ (SqT K H p ys ∧ Q (.ref p) H))
def rIntOf : RC := fun xs H Q => (∃ i, xs = [.int i] ∧ Q (.int i) H) ∨ ∃ k, xs = [.bl k] ∧ Q (.int (if k then 1 else 0)) H
def rStrI : RC := fun xs H Q => ∃ i, xs = [.int i] ∧ i.natAbs.log2 < 1920 ∧ Q (.str (toString i)) H
def rMax2 : RC := fun xs H Q => ∃ i j, xs = [.int i, .int j] ∧ Q (.int (if j > i then j else i)) H
def rMin2 : RC := fun xs H Q => ∃ i j, xs = [.int i, .int j] ∧ Q (.int (if j < i then j else i)) H
def bltR (K : PySem.W.Frag) : Blt → RC
  | .len => rLen K
  | .lstOf => rLstOf K
  | .tupOf => rTupOf K
  | .intOf => rIntOf
  | .strI => rStrI
  | .sum => rSum K
  | .max2 => rMax2
  | .min2 => rMin2
  | .all => rAll K
  | .any => rAny K
  | .sortI => rSortedI K
  | .sortD => rSortedD
def bltName : Blt → Str
  | .len => "len" | .lstOf => "list" | .tupOf => "tuple" | .intOf => "int" | .strI => "str" | .sum => "sum"
  | .max2 => "max" | .min2 => "min" | .all => "all" | .any => "any" | .sortI => "sorted" | .sortD => "sorted"
def bmTy : Bm → String
  | .split => "str" | .join => "str" | .startswith => "str"
  | _ => "list"
def bmName : Bm → Str
  | .append => "append" | .clear => "clear" | .pop0 => "pop" | .pop1 => "pop" | .insert => "insert" | .removeI => "remove"
  | .reverse => "reverse" | .extend => "extend" | .lindex => "index" | .split => "split" | .join => "join" | .startswith => "startswith"
def tIsi (K : PySem.W.Frag) (ta : TE) (ty : String) : TE := tCB (rIsi K) (tCons ta (tCons (tC (.ty ty)) tNil))
def tCallX (sp : Sp) (W : WX) (t : TA) : TE := tCallS sp (WE W) t
def tMakeX (C : Addr) (sp : Sp) (W : WX) (t : TA) : TE := fun σ H Q => t σ H fun vs H1 => ∀ x dx, H1 x = none → H1 dx = none → dx ≠ x →
  sp (.ref x :: vs) (upd (upd H1 dx (.own x)) x (.ins C dx [])) (fun v H2 => v = .non ∧ Q (.ref x) H2) (WE W σ)
def tMethX (C : Addr) (m : Str) (sp : Sp) (W : WX) (ta : TE) (t : TA) : TE := fun σ H Q => ta σ H fun x H1 => ∃ a dx fs, x = .ref a ∧ H1 a = some (.ins C dx fs) ∧ fs.lookup m = none ∧
  t σ H1 fun vs H2 => sp (x :: vs) H2 Q (WE W σ)
def poOf (lo : CE) (t : TE) : TO := match lo with
  | .nop => tNoPart
  | _ => tPart t
def iterI (K : PySem.W.Frag) : IK → List TE → TI
  | .lst, [t] => iList K t
  | .tup, [t] => iTup K t
  | .rng1, ts => iRng1 (taOf ts)
  | .rng2, ts => iRng2 (taOf ts)
  | .enum, ts => iEnum K (taOf ts)
  | .zip, ts => iZip K (taOf ts)
  | .rev, ts => iRev K (taOf ts)
  | .str, [t] => iStr t
  | .rrg, [t] => iRevR (tRg1 t)
  | _, _ => fun _ _ _ => False
def gNames : List Nat → TGs
  | [] => gNil
  | i :: r => gCons (gName i) (gNames r)
def tgG (K : PySem.W.Frag) : List Nat → TG
  | [i] => gName i
  | is => gTup K is.length (gNames is)
def W0 : WX := fun _ _ _ _ => False
def condT : List TT → TT
  | [t] => t
  | _ => tYes
def rInsert : V → List V → Hp → VK → Prop := fun x vs H Q => ∃ (l : Addr) (xs : List V) (i : Int) (y : V), x = .ref l ∧ vs = [.int i, y] ∧ H l = some (.lst xs) ∧ xs.length < sizeLine ∧ 0 ≤ i ∧ i < 2 ^ 63 ∧
  Q .non (upd H l (.lst (xs.take i.toNat ++ [y] ++ xs.drop i.toNat)))
def eBm (b : Bm) (to : TE) (ts : List TE) (K : PySem.W.Frag) : TE :=
  match b with
  | .append => tBM K "list" rAppend to (taOf ts)
  | .clear => tBM0 K "list" rClear to
  | .pop0 => tBM0 K "list" rPop to
  | .pop1 => tBM K "list" rPopAt to (taOf ts)
  | .removeI => tBM K "list" rRemI to (taOf ts)
  | .reverse => tBM0 K "list" rReverse to
  | .extend => tBM K "list" rExtend to (taOf ts)
  | .insert => tBM K "list" rInsert to (taOf ts)
  | _ => tNo
mutual
def sem (K : PySem.W.Frag) (T : Tab) : CE → WX → TE × TT
  | .var i, _ => (tVar i, tTru K (tVar i))
  | .mov i, _ => (tVar i, tTru K (tVar i))
  | .frz _ a, W => sem K T a W
  | .int n, _ => (tC (.int n), tTru K (tC (.int n)))
  | .str x, _ => (tC (.str x), tTru K (tC (.str x)))
  | .non, _ => (tC .non, tTru K (tC .non))
  | .bl b, _ => (tC (.bl b), tTru K (tC (.bl b)))
  | .nop, _ => (tNo, ttNo)
  | .con x _, _ => match T.con x with
    | some v => (tC v, tTru K (tC v))
    | none => (tNo, ttNo)
  | .bin op a b, W => let t := tOp (binR K op) (sem K T a W).1 (sem K T b W).1; (t, tTru K t)
  | .cat op a b, W => let t := tOp (binR K op) (sem K T a W).1 (sem K T b W).1; (t, tTru K t)
  | .neg a, W => let t := tUn (rU fun i => .int (-i)) (sem K T a W).1; (t, ttNo)
  | .cmp op a b, W => let t := tOp (cmpR K op) (sem K T a W).1 (sem K T b W).1; (t, tTest t)
  | .chn op op2 a b c, W => let t := tChain (cmpR K op) (cmpR K op2) (sem K T a W).1 (sem K T b W).1 (sem K T c W).1; (t, tTest t)
  | .and es, W => (semAndV (sems K T es W).1, semAndT (sems K T es W).2)
  | .or es, W => (semOrV (sems K T es W).1, semOrT (sems K T es W).2)
  | .not a, W => (tNotV (sem K T a W).1, tNot (sem K T a W).2)
  | .tup es, W => let t := tTup (taOf (sems K T es W).1); (t, tTru K t)
  | .lst es, W => let t := tLst (taOf (sems K T es W).1); (t, tTru K t)
  | .dct tk, _ => (if tk then tDNewT else tDNewK, ttNo)
  | .ix a i, W => let t := tOp (rIx K) (sem K T a W).1 (sem K T i W).1; (t, tTru K t)
  | .dix a i, W => let t := tDGet (sem K T a W).1 (sem K T i W).1; (t, tTru K t)
  | .din neg a d, W => let t := (if neg then tDNotIn else tDIn) (sem K T a W).1 (sem K T d W).1; (t, tB t)
  | .sl a lo hi, W => let t := tSl (slR K) (sem K T a W).1 (poOf lo (sem K T lo W).1) (poOf hi (sem K T hi W).1); (t, tTru K t)
  | .fld a f, W => let t := tFld K (sem K T a W).1 f; (t, tTru K t)
  | .call x _ es, W => match T.fn x with
    | some sp => let t := tCallX sp W (taOf (sems K T es W).1); (t, tTru K t)
    | none => (tNo, ttNo)
  | .make x _ es, W => match T.cls x with
    | some (C, sp) => let t := tMakeX C sp W (taOf (sems K T es W).1); (t, ttNo)
    | none => (tNo, ttNo)
  | .callP _ x _ es, W => match T.fn x with
    | some sp => let t := tCallX sp W (taOf (sems K T es W).1); (t, tTru K t)
    | none => (tNo, ttNo)
  | .makeP _ x _ es, W => match T.cls x with
    | some (C, sp) => let t := tMakeX C sp W (taOf (sems K T es W).1); (t, ttNo)
    | none => (tNo, ttNo)
  | .meth c o m _ es, W => match T.mth c m with
    | some (C, sp) => let t := tMethX C m sp W (sem K T o W).1 (taOf (sems K T es W).1); (t, tTru K t)
    | none => (tNo, ttNo)
  | .blt b es, W => let t := tCB (bltR K b) (taOf (sems K T es W).1); (t, tTru K t)
  | .isi a ty, W => let t := tIsi K (sem K T a W).1 ty; (t, tTru K t)
  | .bm b o es, W => let t := eBm b (sem K T o W).1 (sems K T es W).1 K; (t, tTru K t)
  | .dget1 d k, W => let t := tDGet1 (sem K T d W).1 (sem K T k W).1; (t, tTru K t)
  | .dget2 d k x, W => let t := tDGet2 (sem K T d W).1 (sem K T k W).1 (sem K T x W).1; (t, tTru K t)
  | .dpop1 d k, W => let t := tDPop1 (sem K T d W).1 (sem K T k W).1; (t, tTru K t)
  | .lrg a, W => let t := tLstRg (tRg1 (sem K T a W).1); (t, tTru K t)
  | .lrv a, W => let t := RT.tLstRev K (sem K T a W).1; (t, tTru K t)
  | .lc elt tg k es cond, W => let t := tLc (iterI K k (sems K T es W).1) (tgG K tg) (condT (sems K T cond W0).2) (sem K T elt W0).1 tg; (t, tTru K t)
def sems (K : PySem.W.Frag) (T : Tab) : List CE → WX → List TE × List TT
  | [], _ => ([], [])
  | e :: r, W => ((sem K T e W).1 :: (sems K T r W).1, (sem K T e W).2 :: (sems K T r W).2)
end

/-! ### what an except suite asks of its error -/
/-- is an error x a y? -/
def isE (x y : Str) : Bool := decide (y = "ValueError") || (decide (y = "RaceError") || decide (x = y))
mutual
/-- the error is an x -/
def subE (x : Str) : CE → CE
  | .isi _ ty => .bl (isE x (Str.ofString ty))
  | .or es => .or (subEs x es)
  | .tup es => .tup (subEs x es)
  | .lst es => .lst (subEs x es)
  | .cat op a b => .cat op (subE x a) (subE x b)
  | .cmp op a b => .cmp op (subE x a) (subE x b)
  | .frz n a => .frz n (subE x a)
  | c => c
def subEs (x : Str) : List CE → List CE
  | [] => []
  | c :: r => subE x c :: subEs x r
end
mutual
/-- the classes that are asked -/
def isiE : CE → List String
  | .isi _ ty => [ty]
  | .or es => isiEs es
  | .tup es => isiEs es
  | .lst es => isiEs es
  | .cat _ a b => isiE a ++ isiE b
  | .cmp _ a b => isiE a ++ isiE b
  | .frz _ a => isiE a
  | _ => []
def isiEs : List CE → List String
  | [] => []
  | c :: r => isiE c ++ isiEs r
end
def okN (T : Tab) (ty : String) : Bool := decide (ty = "ValueError") || (T.exc (Str.ofString ty)).isSome
def okSu (T : Tab) (su : List (Nat × CE)) : Bool := su.all fun p => (isiE p.2).all (okN T)
def suS (K : PySem.W.Frag) (T : Tab) (x : Str) : List (Nat × CE) → TS
  | [] => tNext
  | [p] => tAsg (sem K T (subE x p.2) W0).1 (gName p.1)
  | p :: r => tSeq (tAsg (sem K T (subE x p.2) W0).1 (gName p.1)) (suS K T x r)
/-- the suite, the error at a, its class cls, in slot i -/
def tsS (K : PySem.W.Frag) (T : Tab) (i : Nat) (su : List (Nat × CE)) : Addr → Value → Option Addr → TS := fun a cls d D σ H =>
  ∃ y C, T.exc y = some C ∧ cls = .ref C ∧ d = none ∧ σ[i]? = some (some (.ref a)) ∧ suS K T y su D σ H
/-! ### statements -/
inductive CS where
  | pass
  | asg (i : Nat) (e : CE)
  | unp (is : List Nat) (e : CE)
  | unpL (is : List Nat) (e : CE)
  | par (i j : Nat) (a b : CE)
  | setIx (o i e : CE) | setD (o i e : CE)
  | fldA (o : CE) (f : Str) (e : CE)
  | swp (o i j c d : CE)
  | aug (i : Nat) (e : CE)
  | augIx (o i e : CE)
  | expr (e : CE)
  | ite (c : CE) (a b : List CS)
  | forr (kl : List Nat) (tg : List Nat) (k : IK) (es : List CE) (body : List CS)
  | forO (kl : List Nat) (x : Nat) (o : CE) (body : List CS)
  | forZ (kl : List Nat) (x y : Nat) (o b : CE) (body : List CS)
  | whil (kl : List Nat) (n : Nat) (c : CE) (body : List CS)
  | ret (e : CE)
  | retN
  | raise (x : Str)
  | tryE (x : Str) (i : Nat) (body : List CS) (su : List (Nat × CE))
def rGetL (K : PySem.W.Frag) : V → V → Hp → VK → Prop := fun x y H Q => ∃ p xs i v, x = .ref p ∧ y = .int i ∧ SqL K H p xs ∧ 0 ≤ i ∧ atI xs i = some v ∧ Q v H
def ipAdd : TIp := ipI fun i j => i + j
mutual
def semS (K : PySem.W.Frag) (T : Tab) : CS → WX → TS
  | .pass, _ => tNext
  | .asg i e, W => tAsg (sem K T e W).1 (gName i)
  | .unp is e, W => tAsg (sem K T e W).1 (gTup K is.length (gNames is))
  | .unpL is e, W => tAsg (sem K T e W).1 (gLst K is.length (gNames is))
  | .par i j a b, W => tPar i j (taOf [(sem K T a W).1, (sem K T b W).1])
  | .setIx o i e, W => tAsg (sem K T e W).1 (gSub (sem K T o W).1 (sem K T i W).1 rSetL)
  | .setD o i e, W => sDPut (sem K T o W).1 (sem K T i W).1 (sem K T e W).1
  | .swp o i j c d, W => tAsg (tTup (taOf (sems K T [c, d] W).1)) (gTup K 2 (gCons (gSub (sem K T o W).1 (sem K T i W).1 rSetL) (gCons (gSub (sem K T o W).1 (sem K T j W).1 rSetL) gNil)))
  | .fldA o f e, W => sFld K (sem K T o W).1 (sem K T e W).1 f
  | .aug i e, W => tAug i (sem K T e W).1 ipAdd
  | .augIx o i e, W => tAugS (sem K T o W).1 (sem K T i W).1 (sem K T e W).1 (rGetL K) ipAdd rSetL
  | .expr e, W => tDrop (sem K T e W).1
  | .ite c a b, W => tIfS (sem K T c W).2 (semB K T a W) (semB K T b W)
  | .forr _ tg k es body, W => tFor (iterI K k (sems K T es W).1) (tgG K tg) (semB K T body W)
  | .forO _ x o body, W => tFor (iterI K .lst (sems K T [o] W).1) (tgG K [x]) (semB K T body W)
  | .forZ _ x y o b body, W => tFor (iterI K .zip (sems K T [o, b] W).1) (tgG K [x, y]) (semB K T body W)
  | .whil _ _ c body, W => tWhile (sem K T c W).2 (semB K T body W)
  | .ret e, W => tRet (sem K T e W).1
  | .retN, _ => tRetN
  | .raise x, W => match T.exc x with
    | some C => fun _ σ H => W (.ref C) none σ H
    | none => fun _ _ _ => False
  | .tryE x i body su, W => match T.exc x with
    | some C => fun D σ H => (T.tr && okSu T su) = true ∧ semB K T body (wAs K (.ref C) i (tsS K T i su) W D) D σ H
    | none => fun _ _ _ => False
def semB (K : PySem.W.Frag) (T : Tab) : List CS → WX → TS
  | [], _ => tNext
  | [c], W => semS K T c W
  | c :: r, W => tSeq (semS K T c W) (semB K T r W)
end
end Rk

set_option Elab.async false
set_option linter.all false
set_option maxRecDepth 100000
namespace Rk
open PySem PySem.Spec PyProof.Rows L2
/-- what is asked of an expression's outermost form -/
structure Shape (e : Expr) : Prop where
  star : ∀ es env, starEach (e :: es) env = (false, eval e env) :: starEach es env
  base : ∀ f env, attributeBase e f env (eval e env) = eval e env
  nosl : ∀ o i, subscripted e false o i = operate [o, i] (getItem o i)
  fset : ∀ env x, foldedSetIterable e env x = pure x
  nsl : ∀ a b c d, e ≠ .Slice a b c d
  swa : ∀ o f p l env, swapsWith e (some (.Attribute o f p)) l env = pure false
  sws : ∀ o f p l env, swapsWith e (some (.Subscript o f p)) l env = pure false
  swt : ∀ o f p l env, swapsWith e (some (.Tuple o f p)) l env = pure false
  sw : (∀ a b c d, e ≠ .ListComp a b c d) → ∀ t l env, swapsWith e t l env = pure false
  bh : ∀ op, behindInMarks op e = false
local macro_rules | `(tactic| trivial) => `(tactic| exact ⟨fun _ _ => rfl, fun _ _ => rfl, fun _ _ => rfl, fun _ _ => rfl, fun _ _ _ _ z => (by cases z), fun _ _ _ _ _ => rfl, fun _ _ _ _ _ => rfl, fun _ _ _ _ _ => rfl, fun _ _ _ _ => rfl, fun _ => rfl⟩)
theorem sh_name {x p} : Shape (.Name x p) := by trivial
theorem sh_con {a b c} : Shape (.Constant a b c) := by trivial
theorem sh_bin {a b c d} : Shape (.BinOp a b c d) := by trivial
theorem sh_un {a b c} : Shape (.UnaryOp a b c) := by trivial
theorem sh_cmp {a b c d} : Shape (.Compare a b c d) := by trivial
theorem sh_bop {a b c} : Shape (.BoolOp a b c) := by trivial
theorem sh_tup {a b c} : Shape (.Tuple a b c) := by trivial
theorem sh_lst {a b} : Shape (.List a b) := by trivial
theorem sh_dct {a b c} : Shape (.Dict a b c) := by trivial
theorem sh_sub {a b c} : Shape (.Subscript a b c) := by trivial
theorem sh_att {a b c} : Shape (.Attribute a b c) := by trivial
theorem sh_calla {a b c es ks p} : Shape (.Call (.Attribute a b c) es ks p) := by trivial
theorem sh_calln1 {a b e es ks p} : Shape (.Call (.Name a b) (e :: es) ks p) := by trivial
theorem sh_lc {a b c d} : Shape (.ListComp a b c d) := ⟨fun _ _ => rfl, fun _ _ => rfl, fun _ _ => rfl, fun _ _ => rfl, fun _ _ _ _ z => (by cases z), fun _ _ _ _ _ => rfl, fun _ _ _ _ _ => rfl, fun _ _ _ _ _ => rfl, fun h => absurd rfl (h a b c d), fun _ => rfl⟩

def AllSh (es : List Expr) : Prop := ∀ e ∈ es, Shape e
theorem star_all {env : Env} : ∀ {es : List Expr}, AllSh es → starEach es env = es.map fun e => (false, eval e env)
  | [], _ => rfl
  | e :: r, h => by rw [(h e (by simp)).star, star_all fun x hx => h x (by simp [hx])] <;> rfl
theorem back_all {pos : Pos} {env : Env} {es : List Expr} (h : AllSh es) : backTo pos (starEach es env) = es.map fun e => (false, eval e env) := by
  rw [star_all h]
  unfold backTo
  rw [List.map_map]
  rfl
theorem plain_all {pos : Pos} {env : Env} {es : List Expr} (h : AllSh es) : (backTo pos (starEach es env)).any (·.1) = false := by
  rw [back_all h, List.any_map]
  simp
theorem few_all {pos : Pos} {env : Env} {es : List Expr} (h : AllSh es) (hl : es.length < 30) : methodCallForm es.length (backTo pos (starEach es env)) (backToKw pos (keywordEach [] env)) = true := by
  unfold methodCallForm
  rw [back_all h, List.all_map]
  simp [keywordEach, backToKw, hl]
theorem eval_mcall {o : Expr} {m : Str} {apos pos : Pos} {es : List Expr} {env : Env} : eval (.Call (.Attribute o m apos) es [] pos) env = (do
    let ov ← attributeBase o m env (eval o env)
    standAt apos.atName
    methodCall o m apos pos env ov (es.length + 0) (backTo pos (starEach es env)) (backToKw pos (keywordEach [] env))) := by
  rfl
theorem mt_of {o : Expr} {m : Str} {apos pos : Pos} {es : List Expr} {env : Env} (so : Shape o) (h : AllSh es) (hl : es.length < 30) (hp : (apos.endLine == pos.line) = true) :
    eval (.Call (.Attribute o m apos) es [] pos) env = (do
      let ov ← eval o env
      standAt apos.atName
      let (f, first) ← holding [ov] (getMethod ov m (do return (← importBound o env).getD true))
      callWith pos f first (backTo pos (starEach es env)) (backToKw pos (keywordEach [] env))) := by
  rw [eval_mcall, so.base]
  unfold methodCall calleeOf methodCallPos
  rw [Nat.add_zero, few_all h hl, hp]
  rfl
end Rk

set_option Elab.async false
set_option linter.all false
set_option maxRecDepth 100000
set_option maxHeartbeats 1000000
namespace Rk
open PySem PySem.Spec PyProof.Rows L2

/-! ### the look -/
def visB (sc : Scope) (x : Str) : Bool := match sc.names.lookup x with
  | some .local => true | some .cell => true | some .free => true | _ => false
def locB (sc : Scope) (x : Str) : Bool := match sc.names.lookup x with
  | some .local => true | some .cell => true | _ => false
def glB (sc : Scope) (x : Str) : Bool := match sc.names.lookup x with
  | some .globalImplicit => !(x == ("__debug__" : Str)) && !(x == ("__name__" : Str))
  | _ => false
def nameOf : Expr → Option Str
  | .Name x _ => some x
  | _ => none
def chkName (N : List Str) (sc : Scope) (i : Nat) (e : Expr) : Bool := match e with
  | .Name x _ => decide (N[i]? = some x) && locB sc x
  | _ => false
def chkNames (N : List Str) (sc : Scope) : List Nat → List Expr → Bool
  | [], [] => true
  | i :: r, e :: s => chkName N sc i e && chkNames N sc r s
  | _, _ => false
def chkTg (N : List Str) (sc : Scope) (tg : List Nat) (e : Expr) : Bool := match tg with
  | [i] => chkName N sc i e
  | _ => match e with
    | .Tuple es _ _ => chkNames N sc tg es
    | _ => false
def isTup : Expr → Bool
  | .Tuple _ _ _ => true
  | _ => false
/-- the expressions that an iteration asks -/
def iterArgs (sc : Scope) (k : IK) (tgt it : Expr) : Option (List Expr) := match k with
  | .lst => some [it]
  | .tup => some [it]
  | .str => some [it]
  | .rng1 => match it with
    | .Call (.Name n _) [a] [] _ => if (n == ("range" : Str) && glB sc n) = true then some [a] else none
    | _ => none
  | .rng2 => match it with
    | .Call (.Name n _) [a, b] [] _ => if (n == ("range" : Str) && glB sc n) = true then some [a, b] else none
    | _ => none
  | .enum => match it with
    | .Call (.Name n _) [a] [] _ => if (n == ("enumerate" : Str) && glB sc n && isTup tgt) = true then some [a] else none
    | _ => none
  | .zip => match it with
    | .Call (.Name n _) [a, b] [] _ => if (n == ("zip" : Str) && glB sc n && isTup tgt) = true then some [a, b] else none
    | _ => none
  | .rev => match it with
    | .Call (.Name n _) [a] [] _ => if (n == ("reversed" : Str) && glB sc n) = true then some [a] else none
    | _ => none
  | .rrg => match it with
    | .Call (.Name n _) [.Call (.Name m _) [a] [] _] [] _ => if (n == ("reversed" : Str) && glB sc n && (m == ("range" : Str) && glB sc m)) = true then some [a] else none
    | _ => none
def isNop : CE → Bool
  | .nop => true
  | _ => false
def bmArgs : Bm → Nat
  | .clear => 0 | .pop0 => 0 | .reverse => 0 | .insert => 2 | _ => 1
def gensOf (tg : Expr) : List Comprehension → Option (Expr × Expr × List Expr)
  | [⟨t, i, f, z⟩] => if z = 0 then some (t, i, f) else none
  | _ => none
mutual
def chkE (N : List Str) : CE → Scope → Expr → Bool
  | .var i, sc, e_ => match e_ with
    | .Name x _ => decide (N[i]? = some x) && visB sc x && !(x == ("__debug__" : Str)) && !(x == ("__classdict__" : Str))
    | _ => false
  | .mov i, sc, e_ => match e_ with
    | .Name x _ => decide (N[i]? = some x) && visB sc x && !(x == ("__debug__" : Str)) && !(x == ("__classdict__" : Str))
    | _ => false
  | .frz _ a, sc, e_ => chkE N a sc e_
  | .int n, _, e_ => match e_ with
    | .Constant (.int m) _ _ => decide (n = m)
    | _ => false
  | .str x, _, e_ => match e_ with
    | .Constant (.str y) _ _ => decide (x = y)
    | _ => false
  | .non, _, e_ => match e_ with
    | .Constant .none _ _ => true
    | _ => false
  | .bl b, _, e_ => match e_ with
    | .Constant (.bool c) _ _ => decide (b = c)
    | _ => false
  | .con x _, sc, e_ => match e_ with
    | .Name y _ => decide (x = y) && glB sc x
    | _ => false
  | .bin op a b, sc, e_ => match e_ with
    | .BinOp a' op' b' _ => decide (op = op') && chkE N a sc a' && chkE N b sc b'
    | _ => false
  | .cat op a b, sc, e_ => match e_ with
    | .BinOp a' op' b' _ => decide (op = op') && chkE N a sc a' && chkE N b sc b'
    | _ => false
  | .neg a, sc, e_ => match e_ with
    | .UnaryOp .USub a' _ => chkE N a sc a'
    | _ => false
  | .cmp op a b, sc, e_ => match e_ with
    | .Compare a' [op'] [b'] _ => decide (op = op') && chkE N a sc a' && chkE N b sc b'
    | _ => false
  | .chn op op2 a b c, sc, e_ => match e_ with
    | .Compare a' [op', op2'] [b', c'] _ => decide (op = op') && decide (op2 = op2') && chkE N a sc a' && chkE N b sc b' && chkE N c sc c'
    | _ => false
  | .and es, sc, e_ => match e_ with
    | .BoolOp .And es' _ => !es.isEmpty && chkEs N es sc es'
    | _ => false
  | .or es, sc, e_ => match e_ with
    | .BoolOp .Or es' _ => !es.isEmpty && chkEs N es sc es'
    | _ => false
  | .not a, sc, e_ => match e_ with
    | .UnaryOp .Not a' _ => chkE N a sc a'
    | _ => false
  | .tup es, sc, e_ => match e_ with
    | .Tuple es' _ _ => chkEs N es sc es'
    | _ => false
  | .lst es, sc, e_ => match e_ with
    | .List es' _ => chkEs N es sc es'
    | _ => false
  | .dct _, _, e_ => match e_ with
    | .Dict [] [] _ => true
    | _ => false
  | .ix a i, sc, e_ => match e_ with
    | .Subscript a' i' _ => chkE N a sc a' && chkE N i sc i'
    | _ => false
  | .dix a i, sc, e_ => match e_ with
    | .Subscript a' i' _ => chkE N a sc a' && chkE N i sc i'
    | _ => false
  | .din neg a d, sc, e_ => match e_ with
    | .Compare a' [op] [d'] _ => decide (op = if neg then .NotIn else .In) && chkE N a sc a' && chkE N d sc d'
    | _ => false
  | .sl a lo hi, sc, e_ => match e_ with
    | .Subscript a' (.Slice lo' hi' none _) _ => chkE N a sc a' &&
      (match lo' with | none => isNop lo | some e => chkE N lo sc e) && (match hi' with | none => isNop hi | some e => chkE N hi sc e)
    | _ => false
  | .fld a f, sc, e_ => match e_ with
    | .Attribute a' f' _ => decide (f = f') && chkE N a sc a'
    | _ => false
  | .call x _ es, sc, e_ => match e_ with
    | .Call (.Name y _) es' [] _ => decide (x = y) && glB sc x && !es.isEmpty && chkEs N es sc es'
    | _ => false
  | .make x _ es, sc, e_ => match e_ with
    | .Call (.Name y _) es' [] _ => decide (x = y) && glB sc x && !es.isEmpty && chkEs N es sc es'
    | _ => false
  | .callP _ x _ es, sc, e_ => match e_ with
    | .Call (.Name y _) es' [] _ => decide (x = y) && glB sc x && !es.isEmpty && chkEs N es sc es'
    | _ => false
  | .makeP _ x _ es, sc, e_ => match e_ with
    | .Call (.Name y _) es' [] _ => decide (x = y) && glB sc x && !es.isEmpty && chkEs N es sc es'
    | _ => false
  | .meth _ o m _ es, sc, e_ => match e_ with
    | .Call (.Attribute o' m' ap) es' [] p => decide (m = m') && (ap.endLine == p.line) && decide (es'.length < 30) && chkE N o sc o' && chkEs N es sc es'
    | _ => false
  | .blt b es, sc, e_ => match e_ with
    | .Call (.Name y _) es' [] _ => decide (bltName b = y) && glB sc y && !es.isEmpty && chkEs N es sc es'
    | _ => false
  | .isi a ty, sc, e_ => match e_ with
    | .Call (.Name y _) [a', .Name t _] [] _ => decide (y = ("isinstance" : Str)) && glB sc y && decide (t = Str.ofString ty) && glB sc t && decide (ty ∈ (["int", "bool", "str", "list", "tuple"] : List String)) && chkE N a sc a'
    | _ => false
  | .bm b o es, sc, e_ => match e_ with
    | .Call (.Attribute o' m' ap) es' [] p => decide (bmName b = m') && decide (es.length = bmArgs b) && (ap.endLine == p.line) && decide (es'.length < 30) && chkE N o sc o' && chkEs N es sc es'
    | _ => false
  | .dget1 d k, sc, e_ => match e_ with
    | .Call (.Attribute d' m' ap) [k'] [] p => decide (m' = ("get" : Str)) && (ap.endLine == p.line) && chkE N d sc d' && chkE N k sc k'
    | _ => false
  | .dget2 d k x, sc, e_ => match e_ with
    | .Call (.Attribute d' m' ap) [k', x'] [] p => decide (m' = ("get" : Str)) && (ap.endLine == p.line) && chkE N d sc d' && chkE N k sc k' && chkE N x sc x'
    | _ => false
  | .dpop1 d k, sc, e_ => match e_ with
    | .Call (.Attribute d' m' ap) [k'] [] p => decide (m' = ("pop" : Str)) && (ap.endLine == p.line) && chkE N d sc d' && chkE N k sc k'
    | _ => false
  | .lc elt tg k es cond, sc, e_ => match e_ with
    | .ListComp elt' gens scope _ => (match gens with
      | [⟨t, it, ifs, 0⟩] => (match iterArgs sc k t it with | some as => chkEs N es sc as | none => false) &&
          blkC N sc scope (tg.map fun i => (N.getD i Str.empty, i)) && chkTg N scope tg t && decide (cond.length ≤ 1) && chkEs N cond scope ifs && chkE N elt scope elt'
      | _ => false)
    | _ => false
  | .lrg a, sc, e_ => match e_ with
    | .Call (.Name y _) [.Call (.Name r _) [a'] [] _] [] _ => (y == ("list" : Str) && glB sc y) && (r == ("range" : Str) && glB sc r) && chkE N a sc a'
    | _ => false
  | .lrv a, sc, e_ => match e_ with
    | .Call (.Name y _) [.Call (.Name r _) [a'] [] _] [] _ => (y == ("list" : Str) && glB sc y) && (r == ("reversed" : Str) && glB sc r) && chkE N a sc a'
    | _ => false
  | .nop, _, _ => false
def chkEs (N : List Str) : List CE → Scope → List Expr → Bool
  | [], _, [] => true
  | c :: r, sc, e :: s => chkE N c sc e && chkEs N r sc s
  | _, _, _ => false
end
def isVar (i : Nat) : CE → Bool
  | .var k => decide (k = i)
  | _ => false
def isLc : Expr → Option Scope
  | .ListComp _ _ s _ => some s
  | _ => none
mutual
/-- an expression of an except suite, the error is slot i's -/
def chkQ (N : List Str) (i : Nat) (sc : Scope) : CE → Expr → Bool
  | .var k, e_ => match e_ with
    | .Name x _ => decide (N[k]? = some x) && visB sc x && !(x == ("__debug__" : Str)) && !(x == ("__classdict__" : Str))
    | _ => false
  | .frz _ a, e_ => chkQ N i sc a e_
  | .bl b, e_ => match e_ with
    | .Constant (.bool c) _ _ => decide (b = c)
    | _ => false
  | .or es, e_ => match e_ with
    | .BoolOp .Or es' _ => !es.isEmpty && chkQs N i sc es es'
    | _ => false
  | .tup es, e_ => match e_ with
    | .Tuple es' _ _ => chkQs N i sc es es'
    | _ => false
  | .lst es, e_ => match e_ with
    | .List es' _ => chkQs N i sc es es'
    | _ => false
  | .cat op a b, e_ => match e_ with
    | .BinOp a' op' b' _ => decide (op = op') && chkQ N i sc a a' && chkQ N i sc b b'
    | _ => false
  | .cmp op a b, e_ => match e_ with
    | .Compare a' [op'] [b'] _ => decide (op = op') && chkQ N i sc a a' && chkQ N i sc b b'
    | _ => false
  | .isi a ty, e_ => match e_ with
    | .Call (.Name y _) [.Name z _, .Name t _] [] _ => isVar i a && decide (N[i]? = some z) && visB sc z && !(z == ("__debug__" : Str)) && !(z == ("__classdict__" : Str)) && decide (y = ("isinstance" : Str)) && glB sc y && decide (t = Str.ofString ty) && glB sc t
    | _ => false
  | _, _ => false
def chkQs (N : List Str) (i : Nat) (sc : Scope) : List CE → List Expr → Bool
  | [], [] => true
  | c :: r, e :: s => chkQ N i sc c e && chkQs N i sc r s
  | _, _ => false
end
def chkSu (N : List Str) (i : Nat) (sc : Scope) : List (Nat × CE) → List Stmt → Bool
  | [], [] => true
  | (j, c) :: r, e :: s => (match e with
    | .Assign [.Name x _] v _ => decide (N[j]? = some x) && decide (j ≠ i) && locB sc x && (isLc v).isNone && chkQ N i sc c v
    | _ => false) && chkSu N i sc r s
  | _, _ => false
mutual
def chkS (N : List Str) (sc : Scope) : CS → Stmt → Bool
  | .pass, e_ => match e_ with
    | .Pass _ => true
    | _ => false
  | .asg i e, e_ => match e_ with
    | .Assign [.Name x _] v _ => decide (N[i]? = some x) && locB sc x && chkE N e sc v
    | _ => false
  | .unp is e, e_ => match e_ with
    | .Assign [.Tuple ts _ _] v _ => chkNames N sc is ts && !isTup v && chkE N e sc v
    | _ => false
  | .unpL is e, e_ => match e_ with
    | .Assign [.Tuple ts _ _] v _ => chkNames N sc is ts && !isTup v && chkE N e sc v
    | _ => false
  | .par i j a b, e_ => match e_ with
    | .Assign [.Tuple [.Name x px, .Name y py] _ _] (.Tuple [va, vb] _ _) _ => decide (N[i]? = some x) && decide (N[j]? = some y) && decide (i ≠ j) &&
      decide (sc.names.lookup x = some .local) && decide (sc.names.lookup y = some .local) && chkE N a sc va && chkE N b sc vb && false
    | _ => false
  | .setIx o i e, e_ => match e_ with
    | .Assign [.Subscript o' i' _] v _ => chkE N o sc o' && chkE N i sc i' && chkE N e sc v
    | _ => false
  | .setD o i e, e_ => match e_ with
    | .Assign [.Subscript o' i' _] v _ => chkE N o sc o' && chkE N i sc i' && chkE N e sc v
    | _ => false
  | .swp o i j c d, e_ => match e_ with
    | .Assign [.Tuple [.Subscript o1 i1 _, .Subscript o2 i2 _] _ _] (.Tuple [c', d'] _ _) _ => chkE N o sc o1 && chkE N i sc i1 && chkE N o sc o2 && chkE N j sc i2 && chkE N c sc c' && chkE N d sc d'
    | _ => false
  | .fldA o f e, e_ => match e_ with
    | .Assign [.Attribute o' f' _] v _ => decide (f = f') && chkE N o sc o' && chkE N e sc v
    | _ => false
  | .aug i e, e_ => match e_ with
    | .AugAssign (.Name x _) .Add v _ => decide (N[i]? = some x) && locB sc x && chkE N e sc v
    | _ => false
  | .augIx o i e, e_ => match e_ with
    | .AugAssign (.Subscript o' i' _) .Add v _ => chkE N o sc o' && chkE N i sc i' && chkE N e sc v
    | _ => false
  | .expr e, e_ => match e_ with
    | .Expr v _ => chkE N e sc v && (isLc v).isNone
    | _ => false
  | .ite c a b, e_ => match e_ with
    | .If c' a' b' _ => chkE N c sc c' && chkB N sc a a' && chkB N sc b b'
    | _ => false
  | .forr _ tg k es body, e_ => match e_ with
    | .For t it body' [] _ => (match iterArgs sc k t it with | some as => chkEs N es sc as | none => false) && chkTg N sc tg t && chkB N sc body body'
    | _ => false
  | .forO _ x o body, e_ => match e_ with
    | .For t it body' [] _ => chkEs N [o] sc [it] && chkTg N sc [x] t && chkB N sc body body'
    | _ => false
  | .forZ _ x y o b body, e_ => match e_ with
    | .For t it body' [] _ => (match iterArgs sc .zip t it with | some as => chkEs N [o, b] sc as | none => false) && chkTg N sc [x, y] t && chkB N sc body body'
    | _ => false
  | .whil _ _ c body, e_ => match e_ with
    | .While c' body' [] _ => chkE N c sc c' && chkB N sc body body'
    | _ => false
  | .ret e, e_ => match e_ with
    | .Return (some v) _ => chkE N e sc v
    | _ => false
  | .retN, e_ => match e_ with
    | .Return none _ => true
    | _ => false
  | .raise x, e_ => match e_ with
    | .Raise (some (.Call (.Name y _) [.Constant (.str _) _ _] [] _)) none _ => decide (x = y) && glB sc x
    | _ => false
  | .tryE x i body su, e_ => match e_ with
    | .Try body' [.ExceptHandler (some (.Name y _)) (some n) suite' _] [] [] _ => decide (x = y) && glB sc x && decide (N[i]? = some n) && decide (sc.names.lookup n = some .local) && !su.isEmpty && chkB N sc body body' && chkSu N i sc su suite'
    | _ => false
def chkB (N : List Str) (sc : Scope) : List CS → List Stmt → Bool
  | [], [] => true
  | c :: r, e :: s => chkS N sc c e && chkB N sc r s
  | _, _ => false
end
end Rk

set_option Elab.async false
set_option linter.all false
set_option maxRecDepth 100000
set_option maxHeartbeats 4000000
namespace Rk
open PySem PySem.Spec PyProof.Rows L2

structure ScOk (X : Cx) (sc : Scope) : Prop where
  loc : ∀ x, sc.names.lookup x = some .local → X.env.scope.names.lookup x = some .local
  cel : ∀ x, sc.names.lookup x = some .cell → X.env.scope.names.lookup x = some .cell ∧ X.fn x = true
  fre : ∀ x, sc.names.lookup x = some .free → X.env.scope.names.lookup x = some .free ∨ X.env.scope.names.lookup x = some .cell
  glo : ∀ x, sc.names.lookup x = some .globalImplicit → X.env.scope.names.lookup x = some .globalImplicit
def bltNames : List Str := ["len", "list", "tuple", "int", "str", "sum", "max", "min", "all", "any", "sorted", "range", "enumerate", "zip", "reversed", "isinstance", "bool"]
structure TabOk (P : Program) (w : World) (K : PySem.W.Frag) (mg : Str → Option Value) (base : Heap) (A : Around) (T : Tab) : Prop where
  fn : ∀ x sp, T.fn x = some sp → ∃ f fd ps k, mg x = some (.ref f) ∧ FnOk P w K mg base (L2.CX P w) k f fd ps sp ∧ PySem.W.keepIn K (.ref f) = true ∧ Binds K fd ps [] ∧ Room k A
  con : ∀ x v, T.con x = some v → ∃ u, mg x = some u ∧ RelV v u
  cls : ∀ x C sp, T.cls x = some (C, sp) → ∃ f fd ps k, mg x = some (.ref C) ∧ Mk K C f ∧ FnOk P w K mg base (L2.CX P w) k f fd ps sp ∧ Binds K fd ps [] ∧ Room (k + 1) A
  mth : ∀ c m C sp, T.mth c m = some (C, sp) → ∃ f fd ps k, Cls K C ∧ Meth K C m f ∧ FnOk P w K mg base (L2.CX P w) k f fd ps sp ∧ Binds K fd ps [] ∧ Room k A
  exc : ∀ x C, T.exc x = some C → mg x = some (.ref C) ∧ PySem.W.excIn K C [.type "ValueError", .type "Exception", .type "BaseException", .type "object"] "ValueError.__new__" = true ∧ PySem.W.keepIn K (.ref C) = true ∧
    PySem.W.subIn K (.ref C) (.type "BaseException") = some true ∧ PySem.W.typeIn K (.ref C) = some (.type "type")
  blt : ∀ x ∈ bltNames, mg x = none
  isf : T.tr = true → mg "ValueError" = none ∧ ∀ x C, T.exc x = some C → ExcC K C ∧ PySem.W.kitOne K (.ref C) (.type "ValueError") = some true ∧ ∀ y D, T.exc y = some D → PySem.W.kitOne K (.ref C) (.ref D) = some (isE x y)
structure CtxOk (X : Cx) (T : Tab) (W : WX) (sc : Scope) : Prop where
  tab : TabOk X.prog X.w X.K X.mg X.base X.A T
  sco : ScOk X sc
  nd : X.N.Nodup
  calm : X.calm = true
  tk : Takes X W
  rm : Room 0 X.A
section
variable {X : Cx} {T : Tab} {W : WX} {sc : Scope}
theorem CtxOk.hu1 (C : CtxOk X T W sc) : X.A.units + 1 < cLine := by have := C.rm.un; omega
theorem CtxOk.hu64 (C : CtxOk X T W sc) : X.A.units + 64 < cLine := by have := C.rm.un; omega
theorem CtxOk.hu65 (C : CtxOk X T W sc) : X.A.units + 65 < cLine := by have := C.rm.un; omega
theorem ScOk.vis (S : ScOk X sc) {x : Str} (h : visB sc x = true) : Vis X.env.scope x := by
  unfold visB at h
  split at h
  · rename_i e; exact .inl (S.loc x e)
  · rename_i e; exact .inr (.inl (S.cel x e).1)
  · rename_i e
    rcases S.fre x e with q | q
    · exact .inr (.inr q)
    · exact .inr (.inl q)
  · cases h
theorem ScOk.lc (S : ScOk X sc) {x : Str} (h : locB sc x = true) : Loc X.env.scope x ∧ (X.fn x = true ∨ X.env.scope.names.lookup x = some .local) := by
  unfold locB at h
  split at h
  · rename_i e; exact ⟨.inl (S.loc x e), .inr (S.loc x e)⟩
  · rename_i e; exact ⟨.inr (S.cel x e).1, .inl (S.cel x e).2⟩
  · cases h
theorem ScOk.gl (S : ScOk X sc) {x : Str} (h : glB sc x = true) : Gl X x ∧ (x == ("__debug__" : Str)) = false ∧ x ≠ "__name__" := by
  unfold glB at h
  split at h
  · rename_i e
    simp only [Bool.and_eq_true, Bool.not_eq_true'] at h
    refine ⟨S.glo x e, h.1, fun q => ?_⟩
    have := h.2
    rw [q] at this
    simp at this
  · cases h
end
/-! ### operators -/
section
variable {X : Cx} {T : Tab} {W : WX} {sc : Scope}
theorem orNo {f : Value → Value → Sem Value} : OpR X f rNo := fun _ _ _ _ _ _ _ _ _ _ _ _ h => h.elim
theorem bin_ok (op : Operator) : OpR X (binaryOp op) (binR X.K op) := by
  cases op
  case Add => exact op_add.or (op_add_str.or (op_cat.or op_catA))
  case Sub => exact op_sub
  case Mult => exact op_mul.or op_rep
  case FloorDiv => exact op_fdivN
  case Mod => exact op_modN
  case Pow => exact op_pow
  all_goals exact orNo
theorem cmp_ok (C : CtxOk X T W sc) (op : CmpOp) : OpR X (compareOp op) (cmpR X.K op) := by
  cases op
  case Eq => exact op_eq.or (op_eqD C.hu64)
  case NotEq => exact op_ne.or (op_neD C.hu64)
  case Lt => exact op_lt
  case LtE => exact op_le
  case Gt => exact op_gt
  case GtE => exact op_ge
  case Is => exact op_isN.or op_isBl
  case IsNot => exact op_notN.or op_notBl
  case In => exact op_in_seq.or (op_in_str.or (op_inD C.hu65))
  case NotIn => exact op_notIn_seq.or (op_notIn_str.or (op_notInD C.hu65))
theorem orCall {f : Value} {r r' : List V → Hp → VK → Prop} (h : CallR X f r) (h' : CallR X f r') : CallR X f (fun xs H Q => r xs H Q ∨ r' xs H Q) := by
  intro pins s σ H xs us Q I r q
  rcases q with q | q
  · exact h pins s σ H xs us Q I r q
  · exact h' pins s σ H xs us Q I r q
theorem len_dict : CallR X (.builtin "len") (fun xs H Q => ∃ a kvs, xs = [.ref a] ∧ Rd H a (.dK kvs) ∧ Q (.int (kvs.length : Int)) H) := by
  intro pins s σ H xs us Q I r h
  obtain ⟨a, kvs, rfl, e, q⟩ := h
  obtain ⟨u, rfl, ru⟩ := Vals.one r
  obtain rfl : u = Value.ref a := ru
  exact d_len I e fun t s' I' => ⟨.int kvs.length, H, I', ⟨t, rfl⟩, q⟩
end
theorem relRef (a : Addr) : RelV (.ref a) (.ref a) := rfl
/-! ### calls that may raise at the slots -/
section
variable {X : Cx} {k : Nat} {f C : Addr} {fd : FuncData} {ps : List Str} {sp : Sp} {W : WX} {x m : Str} {p pos apos : Pos} {o : Expr} {es : List Expr} {ta : TE} {t : TA}
theorem pe_methX {e : Expr} (ho : PE X o ta) (so : Shape o) (c : Cls X.K C) (hm : Meth X.K C m f) (F : FnOk X.prog X.w X.K X.mg X.base (L2.CX X.prog X.w) k f fd ps sp) (hr : Room k X.A) (hb : Binds X.K fd ps [])
    (tk : Takes X W) (ha : PA X (e :: es) t) (hs : AllSh (e :: es)) (hl : (e :: es).length < 30) (hp : (apos.endLine == pos.line) = true) : PE X (.Call (.Attribute o m apos) (e :: es) [] pos) (tMethX C m sp W ta t) := by
  constructor
  intro pins s σ H Q I h
  refine PySem.W.methodCall_KW (thn (ho.run pins s σ H _ I h) ?_) (mt_of so hs hl hp)
  rintro u s1 ⟨x, H1, I1, rx, a, dx, fs, rfl, ea, l, q⟩
  obtain rfl : u = Value.ref a := rx
  refine getmeth_ok I1 ea c hm l ?_
  refine PySem.W.callWith_K (first := [.ref a]) (h₀ := X.base) I.ok.mod.kin hm.kp (thn (ha.run pos pins s1 σ H1 _ I1 q) ?_) ((hs e (by simp)).star _ _) (plain_all fun z hz => hs z (by simp [hz]))
  rintro us s2 ⟨vs, H2, I2, rv, q2⟩
  exact ⟨I2.kIn, run_fnS (E := WE W) (us := .ref a :: us) (vs := .ref a :: vs) F hr hb (passAt tk σ) I2 (.cons rfl rv) q2⟩
theorem pe_methX0 (ho : PE X o ta) (so : Shape o) (c : Cls X.K C) (hm : Meth X.K C m f) (F : FnOk X.prog X.w X.K X.mg X.base (L2.CX X.prog X.w) k f fd ps sp) (hr : Room k X.A) (hb : Binds X.K fd ps [])
    (tk : Takes X W) (hp : (apos.endLine == pos.line) = true) : PE X (.Call (.Attribute o m apos) [] [] pos) (tMethX C m sp W ta tNil) := by
  constructor
  intro pins s σ H Q I h
  refine PySem.W.methodCall_KW (thn (ho.run pins s σ H _ I h) ?_) (mt_of so (fun _ z => by cases z) (by decide) hp)
  rintro u s1 ⟨x, H1, I1, rx, a, dx, fs, rfl, ea, l, q⟩
  obtain rfl : u = Value.ref a := rx
  refine getmeth_ok I1 ea c hm l ?_
  exact PySem.W.callWith_K0 (first := [.ref a]) I1.kIn hm.kp (run_fnS (E := WE W) (us := [.ref a]) (vs := [.ref a]) F hr hb (passAt tk σ) I1 (.cons rfl .nil) q)
theorem run_makeX {pins : List (Addr × Obj)} {σ : L2.St} {H : Hp} {s : Shared} {Q : VK} {us : List Value} {vs : List V} (M : Mk X.K C f) (F : FnOk X.prog X.w X.K X.mg X.base (L2.CX X.prog X.w) k f fd ps sp) (hr : Room (k + 1) X.A) (hb : Binds X.K fd ps [])
    (tk : Takes X W) (I : Inv X pins σ H s) (r : Vals vs us)
    (h : ∀ x dx, H x = none → H dx = none → dx ≠ x → sp (.ref x :: vs) (upd (upd H dx (.own x)) x (.ins C dx [])) (fun v H2 => v = .non ∧ Q (.ref x) H2) (WE W σ)) :
    wpAny (model X.prog X.w) X.A (call (.ref C) us) (EP X pins σ Q) X.xe s := by
  generalize hn : s.heap.objs.size = n at *
  have f1 : H (n + 1) = none := by rw [← hn]; exact I.hok.fresh (Nat.le_succ _)
  have f2 : H n = none := by rw [← hn]; exact I.hok.fresh (Nat.le_refl _)
  have hq := h (n + 1) n f1 f2 (Nat.ne_of_lt (Nat.lt_succ_self _))
  subst hn
  have I2 := Inv.made (C := C) I
  have hl := (Paired.length (Paired.cons (F := RelV) (a := V.ref (s.heap.objs.size + 1)) (b := Value.ref (s.heap.objs.size + 1)) rfl r)).symm
  have hl2 : (Value.ref (s.heap.objs.size + 1) :: us).length = ps.length := by
    rw [hl]; exact F.len _ _ _ _ hq
  have b := hb _ (Value.ref (s.heap.objs.size + 1) :: us) I2.kIn (by rw [List.append_nil]; exact hl2)
  rw [List.append_nil] at b
  refine wpAny_call (make_map (f := f) I.kIn M.makes M.init (beq_iff_eq.mp M.fn) (codeAny_mono (F.run _ X.stack _ _ ⟨Value.ref (s.heap.objs.size + 1) :: us, []⟩ _ _ _ (WE W σ) (hr.make C us []) (I2.env0.make C us []) b (.cons (relRef _) r) hq) ?_))
  intro r2 s' hq'
  match r2, hq' with
  | .error e, hq' => exact passAt tk σ pins _ _ e s' I2 hq'
  | .ok (.ret u), hq' =>
    obtain ⟨v, H', I3, rv, ev, q3⟩ := I2.after hq'
    subst ev
    exact ⟨rv, ⟨_, H', I3, relRef _, q3⟩⟩
  | .ok .next, hq' => exact hq'.elim
  | .ok .brk, hq' => exact hq'.elim
  | .ok .cont, hq' => exact hq'.elim
theorem pe_makeX {e : Expr} (M : Mk X.K C f) (F : FnOk X.prog X.w X.K X.mg X.base (L2.CX X.prog X.w) k f fd ps sp) (hr : Room (k + 1) X.A) (hg : Gl X x) (hm : X.mg x = some (.ref C)) (hb : Binds X.K fd ps []) (tk : Takes X W)
    (ha : PA X (e :: es) t) (hs : AllSh (e :: es)) (hdb : (x == ("__debug__" : Str)) = false) : PE X (.Call (.Name x p) (e :: es) [] pos) (tMakeX C sp W t) := by
  constructor
  intro pins s σ H Q I h
  refine wpAny_Call_Name_kw (ld_glob I hg hm ?_ hdb)
  refine PySem.W.callWith_K (h₀ := X.base) I.ok.mod.kin M.kp (thn (ha.run pos pins s σ H _ I h) ?_) ((hs e (by simp)).star _ _) (plain_all fun z hz => hs z (by simp [hz]))
  rintro us s1 ⟨vs, H1, I1, r, q⟩
  exact ⟨I1.kIn, run_makeX M F hr hb tk I1 r q⟩
end
/-! ### lists of expressions -/
inductive Each (X : Cx) (T : Tab) (W : WX) : List CE → List Expr → Prop
  | nil : Each X T W [] []
  | cons {c e cs es} : PE X e (sem X.K T c W).1 → PT X e (sem X.K T c W).2 → Shape e → Each X T W cs es → Each X T W (c :: cs) (e :: es)
section
variable {X : Cx} {T : Tab} {W : WX} {cs : List CE} {es : List Expr}
theorem Each.sh (h : Each X T W cs es) : AllSh es := by
  induction h with
  | nil => exact fun _ z => by cases z
  | cons _ _ s _ ih =>
    intro z hz
    rcases List.mem_cons.mp hz with rfl | hz
    · exact s
    · exact ih z hz
theorem Each.pa (h : Each X T W cs es) : PA X es (taOf (sems X.K T cs W).1) := by
  induction h with
  | nil => exact pa_nil
  | cons p _ s _ ih => exact pa_cons p ih (s.star _ _)
theorem Each.len (h : Each X T W cs es) : cs.length = es.length := by
  induction h with
  | nil => rfl
  | cons _ _ _ _ ih => simp [ih]
theorem Each.andV {pos : Pos} : ∀ {cs : List CE} {es : List Expr}, Each X T W cs es → cs ≠ [] → PE X (.BoolOp .And es pos) (semAndV (sems X.K T cs W).1) ∧ PT X (.BoolOp .And es pos) (semAndT (sems X.K T cs W).2) ∧ PW X (.BoolOp .And es pos) (semAndT (sems X.K T cs W).2)
  | _, _, .nil, h => absurd rfl h
  | _, _, .cons p t _ .nil, _ => ⟨pe_one p, (pw_and1 t).pt, pw_and1 t⟩
  | _, _, .cons p t _ (.cons p2 t2 s2 r), _ =>
    let ⟨a, _, c⟩ := Each.andV (pos := pos) (.cons p2 t2 s2 r) (by simp)
    ⟨pe_and p a, (pw_and t c).pt, pw_and t c⟩
theorem Each.orV {pos : Pos} : ∀ {cs : List CE} {es : List Expr}, Each X T W cs es → cs ≠ [] → PE X (.BoolOp .Or es pos) (semOrV (sems X.K T cs W).1) ∧ PT X (.BoolOp .Or es pos) (semOrT (sems X.K T cs W).2) ∧ PW X (.BoolOp .Or es pos) (semOrT (sems X.K T cs W).2)
  | _, _, .nil, h => absurd rfl h
  | _, _, .cons p t _ .nil, _ => ⟨pe_one p, (pw_or1 t).pt, pw_or1 t⟩
  | _, _, .cons p t _ (.cons p2 t2 s2 r), _ =>
    let ⟨a, _, c⟩ := Each.orV (pos := pos) (.cons p2 t2 s2 r) (by simp)
    ⟨pe_or p a, (pw_or t c).pt, pw_or t c⟩
end
theorem tru_pt {X : Cx} {e : Expr} {te : TE} (h : PE X e te) (he : ∀ whole, isTrue e X.env whole = (do let v ← whole; standAt e.pos; holding [v] (truthy v)) := by intro _; rfl) : PT X e (tTru X.K te) := pt_truth h he
theorem pt_no {X : Cx} {e : Expr} : PT X e ttNo := ⟨fun _ _ _ _ _ _ h => h.elim⟩
theorem pe_no {X : Cx} {e : Expr} : PE X e tNo := ⟨fun _ _ _ _ _ _ h => h.elim⟩
end Rk

set_option Elab.async false
set_option linter.all false
set_option maxRecDepth 100000
set_option maxHeartbeats 4000000
namespace Rk
open PySem PySem.Spec PyProof.Rows L2
section
variable {X : Cx} {T : Tab} {W : WX} {sc : Scope}
theorem relabel_lookup {env : Env} {x : Str} : ∀ {names : List (Str × NameKind)}, ∃ g : NameKind → NameKind, (∀ k, k ≠ .free → g k = k) ∧ (g .free = .free ∨ g .free = .cell) ∧
    (names.map fun (n, k) => if (k == .free && env.scope.kind == .function && env.kindOf n == some .cell) then (n, NameKind.cell) else (n, k)).lookup x = (names.lookup x).map g
  | [] => ⟨id, fun _ _ => rfl, .inl rfl, rfl⟩
  | (n, k) :: r => by
    obtain ⟨g, h1, h2, h3⟩ := @relabel_lookup env x r
    have e1 : ((n, k) :: r).map (fun (n, k) => if (k == .free && env.scope.kind == .function && env.kindOf n == some .cell) then (n, NameKind.cell) else (n, k)) =
      (if (k == .free && env.scope.kind == .function && env.kindOf n == some .cell) = true then (n, NameKind.cell) else (n, k)) :: r.map (fun (n, k) => if (k == .free && env.scope.kind == .function && env.kindOf n == some .cell) then (n, NameKind.cell) else (n, k)) := rfl
    cases hx : x == n with
    | false =>
      refine ⟨g, h1, h2, ?_⟩
      rw [e1]
      by_cases c : (k == .free && env.scope.kind == .function && env.kindOf n == some .cell) = true
      · rw [if_pos c, List.lookup_cons, List.lookup_cons, hx]; exact h3
      · rw [if_neg c, List.lookup_cons, List.lookup_cons, hx]; exact h3
    | true =>
      by_cases c : (k == .free && env.scope.kind == .function && env.kindOf n == some .cell) = true
      · have hk : k = .free := by
          simp only [Bool.and_eq_true, beq_iff_eq] at c
          exact c.1.1
        refine ⟨fun j => if j = .free then .cell else j, fun j hj => if_neg hj, .inr (if_pos rfl), ?_⟩
        rw [e1, if_pos c, List.lookup_cons, List.lookup_cons, hx, hk]
        rfl
      · refine ⟨id, fun _ _ => rfl, .inl rfl, ?_⟩
        rw [e1, if_neg c, List.lookup_cons, List.lookup_cons, hx]
        rfl
theorem ScOk.blk (s : Shared) (H : Hp) (scope : Scope) (C : Addr) (cl : List (Str × Addr)) (fp : List Addr) : ScOk (X.blk s H scope (compEnvC scope cl C X.env) fp) scope := by
  have key : ∀ x, ∃ g : NameKind → NameKind, (∀ k, k ≠ .free → g k = k) ∧ (g .free = .free ∨ g .free = .cell) ∧ (X.blk s H scope (compEnvC scope cl C X.env) fp).env.scope.names.lookup x = (scope.names.lookup x).map g := fun x => relabel_lookup
  constructor
  · intro x h
    obtain ⟨g, h1, h2, h3⟩ := key x
    rw [h3, h, Option.map_some, h1 _ (by decide)]
  · intro x h
    obtain ⟨g, h1, h2, h3⟩ := key x
    refine ⟨by rw [h3, h, Option.map_some, h1 _ (by decide)], ?_⟩
    show (scope.names.lookup x == some .cell) = true
    rw [h]; rfl
  · intro x h
    obtain ⟨g, h1, h2, h3⟩ := key x
    rw [h3, h, Option.map_some]
    rcases h2 with q | q
    · exact .inl (by rw [q])
    · exact .inr (by rw [q])
  · intro x h
    obtain ⟨g, h1, h2, h3⟩ := key x
    rw [h3, h, Option.map_some, h1 _ (by decide)]
theorem CtxOk.blk (C : CtxOk X T W sc) (s : Shared) (H : Hp) (scope : Scope) (A : Addr) (cl : List (Str × Addr)) (fp : List Addr) : CtxOk (X.blk s H scope (compEnvC scope cl A X.env) fp) T W0 scope :=
  ⟨C.tab, ScOk.blk s H scope A cl fp, C.nd, C.calm, takes0, C.rm⟩
theorem CtxOk.blkOk (C : CtxOk X T W sc) {scope : Scope} {own : List (Str × Nat)} (h : blkC X.N sc scope own = true) : BlkOk X.N X.env.scope scope own := by
  have b := blkOk_by h
  refine ⟨b.kind, b.uniq, b.ix, fun y hy hf => ?_, b.own⟩
  rcases b.free y hy hf with q | q
  · exact .inl (C.sco.cel _ q).1
  · rcases C.sco.fre _ q with z | z
    · exact .inr z
    · exact .inl z
/-! ### targets -/
theorem pg_of (C : CtxOk X T W sc) {i : Nat} {e : Expr} (h : chkName X.N sc i e = true) : PG X e (gName i) := by
  unfold chkName at h
  split at h
  · simp only [Bool.and_eq_true, decide_eq_true_eq] at h
    obtain ⟨h1, h2⟩ := C.sco.lc h.2
    exact pg_name C.nd h.1 h1 h2
  · cases h
theorem assign_star {env : Env} {e : Expr} {es : List Expr} {i : Nat} (h : chkName X.N sc i e = true) : assignEach (e :: es) env = (false, assign e env) :: assignEach es env := by
  unfold chkName at h
  split at h
  · rfl
  · cases h
theorem pgs_of (C : CtxOk X T W sc) : ∀ {is : List Nat} {es : List Expr}, chkNames X.N sc is es = true → PGs X es (gNames is) ∧ (assignEach es X.env).length = is.length ∧ (assignEach es X.env).findIdx? (·.1) = none
  | [], [], _ => ⟨pgs_nil, rfl, rfl⟩
  | [], _ :: _, h => by simp [chkNames] at h
  | _ :: _, [], h => by simp [chkNames] at h
  | i :: r, e :: s, h => by
    simp only [chkNames, Bool.and_eq_true] at h
    obtain ⟨a, b, c⟩ := pgs_of C h.2
    have st : assignEach (e :: s) X.env = (false, assign e X.env) :: assignEach s X.env := assign_star h.1
    refine ⟨pgs_cons (pg_of C h.1) a (by rw [st]; rfl), by rw [st]; simp [b], ?_⟩
    rw [st, List.findIdx?_cons]
    simp [c]
theorem tg_of (C : CtxOk X T W sc) {tg : List Nat} {e : Expr} (h : chkTg X.N sc tg e = true) : PG X e (tgG X.K tg) := by
  unfold chkTg at h
  split at h
  · exact pg_of C h
  · rename_i hne
    split at h
    · obtain ⟨a, b, c⟩ := pgs_of C h
      have key : tgG X.K tg = gTup X.K tg.length (gNames tg) := by
        unfold tgG
        split
        · exact absurd rfl (hne _)
        · rfl
      rw [key]
      exact pg_tup C.calm a b c
    · cases h
/-! ### iterations -/
theorem mg_blt (C : CtxOk X T W sc) {x : Str} (h : x ∈ bltNames) : X.mg x = none := C.tab.blt x h
theorem fst_of {sc : Scope} {n : Str} {s : Str} (h : (n == s && glB sc n) = true) : n = s ∧ glB sc n = true := by
  simp only [Bool.and_eq_true, beq_iff_eq] at h
  exact h
theorem iter_of (C : CtxOk X T W sc) {k : IK} {tgt it : Expr} {as : List Expr} {cs : List CE} (h : iterArgs sc k tgt it = some as) (E : Each X T W cs as) : PI X tgt it (iterI X.K k (sems X.K T cs W).1) := by
  have one : ∀ {c e}, Each X T W [c] [e] → PE X e (sem X.K T c W).1 := fun z => by cases z with | cons p _ _ _ => exact p
  cases k
  case lst =>
    simp only [iterArgs, Option.some.injEq] at h
    subst h
    cases E with | cons p t s r => cases r; exact pi_list p
  case tup =>
    simp only [iterArgs, Option.some.injEq] at h
    subst h
    cases E with | cons p t s r => cases r; exact pi_tup p
  case str =>
    simp only [iterArgs, Option.some.injEq] at h
    subst h
    cases E with | cons p t s r => cases r; exact pi_str p
  case rng1 =>
    simp only [iterArgs] at h
    split at h
    · split at h
      · rename_i q
        obtain ⟨rfl, g⟩ := fst_of q
        cases h
        exact pi_range1 (C.sco.gl g).1 (mg_blt C (by decide)) E.pa (star_all E.sh)
      · cases h
    · cases h
  case rng2 =>
    simp only [iterArgs] at h
    split at h
    · split at h
      · rename_i q
        obtain ⟨rfl, g⟩ := fst_of q
        cases h
        refine pi_range2 (C.sco.gl g).1 (mg_blt C (by decide)) E.pa (star_all E.sh) (star_all fun z hz => E.sh z ?_)
        simp only [List.mem_singleton] at hz
        simp [hz]
      · cases h
    · cases h
  case enum =>
    simp only [iterArgs] at h
    split at h
    · split at h
      · rename_i q
        rw [Bool.and_eq_true] at q
        obtain ⟨rfl, g⟩ := fst_of q.1
        cases h
        cases tgt <;> first | exact pi_enum (C.sco.gl g).1 (mg_blt C (by decide)) E.pa (star_all E.sh) | (exact absurd q.2 Bool.false_ne_true)
      · cases h
    · cases h
  case zip =>
    simp only [iterArgs] at h
    split at h
    · split at h
      · rename_i q
        rw [Bool.and_eq_true] at q
        obtain ⟨rfl, g⟩ := fst_of q.1
        cases h
        cases tgt <;> first | exact pi_zip (C.sco.gl g).1 (mg_blt C (by decide)) E.pa ((E.sh _ (by simp)).star _ _) (plain_all fun z hz => E.sh z (by simp only [List.mem_singleton] at hz; simp [hz])) | (exact absurd q.2 Bool.false_ne_true)
      · cases h
    · cases h
  case rrg =>
    simp only [iterArgs] at h
    split at h
    · split at h
      · rename_i q
        rw [Bool.and_eq_true] at q
        obtain ⟨rfl, g⟩ := fst_of q.1
        obtain ⟨rfl, g2⟩ := fst_of q.2
        cases h
        cases E with | cons p t s r => cases r; exact pi_revR (C.sco.gl g).1 (mg_blt C (by decide)) (prg_1 (C.sco.gl g2).1 (mg_blt C (by decide)) p (s.star _ _))
      · cases h
    · cases h
  case rev =>
    simp only [iterArgs] at h
    split at h
    · split at h
      · rename_i q
        obtain ⟨rfl, g⟩ := fst_of q
        cases h
        exact pi_reversed (C.sco.gl g).1 (mg_blt C (by decide)) E.pa (star_all E.sh)
      · cases h
    · cases h
/-- what is walked is no written set -/
theorem fold_of {k : IK} {tgt it : Expr} {as : List Expr} (h : iterArgs sc k tgt it = some as) (hs : AllSh as) (env : Env) (x : Value) : foldedSetIterable it env x = pure x := by
  cases k <;> simp only [iterArgs] at h
  case lst => cases h; exact (hs _ (by simp)).fset _ _
  case tup => cases h; exact (hs _ (by simp)).fset _ _
  case str => cases h; exact (hs _ (by simp)).fset _ _
  all_goals
    split at h
    · rfl
    · cases h
end
end Rk

set_option Elab.async false
set_option linter.all false
set_option maxRecDepth 100000
set_option maxHeartbeats 4000000
namespace Rk
open PySem PySem.Spec PyProof.Rows L2
def Ok1 (X : Cx) (T : Tab) (W : WX) (c : CE) (e : Expr) : Prop := PE X e (sem X.K T c W).1 ∧ PT X e (sem X.K T c W).2 ∧ Shape e
section
variable {X : Cx} {T : Tab} {W : WX} {sc : Scope}
theorem ne_nil_of {α : Type} {l : List α} (h : (!l.isEmpty) = true) : l ≠ [] := fun e => by subst e; simp at h
theorem m1_of {o e : Expr} {m : Str} {ap p : Pos} (so : Shape o) (se : Shape e) (hl : (ap.endLine == p.line) = true) : M1 X o m ap e p := by
  have h1 : AllSh [e] := fun z hz => by simp only [List.mem_singleton] at hz; rw [hz]; exact se
  exact ⟨so.base _ _, few_all h1 (by show 1 < 30; decide), hl, back_all h1⟩
theorem m2_of {o e f : Expr} {m : Str} {ap p : Pos} (so : Shape o) (se : Shape e) (sf : Shape f) (hl : (ap.endLine == p.line) = true) : M2 X o m ap e f p := by
  have h1 : AllSh [e, f] := fun z hz => by
    simp only [List.mem_cons, List.not_mem_nil, or_false] at hz
    rcases hz with rfl | rfl
    · exact se
    · exact sf
  exact ⟨so.base _ _, few_all h1 (by show 2 < 30; decide), hl, back_all h1⟩
theorem Each.two {c1 c2 : CE} {e1 e2 : Expr} (a : Ok1 X T W c1 e1) (b : Ok1 X T W c2 e2) : Each X T W [c1, c2] [e1, e2] := .cons a.1 a.2.1 a.2.2 (.cons b.1 b.2.1 b.2.2 .nil)
theorem one_of {c : CE} {e : Expr} (h : Each X T W [c] [e]) : Ok1 X T W c e := by cases h with | cons p t s _ => exact ⟨p, t, s⟩
theorem chain_marks {op op2 : CmpOp} {b c : Expr} (sb : Shape b) (sc : Shape c) : lastMarks [op, op2] [b, c] = false := by
  show behindInMarks op2 c = false
  exact sc.bh _
/-- the built-in functions -/
theorem blt_fn (C : CtxOk X T W sc) {b : Blt} {e : Expr} {es : List Expr} {p pos : Pos} {t : TA} (hg : glB sc (bltName b) = true) (ha : PA X (e :: es) t) (hs : AllSh (e :: es)) : PE X (.Call (.Name (bltName b) p) (e :: es) [] pos) (tCB (bltR X.K b) t) := by
  have s1 := (hs e (by simp)).star es X.env
  have s2 : (backTo pos (starEach es X.env)).any (·.1) = false := plain_all fun z hz => hs z (by simp [hz])
  have g := (C.sco.gl hg).1
  have nb : ∀ x ∈ bltNames, X.mg x = none := C.tab.blt
  cases b
  case len => exact pe_callB (orCall call_len len_dict) g (nb _ (by decide)) PySem.boot_len ha (by decide) (by decide) s1 s2
  case lstOf => exact pe_callTy call_list_of g (nb _ (by decide)) (by decide +kernel) ha (by decide) (by decide) s1 s2
  case tupOf => exact pe_callTy call_tuple_of g (nb _ (by decide)) (by decide +kernel) ha (by decide) (by decide) s1 s2
  case intOf => exact pe_callTy call_int1 g (nb _ (by decide)) (by decide +kernel) ha (by decide) (by decide) s1 s2
  case strI => exact pe_callTy call_str_int g (nb _ (by decide)) (by decide +kernel) ha (by decide) (by decide) s1 s2
  case sum => exact pe_callB (cr_sum C.calm) g (nb _ (by decide)) (by decide +kernel) ha (by decide) (by decide) s1 s2
  case max2 => exact pe_callB (call_max2 C.calm) g (nb _ (by decide)) (by decide +kernel) ha (by decide) (by decide) s1 s2
  case min2 => exact pe_callB (call_min2 C.calm) g (nb _ (by decide)) (by decide +kernel) ha (by decide) (by decide) s1 s2
  case all => exact pe_callB (cr_all C.calm) g (nb _ (by decide)) (by decide +kernel) ha (by decide) (by decide) s1 s2
  case any => exact pe_callB (cr_any C.calm) g (nb _ (by decide)) (by decide +kernel) ha (by decide) (by decide) s1 s2
  case sortD => exact pe_callB (cr_sortedD C.calm) g (nb _ (by decide)) (by decide +kernel) ha (by decide) (by decide) s1 s2
  case sortI => exact pe_callB cr_sortedI g (nb _ (by decide)) (by decide +kernel) ha (by decide) (by decide) s1 s2
theorem isi_fn (C : CtxOk X T W sc) {a : Expr} {ta : TE} {p p2 pos : Pos} {ty : String} (hg : glB sc "isinstance" = true) (hg2 : Gl X (Str.ofString ty)) (hm2 : X.mg (Str.ofString ty) = none) (hv : bootBuiltins (Str.ofString ty) = some (.type ty)) (hn : Str.ofString ty ≠ "__name__") (hd : (Str.ofString ty == ("__debug__" : Str)) = false)
    (ha : PE X a ta) (sa : Shape a) : PE X (.Call (.Name "isinstance" p) [a, .Name (Str.ofString ty) p2] [] pos) (tIsi X.K ta ty) := by
  have pb : PE X (.Name (Str.ofString ty) p2) (tC (.ty ty)) := pe_bltn (v := .ty ty) hg2 hm2 hv rfl hn hd
  have hs : AllSh [a, .Name (Str.ofString ty) p2] := fun z hz => by
    simp only [List.mem_cons, List.not_mem_nil, or_false] at hz
    rcases hz with rfl | rfl
    · exact sa
    · exact sh_name
  exact pe_callB (X := X) (pos := pos) (p := p) call_isi (C.sco.gl hg).1 (C.tab.blt _ (by decide)) (by decide +kernel) (pa_cons ha (pa_cons pb pa_nil (sh_name.star _ _)) (sa.star _ _)) (by decide) (by decide) (sa.star _ _) (plain_all fun z hz => hs z (by simp [hz]))
end
end Rk

set_option Elab.async false
set_option linter.all false
set_option maxRecDepth 100000
set_option maxHeartbeats 4000000
namespace Rk
open PySem PySem.Spec PyProof.Rows L2
theorem bm_fn {X : Cx} {T : Tab} {W : WX} {sc : Scope} (C : CtxOk X T W sc) {b : Bm} {o : Expr} {co : CE} {cs : List CE} {es : List Expr} {ap p : Pos} (ho : Ok1 X T W co o) (E : Each X T W cs es) (hn : cs.length = bmArgs b) (hp : (ap.endLine == p.line) = true) (hl : es.length < 30) :
    PE X (.Call (.Attribute o (bmName b) ap) es [] p) (eBm b (sem X.K T co W).1 (sems X.K T cs W).1 X.K) := by
  have so := ho.2.2
  have base : ∀ m, attributeBase o m X.env (eval o X.env) = eval o X.env := fun m => so.base m _
  have few : ((backTo p (starEach es X.env)).all (fun x => !x.1) && (backToKw p (keywordEach [] X.env)).all (fun x => x.1.isSome) && decide (es.length + ([] : List Keyword).length + (if ([] : List Keyword).isEmpty then 0 else 1) < 30)) = true := few_all E.sh hl
  have one : ∀ {n : Nat}, cs.length = n + 1 → ∃ e r, es = e :: r ∧ starEach (e :: r) X.env = (false, eval e X.env) :: starEach r X.env ∧ (backTo p (starEach r X.env)).any (·.1) = false := fun {n} q => by
    cases E with
    | nil => cases q
    | cons p1 t1 s1 r1 => exact ⟨_, _, rfl, s1.star _ _, plain_all r1.sh⟩
  have zero : cs.length = 0 → es = [] ∧ cs = [] := fun q => by
    cases E with
    | nil => exact ⟨rfl, rfl⟩
    | cons _ _ _ _ => cases q
  cases b
  case append =>
    obtain ⟨e, r, rfl, s1, s2⟩ := one hn
    exact pe_bm PySem.F.plainAttrs_list PySem.F.slot_list_append PySem.F.type_list_append mt_append ho.1 E.pa (base _) few hp s1 s2
  case clear =>
    obtain ⟨rfl, rfl⟩ := zero hn
    exact pe_bm0 PySem.F.plainAttrs_list PySem.F.slot_list_clear PySem.F.type_list_clear mt_clear ho.1 (base _) hp
  case pop0 =>
    obtain ⟨rfl, rfl⟩ := zero hn
    exact pe_bm0 PySem.F.plainAttrs_list PySem.F.slot_list_pop PySem.F.type_list_pop mt_pop ho.1 (base _) hp
  case pop1 =>
    obtain ⟨e, r, rfl, s1, s2⟩ := one hn
    exact pe_bm PySem.F.plainAttrs_list PySem.F.slot_list_pop PySem.F.type_list_pop mt_popAt ho.1 E.pa (base _) few hp s1 s2
  case removeI =>
    obtain ⟨e, r, rfl, s1, s2⟩ := one hn
    exact pe_bm PySem.F.plainAttrs_list PySem.F.slot_list_remove PySem.F.type_list_remove mt_remove ho.1 E.pa (base _) few hp s1 s2
  case reverse =>
    obtain ⟨rfl, rfl⟩ := zero hn
    exact pe_bm0 PySem.F.plainAttrs_list PySem.F.slot_list_reverse PySem.F.type_list_reverse mt_reverse ho.1 (base _) hp
  case extend =>
    obtain ⟨e, r, rfl, s1, s2⟩ := one hn
    exact pe_bm PySem.F.plainAttrs_list PySem.F.slot_list_extend PySem.F.type_list_extend mt_extend ho.1 E.pa (base _) few hp s1 s2
  case insert =>
    obtain ⟨e, r, rfl, s1, s2⟩ := one hn
    exact pe_bm PySem.F.plainAttrs_list PySem.F.slot_list_insert PySem.F.type_list_insert mt_insert ho.1 E.pa (base _) few hp s1 s2
  all_goals exact pe_no
theorem ok_tru {X : Cx} {e : Expr} {te : TE} (p : PE X e te) (hs : Shape e) (he : ∀ whole, isTrue e X.env whole = (do let v ← whole; standAt e.pos; holding [v] (truthy v)) := by intro _; rfl) : PE X e te ∧ PT X e (tTru X.K te) ∧ Shape e := ⟨p, pt_truth p he, hs⟩
mutual
theorem snd (T : Tab) : ∀ (c : CE) (X : Cx) (W : WX) (sc : Scope) (e : Expr), CtxOk X T W sc → chkE X.N c sc e = true → Ok1 X T W c e
  | .var i, X, W, sc, e, C, h => by
    simp only [chkE] at h
    split at h
    · simp only [Bool.and_eq_true, decide_eq_true_eq, Bool.not_eq_true'] at h
      exact ok_tru (pe_var (X := X) h.1.1.1 (C.sco.vis h.1.1.2) h.1.2 h.2) sh_name
    · cases h
  | .mov i, X, W, sc, e, C, h => by
    simp only [chkE] at h
    split at h
    · simp only [Bool.and_eq_true, decide_eq_true_eq, Bool.not_eq_true'] at h
      exact ok_tru (pe_var (X := X) h.1.1.1 (C.sco.vis h.1.1.2) h.1.2 h.2) sh_name
    · cases h
  | .frz n a, X, W, sc, e, C, h => by
    simp only [chkE] at h
    exact snd T a X W sc e C h
  | .int n, X, W, sc, e, C, h => by
    simp only [chkE] at h
    split at h
    · simp only [decide_eq_true_eq] at h
      subst h
      exact ⟨pe_int, tru_pt pe_int, sh_con⟩
    · cases h
  | .str x, X, W, sc, e, C, h => by
    simp only [chkE] at h
    split at h
    · simp only [decide_eq_true_eq] at h
      subst h
      exact ⟨pe_str, tru_pt pe_str, sh_con⟩
    · cases h
  | .non, X, W, sc, e, C, h => by
    simp only [chkE] at h
    split at h
    · exact ⟨pe_non, tru_pt pe_non, sh_con⟩
    · cases h
  | .bl b, X, W, sc, e, C, h => by
    simp only [chkE] at h
    split at h
    · simp only [decide_eq_true_eq] at h
      subst h
      exact ⟨pe_bl, tru_pt pe_bl, sh_con⟩
    · cases h
  | .nop, X, W, sc, e, C, h => by
    simp only [chkE] at h
    cases h
  | .con x _, X, W, sc, e, C, h => by
    simp only [chkE] at h
    split at h
    · simp only [Bool.and_eq_true, decide_eq_true_eq] at h
      obtain ⟨rfl, h⟩ := h
      unfold Ok1
      simp only [sem]
      cases hc : T.con x with
      | none => exact ⟨pe_no, pt_no, sh_name⟩
      | some v =>
        obtain ⟨u, h1, h2⟩ := C.tab.con x v hc
        exact ok_tru (pe_glob (X := X) (C.sco.gl h).1 h1 h2 (C.sco.gl h).2.1) sh_name
    · cases h
  | .bin op a b, X, W, sc, e, C, h => by
    simp only [chkE] at h
    split at h
    · simp only [Bool.and_eq_true, decide_eq_true_eq] at h
      obtain ⟨⟨rfl, ha⟩, hb⟩ := h
      exact ok_tru (pe_op (X := X) (bin_ok op) (snd T a X W sc _ C ha).1 (snd T b X W sc _ C hb).1) sh_bin
    · cases h
  | .cat op a b, X, W, sc, e, C, h => by
    simp only [chkE] at h
    split at h
    · simp only [Bool.and_eq_true, decide_eq_true_eq] at h
      obtain ⟨⟨rfl, ha⟩, hb⟩ := h
      exact ok_tru (pe_op (X := X) (bin_ok op) (snd T a X W sc _ C ha).1 (snd T b X W sc _ C hb).1) sh_bin
    · cases h
  | .neg a, X, W, sc, e, C, h => by
    simp only [chkE] at h
    split at h
    · exact ⟨(pe_un un_neg (snd T a X W sc _ C h).1 : PE X _ (tUn (rU fun i => .int (-i)) (sem X.K T a W).1)), pt_no, sh_un⟩
    · cases h
  | .cmp op a b, X, W, sc, e, C, h => by
    simp only [chkE] at h
    split at h
    · simp only [Bool.and_eq_true, decide_eq_true_eq] at h
      obtain ⟨⟨rfl, ha⟩, hb⟩ := h
      have pa := snd T a X W sc _ C ha
      have pb := snd T b X W sc _ C hb
      exact ⟨pe_cmpR (cmp_ok C op) pa.1 pb.1 (pb.2.2.bh _), pt_cmpR (cmp_ok C op) pa.1 pb.1 (pb.2.2.bh _), sh_cmp⟩
    · cases h
  | .chn op op2 a b c, X, W, sc, e, C, h => by
    simp only [chkE] at h
    split at h
    · simp only [Bool.and_eq_true, decide_eq_true_eq] at h
      obtain ⟨⟨⟨⟨rfl, rfl⟩, ha⟩, hb⟩, hc⟩ := h
      have pa := snd T a X W sc _ C ha
      have pb := snd T b X W sc _ C hb
      have pc := snd T c X W sc _ C hc
      exact ⟨pe_chain (cmp_ok C op) (cmp_ok C op2) pa.1 pb.1 pc.1 (chain_marks pb.2.2 pc.2.2), pt_chain (cmp_ok C op) (cmp_ok C op2) pa.1 pb.1 pc.1 (chain_marks pb.2.2 pc.2.2), sh_cmp⟩
    · cases h
  | .and es, X, W, sc, e, C, h => by
    simp only [chkE] at h
    split at h
    · simp only [Bool.and_eq_true] at h
      have E := snds T es X W sc _ C h.2
      exact ⟨(E.andV (ne_nil_of h.1)).1, (E.andV (ne_nil_of h.1)).2.1, sh_bop⟩
    · cases h
  | .or es, X, W, sc, e, C, h => by
    simp only [chkE] at h
    split at h
    · simp only [Bool.and_eq_true] at h
      have E := snds T es X W sc _ C h.2
      exact ⟨(E.orV (ne_nil_of h.1)).1, (E.orV (ne_nil_of h.1)).2.1, sh_bop⟩
    · cases h
  | .not a, X, W, sc, e, C, h => by
    simp only [chkE] at h
    split at h
    · have pa := snd T a X W sc _ C h
      exact ⟨pe_not pa.1, pt_not pa.2.1, sh_un⟩
    · cases h
  | .tup es, X, W, sc, e, C, h => by
    simp only [chkE] at h
    split at h
    · exact ok_tru (pe_tup (X := X) (snds T es X W sc _ C h).pa) sh_tup
    · cases h
  | .lst es, X, W, sc, e, C, h => by
    simp only [chkE] at h
    split at h
    · exact ok_tru (pe_lst (X := X) (snds T es X W sc _ C h).pa) sh_lst
    · cases h
  | .dct tk, X, W, sc, e, C, h => by
    simp only [chkE] at h
    split at h
    · cases tk
      · exact ⟨pe_dnewK, pt_no, sh_dct⟩
      · exact ⟨pe_dnewT, pt_no, sh_dct⟩
    · cases h
  | .ix a i, X, W, sc, e, C, h => by
    simp only [chkE] at h
    split at h
    · simp only [Bool.and_eq_true] at h
      have pi := snd T i X W sc _ C h.2
      exact ok_tru (pe_ix (X := X) ix_seq (snd T a X W sc _ C h.1).1 pi.1 pi.2.2.nosl) sh_sub
    · cases h
  | .dix a i, X, W, sc, e, C, h => by
    simp only [chkE] at h
    split at h
    · simp only [Bool.and_eq_true] at h
      have pi := snd T i X W sc _ C h.2
      exact ok_tru (pe_dget (X := X) C.hu1 (snd T a X W sc _ C h.1).1 pi.1 pi.2.2.nosl) sh_sub
    · cases h
  | .din neg a d, X, W, sc, e, C, h => by
    simp only [chkE] at h
    split at h
    · simp only [Bool.and_eq_true, decide_eq_true_eq] at h
      obtain ⟨⟨rfl, ha⟩, hd⟩ := h
      have pa := snd T a X W sc _ C ha
      have pd := snd T d X W sc _ C hd
      cases neg
      · exact ⟨pe_cmp (pc_din C.hu1 pa.1 pd.1) (pd.2.2.bh _), pt_cmp (pc_din C.hu1 pa.1 pd.1) (pd.2.2.bh _), sh_cmp⟩
      · exact ⟨pe_cmp (pc_dnotin C.hu1 pa.1 pd.1) (pd.2.2.bh _), pt_cmp (pc_dnotin C.hu1 pa.1 pd.1) (pd.2.2.bh _), sh_cmp⟩
    · cases h
  | .sl a lo hi, X, W, sc, e, C, h => by
    simp only [chkE] at h
    split at h
    · rename_i a' lo' hi' pp pp2
      simp only [Bool.and_eq_true] at h
      have part : ∀ (q : CE) (q' : Option Expr), (∀ e', chkE X.N q sc e' = true → Ok1 X T W q e') → (match q' with | none => isNop q | some e => chkE X.N q sc e) = true → PO X q' (poOf q (sem X.K T q W).1) := by
        intro q q' ih hq
        cases q' with
        | none =>
          cases q <;> first | exact po_none | (exact absurd hq Bool.false_ne_true)
        | some e' =>
          have z := ih e' hq
          cases q <;> first | exact po_some z.1 | (exact absurd hq (by simp [chkE]))
      exact ok_tru (pe_slice (X := X) (sl_list.or (sl_tupA.or sl_str)) (snd T a X W sc _ C h.1.1).1 (part lo lo' (fun e' he => snd T lo X W sc e' C he) h.1.2) (part hi hi' (fun e' he => snd T hi X W sc e' C he) h.2)) sh_sub
    · cases h
  | .fld a f, X, W, sc, e, C, h => by
    simp only [chkE] at h
    split at h
    · simp only [Bool.and_eq_true, decide_eq_true_eq] at h
      obtain ⟨rfl, ha⟩ := h
      have pa := snd T a X W sc _ C ha
      exact ok_tru (pe_fld (X := X) (f := f) pa.1 (pa.2.2.base _ _)) sh_att
    · cases h
  | .call x _ es, X, W, sc, e, C, h => by
    simp only [chkE] at h
    split at h
    · simp only [Bool.and_eq_true, decide_eq_true_eq] at h
      obtain ⟨⟨⟨rfl, hg⟩, hne⟩, hes⟩ := h
      have E := snds T es X W sc _ C hes
      unfold Ok1
      simp only [sem]
      cases E with
      | nil => exact absurd rfl (ne_nil_of hne)
      | cons p1 t1 s1 r =>
        cases hc : T.fn x with
        | none => exact ⟨pe_no, pt_no, sh_calln1⟩
        | some sp =>
          obtain ⟨f, fd, ps, k, h1, F, h2, hb, hr⟩ := C.tab.fn x sp hc
          have E : Each X T W (_ :: _) (_ :: _) := .cons p1 t1 s1 r
          exact ok_tru (pe_callS (X := X) (E := WE W) F hr (C.sco.gl hg).1 h1 h2 hb (fun σ => passAt C.tk σ) E.pa (C.sco.gl hg).2.1 (s1.star _ _) (plain_all r.sh)) sh_calln1
    · cases h
  | .make x _ es, X, W, sc, e, C, h => by
    simp only [chkE] at h
    split at h
    · simp only [Bool.and_eq_true, decide_eq_true_eq] at h
      obtain ⟨⟨⟨rfl, hg⟩, hne⟩, hes⟩ := h
      have E := snds T es X W sc _ C hes
      unfold Ok1
      simp only [sem]
      cases E with
      | nil => exact absurd rfl (ne_nil_of hne)
      | cons p1 t1 s1 r =>
        cases hc : T.cls x with
        | none => exact ⟨pe_no, pt_no, sh_calln1⟩
        | some cs =>
          obtain ⟨Ca, sp⟩ := cs
          obtain ⟨f, fd, ps, k, h1, M, F, hb, hr⟩ := C.tab.cls x Ca sp hc
          have E : Each X T W (_ :: _) (_ :: _) := .cons p1 t1 s1 r
          exact ⟨pe_makeX (X := X) M F hr (C.sco.gl hg).1 h1 hb C.tk E.pa E.sh (C.sco.gl hg).2.1, pt_no, sh_calln1⟩
    · cases h
  | .callP _ x _ es, X, W, sc, e, C, h => by
    simp only [chkE] at h
    split at h
    · simp only [Bool.and_eq_true, decide_eq_true_eq] at h
      obtain ⟨⟨⟨rfl, hg⟩, hne⟩, hes⟩ := h
      have E := snds T es X W sc _ C hes
      unfold Ok1
      simp only [sem]
      cases E with
      | nil => exact absurd rfl (ne_nil_of hne)
      | cons p1 t1 s1 r =>
        cases hc : T.fn x with
        | none => exact ⟨pe_no, pt_no, sh_calln1⟩
        | some sp =>
          obtain ⟨f, fd, ps, k, h1, F, h2, hb, hr⟩ := C.tab.fn x sp hc
          have E : Each X T W (_ :: _) (_ :: _) := .cons p1 t1 s1 r
          exact ok_tru (pe_callS (X := X) (E := WE W) F hr (C.sco.gl hg).1 h1 h2 hb (fun σ => passAt C.tk σ) E.pa (C.sco.gl hg).2.1 (s1.star _ _) (plain_all r.sh)) sh_calln1
    · cases h
  | .makeP _ x _ es, X, W, sc, e, C, h => by
    simp only [chkE] at h
    split at h
    · simp only [Bool.and_eq_true, decide_eq_true_eq] at h
      obtain ⟨⟨⟨rfl, hg⟩, hne⟩, hes⟩ := h
      have E := snds T es X W sc _ C hes
      unfold Ok1
      simp only [sem]
      cases E with
      | nil => exact absurd rfl (ne_nil_of hne)
      | cons p1 t1 s1 r =>
        cases hc : T.cls x with
        | none => exact ⟨pe_no, pt_no, sh_calln1⟩
        | some cs =>
          obtain ⟨Ca, sp⟩ := cs
          obtain ⟨f, fd, ps, k, h1, M, F, hb, hr⟩ := C.tab.cls x Ca sp hc
          have E : Each X T W (_ :: _) (_ :: _) := .cons p1 t1 s1 r
          exact ⟨pe_makeX (X := X) M F hr (C.sco.gl hg).1 h1 hb C.tk E.pa E.sh (C.sco.gl hg).2.1, pt_no, sh_calln1⟩
    · cases h
  | .meth c o m _ es, X, W, sc, e, C, h => by
    simp only [chkE] at h
    split at h
    · simp only [Bool.and_eq_true, decide_eq_true_eq] at h
      obtain ⟨⟨⟨⟨rfl, hp⟩, hl⟩, ho⟩, hes⟩ := h
      have E := snds T es X W sc _ C hes
      have po := snd T o X W sc _ C ho
      unfold Ok1
      simp only [sem]
      cases hc : T.mth c m with
      | none => exact ⟨pe_no, pt_no, sh_calla⟩
      | some cs =>
        obtain ⟨Ca, sp⟩ := cs
        obtain ⟨f, fd, ps, k, h1, M, F, hb, hr⟩ := C.tab.mth c m Ca sp hc
        cases E with
        | nil =>
          exact ok_tru (pe_methX0 (X := X) po.1 po.2.2 h1 M F hr hb C.tk hp) sh_calla
        | cons p1 t1 s1 r =>
          have E : Each X T W (_ :: _) (_ :: _) := .cons p1 t1 s1 r
          exact ok_tru (pe_methX (X := X) po.1 po.2.2 h1 M F hr hb C.tk E.pa E.sh hl hp) sh_calla
    · cases h
  | .blt b es, X, W, sc, e, C, h => by
    simp only [chkE] at h
    split at h
    · simp only [Bool.and_eq_true, decide_eq_true_eq] at h
      obtain ⟨⟨⟨rfl, hg⟩, hne⟩, hes⟩ := h
      have E := snds T es X W sc _ C hes
      cases E with
      | nil => exact absurd rfl (ne_nil_of hne)
      | cons p1 t1 s1 r =>
        have E : Each X T W (_ :: _) (_ :: _) := .cons p1 t1 s1 r
        exact ok_tru (blt_fn C hg E.pa E.sh) sh_calln1
    · cases h
  | .lrg a, X, W, sc, e, C, h => by
    simp only [chkE] at h
    split at h
    · rw [Bool.and_eq_true, Bool.and_eq_true] at h
      obtain ⟨⟨q1, q2⟩, ha⟩ := h
      obtain ⟨rfl, g1⟩ := fst_of q1
      obtain ⟨rfl, g2⟩ := fst_of q2
      have pa := snd T a X W sc _ C ha
      exact ok_tru (pe_listRg (X := X) C.calm (C.sco.gl g1).1 (mg_blt C (by decide)) (prg_1 (C.sco.gl g2).1 (mg_blt C (by decide)) pa.1 (pa.2.2.star _ _))) sh_calln1
    · cases h
  | .lrv a, X, W, sc, e, C, h => by
    simp only [chkE] at h
    split at h
    · rw [Bool.and_eq_true, Bool.and_eq_true] at h
      obtain ⟨⟨q1, q2⟩, ha⟩ := h
      obtain ⟨rfl, g1⟩ := fst_of q1
      obtain ⟨rfl, g2⟩ := fst_of q2
      have pa := snd T a X W sc _ C ha
      exact ok_tru (RT.pe_lstRev (X := X) C.calm (C.sco.gl g1).1 (mg_blt C (by decide)) (C.sco.gl g2).1 (mg_blt C (by decide)) pa.1 (pa.2.2.star _ _)) sh_calln1
    · cases h
  | .isi a ty, X, W, sc, e, C, h => by
    simp only [chkE] at h
    split at h
    · simp only [Bool.and_eq_true, decide_eq_true_eq] at h
      obtain ⟨⟨⟨⟨⟨rfl, hg⟩, rfl⟩, hg2⟩, hm⟩, ha⟩ := h
      have pa := snd T a X W sc _ C ha
      exact ok_tru (isi_fn (ty := ty) C hg (C.sco.gl hg2).1 (by
        simp only [List.mem_cons, List.not_mem_nil, or_false] at hm
        rcases hm with rfl | rfl | rfl | rfl | rfl <;> exact C.tab.blt _ (by decide)) (by
        simp only [List.mem_cons, List.not_mem_nil, or_false] at hm
        rcases hm with rfl | rfl | rfl | rfl | rfl <;> decide +kernel) (C.sco.gl hg2).2.2 (C.sco.gl hg2).2.1 pa.1 pa.2.2) sh_calln1
    · cases h
  | .bm b o es, X, W, sc, e, C, h => by
    simp only [chkE] at h
    split at h
    · simp only [Bool.and_eq_true, decide_eq_true_eq] at h
      obtain ⟨⟨⟨⟨⟨rfl, hn⟩, hp⟩, hl⟩, ho⟩, hes⟩ := h
      exact ok_tru (bm_fn C (snd T o X W sc _ C ho) (snds T es X W sc _ C hes) hn hp hl) sh_calla
    · cases h
  | .dget1 d k, X, W, sc, e, C, h => by
    simp only [chkE] at h
    split at h
    · simp only [Bool.and_eq_true, decide_eq_true_eq] at h
      obtain ⟨⟨⟨rfl, hp⟩, hd⟩, hk⟩ := h
      have pd := snd T d X W sc _ C hd
      have pk := snd T k X W sc _ C hk
      exact ok_tru (pe_dget1 (X := X) C.hu1 pd.1 pk.1 (m1_of pd.2.2 pk.2.2 hp)) sh_calla
    · cases h
  | .dget2 d k x, X, W, sc, e, C, h => by
    simp only [chkE] at h
    split at h
    · simp only [Bool.and_eq_true, decide_eq_true_eq] at h
      obtain ⟨⟨⟨⟨rfl, hp⟩, hd⟩, hk⟩, hx⟩ := h
      have pd := snd T d X W sc _ C hd
      have pk := snd T k X W sc _ C hk
      have px := snd T x X W sc _ C hx
      exact ok_tru (pe_dget2 (X := X) C.hu1 pd.1 pk.1 px.1 (m2_of pd.2.2 pk.2.2 px.2.2 hp)) sh_calla
    · cases h
  | .dpop1 d k, X, W, sc, e, C, h => by
    simp only [chkE] at h
    split at h
    · simp only [Bool.and_eq_true, decide_eq_true_eq] at h
      obtain ⟨⟨⟨rfl, hp⟩, hd⟩, hk⟩ := h
      have pd := snd T d X W sc _ C hd
      have pk := snd T k X W sc _ C hk
      exact ok_tru (pe_dpop1 (X := X) pd.1 pk.1 (m1_of pd.2.2 pk.2.2 hp)) sh_calla
    · cases h
  | .lc elt tg k es cond, X, W, sc, e, C, h => by
    simp only [chkE] at h
    split at h
    · rename_i elt' gens scope pos
      split at h
      · rename_i t it ifs
        simp only [Bool.and_eq_true, decide_eq_true_eq] at h
        obtain ⟨⟨⟨⟨⟨hi, hb⟩, ht⟩, hc⟩, hcond⟩, helt⟩ := h
        split at hi
        · rename_i as has
          have E := snds T es X W sc _ C hi
          have ok := C.blkOk hb
          have hm : (tg.map fun i => (X.N.getD i Str.empty, i)).map (·.2) = tg := by rw [List.map_map]; exact List.map_id _
          refine ok_tru ?_ sh_lc
          have ht' : ∀ (s : Shared) (H : Hp) (A : Addr) (cl : List (Str × Addr)) (fp : List Addr), PTs (X.blk s H scope (compEnvC scope cl A X.env) fp) ifs (condT (sems X.K T cond W0).2) := fun s H A cl fp => by
            have E2 := snds T cond (X.blk s H scope (compEnvC scope cl A X.env) fp) W0 scope ifs (C.blk s H scope A cl fp) hcond
            match cond, ifs, E2, hc with
            | [], [], .nil, _ => exact pts_nil
            | [_], [_], .cons p2 t2 s2 .nil, _ => exact pts_one t2
            | _ :: _ :: _, _, .cons p2 t2 s2 (.cons _ _ _ _), hc => simp at hc
          have p := pe_lc (X := X) (pos := pos) (elt := elt') (tt := condT (sems X.K T cond W0).2) (te := (sem X.K T elt W0).1) (g := tgG X.K tg) C.calm C.nd (iter_of C has E) ok
            (fun s H A cl fp => tg_of (X := X.blk s H scope (compEnvC scope cl A X.env) fp) (C.blk s H scope A cl fp) ht) ht'
            (fun s H A cl fp => (snd T elt (X.blk s H scope (compEnvC scope cl A X.env) fp) W0 scope elt' (C.blk s H scope A cl fp) helt).1) (fold_of has E.sh _)
          rw [hm] at p
          exact p
        · cases hi
      · cases h
    · cases h
theorem snds (T : Tab) : ∀ (cs : List CE) (X : Cx) (W : WX) (sc : Scope) (es : List Expr), CtxOk X T W sc → chkEs X.N cs sc es = true → Each X T W cs es
  | [], X, W, sc, es, C, h => by
    cases es with
    | nil => exact .nil
    | cons _ _ => simp [chkEs] at h
  | c :: r, X, W, sc, es, C, h => by
    cases es with
    | nil => simp [chkEs] at h
    | cons e s =>
      simp only [chkEs, Bool.and_eq_true] at h
      have a := snd T c X W sc e C h.1
      exact .cons a.1 a.2.1 a.2.2 (snds T r X W sc s C h.2)
end
end Rk

set_option Elab.async false
set_option linter.all false
set_option maxRecDepth 100000
set_option maxHeartbeats 4000000
/-! RkSndQ: the suite of an except clause: what its expressions mean, the error known. -/
namespace Rk
open PySem PySem.Spec PyProof.Rows L2
/-- the same where slot i holds the error -/
def EqG {α : Type} (i : Nat) (a : Addr) (t' t : L2.St → α) : Prop := ∀ σ : L2.St, σ[i]? = some (some (.ref a)) → t' σ = t σ
section
variable {X : Cx} {T : Tab} {W : WX} {sc : Scope} {i : Nat} {a D0 : Addr} {oe : Obj} {pn : List (Addr × Obj)} {y : Str}
theorem pe_mono {X : Cx} {e : Expr} {t t' : TE} (h : PE X e t) (k : ∀ σ H Q, t' σ H Q → t σ H Q) : PE X e t' := ⟨fun pins s σ H Q I q => h.run pins s σ H Q I (k σ H Q q)⟩
theorem cmp_su (C : CtxOk X T W sc) (op : CmpOp) : OpR (X.suite a ((a, oe) :: pn)) (compareOp op) (cmpR X.K op) := by
  have h64 : (X.suite a ((a, oe) :: pn)).A.units + 64 < cLine := C.hu64
  have h65 : (X.suite a ((a, oe) :: pn)).A.units + 65 < cLine := C.hu65
  cases op
  case Eq => exact op_eq.or (op_eqD h64)
  case NotEq => exact op_ne.or (op_neD h64)
  case Lt => exact op_lt
  case LtE => exact op_le
  case Gt => exact op_gt
  case GtE => exact op_ge
  case Is => exact op_isN.or op_isBl
  case IsNot => exact op_notN.or op_notBl
  case In => exact op_in_seq.or (op_in_str.or (op_inD h65))
  case NotIn => exact op_notIn_seq.or (op_notIn_str.or (op_notInD h65))
/-- isinstance(e, C) -/
theorem is_su (C : CtxOk X T W sc) (htr : T.tr = true) (hy : T.exc y = some D0) (hz : Zc (.ref D0) none oe) (hf : ∃ vs, oe.data = .fields vs) {z : Str} {ty : String} (ho : okN T ty = true) (hi : X.N[i]? = some z) (hv : visB sc z = true)
    (hd : (z == ("__debug__" : Str)) = false) (hcd : (z == ("__classdict__" : Str)) = false) (hg : glB sc "isinstance" = true) (hg2 : glB sc (Str.ofString ty) = true) {p p2 p3 pos : Pos} :
    PE (X.suite a ((a, oe) :: pn)) (.Call (.Name "isinstance" p) [.Name z p2, .Name (Str.ofString ty) p3] [] pos) (fun σ H Q => σ[i]? = some (some (.ref a)) ∧ Q (.bl (isE y (Str.ofString ty))) H) := by
  obtain ⟨hm, hall⟩ := C.tab.isf htr
  obtain ⟨hE, hV, hO⟩ := hall y D0 hy
  have pv : PE (X.suite a ((a, oe) :: pn)) (.Name z p2) (tVar i) := pe_var (X := X.suite a ((a, oe) :: pn)) hi (C.sco.vis hv) hd hcd
  have hs : AllSh [Expr.Name z p2, .Name (Str.ofString ty) p3] := fun z hz => by
    simp only [List.mem_cons, List.not_mem_nil, or_false] at hz
    rcases hz with rfl | rfl <;> exact sh_name
  have mk : ∀ (c : V) (cv : Value), (∀ u, RelV c u → u = cv) → PE (X.suite a ((a, oe) :: pn)) (.Name (Str.ofString ty) p3) (tC c) → PySem.W.kitOne X.K (.ref D0) cv = some (isE y (Str.ofString ty)) →
      PE (X.suite a ((a, oe) :: pn)) (.Call (.Name "isinstance" p) [.Name z p2, .Name (Str.ofString ty) p3] [] pos) (fun σ H Q => σ[i]? = some (some (.ref a)) ∧ Q (.bl (isE y (Str.ofString ty))) H) := fun c cv h1 pc h2 =>
    pe_mono (pe_callB (X := X.suite a ((a, oe) :: pn)) (pos := pos) (p := p) (call_isE hE hz hf) (C.sco.gl hg).1 (C.tab.blt _ (by decide)) (by decide +kernel) (pa_cons pv (pa_cons pc pa_nil (sh_name.star _ _)) (sh_name.star _ _)) (by decide) (by decide) (sh_name.star _ _) (plain_all fun z hz => hs z (by simp [hz])))
      fun σ H Q ⟨g, q⟩ => ⟨.ref a, g, c, cv, _, rfl, h1, h2, q⟩
  by_cases hval : ty = "ValueError"
  · subst hval
    have e : isE y (Str.ofString "ValueError") = true := by
      have : (Str.ofString "ValueError" : Str) = ("ValueError" : Str) := by decide +kernel
      simp [isE, this]
    refine mk (.ty "ValueError") (.type "ValueError") (fun u hu => hu) (pe_bltn (X := X.suite a ((a, oe) :: pn)) (v := .ty "ValueError") (C.sco.gl hg2).1 ?_ (by decide +kernel) rfl (C.sco.gl hg2).2.2 (C.sco.gl hg2).2.1) (by rw [e]; exact hV)
    have : (Str.ofString "ValueError" : Str) = ("ValueError" : Str) := by decide +kernel
    show X.mg (Str.ofString "ValueError") = none
    rw [this]; exact hm
  · have h1 : (T.exc (Str.ofString ty)).isSome = true := by
      unfold okN at ho
      rw [Bool.or_eq_true] at ho
      rcases ho with ho | ho
      · exact absurd (of_decide_eq_true ho) hval
      · exact ho
    obtain ⟨D, hD⟩ := Option.isSome_iff_exists.mp h1
    exact mk (.ref D) (.ref D) (fun u hu => hu) (pe_glob (X := X.suite a ((a, oe) :: pn)) (C.sco.gl hg2).1 (C.tab.exc _ D hD).1 rfl (C.sco.gl hg2).2.1) (hO _ D hD)
/-- what is said of an expression -/
def OkQ (X : Cx) (T : Tab) (i : Nat) (a : Addr) (oe : Obj) (pn : List (Addr × Obj)) (y : Str) (c : CE) (e : Expr) : Prop :=
  ∃ t', PE (X.suite a ((a, oe) :: pn)) e t' ∧ EqG i a t' (sem X.K T (subE y c) W0).1 ∧ Shape e
inductive EachQ (X : Cx) (T : Tab) (i : Nat) (a : Addr) (oe : Obj) (pn : List (Addr × Obj)) (y : Str) : List CE → List Expr → Prop
  | nil : EachQ X T i a oe pn y [] []
  | cons {c e cs es} : OkQ X T i a oe pn y c e → EachQ X T i a oe pn y cs es → EachQ X T i a oe pn y (c :: cs) (e :: es)
theorem EachQ.pa {cs : List CE} {es : List Expr} (h : EachQ X T i a oe pn y cs es) : ∃ t' : TA, PA (X.suite a ((a, oe) :: pn)) es t' ∧ EqG i a t' (taOf (sems X.K T (subEs y cs) W0).1) := by
  induction h with
  | nil => exact ⟨tNil, pa_nil, fun _ _ => rfl⟩
  | cons h _ ih =>
    obtain ⟨t1, p1, q1, s1⟩ := h
    obtain ⟨t2, p2, q2⟩ := ih
    refine ⟨tCons t1 t2, pa_cons p1 p2 (s1.star _ _), fun σ g => ?_⟩
    show (fun (H : Hp) (Q : List V → Hp → Prop) => t1 σ H fun x H1 => t2 σ H1 fun xs H2 => Q (x :: xs) H2) = _
    rw [q1 σ g, q2 σ g]
    rfl
theorem EachQ.orV {pos : Pos} : ∀ {cs : List CE} {es : List Expr}, EachQ X T i a oe pn y cs es → cs ≠ [] → ∃ t' : TE, PE (X.suite a ((a, oe) :: pn)) (.BoolOp .Or es pos) t' ∧ EqG i a t' (semOrV (sems X.K T (subEs y cs) W0).1)
  | _, _, .nil, h => absurd rfl h
  | _, _, .cons ⟨t1, p1, q1, s1⟩ .nil, _ => ⟨t1, pe_one p1, q1⟩
  | _, _, .cons ⟨t1, p1, q1, s1⟩ (.cons h2 r), _ => by
    obtain ⟨t2, p2, q2⟩ := EachQ.orV (pos := pos) (.cons h2 r) (by simp)
    refine ⟨tOrV t1 t2, pe_or p1 p2, fun σ g => ?_⟩
    show (fun (H : Hp) (Q : VK) => t1 σ H fun x H1 => ∃ c, x = .bl c ∧ if c = true then Q (.bl true) H1 else t2 σ H1 Q) = _
    rw [q1 σ g, q2 σ g]
    rfl
mutual
theorem sndQ (C : CtxOk X T W sc) (htr : T.tr = true) (hy : T.exc y = some D0) (hz : Zc (.ref D0) none oe) (hf : ∃ vs, oe.data = .fields vs) : ∀ (c : CE) (e : Expr), (isiE c).all (okN T) = true → chkQ X.N i sc c e = true → OkQ X T i a oe pn y c e
  | .var k, e, ho, h => by
    simp only [chkQ] at h
    split at h
    · simp only [Bool.and_eq_true, decide_eq_true_eq, Bool.not_eq_true'] at h
      exact ⟨_, pe_var (X := X.suite a ((a, oe) :: pn)) h.1.1.1 (C.sco.vis h.1.1.2) h.1.2 h.2, fun _ _ => rfl, sh_name⟩
    · cases h
  | .frz n c, e, ho, h => by
    simp only [chkQ] at h
    exact sndQ C htr hy hz hf c e ho h
  | .bl b, e, ho, h => by
    simp only [chkQ] at h
    split at h
    · simp only [decide_eq_true_eq] at h
      subst h
      exact ⟨_, pe_bl, fun _ _ => rfl, sh_con⟩
    · cases h
  | .or es, e, ho, h => by
    simp only [chkQ] at h
    split at h
    · simp only [Bool.and_eq_true] at h
      obtain ⟨t', p, q⟩ := (sndQs C htr hy hz hf es _ ho h.2).orV (ne_nil_of h.1)
      exact ⟨t', p, q, sh_bop⟩
    · cases h
  | .tup es, e, ho, h => by
    simp only [chkQ] at h
    split at h
    · obtain ⟨t', p, q⟩ := (sndQs C htr hy hz hf es _ ho h).pa
      refine ⟨_, pe_tup (X := X.suite a ((a, oe) :: pn)) p, fun σ g => ?_, sh_tup⟩
      show (fun (H : Hp) (Q : VK) => t' σ H fun xs H1 => xs.length ≤ sizeLine ∧ ∀ p, H1 p = none → Q (.ref p) (upd H1 p (.tup xs))) = _
      rw [q σ g]; rfl
    · cases h
  | .lst es, e, ho, h => by
    simp only [chkQ] at h
    split at h
    · obtain ⟨t', p, q⟩ := (sndQs C htr hy hz hf es _ ho h).pa
      refine ⟨_, pe_lst (X := X.suite a ((a, oe) :: pn)) p, fun σ g => ?_, sh_lst⟩
      show (fun (H : Hp) (Q : VK) => t' σ H fun xs H1 => xs.length ≤ sizeLine ∧ ∀ p, H1 p = none → Q (.ref p) (upd H1 p (.lst xs))) = _
      rw [q σ g]; rfl
    · cases h
  | .cat op c d, e, ho, h => by
    simp only [chkQ] at h
    split at h
    · simp only [Bool.and_eq_true, decide_eq_true_eq] at h
      obtain ⟨⟨rfl, ha⟩, hb⟩ := h
      simp only [isiE, List.all_append, Bool.and_eq_true] at ho
      obtain ⟨t1, p1, q1, s1⟩ := sndQ C htr hy hz hf c _ ho.1 ha
      obtain ⟨t2, p2, q2, s2⟩ := sndQ C htr hy hz hf d _ ho.2 hb
      refine ⟨_, pe_op (X := X.suite a ((a, oe) :: pn)) (bin_ok op) p1 p2, fun σ g => ?_, sh_bin⟩
      show (fun (H : Hp) (Q : VK) => t1 σ H fun x H1 => t2 σ H1 fun y H2 => binR X.K op x y H2 Q) = _
      rw [q1 σ g, q2 σ g]; rfl
    · cases h
  | .cmp op c d, e, ho, h => by
    simp only [chkQ] at h
    split at h
    · simp only [Bool.and_eq_true, decide_eq_true_eq] at h
      obtain ⟨⟨rfl, ha⟩, hb⟩ := h
      simp only [isiE, List.all_append, Bool.and_eq_true] at ho
      obtain ⟨t1, p1, q1, s1⟩ := sndQ C htr hy hz hf c _ ho.1 ha
      obtain ⟨t2, p2, q2, s2⟩ := sndQ C htr hy hz hf d _ ho.2 hb
      refine ⟨_, pe_cmpR (X := X.suite a ((a, oe) :: pn)) (cmp_su C op) p1 p2 (s2.bh _), fun σ g => ?_, sh_cmp⟩
      show (fun (H : Hp) (Q : VK) => t1 σ H fun x H1 => t2 σ H1 fun y H2 => cmpR X.K op x y H2 Q) = _
      rw [q1 σ g, q2 σ g]; rfl
    · cases h
  | .isi c ty, e, ho, h => by
    simp only [chkQ] at h
    split at h
    · simp only [Bool.and_eq_true, decide_eq_true_eq, Bool.not_eq_true'] at h
      obtain ⟨⟨⟨⟨⟨⟨⟨⟨hc, hi⟩, hv⟩, hd⟩, hcd⟩, rfl⟩, hg⟩, rfl⟩, hg2⟩ := h
      refine ⟨_, is_su C htr hy hz hf (by simpa [isiE] using ho) hi hv hd hcd hg hg2, fun σ g => ?_, sh_calln1⟩
      funext H Q
      exact propext ⟨fun z => z.2, fun z => ⟨g, z⟩⟩
    · cases h
  | .mov _, e, ho, h => by simp [chkQ] at h
  | .int _, e, ho, h => by simp [chkQ] at h
  | .str _, e, ho, h => by simp [chkQ] at h
  | .non, e, ho, h => by simp [chkQ] at h
  | .nop, e, ho, h => by simp [chkQ] at h
  | .con _ _, e, ho, h => by simp [chkQ] at h
  | .bin _ _ _, e, ho, h => by simp [chkQ] at h
  | .neg _, e, ho, h => by simp [chkQ] at h
  | .chn _ _ _ _ _, e, ho, h => by simp [chkQ] at h
  | .and _, e, ho, h => by simp [chkQ] at h
  | .not _, e, ho, h => by simp [chkQ] at h
  | .dct _, e, ho, h => by simp [chkQ] at h
  | .ix _ _, e, ho, h => by simp [chkQ] at h
  | .dix _ _, e, ho, h => by simp [chkQ] at h
  | .din _ _ _, e, ho, h => by simp [chkQ] at h
  | .sl _ _ _, e, ho, h => by simp [chkQ] at h
  | .fld _ _, e, ho, h => by simp [chkQ] at h
  | .call _ _ _, e, ho, h => by simp [chkQ] at h
  | .make _ _ _, e, ho, h => by simp [chkQ] at h
  | .callP _ _ _ _, e, ho, h => by simp [chkQ] at h
  | .makeP _ _ _ _, e, ho, h => by simp [chkQ] at h
  | .meth _ _ _ _ _, e, ho, h => by simp [chkQ] at h
  | .blt _ _, e, ho, h => by simp [chkQ] at h
  | .bm _ _ _, e, ho, h => by simp [chkQ] at h
  | .dget1 _ _, e, ho, h => by simp [chkQ] at h
  | .dget2 _ _ _, e, ho, h => by simp [chkQ] at h
  | .dpop1 _ _, e, ho, h => by simp [chkQ] at h
  | .lrg _, e, ho, h => by simp [chkQ] at h
  | .lrv _, e, ho, h => by simp [chkQ] at h
  | .lc _ _ _ _ _, e, ho, h => by simp [chkQ] at h
theorem sndQs (C : CtxOk X T W sc) (htr : T.tr = true) (hy : T.exc y = some D0) (hz : Zc (.ref D0) none oe) (hf : ∃ vs, oe.data = .fields vs) : ∀ (cs : List CE) (es : List Expr), (isiEs cs).all (okN T) = true → chkQs X.N i sc cs es = true → EachQ X T i a oe pn y cs es
  | [], es, ho, h => by
    cases es with
    | nil => exact .nil
    | cons _ _ => simp [chkQs] at h
  | c :: r, es, ho, h => by
    cases es with
    | nil => simp [chkQs] at h
    | cons e s =>
      simp only [chkQs, Bool.and_eq_true] at h
      simp only [isiEs, List.all_append, Bool.and_eq_true] at ho
      exact .cons (sndQ C htr hy hz hf c e ho.1 h.1) (sndQs C htr hy hz hf r s ho.2 h.2)
end
/-- the whole suite -/
theorem sndSu (C : CtxOk X T W sc) (htr : T.tr = true) (hy : T.exc y = some D0) (hz : Zc (.ref D0) none oe) (hf : ∃ vs, oe.data = .fields vs) : ∀ (su : List (Nat × CE)) (es : List Stmt), okSu T su = true → chkSu X.N i sc su es = true →
    ∃ t' : TS, PSs (X.suite a ((a, oe) :: pn)) es t' ∧ ∀ D σ, σ[i]? = some (some (.ref a)) → t' D σ = suS X.K T y su D σ
  | [], es, ho, h => by
    cases es with
    | nil => exact ⟨tNext, pss_nil, fun _ _ _ => rfl⟩
    | cons _ _ => simp [chkSu] at h
  | (j, c) :: r, es, ho, h => by
    cases es with
    | nil => simp [chkSu] at h
    | cons e s =>
      simp only [chkSu, Bool.and_eq_true] at h
      obtain ⟨h1, h2⟩ := h
      simp only [okSu, List.all_cons, Bool.and_eq_true] at ho
      split at h1
      · simp only [Bool.and_eq_true, decide_eq_true_eq] at h1
        obtain ⟨⟨⟨⟨hj, hji⟩, hl⟩, hnl⟩, hq⟩ := h1
        obtain ⟨t1, p1, q1, s1⟩ := sndQ C htr hy hz hf c _ ho.1 hq
        obtain ⟨t2, p2, q2⟩ := sndSu C htr hy hz hf r s ho.2 h2
        have lx := C.sco.lc hl
        rename_i x px v pos2
        have ps : PS (X.suite a ((a, oe) :: pn)) (.Assign [.Name x px] v pos2) (tAsg t1 (gName j)) := ps_set (X := X.suite a ((a, oe) :: pn)) C.nd hj lx.1 p1 (s1.sw (fun a b c d e => by rw [e] at hnl; simp [isLc] at hnl) _ _ _) lx.2
        refine ⟨tSeq (tAsg t1 (gName j)) t2, pss_cons ps p2, fun D σ g => ?_⟩
        have hset : ∀ v : V, (σ.set j (some v))[i]? = some (some (.ref a)) := fun v => by rw [List.getElem?_set_ne hji]; exact g
        have e1 : tSeq (tAsg t1 (gName j)) t2 D σ = tSeq (tAsg (sem X.K T (subE y c) W0).1 (gName j)) (suS X.K T y r) D σ := by
          show (fun (H : Hp) => t1 σ H fun x H1 => t2 D (σ.set j (some x)) H1) = fun (H : Hp) => (sem X.K T (subE y c) W0).1 σ H fun x H1 => suS X.K T y r D (σ.set j (some x)) H1
          rw [q1 σ g]
          funext H
          refine congrArg _ (funext fun x => funext fun H1 => ?_)
          rw [q2 D _ (hset x)]
        rw [e1]
        cases r with
        | nil => rfl
        | cons _ _ => rfl
      · cases h1
end
end Rk

set_option Elab.async false
set_option linter.all false
set_option maxRecDepth 100000
set_option maxHeartbeats 4000000
namespace Rk
open PySem PySem.Spec PyProof.Rows L2
theorem get_list {X : Cx} : PGet X (rGetL X.K) := by
  intro pins s σ H o i ov iv Q I ro ri h
  obtain ⟨p, xs, k, z, rfl, rfl, hq, h0, he, q⟩ := h
  cases ro
  obtain ⟨t, rfl⟩ := ri
  obtain ⟨its, r, pl, hz⟩ := I.list hq
  obtain ⟨j, h1, h2, h3, h4, h5⟩ := atI_get he
  obtain ⟨u, eu, ru⟩ := r.get h2
  have hl := r.length
  have hn := line63
  have hj : k.toNat = j := by
    rw [seqIndex_of h0 h5] at h1
    exact Option.some.inj h1
  exact wpAny_getItem_list pl.isList h0 (by omega) (by rw [hj]; simpa using eu) ⟨z, H, I, ru, q⟩
theorem sw_of {v : Expr} (s : Shape v) (h : (isLc v).isNone = true) (t l env) : swapsWith v t l env = pure false := s.sw (fun a b c d e => by rw [e] at h; simp [isLc] at h) t l env
/-- what is stored by a name: a comprehension's list may be stored within its block -/
theorem asg_of0 {X : Cx} {T : Tab} {W : WX} {sc : Scope} (C : CtxOk X T W sc) {i : Nat} {c : CE} {x : Str} {p pos : Pos} {v : Expr} (hfz : ∀ n a, c ≠ .frz n a) (hi : X.N[i]? = some x) (hx : locB sc x = true) (h : chkE X.N c sc v = true) :
    PS X (.Assign [.Name x p] v pos) (tAsg (sem X.K T c W).1 (gName i)) := by
  have pv := snd T c X W sc v C h
  have lx := C.sco.lc hx
  by_cases hlc : (isLc v).isNone = true
  · exact ps_set C.nd hi lx.1 pv.1 (sw_of pv.2.2 hlc _ _ _) lx.2
  · -- a comprehension
    obtain ⟨elt', gens, scope, lpos, rfl⟩ : ∃ a b c d, v = .ListComp a b c d := by
      cases v <;> first | exact ⟨_, _, _, _, rfl⟩ | exact absurd rfl hlc
    cases c <;> first | (exact absurd rfl (hfz _ _)) | (simp only [chkE] at h; cases h; done) | skip
    rename_i elt tg k es cond
    simp only [chkE] at h
    split at h
    · rename_i t it ifs
      simp only [Bool.and_eq_true, decide_eq_true_eq] at h
      obtain ⟨⟨⟨⟨⟨hit, hb⟩, ht⟩, hc⟩, hcond⟩, helt⟩ := h
      split at hit
      · rename_i as has
        have E := snds T es X W sc _ C hit
        have ok := C.blkOk hb
        have hm : (tg.map fun i => (X.N.getD i Str.empty, i)).map (·.2) = tg := by rw [List.map_map]; exact List.map_id _
        have ht' : ∀ (s : Shared) (H : Hp) (A : Addr) (cl : List (Str × Addr)) (fp : List Addr), PTs (X.blk s H scope (compEnvC scope cl A X.env) fp) ifs (condT (sems X.K T cond W0).2) := fun s H A cl fp => by
          have E2 := snds T cond (X.blk s H scope (compEnvC scope cl A X.env) fp) W0 scope ifs (C.blk s H scope A cl fp) hcond
          match cond, ifs, E2, hc with
          | [], [], .nil, _ => exact pts_nil
          | [_], [_], .cons p2 t2 s2 .nil, _ => exact pts_one t2
          | _ :: _ :: _, _, .cons p2 t2 s2 (.cons _ _ _ _), hc => simp at hc
        by_cases hs : (X.env.blockKind == .function && X.env.kindOf x == some .local && p.line == lpos.line && !(scope.names.any fun (n, k) => n == x && (k == .local || k == .cell))) = true
        · have hsw : swapsWith (.ListComp elt' [⟨t, it, ifs, 0⟩] scope lpos) (some (.Name x p)) pos.line X.env = pure true := by
            show (pure (X.env.blockKind == .function && X.env.kindOf x == some .local && p.line == lpos.line && !(scope.names.any fun (n, k) => n == x && (k == .local || k == .cell))) : Sem Bool) = pure true
            rw [hs]
          have hloc : X.env.scope.names.lookup x = some .local := by
            simp only [Bool.and_eq_true, beq_iff_eq] at hs
            exact hs.1.1.2
          have p := ps_setLc (X := X) (spos := pos) (py := p) (pos := lpos) (elt := elt') (tt := condT (sems X.K T cond W0).2) (te := (sem X.K T elt W0).1) (g := tgG X.K tg) C.calm C.nd hi hloc hsw (iter_of C has E) ok
            (fun s H A cl fp => tg_of (X := X.blk s H scope (compEnvC scope cl A X.env) fp) (C.blk s H scope A cl fp) ht) ht'
            (fun s H A cl fp => (snd T elt (X.blk s H scope (compEnvC scope cl A X.env) fp) W0 scope elt' (C.blk s H scope A cl fp) helt).1) (fold_of has E.sh _)
          rw [hm] at p
          exact p
        · have hsw : swapsWith (.ListComp elt' [⟨t, it, ifs, 0⟩] scope lpos) (some (.Name x p)) pos.line X.env = pure false := by
            show (pure (X.env.blockKind == .function && X.env.kindOf x == some .local && p.line == lpos.line && !(scope.names.any fun (n, k) => n == x && (k == .local || k == .cell))) : Sem Bool) = pure false
            rw [Bool.eq_false_iff.mpr hs]
          exact ps_set C.nd hi lx.1 pv.1 hsw lx.2
      · cases hit
    · cases h
theorem asg_of {X : Cx} {T : Tab} {W : WX} {sc : Scope} (C : CtxOk X T W sc) {i : Nat} {x : Str} {p pos : Pos} {v : Expr} (hi : X.N[i]? = some x) (hx : locB sc x = true) : ∀ {c : CE}, chkE X.N c sc v = true →
    PS X (.Assign [.Name x p] v pos) (tAsg (sem X.K T c W).1 (gName i)) := by
  intro c
  induction c using CE.rec (motive_2 := fun _ => True) with
  | frz n a ih =>
    intro h
    simp only [chkE] at h
    exact ih h
  | nil => trivial
  | cons _ _ _ _ => trivial
  | _ => exact fun h => asg_of0 C (fun _ _ z => by cases z) hi hx h
theorem raise_of {X : Cx} {T : Tab} {W : WX} {sc : Scope} (C : CtxOk X T W sc) {x : Str} {m : Str} {j : Nat} {p p2 pos pos2 : Pos} (hg : glB sc x = true) : PS X (.Raise (some (.Call (.Name x p) [.Constant (.str m) j p2] [] pos)) none pos2) (semS X.K T (.raise x) W) := by
  simp only [semS]
  cases hc : T.exc x with
  | none => exact ⟨fun _ _ _ _ _ _ h => h.elim⟩
  | some D =>
    obtain ⟨h1, h2, h3, h4, h5⟩ := C.tab.exc x D hc
    exact ps_raise C.calm C.tk (pmk_own PySem.F.excBase_ValueError h2 h1 h3 (raises_own h4 h5) (C.sco.gl hg).1 (C.sco.gl hg).2.1)
/-- what a statement asks of its frame -/
structure FrOk (X : Cx) : Prop where
  po : PassesOwn (model X.prog X.w) X.A X.env X.xe
  st : X.stack = X.env :: X.outer
  fr : X.env.frame = some X.env.locals
theorem sw_none {env : Env} {o1 i1 o2 i2 c d : Expr} {p1 p2 pp pp2 : Pos} {k k2} : swappedStores [.Tuple [.Subscript o1 i1 p1, .Subscript o2 i2 p2] k pp] (.Tuple [c, d] k2 pp2) env = pure none := by
  unfold swappedStores
  dsimp only
  split
  · rfl
  · split
    · rfl
    · rfl
mutual
theorem sndS (T : Tab) : ∀ (c : CS) (X : Cx) (W : WX) (sc : Scope) (e : Stmt), CtxOk X T W sc → FrOk X → chkS X.N sc c e = true → PS X e (semS X.K T c W)
  | .pass, X, W, sc, e, C, hp, h => by
    simp only [chkS] at h
    split at h
    · exact ps_pass
    · cases h
  | .asg i c, X, W, sc, e, C, hp, h => by
    simp only [chkS] at h
    split at h
    · simp only [Bool.and_eq_true, decide_eq_true_eq] at h
      exact asg_of C h.1.1 h.1.2 h.2
    · cases h
  | .unp is c, X, W, sc, e, C, hp, h => by
    simp only [chkS] at h
    split at h
    · simp only [Bool.and_eq_true] at h
      have pv := snd T c X W sc _ C h.2
      obtain ⟨a, b, d⟩ := pgs_of C h.1.1
      rename_i ts kk pp v pos2
      have nt : isTup v = false := by simpa using h.1.2
      have hsw : swappedStores [.Tuple ts kk pp] v X.env = pure none := by
        cases v <;> first | rfl | (exact absurd nt (by simp [isTup]))
      exact ps_asg pv.1 (pg_tup C.calm a b d) (show swapsWith v (some (.Tuple ts kk pp)) pos2.line X.env = pure false from pv.2.2.swt _ _ _ _ _) hsw rfl
    · cases h
  | .unpL is c, X, W, sc, e, C, hp, h => by
    simp only [chkS] at h
    split at h
    · simp only [Bool.and_eq_true] at h
      have pv := snd T c X W sc _ C h.2
      obtain ⟨a, b, d⟩ := pgs_of C h.1.1
      rename_i ts kk pp v pos2
      have nt : isTup v = false := by simpa using h.1.2
      have hsw : swappedStores [.Tuple ts kk pp] v X.env = pure none := by
        cases v <;> first | rfl | (exact absurd nt (by simp [isTup]))
      exact ps_asg pv.1 (pg_lst C.calm a b d) (show swapsWith v (some (.Tuple ts kk pp)) pos2.line X.env = pure false from pv.2.2.swt _ _ _ _ _) hsw rfl
    · cases h
  | .par i j a b, X, W, sc, e, C, hp, h => by
    simp only [chkS] at h
    split at h
    · simp at h
    · cases h
  | .setIx o i c, X, W, sc, e, C, hp, h => by
    simp only [chkS] at h
    split at h
    · simp only [Bool.and_eq_true] at h
      have po := snd T o X W sc _ C h.1.1
      have pi := snd T i X W sc _ C h.1.2
      have pv := snd T c X W sc _ C h.2
      rename_i o' i' sp v ap
      refine ps_asg pv.1 (pg_sub po.1 pi.1 set_list ?_) (show swapsWith v (some (.Subscript o' i' sp)) ap.line X.env = pure false from pv.2.2.sws _ _ _ _ _) rfl rfl
      intro v
      cases i' <;> first | rfl | (exact absurd rfl (pi.2.2.nsl _ _ _ _))
    · cases h
  | .swp o i j c d, X, W, sc, e, C, hp, h => by
    simp only [chkS] at h
    split at h
    · simp only [Bool.and_eq_true] at h
      obtain ⟨⟨⟨⟨⟨h1, h2⟩, h3⟩, h4⟩, h5⟩, h6⟩ := h
      rename_i o1 i1 sp1 o2 i2 sp2 k1 pp1 c' d' k2 pp2 ap
      have p1 := snd T o X W sc _ C h1
      have p2 := snd T i X W sc _ C h2
      have p3 := snd T o X W sc _ C h3
      have p4 := snd T j X W sc _ C h4
      have E := snds T [c, d] X W sc [c', d'] C (by simp only [chkEs, Bool.and_eq_true]; exact ⟨h5, h6, trivial⟩)
      have g1 : PG X (.Subscript o1 i1 sp1) (gSub (sem X.K T o W).1 (sem X.K T i W).1 rSetL) := pg_sub p1.1 p2.1 set_list (by
        intro v
        cases i1 <;> first | rfl | (exact absurd rfl (p2.2.2.nsl _ _ _ _)))
      have g2 : PG X (.Subscript o2 i2 sp2) (gSub (sem X.K T o W).1 (sem X.K T j W).1 rSetL) := pg_sub p3.1 p4.1 set_list (by
        intro v
        cases i2 <;> first | rfl | (exact absurd rfl (p4.2.2.nsl _ _ _ _)))
      exact ps_asg (pe_tup (X := X) E.pa) (pg_tup C.calm (pgs_cons g1 (pgs_cons g2 pgs_nil)) rfl rfl) rfl sw_none rfl
    · cases h
  | .setD o i c, X, W, sc, e, C, hp, h => by
    simp only [chkS] at h
    split at h
    · simp only [Bool.and_eq_true] at h
      have po := snd T o X W sc _ C h.1.1
      have pi := snd T i X W sc _ C h.1.2
      have pv := snd T c X W sc _ C h.2
      exact ps_dput C.hu1 po.1 pi.1 pv.1 (pv.2.2.sws _ _ _ _ _)
    · cases h
  | .fldA o f c, X, W, sc, e, C, hp, h => by
    simp only [chkS] at h
    split at h
    · simp only [Bool.and_eq_true, decide_eq_true_eq] at h
      obtain ⟨⟨rfl, ho⟩, hv⟩ := h
      have po := snd T o X W sc _ C ho
      have pv := snd T c X W sc _ C hv
      exact ps_fld po.1 pv.1 (pv.2.2.swa _ _ _ _ _)
    · cases h
  | .aug i c, X, W, sc, e, C, hp, h => by
    simp only [chkS] at h
    split at h
    · simp only [Bool.and_eq_true, decide_eq_true_eq] at h
      have pv := snd T c X W sc _ C h.2
      have lx := C.sco.lc h.1.2
      exact ps_aug C.nd h.1.1 lx.1 pv.1 ip_add lx.2
    · cases h
  | .augIx o i c, X, W, sc, e, C, hp, h => by
    simp only [chkS] at h
    split at h
    · simp only [Bool.and_eq_true] at h
      have po := snd T o X W sc _ C h.1.1
      have pi := snd T i X W sc _ C h.1.2
      have pv := snd T c X W sc _ C h.2
      refine ps_augS po.1 pi.1 get_list pv.1 ip_add set_list ?_
      intro ov iv new
      rename_i o' i' _ _ _
      cases i' <;> first | rfl | (exact absurd rfl (pi.2.2.nsl _ _ _ _))
    · cases h
  | .expr c, X, W, sc, e, C, hp, h => by
    simp only [chkS] at h
    split at h
    · simp only [Bool.and_eq_true] at h
      have pv := snd T c X W sc _ C h.1
      exact ps_expr pv.1 (sw_of pv.2.2 h.2 _ _ _)
    · cases h
  | .ite c a b, X, W, sc, e, C, hp, h => by
    simp only [chkS] at h
    split at h
    · simp only [Bool.and_eq_true] at h
      exact ps_if (snd T c X W sc _ C h.1.1).2.1 (sndB T a X W sc _ C hp h.1.2) (sndB T b X W sc _ C hp h.2)
    · cases h
  | .forr _ tg k es body, X, W, sc, e, C, hp, h => by
    simp only [chkS] at h
    split at h
    · simp only [Bool.and_eq_true] at h
      obtain ⟨⟨hi, ht⟩, hb⟩ := h
      split at hi
      · rename_i as has
        have E := snds T es X W sc _ C hi
        exact ps_for hp.po C.calm (iter_of C has E) (tg_of C ht) (sndB T body X W sc _ C hp hb) (fold_of has E.sh _)
      · cases hi
    · cases h
  | .forO _ x o body, X, W, sc, e, C, hp, h => by
    simp only [chkS] at h
    split at h
    · rename_i t it body' _
      simp only [Bool.and_eq_true] at h
      obtain ⟨⟨hi, ht⟩, hb⟩ := h
      have E := snds T [o] X W sc _ C hi
      have has : iterArgs sc .lst t it = some [it] := rfl
      exact ps_for hp.po C.calm (iter_of C has E) (tg_of C ht) (sndB T body X W sc _ C hp hb) (fold_of has E.sh _)
    · cases h
  | .forZ _ x y o b body, X, W, sc, e, C, hp, h => by
    simp only [chkS] at h
    split at h
    · simp only [Bool.and_eq_true] at h
      obtain ⟨⟨hi, ht⟩, hb⟩ := h
      split at hi
      · rename_i as has
        have E := snds T [o, b] X W sc _ C hi
        exact ps_for hp.po C.calm (iter_of C has E) (tg_of C ht) (sndB T body X W sc _ C hp hb) (fold_of has E.sh _)
      · cases hi
    · cases h
  | .whil _ _ c body, X, W, sc, e, C, hp, h => by
    simp only [chkS] at h
    split at h
    · simp only [Bool.and_eq_true] at h
      exact ps_while hp.po (snd T c X W sc _ C h.1).2.1 (sndB T body X W sc _ C hp h.2)
    · cases h
  | .ret c, X, W, sc, e, C, hp, h => by
    simp only [chkS] at h
    split at h
    · exact ps_ret (snd T c X W sc _ C h).1
    · cases h
  | .retN, X, W, sc, e, C, hp, h => by
    simp only [chkS] at h
    split at h
    · exact ps_retN
    · cases h
  | .raise x, X, W, sc, e, C, hp, h => by
    simp only [chkS] at h
    split at h
    · simp only [Bool.and_eq_true, decide_eq_true_eq] at h
      obtain ⟨rfl, hg⟩ := h
      exact raise_of C hg
    · cases h
  | .tryE x i body su, X, W, sc, e, C, hp, h => by
    simp only [chkS] at h
    split at h
    · rename_i body' y np n suite' p' pos
      simp only [Bool.and_eq_true, decide_eq_true_eq] at h
      obtain ⟨⟨⟨⟨⟨⟨rfl, hg⟩, hi⟩, hl⟩, hne⟩, hb⟩, hs⟩ := h
      cases hc : T.exc x with
      | none => 
        simp only [semS, hc]
        exact ⟨fun _ _ _ _ _ _ h => h.elim⟩
      | some D0 =>
        by_cases hok : (T.tr && okSu T su) = true
        · have hok' := hok
          rw [Bool.and_eq_true] at hok'
          have he : semS X.K T (.tryE x i body su) W = fun D σ H => semB X.K T body (wAs X.K (.ref D0) i (tsS X.K T i su) W D) D σ H := by
            funext D σ H
            simp only [semS, hc, hok, true_and]
          rw [he]
          cases suite' with
          | nil => cases su with
            | nil => cases hne
            | cons _ _ => simp [chkSu] at hs
          | cons b0 suite' =>
          refine ps_try_as (X := X) (tb := fun W' => semB X.K T body W') hp.st hp.fr C.nd hi (C.sco.loc _ hl) ⟨(C.sco.gl hg).1, (C.sco.gl hg).2.1, .inl (C.tab.exc _ D0 hc).1⟩ C.tk (fun W' pn xe tk po => ?_) (fun a oe cls d pn hz hf => ⟨fun pins s σ H D I h => ?_⟩)
          · exact sndB T body (X.tr pn xe) W' sc body' ⟨C.tab, ⟨C.sco.loc, C.sco.cel, C.sco.fre, C.sco.glo⟩, C.nd, C.calm, tk, C.rm⟩ ⟨po, hp.st, hp.fr⟩ hb
          · obtain ⟨y, Cy, hy, rfl, rfl, hg, hh⟩ := h
            obtain ⟨t', pt, q⟩ := sndSu (pn := pn) C hok'.1 hy hz hf su (b0 :: suite') hok'.2 hs
            exact pt.run pins s σ H D I (by rw [q D σ hg]; exact hh)
        · simp only [semS, hc]
          exact ⟨fun _ _ _ _ _ _ h => absurd h.1 hok⟩
    · cases h
theorem sndB (T : Tab) : ∀ (cs : List CS) (X : Cx) (W : WX) (sc : Scope) (es : List Stmt), CtxOk X T W sc → FrOk X → chkB X.N sc cs es = true → PSs X es (semB X.K T cs W)
  | [], X, W, sc, es, C, hp, h => by
    cases es with
    | nil => exact pss_nil
    | cons _ _ => simp [chkB] at h
  | [c], X, W, sc, es, C, hp, h => by
    cases es with
    | nil => simp [chkB] at h
    | cons e s =>
      simp only [chkB, Bool.and_eq_true] at h
      cases s with
      | nil => exact pss_one (sndS T c X W sc e C hp h.1)
      | cons _ _ => simp [chkB] at h
  | c :: d :: r, X, W, sc, es, C, hp, h => by
    cases es with
    | nil => simp [chkB] at h
    | cons e s =>
      rw [chkB, Bool.and_eq_true] at h
      exact pss_cons (sndS T c X W sc e C hp h.1) (sndB T (d :: r) X W sc s C hp h.2)
end
end Rk

set_option Elab.async false
set_option linter.all false
set_option maxRecDepth 100000
set_option maxHeartbeats 4000000
namespace Rk
open PySem PySem.Spec PyProof.Rows L2
/-- what the text's top has left, all calls at most k deep -/
structure TabL (P : Program) (w : World) (K : PySem.W.Frag) (mg : Str → Option Value) (base : Heap) (n : Nat) (T : Tab) : Prop where
  fn : ∀ x sp, T.fn x = some sp → ∃ f fd ps k, mg x = some (.ref f) ∧ FnOk P w K mg base (L2.CX P w) k f fd ps sp ∧ PySem.W.keepIn K (.ref f) = true ∧ Binds K fd ps [] ∧ k ≤ n
  con : ∀ x v, T.con x = some v → ∃ u, mg x = some u ∧ RelV v u
  cls : ∀ x C sp, T.cls x = some (C, sp) → ∃ f fd ps k, mg x = some (.ref C) ∧ Mk K C f ∧ FnOk P w K mg base (L2.CX P w) k f fd ps sp ∧ Binds K fd ps [] ∧ k + 1 ≤ n
  mth : ∀ c m C sp, T.mth c m = some (C, sp) → ∃ f fd ps k, Cls K C ∧ Meth K C m f ∧ FnOk P w K mg base (L2.CX P w) k f fd ps sp ∧ Binds K fd ps [] ∧ k ≤ n
  exc : ∀ x C, T.exc x = some C → mg x = some (.ref C) ∧ PySem.W.excIn K C [.type "ValueError", .type "Exception", .type "BaseException", .type "object"] "ValueError.__new__" = true ∧ PySem.W.keepIn K (.ref C) = true ∧
    PySem.W.subIn K (.ref C) (.type "BaseException") = some true ∧ PySem.W.typeIn K (.ref C) = some (.type "type")
  blt : ∀ x ∈ bltNames, mg x = none
  isf : T.tr = true → mg "ValueError" = none ∧ ∀ x C, T.exc x = some C → ExcC K C ∧ PySem.W.kitOne K (.ref C) (.type "ValueError") = some true ∧ ∀ y D, T.exc y = some D → PySem.W.kitOne K (.ref C) (.ref D) = some (isE x y)
theorem TabL.ok {P : Program} {w : World} {K : PySem.W.Frag} {mg : Str → Option Value} {base : Heap} {n : Nat} {T : Tab} {A : Around} (h : TabL P w K mg base n T) (r : Room n A) : TabOk P w K mg base A T where
  fn := fun x sp e => let ⟨f, fd, ps, k, a, b, c, d, l⟩ := h.fn x sp e; ⟨f, fd, ps, k, a, b, c, d, r.mono l⟩
  con := h.con
  cls := fun x C sp e => let ⟨f, fd, ps, k, a, b, c, d, l⟩ := h.cls x C sp e; ⟨f, fd, ps, k, a, b, c, d, r.mono l⟩
  mth := fun c m C sp e => let ⟨f, fd, ps, k, a, b, g, d, l⟩ := h.mth c m C sp e; ⟨f, fd, ps, k, a, b, g, d, r.mono l⟩
  exc := h.exc
  blt := h.blt
  isf := h.isf
/-- the meaning of a def's body keeps a promise -/
def Keeps (K : PySem.W.Frag) (T : Tab) (N : List Str) (code : List CS) (sp : Sp) : Prop :=
  ∀ vs H Q E, sp vs H Q E → semB K T code (fun cls d _ H => E cls d H) { nx := fun _ H' => Q .non H', rt := Q } (start N vs) H
/-- the whole look at a def -/
def chkF (N ps : List Str) (code : List CS) (st : Stmt) : Bool := chkB N (defScope st) code (defBody st)
theorem fn_sound {P : Program} {w : World} {K : PySem.W.Frag} {mg : Str → Option Value} {base : Heap} {n : Nat} {T : Tab} {x qual : Str} {st : Stmt} {f : Addr} {fd : FuncData} {N ps : List Str} {sp : Sp} {code : List CS}
    (F : Fun K x qual st f fd) (S : FnScope N ps (defScope st)) (hc : chkF N ps code st = true) (tab : TabL P w K mg base n T) (len : ∀ vs H Q E, sp vs H Q E → vs.length = ps.length) (h : Keeps K T N code sp) :
    FnOk P w K mg base (L2.CX P w) (n + 1) f fd ps sp := by
  refine F.okX S len (fun cdv A outer s H vs Q E hr hsp => ?_)
  refine ⟨_, sndB T code (cxOf (L2.CX P w) P w K mg base N qual (defScope st) f cdv A outer s H E) (fun cls d _ H => E cls d H) (defScope st) (defBody st) ?_ ⟨passes_of rfl, rfl, rfl⟩ hc, h vs H Q E hsp⟩
  exact ⟨tab.ok hr, ⟨fun _ h => h, fun _ h => ⟨h, rfl⟩, fun _ h => .inl h, fun _ h => h⟩, S.nd, rfl, takes_of rfl rfl rfl rfl, hr.mono (Nat.zero_le _)⟩
end Rk

set_option Elab.async false
set_option linter.all false
set_option maxRecDepth 100000
set_option maxHeartbeats 1000000
namespace Rk
open PySem PySem.Spec PyProof.Rows L2

/-! ### heaps -/
def Ex (H H' : Hp) : Prop := ∀ a o, H a = some o → H' a = some o
theorem Ex.refl (H : Hp) : Ex H H := fun _ _ h => h
theorem Ex.trans {H H1 H2 : Hp} (a : Ex H H1) (b : Ex H1 H2) : Ex H H2 := fun x o h => b x o (a x o h)
theorem Ex.new {H : Hp} {p : Addr} {o : HO} (h : H p = none) : Ex H (upd H p o) := fun a u e => by
  rw [upd_ne (ne_of_none e h)]
  exact e
theorem Ex.rd {H H' : Hp} {a : Addr} {u : HO} (e : Ex H H') (h : Rd H a u) : Rd H' a u := by
  rcases h with h | ⟨o, h⟩
  · exact .inl (e a _ h)
  · exact .inr ⟨o, e a _ h⟩
theorem Ex.sqL {K : PySem.W.Frag} {H H' : Hp} {a : Addr} {xs : List V} (e : Ex H H') (h : SqL K H a xs) : SqL K H' a xs := by
  rcases h with h | h
  · exact .inl (e.rd h)
  · exact .inr h
theorem Ex.sqT {K : PySem.W.Frag} {H H' : Hp} {a : Addr} {xs : List V} (e : Ex H H') (h : SqT K H a xs) : SqT K H' a xs := by
  rcases h with h | h
  · exact .inl (e.rd h)
  · exact .inr h
def del (H : Hp) (ads : List Addr) : Hp := fun a => if a ∈ ads then none else H a
theorem del_in {H : Hp} {ads : List Addr} {a : Addr} (h : a ∈ ads) : del H ads a = none := if_pos h
theorem del_out {H : Hp} {ads : List Addr} {a : Addr} (h : a ∉ ads) : del H ads a = H a := if_neg h
theorem del_ex {H : Hp} {ads : List Addr} : Ex (del H ads) H := fun a o h => by
  by_cases q : a ∈ ads
  · rw [del_in q] at h; cases h
  · rw [del_out q] at h; exact h
theorem del_congr {H : Hp} {a b : List Addr} (h : ∀ x, x ∈ a ↔ x ∈ b) : del H a = del H b := by
  funext x
  unfold del
  by_cases q : x ∈ a
  · rw [if_pos q, if_pos ((h x).mp q)]
  · rw [if_neg q, if_neg fun z => q ((h x).mpr z)]
theorem del_nil {H : Hp} : del H [] = H := by funext x; unfold del; simp

/-! ### claims -/
/-- a claim about a value, by a heap that only grows -/
structure Cp where
  p : Hp → V → Prop
  mono : ∀ {F F' : Hp} {v : V}, Ex F F' → p F v → p F' v
/-- a claim about a value that owns addresses -/
structure Co where
  p : Hp → Hp → V → List Addr → Prop
  loc : ∀ {F F' H H' : Hp} {v : V} {ads : List Addr}, p F H v ads → Ex F F' → (∀ a ∈ ads, H' a = H a) → p F' H' v ads
  there : ∀ {F H : Hp} {v : V} {ads : List Addr}, p F H v ads → ∀ a ∈ ads, (H a).isSome = true
inductive Sd where
  | any | imm (c : Cp) | own (c : Co)
abbrev Rs := Sd × Option V
def okSd (F H : Hp) (ads : List Addr) : Rs → Prop
  | (.any, _) => ads = []
  | (.imm c, o) => ads = [] ∧ ∃ v, o = some v ∧ c.p F v
  | (.own c, o) => ∃ v, o = some v ∧ c.p F H v ads
inductive OkL (F H : Hp) : List Rs → List Addr → Prop
  | nil : OkL F H [] []
  | cons {x r a b} : okSd F H a x → OkL F H r b → OkL F H (x :: r) (a ++ b)
/-- the heap without what is another's and without what is one's own -/
def delO (H O : Hp) (ads : List Addr) : Hp := fun a => if a ∈ ads ∨ (O a).isSome = true then none else H a
theorem delO_out {H O : Hp} {ads : List Addr} {a : Addr} (h : a ∉ ads) (h2 : O a = none) : delO H O ads a = H a := if_neg (by rw [h2]; simp [h])
theorem delO_own {H O : Hp} {ads : List Addr} {a : Addr} (h : a ∈ ads) : delO H O ads a = none := if_pos (.inl h)
theorem delO_for {H O : Hp} {ads : List Addr} {a : Addr} {o : HO} (h : O a = some o) : delO H O ads a = none := if_pos (.inr (by rw [h]; rfl))
theorem delO_some {H O : Hp} {ads : List Addr} {a : Addr} {o : HO} (h : delO H O ads a = some o) : H a = some o ∧ a ∉ ads ∧ O a = none := by
  by_cases q : a ∈ ads
  · rw [delO_own q] at h; cases h
  · cases z : O a with
    | some u => rw [delO_for z] at h; cases h
    | none => rw [delO_out q z] at h; exact ⟨h, q, rfl⟩
theorem delO_congr {H O : Hp} {a b : List Addr} (h : ∀ x, x ∈ a ↔ x ∈ b) : delO H O a = delO H O b := by
  funext x
  unfold delO
  simp only [h x]
/-- what is known: B stays; O is another's; ps: the claims; F: what does not change any more -/
def Good (B O : Hp) (ps : List Rs) (H F : Hp) : Prop := ∃ ads, OkL F H ps ads ∧ ads.Nodup ∧ F = delO H O ads ∧ Ex B F ∧ Ex O H ∧ ∀ a ∈ ads, O a = none
section
variable {B O F F' H H' : Hp} {ps qs : List Rs} {ads : List Addr} {x y : Rs}
theorem okSd.loc (h : okSd F H ads x) (e : Ex F F') (k : ∀ a ∈ ads, H' a = H a) : okSd F' H' ads x := by
  obtain ⟨s, o⟩ := x
  cases s with
  | any => exact h
  | imm c => obtain ⟨h1, v, h2, h3⟩ := h; exact ⟨h1, v, h2, c.mono e h3⟩
  | own c => obtain ⟨v, h2, h3⟩ := h; exact ⟨v, h2, c.loc h3 e k⟩
theorem okSd.there (h : okSd F H ads x) : ∀ a ∈ ads, (H a).isSome = true := by
  obtain ⟨s, o⟩ := x
  cases s with
  | any => rw [show ads = [] from h]; exact fun _ z => by cases z
  | imm c => rw [h.1]; exact fun _ z => by cases z
  | own c => obtain ⟨v, h2, h3⟩ := h; exact c.there h3
theorem OkL.loc (h : OkL F H ps ads) (e : Ex F F') (k : ∀ a ∈ ads, H' a = H a) : OkL F' H' ps ads := by
  induction h with
  | nil => exact .nil
  | cons h1 _ ih => exact .cons (h1.loc e fun a z => k a (List.mem_append_left _ z)) (ih fun a z => k a (List.mem_append_right _ z))
theorem OkL.there (h : OkL F H ps ads) : ∀ a ∈ ads, (H a).isSome = true := by
  induction h with
  | nil => exact fun _ z => by cases z
  | cons h1 _ ih =>
    intro a z
    rcases List.mem_append.mp z with z | z
    · exact h1.there a z
    · exact ih a z
theorem OkL.append {b : List Addr} (h : OkL F H ps ads) (g : OkL F H qs b) : OkL F H (ps ++ qs) (ads ++ b) := by
  induction h with
  | nil => exact g
  | cons h1 _ ih => rw [List.append_assoc]; exact .cons h1 ih
theorem OkL.split : ∀ {ps : List Rs} {ads : List Addr}, OkL F H (ps ++ qs) ads → ∃ a b, ads = a ++ b ∧ OkL F H ps a ∧ OkL F H qs b
  | [], ads, h => ⟨[], ads, rfl, .nil, h⟩
  | x :: r, _, .cons h1 h2 => by
    obtain ⟨a, b, rfl, g1, g2⟩ := OkL.split h2
    exact ⟨_, b, (List.append_assoc ..).symm, .cons h1 g1, g2⟩
theorem OkL.perm (h : ps.Perm qs) : ∀ {ads : List Addr}, OkL F H ps ads → ∃ ads', OkL F H qs ads' ∧ ads.Perm ads' := by
  induction h with
  | nil => intro ads h; exact ⟨ads, h, .refl _⟩
  | cons x _ ih =>
    intro ads h
    cases h with
    | cons h1 h2 =>
      obtain ⟨b, g1, g2⟩ := ih h2
      exact ⟨_, .cons h1 g1, g2.append_left _⟩
  | swap x y l =>
    intro ads h
    cases h with
    | cons h1 h2 =>
      cases h2 with
      | cons h3 h4 =>
        refine ⟨_, .cons h3 (.cons h1 h4), ?_⟩
        rw [← List.append_assoc, ← List.append_assoc]
        exact List.perm_append_comm.append_right _
  | trans _ _ ih1 ih2 =>
    intro ads h
    obtain ⟨b, g1, g2⟩ := ih1 h
    obtain ⟨c, g3, g4⟩ := ih2 g1
    exact ⟨c, g3, g2.trans g4⟩
theorem Good.perm (g : Good B O ps H F) (h : ps.Perm qs) : Good B O qs H F := by
  obtain ⟨ads, h1, h2, h3, h4, h5, h6⟩ := g
  obtain ⟨ads', g1, g2⟩ := h1.perm h
  exact ⟨ads', g1, (g2.nodup_iff).mp h2, by rw [h3]; exact delO_congr fun x => g2.mem_iff, h4, h5, fun a z => h6 a (g2.mem_iff.mpr z)⟩
theorem Good.ex (g : Good B O ps H F) : Ex B F := by obtain ⟨ads, h1, h2, h3, h4, h5, h6⟩ := g; exact h4
theorem Good.exH (g : Good B O ps H F) : Ex F H := by
  obtain ⟨ads, h1, h2, h3, h4, h5, h6⟩ := g
  intro a o q
  rw [h3] at q
  exact (delO_some q).1
/-- fewer addresses of one's own, more that does not change any more -/
theorem delO_less {H O : Hp} {a b : List Addr} (h : ∀ x ∈ b, x ∈ a) : Ex (delO H O a) (delO H O b) := fun d o q => by
  obtain ⟨q1, q2, q3⟩ := delO_some q
  rw [delO_out (fun z => q2 (h d z)) q3]
  exact q1
/-- something is forgotten -/
theorem Good.drop (g : Good B O (x :: ps) H F) : ∃ F', Good B O ps H F' ∧ Ex F F' := by
  obtain ⟨ads, h1, h2, h3, h4, h5, h6⟩ := g
  cases h1 with
  | cons k1 k2 =>
    rename_i a b
    have e : Ex F (delO H O b) := by rw [h3]; exact delO_less fun x z => List.mem_append_right _ z
    exact ⟨delO H O b, ⟨b, k2.loc e fun _ _ => rfl, (List.nodup_append.mp h2).2.1, rfl, h4.trans e, h5, fun d z => h6 d (List.mem_append_right _ z)⟩, e⟩
theorem Good.dropL : ∀ {qs : List Rs} {F : Hp}, Good B O (qs ++ ps) H F → ∃ F', Good B O ps H F' ∧ Ex F F'
  | [], F, g => ⟨F, g, .refl _⟩
  | x :: r, F, g => by
    obtain ⟨F1, g1, e1⟩ := Good.drop (ps := r ++ ps) g
    obtain ⟨F2, g2, e2⟩ := Good.dropL g1
    exact ⟨F2, g2, e1.trans e2⟩
theorem Good.dropR (g : Good B O (ps ++ qs) H F) : ∃ F', Good B O ps H F' ∧ Ex F F' := Good.dropL (g.perm List.perm_append_comm)
theorem Good.know {c : Cp} {v : V} (g : Good B O ps H F) (h : c.p F v) : Good B O (ps ++ [(.imm c, some v)]) H F := by
  obtain ⟨ads, h1, h2, h3, h4, h5, h6⟩ := g
  refine ⟨ads, ?_, h2, h3, h4, h5, h6⟩
  have := h1.append (.cons (show okSd F H [] (.imm c, some v) from ⟨rfl, v, rfl, h⟩) .nil)
  simpa using this
theorem Good.knowAny {o : Option V} (g : Good B O ps H F) : Good B O (ps ++ [(.any, o)]) H F := by
  obtain ⟨ads, h1, h2, h3, h4, h5, h6⟩ := g
  refine ⟨ads, ?_, h2, h3, h4, h5, h6⟩
  have := h1.append (.cons (show okSd F H [] (.any, o) from rfl) .nil)
  simpa using this
/-- a new thing that does not change any more -/
theorem Good.new {p : Addr} {o : HO} (g : Good B O ps H F) (hp : H p = none) : Good B O ps (upd H p o) (upd F p o) ∧ F p = none := by
  obtain ⟨ads, h1, h2, h3, h4, h5, h6⟩ := g
  have np : p ∉ ads := fun z => by have := h1.there p z; rw [hp] at this; cases this
  have op : O p = none := by
    cases q : O p with
    | none => rfl
    | some u => have := h5 p u q; rw [hp] at this; cases this
  have fp : F p = none := by rw [h3, delO_out np op]; exact hp
  have e : Ex F (upd F p o) := Ex.new fp
  refine ⟨⟨ads, h1.loc e fun a z => upd_ne fun q => np (q ▸ z), h2, ?_, h4.trans e, h5.trans (Ex.new hp), h6⟩, fp⟩
  funext b
  by_cases hb : b = p
  · subst hb; rw [upd_same, delO_out np op, upd_same]
  · rw [upd_ne hb, h3]
    unfold delO
    rw [upd_ne hb]
/-- a new thing of one's own -/
theorem Good.newOwn {p : Addr} {o : HO} {c : Co} {v : V} (g : Good B O ps H F) (hp : H p = none) (h : c.p F (upd H p o) v [p]) : Good B O ((.own c, some v) :: ps) (upd H p o) F := by
  obtain ⟨ads, h1, h2, h3, h4, h5, h6⟩ := g
  have np : p ∉ ads := fun z => by have := h1.there p z; rw [hp] at this; cases this
  have op : O p = none := by
    cases q : O p with
    | none => rfl
    | some u => have := h5 p u q; rw [hp] at this; cases this
  refine ⟨[p] ++ ads, .cons ⟨v, rfl, h⟩ (h1.loc (.refl _) fun a z => upd_ne fun q => np (q ▸ z)), ?_, ?_, h4, h5.trans (Ex.new hp), fun d z => ?_⟩
  · rw [List.singleton_append, List.nodup_cons]; exact ⟨np, h2⟩
  · funext b
    by_cases hb : b = p
    · subst hb
      rw [delO_own (by simp), h3, delO_out np op]; exact hp
    · rw [h3]
      unfold delO
      rw [upd_ne hb]
      simp [hb]
  · rcases List.mem_append.mp z with z | z
    · rw [List.mem_singleton.mp z]; exact op
    · exact h6 d z
/-- what is one's own is changed -/
theorem Good.write {c c' : Co} {v v' : V} (g : Good B O ((.own c, some v) :: ps) H F) (h : ∀ ads, c.p F H v ads → (∀ b, b ∉ ads → H' b = H b) ∧ c'.p F H' v' ads) : Good B O ((.own c', some v') :: ps) H' F := by
  obtain ⟨ads, h1, h2, h3, h4, h5, h6⟩ := g
  cases h1 with
  | cons k1 k2 =>
    obtain ⟨u, hu, k1⟩ := k1
    cases hu
    obtain ⟨q1, q2⟩ := h _ k1
    have nd := List.nodup_append.mp h2
    refine ⟨_, .cons ⟨v', rfl, q2⟩ (k2.loc (.refl _) fun d hd => q1 d fun ha => nd.2.2 d ha d hd rfl), h2, ?_, h4, fun d o q => ?_, h6⟩
    · rw [h3]
      funext d
      unfold delO
      split
      · rfl
      · rename_i hd
        rw [q1 d fun z => hd (.inl (List.mem_append_left _ z))]
    · rw [q1 d fun z => ?_]
      · exact h5 d o q
      · rw [h6 d (List.mem_append_left _ z)] at q; cases q
/-- what is one's own is given up -/
theorem Good.freeze {c : Co} {c' : Cp} {v : V} (g : Good B O ((.own c, some v) :: ps) H F) (h : ∀ F' ads, c.p F H v ads → Ex F F' → (∀ a ∈ ads, F' a = H a) → c'.p F' v) : ∃ F', Good B O ((.imm c', some v) :: ps) H F' ∧ Ex F F' := by
  obtain ⟨ads, h1, h2, h3, h4, h5, h6⟩ := g
  cases h1 with
  | cons k1 k2 =>
    rename_i a b
    obtain ⟨u, hu, k1⟩ := k1
    cases hu
    have nd := List.nodup_append.mp h2
    have e : Ex F (delO H O b) := by rw [h3]; exact delO_less fun x z => List.mem_append_right _ z
    have := h (delO H O b) a k1 e fun d hd => delO_out (fun hb => nd.2.2 d hd d hb rfl) (h6 d (List.mem_append_left _ hd))
    exact ⟨delO H O b, ⟨[] ++ b, .cons ⟨rfl, v, rfl, this⟩ (k2.loc e fun _ _ => rfl), nd.2.1, rfl, h4.trans e, h5, fun d z => h6 d (List.mem_append_right _ z)⟩, e⟩
theorem Good.head (g : Good B O (x :: ps) H F) : ∃ a, okSd F H a x := by
  obtain ⟨ads, h1, h2, h3, h4, h5, h6⟩ := g
  cases h1 with
  | cons k1 k2 => exact ⟨_, k1⟩
theorem Good.imm {c : Cp} {o : Option V} (g : Good B O ((.imm c, o) :: ps) H F) : ∃ v, o = some v ∧ c.p F v := by
  obtain ⟨a, _, h⟩ := g.head
  exact h
theorem Good.own' {c : Co} {o : Option V} (g : Good B O ((.own c, o) :: ps) H F) : ∃ v ads, o = some v ∧ c.p F H v ads := by
  obtain ⟨a, v, h1, h2⟩ := g.head
  exact ⟨v, a, h1, h2⟩
/-- THE FRAME: for a call some claims are handed over, the rest is another's meanwhile -/
theorem Good.frame (g : Good B O (ps ++ qs) H F) : ∃ O2, Good F O2 qs H F ∧ ∀ qs' H' F', Good F O2 qs' H' F' → Good B O (ps ++ qs') H' F' := by
  obtain ⟨ads, h1, h2, h3, h4, h5, h6⟩ := g
  obtain ⟨a, b, rfl, k1, k2⟩ := h1.split
  have nd := List.nodup_append.mp h2
  let O2 : Hp := fun d => if d ∈ a then H d else O d
  have o2a : ∀ d ∈ a, O2 d = H d := fun d hd => if_pos hd
  have o2o : ∀ d, d ∉ a → O2 d = O d := fun d hd => if_neg hd
  have dom : ∀ d, (O2 d).isSome = true ↔ d ∈ a ∨ (O d).isSome = true := fun d => by
    by_cases hd : d ∈ a
    · rw [o2a d hd]; exact ⟨fun _ => .inl hd, fun _ => k1.there d hd⟩
    · rw [o2o d hd]; exact ⟨fun z => .inr z, fun z => z.resolve_left hd⟩
  have key : ∀ (G : Hp) (l : List Addr), delO G O2 l = delO G O (a ++ l) := fun G l => by
    funext d
    unfold delO
    have e : (d ∈ l ∨ (O2 d).isSome = true) = (d ∈ a ++ l ∨ (O d).isSome = true) := by
      rw [List.mem_append]
      apply propext
      rw [dom]
      constructor
      · rintro (z | z | z)
        · exact .inl (.inr z)
        · exact .inl (.inl z)
        · exact .inr z
      · rintro ((z | z) | z)
        · exact .inr (.inl z)
        · exact .inl z
        · exact .inr (.inr z)
    simp only [e]
  refine ⟨O2, ⟨b, k2, nd.2.1, by rw [h3, key], .refl _, fun d o q => ?_, fun d hd => ?_⟩, fun qs' H' F' g' => ?_⟩
  · by_cases hd : d ∈ a
    · rw [o2a d hd] at q; exact q
    · rw [o2o d hd] at q; exact h5 d o q
  · have na : d ∉ a := fun z => nd.2.2 d z d hd rfl
    rw [o2o d na]; exact h6 d (List.mem_append_right _ hd)
  · obtain ⟨ads', m1, m2, m3, m4, m5, m6⟩ := g'
    have keep : ∀ d ∈ a, H' d = H d := fun d hd => by
      obtain ⟨o, ho⟩ := Option.isSome_iff_exists.mp (k1.there d hd)
      rw [m5 d o (by rw [o2a d hd]; exact ho), ho]
    refine ⟨a ++ ads', (k1.loc m4 keep).append m1, List.nodup_append.mpr ⟨nd.1, m2, fun d hd d' hd' z => ?_⟩, by rw [m3, key], h4.trans m4, fun d o q => ?_, fun d hd => ?_⟩
    · subst z
      have q := m6 d hd'
      rw [o2a d hd] at q
      have := k1.there d hd
      rw [q] at this; cases this
    · refine m5 d o ?_
      rw [o2o d fun z => ?_]
      · exact q
      · rw [h6 d (List.mem_append_left _ z)] at q; cases q
    · rcases List.mem_append.mp hd with z | z
      · exact h6 d (List.mem_append_left _ z)
      · have q := m6 d z
        have na : d ∉ a := fun y => by
          rw [o2a d y] at q
          have := k1.there d y
          rw [q] at this; cases this
        rwa [o2o d na] at q
end
end Rk

set_option Elab.async false
set_option linter.all false
set_option maxRecDepth 100000
set_option maxHeartbeats 1000000
namespace Rk
open PySem PySem.Spec PyProof.Rows L2

section
variable (K : PySem.W.Frag) (cl : Str → Option Addr)
mutual
def rep (F H : Hp) : PV → V → List Addr → Prop
  | .non, v, ads => v = .non ∧ ads = []
  | .bl b, v, ads => v = .bl b ∧ ads = []
  | .int i, v, ads => v = .int i ∧ ads = []
  | .str s, v, ads => v = .str s ∧ ads = []
  | .scr ns, v, ads => ads = [] ∧ ∃ a, v = .ref a ∧ SqL K F a (ns.map V.int)
  | .tup xs, v, ads => ∃ a vs, v = .ref a ∧ SqT K F a vs ∧ reps F H xs vs ads
  | .lst true xs, v, ads => ∃ a vs r, v = .ref a ∧ ads = a :: r ∧ H a = some (.lst vs) ∧ reps F H xs vs r
  | .lst false xs, v, ads => ads = [] ∧ ∃ a vs, v = .ref a ∧ F a = some (.lst vs) ∧ reps F H xs vs []
  | .dic true ks xs, v, ads => ∃ a dk, v = .ref a ∧ ads = [a] ∧ H a = some (.dK dk) ∧ dk.map (fun p => kP p.1) = ks ∧ reps F H xs (dk.map (·.2)) []
  | .dic false ks xs, v, ads => ads = [] ∧ ∃ a dk, v = .ref a ∧ F a = some (.dK dk) ∧ dk.map (fun p => kP p.1) = ks ∧ reps F H xs (dk.map (·.2)) []
  | .ins true c fs xs, v, ads => ∃ a C dx fv r, v = .ref a ∧ cl c = some C ∧ ads = a :: dx :: r ∧ H a = some (.ins C dx fv) ∧ H dx = some (.own a) ∧ fv.map (·.1) = fs ∧ reps F H xs (fv.map (·.2)) r
  | .ins false c fs xs, v, ads => ads = [] ∧ ∃ a C dx fv, v = .ref a ∧ cl c = some C ∧ F a = some (.ins C dx fv) ∧ F dx = some (.own a) ∧ fv.map (·.1) = fs ∧ reps F H xs (fv.map (·.2)) []
  | .exn _, v, ads => ads = []
def reps (F H : Hp) : List PV → List V → List Addr → Prop
  | [], [], ads => ads = []
  | x :: xs, v :: vs, ads => ∃ a b, ads = a ++ b ∧ rep F H x v a ∧ reps F H xs vs b
  | _, _, _ => False
end
end
section
variable {K : PySem.W.Frag} {cl : Str → Option Addr} {F F' H H' : Hp}
theorem reps.length : ∀ {xs : List PV} {vs : List V} {ads : List Addr}, reps K cl F H xs vs ads → vs.length = xs.length
  | [], [], _, _ => rfl
  | _ :: _, _ :: _, _, ⟨_, _, _, _, h⟩ => congrArg (· + 1) (reps.length h)
mutual
theorem rep.loc : ∀ {x : PV} {v : V} {ads : List Addr}, rep K cl F H x v ads → Ex F F' → (∀ a ∈ ads, H' a = H a) → rep K cl F' H' x v ads
  | .non, _, _, h, _, _ => h
  | .bl _, _, _, h, _, _ => h
  | .int _, _, _, h, _, _ => h
  | .str _, _, _, h, _, _ => h
  | .scr _, _, _, ⟨h, a, h1, h2⟩, e, _ => ⟨h, a, h1, e.sqL h2⟩
  | .tup _, _, _, ⟨a, vs, h1, h2, h3⟩, e, k => ⟨a, vs, h1, e.sqT h2, reps.loc h3 e k⟩
  | .lst true _, _, _, ⟨a, vs, r, h1, h2, h3, h4⟩, e, k => ⟨a, vs, r, h1, h2, by rw [k a (by rw [h2]; simp)]; exact h3, reps.loc h4 e fun b hb => k b (by rw [h2]; simp [hb])⟩
  | .lst false _, _, _, ⟨h, a, vs, h1, h2, h3⟩, e, _ => ⟨h, a, vs, h1, e _ _ h2, reps.loc h3 e fun _ hb => by cases hb⟩
  | .dic true _ _, _, _, ⟨a, dk, h1, h2, h3, h4, h5⟩, e, k => ⟨a, dk, h1, h2, by rw [k a (by rw [h2]; simp)]; exact h3, h4, reps.loc h5 e fun _ hb => by cases hb⟩
  | .dic false _ _, _, _, ⟨h, a, dk, h1, h2, h3, h4⟩, e, _ => ⟨h, a, dk, h1, e _ _ h2, h3, reps.loc h4 e fun _ hb => by cases hb⟩
  | .ins true _ _ _, _, _, ⟨a, C, dx, fv, r, h1, h2, h3, h4, h5, h6, h7⟩, e, k =>
    ⟨a, C, dx, fv, r, h1, h2, h3, by rw [k a (by rw [h3]; simp)]; exact h4, by rw [k dx (by rw [h3]; simp)]; exact h5, h6, reps.loc h7 e fun b hb => k b (by rw [h3]; simp [hb])⟩
  | .ins false _ _ _, _, _, ⟨h, a, C, dx, fv, h1, h2, h3, h4, h5, h6⟩, e, _ => ⟨h, a, C, dx, fv, h1, h2, e _ _ h3, e _ _ h4, h5, reps.loc h6 e fun _ hb => by cases hb⟩
  | .exn _, _, _, h, _, _ => h
theorem reps.loc : ∀ {xs : List PV} {vs : List V} {ads : List Addr}, reps K cl F H xs vs ads → Ex F F' → (∀ a ∈ ads, H' a = H a) → reps K cl F' H' xs vs ads
  | [], [], _, h, _, _ => h
  | _ :: _, _ :: _, _, ⟨a, b, h1, h2, h3⟩, e, k => ⟨a, b, h1, rep.loc h2 e fun c hc => k c (by rw [h1]; simp [hc]), reps.loc h3 e fun c hc => k c (by rw [h1]; simp [hc])⟩
end
mutual
theorem rep.there : ∀ {x : PV} {v : V} {ads : List Addr}, rep K cl F H x v ads → ∀ a ∈ ads, (H a).isSome = true
  | .non, _, _, h, b, hb => by rw [h.2] at hb; cases hb
  | .bl _, _, _, h, b, hb => by rw [h.2] at hb; cases hb
  | .int _, _, _, h, b, hb => by rw [h.2] at hb; cases hb
  | .str _, _, _, h, b, hb => by rw [h.2] at hb; cases hb
  | .scr _, _, _, ⟨h, _⟩, b, hb => by rw [h] at hb; cases hb
  | .tup _, _, _, ⟨a, vs, h1, h2, h3⟩, b, hb => reps.there h3 b hb
  | .lst true _, _, _, ⟨a, vs, r, h1, h2, h3, h4⟩, b, hb => by
    rw [h2] at hb
    rcases List.mem_cons.mp hb with rfl | hb
    · rw [h3]; rfl
    · exact reps.there h4 b hb
  | .lst false _, _, _, ⟨h, _⟩, b, hb => by rw [h] at hb; cases hb
  | .dic true _ _, _, _, ⟨a, dk, h1, h2, h3, h4, h5⟩, b, hb => by
    rw [h2, List.mem_singleton] at hb
    rw [hb, h3]; rfl
  | .dic false _ _, _, _, ⟨h, _⟩, b, hb => by rw [h] at hb; cases hb
  | .ins true _ _ _, _, _, ⟨a, C, dx, fv, r, h1, h2, h3, h4, h5, h6, h7⟩, b, hb => by
    rw [h3] at hb
    rcases List.mem_cons.mp hb with rfl | hb
    · rw [h4]; rfl
    · rcases List.mem_cons.mp hb with rfl | hb
      · rw [h5]; rfl
      · exact reps.there h7 b hb
  | .ins false _ _ _, _, _, ⟨h, _⟩, b, hb => by rw [h] at hb; cases hb
  | .exn _, _, _, h, b, hb => by rw [show _ = [] from h] at hb; cases hb
theorem reps.there : ∀ {xs : List PV} {vs : List V} {ads : List Addr}, reps K cl F H xs vs ads → ∀ a ∈ ads, (H a).isSome = true
  | [], [], _, h, b, hb => by rw [show _ = [] from h] at hb; cases hb
  | _ :: _, _ :: _, _, ⟨a, b, h1, h2, h3⟩, c, hc => by
    rw [h1] at hc
    rcases List.mem_append.mp hc with hc | hc
    · exact rep.there h2 c hc
    · exact reps.there h3 c hc
end
mutual
theorem rep.fz : ∀ {x : PV} {v : V} {ads : List Addr}, isF x = true → rep K cl F H x v ads → ads = [] ∧ ∀ H', rep K cl F H' x v []
  | .non, _, _, _, h => ⟨h.2, fun _ => ⟨h.1, rfl⟩⟩
  | .bl _, _, _, _, h => ⟨h.2, fun _ => ⟨h.1, rfl⟩⟩
  | .int _, _, _, _, h => ⟨h.2, fun _ => ⟨h.1, rfl⟩⟩
  | .str _, _, _, _, h => ⟨h.2, fun _ => ⟨h.1, rfl⟩⟩
  | .scr _, _, _, _, ⟨h, h2⟩ => ⟨h, fun _ => ⟨rfl, h2⟩⟩
  | .tup _, _, _, f, ⟨a, vs, h1, h2, h3⟩ => ⟨(reps.fz f h3).1, fun H' => ⟨a, vs, h1, h2, (reps.fz f h3).2 H'⟩⟩
  | .lst true _, _, _, f, _ => by simp [isF] at f
  | .lst false xs, _, _, f, ⟨h, a, vs, h1, h2, h3⟩ => ⟨h, fun H' => ⟨rfl, a, vs, h1, h2, (reps.fz (by simpa [isF] using f) h3).2 H'⟩⟩
  | .dic true _ _, _, _, f, _ => by simp [isF] at f
  | .dic false _ _, _, _, f, ⟨h, a, dk, h1, h2, h3, h4⟩ => ⟨h, fun H' => ⟨rfl, a, dk, h1, h2, h3, (reps.fz (by simpa [isF] using f) h4).2 H'⟩⟩
  | .ins true _ _ _, _, _, f, _ => by simp [isF] at f
  | .ins false _ _ _, _, _, f, ⟨h, a, C, dx, fv, h1, h2, h3, h4, h5, h6⟩ => ⟨h, fun H' => ⟨rfl, a, C, dx, fv, h1, h2, h3, h4, h5, (reps.fz (by simpa [isF] using f) h6).2 H'⟩⟩
  | .exn _, _, _, _, h => ⟨h, fun _ => rfl⟩
theorem reps.fz : ∀ {xs : List PV} {vs : List V} {ads : List Addr}, isFs xs = true → reps K cl F H xs vs ads → ads = [] ∧ ∀ H', reps K cl F H' xs vs []
  | [], [], _, _, h => ⟨h, fun _ => rfl⟩
  | x :: xs, _ :: _, _, f, ⟨a, b, h1, h2, h3⟩ => by
    simp only [isFs, Bool.and_eq_true] at f
    obtain ⟨e1, k1⟩ := rep.fz f.1 h2
    obtain ⟨e2, k2⟩ := reps.fz f.2 h3
    subst e1
    subst e2
    exact ⟨h1, fun H' => ⟨[], [], rfl, k1 H', k2 H'⟩⟩
end
mutual
theorem rep.isF0 : ∀ {x : PV} {v : V}, rep K cl F H x v [] → isF x = true
  | .non, _, _ => rfl
  | .bl _, _, _ => rfl
  | .int _, _, _ => rfl
  | .str _, _, _ => rfl
  | .scr _, _, _ => rfl
  | .tup _, _, ⟨a, vs, h1, h2, h3⟩ => reps.isF0 h3
  | .lst true _, _, ⟨a, vs, r, h1, h2, _⟩ => by cases h2
  | .lst false _, _, ⟨h, a, vs, h1, h2, h3⟩ => by simp [isF, reps.isF0 h3]
  | .dic true _ _, _, ⟨a, dk, h1, h2, _⟩ => by cases h2
  | .dic false _ _, _, ⟨h, a, dk, h1, h2, h3, h4⟩ => by simp [isF, reps.isF0 h4]
  | .ins true _ _ _, _, ⟨a, C, dx, fv, r, h1, h2, h3, _⟩ => by cases h3
  | .ins false _ _ _, _, ⟨h, a, C, dx, fv, h1, h2, h3, h4, h5, h6⟩ => by simp [isF, reps.isF0 h6]
  | .exn _, _, _ => rfl
theorem reps.isF0 : ∀ {xs : List PV} {vs : List V}, reps K cl F H xs vs [] → isFs xs = true
  | [], [], _ => rfl
  | _ :: _, _ :: _, ⟨a, b, h1, h2, h3⟩ => by
    obtain ⟨rfl, rfl⟩ := List.append_eq_nil_iff.mp h1.symm
    simp [isFs, rep.isF0 h2, reps.isF0 h3]
end
mutual
theorem frz_F : ∀ {n : Nat} {x : PV}, isF x = true → frz n x = x
  | n, .tup xs, f => by cases n <;> simp [frz, frzs_F (show isFs xs = true from f)]
  | 0, .lst o xs, f => by simp only [isF, Bool.and_eq_true, Bool.not_eq_true'] at f; simp [frz, frzs_F f.2, f.1]
  | n + 1, .lst o xs, f => by simp only [isF, Bool.and_eq_true, Bool.not_eq_true'] at f; simp [frz, frzs_F f.2]
  | 0, .dic o ks xs, f => by simp only [isF, Bool.and_eq_true, Bool.not_eq_true'] at f; simp [frz, frzs_F f.2, f.1]
  | n + 1, .dic o ks xs, f => by simp only [isF, Bool.and_eq_true, Bool.not_eq_true'] at f; simp [frz, frzs_F f.2]
  | 0, .ins o c fs xs, f => by simp only [isF, Bool.and_eq_true, Bool.not_eq_true'] at f; simp [frz, frzs_F f.2, f.1]
  | n + 1, .ins o c fs xs, f => by simp only [isF, Bool.and_eq_true, Bool.not_eq_true'] at f; simp [frz, frzs_F f.2]
  | n, .non, _ => by cases n <;> rfl
  | n, .bl _, _ => by cases n <;> rfl
  | n, .int _, _ => by cases n <;> rfl
  | n, .str _, _ => by cases n <;> rfl
  | n, .scr _, _ => by cases n <;> rfl
  | n, .exn _, _ => by cases n <;> rfl
theorem frzs_F : ∀ {n : Nat} {xs : List PV}, isFs xs = true → frzs n xs = xs
  | n, [], _ => by cases n <;> rfl
  | n, x :: xs, f => by
    simp only [isFs, Bool.and_eq_true] at f
    simp [frzs, frz_F f.1, frzs_F f.2]
end
theorem sub_nil_app {a b c d : List Addr} (h : a.Sublist c) (h2 : b.Sublist d) : (a ++ b).Sublist (c ++ d) := h.append h2
mutual
theorem rep.frz : ∀ {n : Nat} {x : PV} {v : V} {ads : List Addr}, rep K cl F H x v ads → ads.Nodup → ∃ ads', ads'.Sublist ads ∧ (n = 0 → ads' = []) ∧ ∀ F', Ex F F' → (∀ a ∈ ads, a ∉ ads' → F' a = H a) → rep K cl F' H (frz n x) v ads'
  | n, .non, _, _, h, _ => ⟨[], List.nil_sublist _, fun _ => rfl, fun F' _ _ => by rw [frz_F rfl]; exact ⟨h.1, rfl⟩⟩
  | n, .bl _, _, _, h, _ => ⟨[], List.nil_sublist _, fun _ => rfl, fun F' _ _ => by rw [frz_F rfl]; exact ⟨h.1, rfl⟩⟩
  | n, .int _, _, _, h, _ => ⟨[], List.nil_sublist _, fun _ => rfl, fun F' _ _ => by rw [frz_F rfl]; exact ⟨h.1, rfl⟩⟩
  | n, .str _, _, _, h, _ => ⟨[], List.nil_sublist _, fun _ => rfl, fun F' _ _ => by rw [frz_F rfl]; exact ⟨h.1, rfl⟩⟩
  | n, .exn _, _, _, h, _ => ⟨[], List.nil_sublist _, fun _ => rfl, fun F' _ _ => by rw [frz_F rfl]; exact rfl⟩
  | n, .scr _, _, _, ⟨h, a, h1, h2⟩, _ => ⟨[], List.nil_sublist _, fun _ => rfl, fun F' e _ => by rw [frz_F rfl]; exact ⟨rfl, a, h1, e.sqL h2⟩⟩
  | n, .tup xs, _, _, ⟨a, vs, h1, h2, h3⟩, nd => by
    obtain ⟨ads', s, z, k⟩ := reps.frz (n := n) h3 nd
    exact ⟨ads', s, z, fun F' e q => by cases n <;> exact ⟨a, vs, h1, e.sqT h2, k F' e q⟩⟩
  | 0, .lst true xs, _, _, ⟨a, vs, r, h1, h2, h3, h4⟩, nd => by
    subst h2
    obtain ⟨ads', s, z, k⟩ := reps.frz (n := 0) h4 (List.nodup_cons.mp nd).2
    obtain rfl := z rfl
    refine ⟨[], List.nil_sublist _, fun _ => rfl, fun F' e q => ⟨rfl, a, vs, h1, by rw [q a (by simp) (by simp)]; exact h3, ?_⟩⟩
    have := k F' e fun b hb _ => q b (by simp [hb]) (by simp)
    exact (reps.fz this.isF0 this).2 _
  | n + 1, .lst true xs, _, _, ⟨a, vs, r, h1, h2, h3, h4⟩, nd => by
    subst h2
    obtain ⟨ads', s, _, k⟩ := reps.frz (n := n) h4 (List.nodup_cons.mp nd).2
    refine ⟨a :: ads', s.cons₂ a, fun z => (by cases z), fun F' e q => ⟨a, vs, ads', h1, rfl, h3, k F' e fun b hb hn => q b (by simp [hb]) fun hm => ?_⟩⟩
    rcases List.mem_cons.mp hm with rfl | hm
    · exact (List.nodup_cons.mp nd).1 hb
    · exact hn hm
  | 0, .lst false xs, _, _, ⟨h, a, vs, h1, h2, h3⟩, nd => ⟨[], List.nil_sublist _, fun _ => rfl, fun F' e _ => by
      rw [frz_F (by simp [isF, h3.isF0])]; exact ⟨rfl, a, vs, h1, e _ _ h2, reps.loc h3 e fun _ hb => by cases hb⟩⟩
  | n + 1, .lst false xs, _, _, ⟨h, a, vs, h1, h2, h3⟩, nd => ⟨[], List.nil_sublist _, fun _ => rfl, fun F' e _ => by
      rw [frz_F (by simp [isF, h3.isF0])]; exact ⟨rfl, a, vs, h1, e _ _ h2, reps.loc h3 e fun _ hb => by cases hb⟩⟩
  | 0, .dic true ks xs, _, _, ⟨a, dk, h1, h2, h3, h4, h5⟩, nd => by
    subst h2
    refine ⟨[], List.nil_sublist _, fun _ => rfl, fun F' e q => ⟨rfl, a, dk, h1, by rw [q a (by simp) (by simp)]; exact h3, h4, ?_⟩⟩
    rw [frzs_F h5.isF0]
    exact reps.loc h5 e fun _ hb => by cases hb
  | n + 1, .dic true ks xs, _, _, ⟨a, dk, h1, h2, h3, h4, h5⟩, nd => by
    subst h2
    refine ⟨[a], List.Sublist.refl _, fun z => (by cases z), fun F' e q => ⟨a, dk, h1, rfl, h3, h4, ?_⟩⟩
    rw [frzs_F h5.isF0]
    exact reps.loc h5 e fun _ hb => by cases hb
  | 0, .dic false ks xs, _, _, ⟨h, a, dk, h1, h2, h3, h4⟩, nd => ⟨[], List.nil_sublist _, fun _ => rfl, fun F' e _ => by
      rw [frz_F (by simp [isF, h4.isF0])]; exact ⟨rfl, a, dk, h1, e _ _ h2, h3, reps.loc h4 e fun _ hb => by cases hb⟩⟩
  | n + 1, .dic false ks xs, _, _, ⟨h, a, dk, h1, h2, h3, h4⟩, nd => ⟨[], List.nil_sublist _, fun _ => rfl, fun F' e _ => by
      rw [frz_F (by simp [isF, h4.isF0])]; exact ⟨rfl, a, dk, h1, e _ _ h2, h3, reps.loc h4 e fun _ hb => by cases hb⟩⟩
  | 0, .ins true c fs xs, _, _, ⟨a, C, dx, fv, r, h1, h2, h3, h4, h5, h6, h7⟩, nd => by
    subst h3
    obtain ⟨ads', s, z, k⟩ := reps.frz (n := 0) h7 (List.nodup_cons.mp (List.nodup_cons.mp nd).2).2
    obtain rfl := z rfl
    refine ⟨[], List.nil_sublist _, fun _ => rfl, fun F' e q => ⟨rfl, a, C, dx, fv, h1, h2, by rw [q a (by simp) (by simp)]; exact h4, by rw [q dx (by simp) (by simp)]; exact h5, h6, ?_⟩⟩
    have := k F' e fun b hb _ => q b (by simp [hb]) (by simp)
    exact (reps.fz this.isF0 this).2 _
  | n + 1, .ins true c fs xs, _, _, ⟨a, C, dx, fv, r, h1, h2, h3, h4, h5, h6, h7⟩, nd => by
    subst h3
    have nd1 := List.nodup_cons.mp nd
    have nd2 := List.nodup_cons.mp nd1.2
    obtain ⟨ads', s, _, k⟩ := reps.frz (n := n) h7 nd2.2
    refine ⟨a :: dx :: ads', (s.cons₂ dx).cons₂ a, fun z => (by cases z), fun F' e q => ⟨a, C, dx, fv, ads', h1, h2, rfl, h4, h5, h6, k F' e fun b hb hn => q b (by simp [hb]) fun hm => ?_⟩⟩
    rcases List.mem_cons.mp hm with rfl | hm
    · exact nd1.1 (by simp [hb])
    · rcases List.mem_cons.mp hm with rfl | hm
      · exact nd2.1 hb
      · exact hn hm
  | 0, .ins false c fs xs, _, _, ⟨h, a, C, dx, fv, h1, h2, h3, h4, h5, h6⟩, nd => ⟨[], List.nil_sublist _, fun _ => rfl, fun F' e _ => by
      rw [frz_F (by simp [isF, h6.isF0])]; exact ⟨rfl, a, C, dx, fv, h1, h2, e _ _ h3, e _ _ h4, h5, reps.loc h6 e fun _ hb => by cases hb⟩⟩
  | n + 1, .ins false c fs xs, _, _, ⟨h, a, C, dx, fv, h1, h2, h3, h4, h5, h6⟩, nd => ⟨[], List.nil_sublist _, fun _ => rfl, fun F' e _ => by
      rw [frz_F (by simp [isF, h6.isF0])]; exact ⟨rfl, a, C, dx, fv, h1, h2, e _ _ h3, e _ _ h4, h5, reps.loc h6 e fun _ hb => by cases hb⟩⟩
theorem reps.frz : ∀ {n : Nat} {xs : List PV} {vs : List V} {ads : List Addr}, reps K cl F H xs vs ads → ads.Nodup → ∃ ads', ads'.Sublist ads ∧ (n = 0 → ads' = []) ∧ ∀ F', Ex F F' → (∀ a ∈ ads, a ∉ ads' → F' a = H a) → reps K cl F' H (frzs n xs) vs ads'
  | n, [], [], _, h, _ => ⟨[], List.nil_sublist _, fun _ => rfl, fun _ _ _ => by cases n <;> rfl⟩
  | n, x :: xs, v :: vs, _, ⟨a, b, h1, h2, h3⟩, nd => by
    subst h1
    have ndd := List.nodup_append.mp nd
    obtain ⟨a', s1, z1, k1⟩ := rep.frz (n := n) h2 ndd.1
    obtain ⟨b', s2, z2, k2⟩ := reps.frz (n := n) h3 ndd.2.1
    refine ⟨a' ++ b', s1.append s2, fun z => by rw [z1 z, z2 z]; rfl, fun F' e q => ?_⟩
    refine ⟨a', b', rfl, k1 F' e fun c hc hn => q c (by simp [hc]) fun hm => ?_, k2 F' e fun c hc hn => q c (by simp [hc]) fun hm => ?_⟩
    · rcases List.mem_append.mp hm with hm | hm
      · exact hn hm
      · exact ndd.2.2 c hc c (s2.subset hm) rfl
    · rcases List.mem_append.mp hm with hm | hm
      · exact ndd.2.2 c (s1.subset hm) c hc rfl
      · exact hn hm
end
end
/-- the claim about a plain value -/
def co (K : PySem.W.Frag) (cl : Str → Option Addr) (x : PV) : Co where
  p := fun F H v ads => rep K cl F H x v ads
  loc := fun h e k => h.loc e k
  there := fun h => h.there
end Rk

set_option Elab.async false
set_option linter.all false
set_option maxRecDepth 100000
set_option maxHeartbeats 1000000
namespace Rk
open PySem PySem.Spec PyProof.Rows L2
/-- lists stay below this -/
def lim : Nat := 1000000
theorem lim_line : lim ≤ sizeLine := by decide
def ofO (x : Option PV) (e : Slots) : Res PV := match x with
  | none => .stuck
  | some v => .ok v e
def ofF (x : Option PV) (e : Slots) : Res PV := match x with
  | none => .stuck
  | some v => if isF v = true then .ok v e else .stuck
def slot (e : Slots) (i : Nat) : Option PV := (e[i]?).join
instance {i j : Int} : Decidable (CMul i j) := by unfold CMul; infer_instance
instance {i j : Int} : Decidable (CDivN i j) := by unfold CDivN; infer_instance
instance {i j : Int} : Decidable (CPow i j) := by unfold CPow; infer_instance
/-! ### operators on plain values -/
def isNonQ : PV → Option Bool
  | .non => some true
  | .exn _ => none
  | _ => some false
def lookF : List Str → List PV → Str → Option PV
  | f :: fs, x :: xs, g => if g = f then some x else lookF fs xs g
  | _, _, _ => none
def setF : List Str → List PV → Str → PV → List PV
  | f :: fs, x :: xs, g, y => if g = f then y :: xs else x :: setF fs xs g y
  | _, xs, _, _ => xs
mutual
/-- the data is flat enough for == -/
def okD : Nat → PV → Bool
  | _, .non => true
  | _, .bl _ => true
  | _, .int _ => true
  | _, .str s => PyData.strOk s
  | n + 1, .tup xs => okDs n xs
  | n + 1, .lst _ xs => okDs n xs
  | _, _ => false
def okDs : Nat → List PV → Bool
  | _, [] => true
  | n, x :: xs => okD n x && okDs n xs
end
mutual
def pvEq : PV → PV → Bool
  | .non, .non => true
  | .bl a, .bl b => a == b
  | .bl a, .int j => (if a then 1 else 0) == j
  | .int i, .bl b => i == (if b then 1 else 0)
  | .int i, .int j => i == j
  | .str x, .str y => x == y
  | .lst _ xs, .lst _ ys => pvEqs xs ys
  | .tup xs, .tup ys => pvEqs xs ys
  | _, _ => false
def pvEqs : List PV → List PV → Bool
  | [], [] => true
  | x :: xs, y :: ys => pvEq x y && pvEqs xs ys
  | _, _ => false
end
def eqQ (x y : PV) : Option Bool := if okD 64 x = true ∧ okD 64 y = true then some (pvEq x y) else none
def flatP : PV → Bool
  | .non => true
  | .bl _ => true
  | .int _ => true
  | .str _ => true
  | _ => false
def inStr (a b : Str) : Bool := !(Builtin.Str.occurrences b a 0 b.length 1).isEmpty
def inQ (x : PV) : PV → Option Bool
  | .lst _ ys => if okD 64 x = true ∧ okDs 63 ys = true then some (ys.any fun y => pvEq y x) else none
  | .tup ys => if flatP x = true ∧ ys.all flatP = true then some (ys.any fun y => pvEq y x) else none
  | .str b => match x with
    | .str a => some (inStr a b)
    | _ => none
  | _ => none
def binQ : Operator → PV → PV → Option PV
  | .Add, .int i, .int j => some (.int (i + j))
  | .Add, .str a, .str b => if a.length + b.length ≤ sizeLine then some (.str (a ++ b)) else none
  | .Sub, .int i, .int j => some (.int (i - j))
  | .Mult, .int i, .int j => if CMul i j then some (.int (i * j)) else none
  | .FloorDiv, .int i, .int j => if CDivN i j then some (.int (i.fdiv j)) else none
  | .Mod, .int i, .int j => if j ≠ 0 then some (.int (i.fmod j)) else none
  | .Pow, .int i, .int j => if CPow i j then some (.int (i ^ j.toNat)) else none
  | _, _, _ => none
def catQ : Operator → PV → PV → Option PV
  | .Add, .lst _ xs, .lst _ ys => if isFs xs = true ∧ isFs ys = true ∧ xs.length + ys.length ≤ lim then some (.lst true (xs ++ ys)) else none
  | .Add, .tup xs, .tup ys => if isFs xs = true ∧ isFs ys = true ∧ xs.length + ys.length ≤ lim then some (.tup (xs ++ ys)) else none
  | .Mult, .lst _ xs, .int n => if isFs xs = true ∧ -(2 ^ 62) < n ∧ n < 2 ^ 62 ∧ xs.length * n.toNat ≤ lim then some (.lst true (List.replicate n.toNat xs).flatten) else none
  | _, _, _ => none
def cmpQ : CmpOp → PV → PV → Option Bool
  | .Eq, x, y => eqQ x y
  | .NotEq, x, y => (eqQ x y).map (!·)
  | .Lt, .int i, .int j => some (decide (i < j))
  | .LtE, .int i, .int j => some (decide (i ≤ j))
  | .Gt, .int i, .int j => some (decide (j < i))
  | .GtE, .int i, .int j => some (decide (j ≤ i))
  | .Is, x, .non => isNonQ x
  | .IsNot, x, .non => (isNonQ x).map (!·)
  | .Is, .bl a, .bl b => some (decide (a = b))
  | .IsNot, .bl a, .bl b => some (!decide (a = b))
  | .In, x, y => inQ x y
  | .NotIn, x, y => (inQ x y).map (!·)
  | _, _, _ => none
def negQ : PV → Option PV
  | .int i => some (.int (-i))
  | _ => none
def boolQ : PV → Option Bool
  | .bl b => some b
  | _ => none
def notQ (x : PV) : Option PV := (boolQ x).map fun b => .bl (!b)
def ixQ : PV → PV → Option PV
  | .lst _ xs, .int i => atI xs i
  | .tup xs, .int i => atI xs i
  | .scr ns, .int i => (atI ns i).map .int
  | .str z, .int i => if z.length ≤ sizeLine then (atI z.cps.toList i).map fun c => .str ⟨#[c]⟩ else none
  | _, _ => none
/-! dicts -/
def keyP : PV → Option Key
  | .int i => some (.inl i)
  | .str s => some (.inr s)
  | _ => none
def keyIsP (x y : PV) : Bool := match keyP x, keyP y with
  | some a, some b => decide (a = b)
  | _, _ => false
def lookD : List PV → List PV → PV → Option PV
  | k :: ks, x :: xs, g => if keyIsP k g = true then some x else lookD ks xs g
  | _, _, _ => none
def setD' : List PV → List PV → PV → PV → List PV
  | k :: ks, x :: xs, g, y => if keyIsP k g = true then y :: setD' ks xs g y else x :: setD' ks xs g y
  | _, _, _, _ => []
def putD (ks xs : List PV) (g y : PV) : List PV × List PV := if (lookD ks xs g).isSome = true then (ks, setD' ks xs g y) else (ks ++ [g], xs ++ [y])
def dropDk : List PV → PV → List PV
  | k :: ks, g => if keyIsP k g = true then dropDk ks g else k :: dropDk ks g
  | [], _ => []
def dropDx : List PV → List PV → PV → List PV
  | k :: ks, x :: xs, g => if keyIsP k g = true then dropDx ks xs g else x :: dropDx ks xs g
  | _, _, _ => []
def dixQ : PV → PV → Option PV
  | .dic _ ks xs, g => if (keyP g).isSome = true then lookD ks xs g else none
  | _, _ => none
def dgetQ : PV → PV → PV → Option PV
  | .dic _ ks xs, g, y => if (keyP g).isSome = true then some ((lookD ks xs g).getD y) else none
  | _, _, _ => none
def dinQ : PV → PV → Option Bool
  | .dic _ ks xs, g => if (keyP g).isSome = true then some (lookD ks xs g).isSome else none
  | _, _ => none
def fldQ : PV → Str → Option PV
  | .ins _ _ fs xs, f => lookF fs xs f
  | _, _ => none
/-! built-in functions that give a plain value -/
def intsP : List PV → Option (List Int)
  | [] => some []
  | .int i :: xs => (intsP xs).map (i :: ·)
  | _ :: _ => none
def boolsP : List PV → Option (List Bool)
  | [] => some []
  | .bl i :: xs => (boolsP xs).map (i :: ·)
  | _ :: _ => none
def strsP : List PV → Option (List Str)
  | [] => some []
  | .str i :: xs => (strsP xs).map (i :: ·)
  | _ :: _ => none
def lenQ : PV → Option PV
  | .lst _ xs => some (.int xs.length)
  | .tup xs => some (.int xs.length)
  | .scr xs => some (.int xs.length)
  | .dic _ ks _ => some (.int ks.length)
  | .str z => if z.length ≤ sizeLine then some (.int z.length) else none
  | _ => none
def sumQ : PV → Option PV
  | .lst _ xs => (intsP xs).map fun ns => .int ns.sum
  | .scr ns => some (.int ns.sum)
  | _ => none
def bltQ : Blt → List PV → Option PV
  | .len, [x] => lenQ x
  | .intOf, [.int i] => some (.int i)
  | .intOf, [.bl k] => some (.int (if k then 1 else 0))
  | .strI, [.int i] => if i.natAbs.log2 < 1920 then some (.str (toString i)) else none
  | .sum, [x] => sumQ x
  | .all, [.lst _ xs] => (boolsP xs).map fun bs => .bl (bs.all id)
  | .any, [.lst _ xs] => (boolsP xs).map fun bs => .bl (bs.any id)
  | .max2, [.int i, .int j] => some (.int (if j > i then j else i))
  | .min2, [.int i, .int j] => some (.int (if j < i then j else i))
  | _, _ => none
def bltPu : Blt → Bool
  | .lstOf => false
  | .tupOf => false
  | .sortI => false
  | .sortD => false
  | _ => true
/-- what isinstance answers -/
def tyN : PV → Option Nat
  | .non => some 0
  | .bl _ => some 1
  | .int _ => some 2
  | .str _ => some 3
  | .tup _ => some 4
  | .lst _ _ => some 5
  | _ => none
def isiQ (ty : String) (x : PV) : Option Bool := (tyN x).bind fun n =>
  if ty = "int" then some (n == 2 || n == 1) else if ty = "bool" then some (n == 1) else if ty = "str" then some (n == 3) else
  if ty = "tuple" then some (n == 4) else if ty = "list" then some (n == 5) else none
/-! ### what changes nothing and makes nothing -/
def andO (x : Option PV) (y : Option PV) : Option PV := (x.bind boolQ).bind fun b => if b = true then y else some (.bl false)
def orO (x : Option PV) (y : Option PV) : Option PV := (x.bind boolQ).bind fun b => if b = true then some (.bl true) else y
def bmPu : Bm → Bool
  | _ => false
def bmQ : Bm → PV → List PV → Option PV
  | _, _, _ => none
mutual
def evQ (e : Slots) : CE → Option PV
  | .var i => slot e i
  | .int n => some (.int n)
  | .str s => some (.str s)
  | .non => some .non
  | .bl b => some (.bl b)
  | .con _ v => some v
  | .bin op a b => (evQ e a).bind fun x => (evQ e b).bind fun y => binQ op x y
  | .neg a => (evQ e a).bind negQ
  | .cmp op a b => (evQ e a).bind fun x => (evQ e b).bind fun y => (cmpQ op x y).map .bl
  | .chn op op2 a b c => (evQ e a).bind fun x => (evQ e b).bind fun y => (cmpQ op x y).bind fun t => if t = true then (evQ e c).bind fun z => (cmpQ op2 y z).map .bl else some (.bl false)
  | .and es => evAnd e es
  | .or es => evOr e es
  | .not a => (evQ e a).bind notQ
  | .ix a i => (evQ e a).bind fun x => (evQ e i).bind fun y => ixQ x y
  | .dix a i => (evQ e a).bind fun x => (evQ e i).bind fun y => dixQ x y
  | .din neg a d => (evQ e a).bind fun x => (evQ e d).bind fun y => (dinQ y x).map fun b => .bl (if neg then !b else b)
  | .fld a f => (evQ e a).bind fun x => fldQ x f
  | .blt b es => if bltPu b = true then (evQs e es).bind (bltQ b) else none
  | .isi a ty => (evQ e a).bind fun x => (isiQ ty x).map .bl
  | .dget1 d k => (evQ e d).bind fun x => (evQ e k).bind fun y => dgetQ x y .non
  | .dget2 d k z => (evQ e d).bind fun x => (evQ e k).bind fun y => (evQ e z).bind fun u => dgetQ x y u
  | .bm b o es => if bmPu b = true then (evQ e o).bind fun x => (evQs e es).bind fun ys => bmQ b x ys else none
  | _ => none
def evQs (e : Slots) : List CE → Option (List PV)
  | [] => some []
  | c :: cs => (evQ e c).bind fun x => (evQs e cs).bind fun xs => some (x :: xs)
def evAnd (e : Slots) : List CE → Option PV
  | [] => none
  | [c] => ((evQ e c).bind boolQ).map .bl
  | c :: cs => andO (evQ e c) (evAnd e cs)
def evOr (e : Slots) : List CE → Option PV
  | [] => none
  | [c] => ((evQ e c).bind boolQ).map .bl
  | c :: cs => orO (evQ e c) (evOr e cs)
end
mutual
/-- by its form it changes nothing and makes nothing -/
def pu : CE → Bool
  | .var _ => true
  | .int _ => true
  | .str _ => true
  | .non => true
  | .bl _ => true
  | .con _ _ => true
  | .bin _ a b => pu a && pu b
  | .neg a => pu a
  | .cmp _ a b => pu a && pu b
  | .chn _ _ a b c => pu a && pu b && pu c
  | .and es => pus es
  | .or es => pus es
  | .not a => pu a
  | .ix a i => pu a && pu i
  | .dix a i => pu a && pu i
  | .din _ a d => pu a && pu d
  | .fld a _ => pu a
  | .blt b es => bltPu b && pus es
  | .isi a _ => pu a
  | .dget1 d k => pu d && pu k
  | .dget2 d k z => pu d && pu k && pu z
  | .bm b o es => bmPu b && pu o && pus es
  | _ => false
def pus : List CE → Bool
  | [] => true
  | c :: cs => pu c && pus cs
end
/-! ### the rest -/
/-- a value: what is one's own and has a name is given up -/
def valM (c : CE) (x : Slots → Res PV) (e : Slots) : Res PV :=
  if pu c = true then match evQ e c with
    | none => .stuck
    | some v => if isF v = true then .ok v e else match c with
      | .var i => .ok (frz 0 v) (e.set i (some (frz 0 v)))
      | _ => .stuck
  else x e
def one {β : Type} (a : CE) (xa : Slots → Res PV) (e : Slots) (k : PV → Slots → Res β) : Res β :=
  if pu a = true then match evQ e a with
    | none => .stuck
    | some x => k x e
  else (xa e).bind k
/-- a display of things that do not change, or one some times -/
def itE (e : Slots) : CE → Option PV
  | .tup es => if pus es = true then (evQs e es).bind fun ys => if isFs ys = true ∧ ys.length ≤ lim then some (.tup ys) else none else none
  | c => if pu c = true then (evQ e c).bind fun x => if isF x = true then some x else none else none
def itsE (e : Slots) : List CE → Option (List PV)
  | [] => some []
  | c :: cs => (itE e c).bind fun x => (itsE e cs).map (x :: ·)
def dspM (ys : List PV) : PV → Option PV
  | .int m => if ys.length ≤ lim ∧ -(2 ^ 62) < m ∧ m < 2 ^ 62 ∧ ys.length * m.toNat ≤ lim then some (.lst true (List.replicate m.toNat ys).flatten) else none
  | _ => none
def dspE (e : Slots) : CE → Option PV
  | .lst es => (itsE e es).bind fun ys => if ys.length ≤ lim then some (.lst true ys) else none
  | .cat .Mult (.lst es) n => if pu n = true then (itsE e es).bind fun ys => (evQ e n).bind fun m => dspM ys m else none
  | _ => none
def two (a b : CE) (xa xb : Slots → Res PV) (e : Slots) (k : PV → PV → Slots → Res PV) : Res PV :=
  if pu a = true then match evQ e a with
    | none => .stuck
    | some x => if pu b = true then (match evQ e b with
        | none => .stuck
        | some y => k x y e)
      else if isF x = true then (xb e).bind fun y e => k x y e else match dspE e b with
        | none => .stuck
        | some y => k x y e
  else (xa e).bind fun x e => if pu b = true then (match evQ e b with
        | none => .stuck
        | some y => k x y e)
      else (xb e).bind fun y e => k x y e
/-- an argument: a value, or what is one's own and has a name, lent -/
def argM (c : CE) (x : Slots → Res PV) (e : Slots) : Res (PV × Option Nat) :=
  match c with
  | .var i => (match slot e i with
    | none => .stuck
    | some v => if isF v = true then .ok (v, none) e else .ok (v, some i) (e.set i none))
  | _ => (valM c x e).bind fun v e => .ok (v, none) e
def backM : List (PV × Option Nat) → List (Option PV) → Slots → Slots
  | (_, some i) :: as, o :: os, e => backM as os (e.set i o)
  | (_, none) :: as, _ :: os, e => backM as os e
  | _, _, e => e
def callM (f : Fn) (as : List (PV × Option Nat)) (e : Slots) : Res PV :=
  match f (as.map (·.1)) with
  | .stuck => .stuck
  | .exc x os => .exc x (backM as os e)
  | .ok v os => .ok v (backM as os e)
def makeM (c : Str) (f : Fn) (as : List (PV × Option Nat)) (e : Slots) : Res PV :=
  match f (.ins true c [] [] :: as.map (·.1)) with
  | .exc x (_ :: os) => .exc x (backM as os e)
  | .ok .non (some s :: os) => .ok s (backM as os e)
  | _ => .stuck
def okR (c m : Str) : PV → Bool
  | .ins _ c' fs xs => decide (c' = c) && (lookF fs xs m).isNone
  | _ => false
def partQ (e : Slots) : CE → Option (Option Int)
  | .nop => some none
  | c => if pu c = true then match evQ e c with
    | some (.int i) => some (some i)
    | _ => none
    else none
def cutL {α : Type} (xs : List α) (lo hi : Option Int) : List α := (xs.drop (HT.sIx xs.length 0 lo)).take (HT.sIx xs.length xs.length hi - HT.sIx xs.length 0 lo)
def slQ (x : PV) (l h : Option Int) : Option PV := match x with
  | .lst _ xs => if isFs xs = true then some (.lst true (cutL xs l h)) else none
  | .tup xs => if isFs xs = true then some (.tup (cutL xs l h)) else none
  | .scr ns => some (.lst true ((cutL ns l h).map .int))
  | .str z => if z.length ≤ sizeLine then some (.str (cutS z l h)) else none
  | _ => none
def sortIL (ns : List Int) : List Int := ns.mergeSort (· ≤ ·)
def bltX : Blt → PV → Option PV
  | .lstOf, .lst _ xs => if isFs xs = true then some (.lst true xs) else none
  | .lstOf, .tup xs => if isFs xs = true then some (.lst true xs) else none
  | .lstOf, .scr ns => some (.lst true (ns.map .int))
  | .tupOf, .lst _ xs => if isFs xs = true then some (.tup xs) else none
  | .tupOf, .tup xs => if isFs xs = true then some (.tup xs) else none
  | .sortI, .lst _ xs => (intsP xs).map fun ns => .lst true ((sortIL ns).map .int)
  | .sortD, .dic _ ks _ => (intsP ks).map fun ns => .lst true ((sortIL ns).map .int)
  | b, x => bltQ b [x]
/-! paths -/
inductive Stp where
  | f (f : Str) | i (j : Nat)
def getS : List Stp → PV → Option PV
  | [], x => some x
  | .f g :: r, .ins true _ fs xs => (lookF fs xs g).bind (getS r)
  | .i j :: r, .lst true xs => (xs[j]?).bind (getS r)
  | _, _ => none
def putS : List Stp → PV → PV → PV
  | [], _, y => y
  | .f g :: r, .ins o c fs xs, y => .ins o c fs (setF fs xs g (putS r ((lookF fs xs g).getD .non) y))
  | .i j :: r, .lst o xs, y => .lst o (xs.set j (putS r ((xs[j]?).getD .non) y))
  | _, x, _ => x
def pathS (e : Slots) : CE → Option (Nat × List Stp)
  | .var i => some (i, [])
  | .fld a f => (pathS e a).map fun (i, l) => (i, l ++ [.f f])
  | .ix a k => (pathS e a).bind fun (i, l) => match evQ e k, (slot e i).bind (getS l) with
    | some (.int j), some (.lst true xs) => (ixN xs.length j).map fun n => (i, l ++ [.i n])
    | _, _ => none
  | _ => none
/-- what is at a path is changed; g: what it gives, what is there then -/
def updM (p : Nat × List Stp) (g : PV → Option (PV × PV)) (e : Slots) : Res PV :=
  match (slot e p.1).bind fun r => (getS p.2 r).bind fun x => (g x).map fun z => (z.1, putS p.2 r z.2) with
  | none => .stuck
  | some (v, r) => .ok v (e.set p.1 (some r))
def idxI (ns : List Int) (k : Int) : Option Nat := ns.findIdx? (· == k)
def bmX : Bm → PV → List PV → Option (PV × PV)
  | .append, .lst true xs, [y] => if xs.length < lim then some (.non, .lst true (xs ++ [y])) else none
  | .clear, .lst true _, [] => some (.non, .lst true [])
  | .pop0, .lst true xs, [] => (xs[xs.length - 1]?).map fun y => (y, .lst true xs.dropLast)
  | .pop1, .lst true xs, [.int i] => if xs.length ≤ lim then (ixN xs.length i).bind fun k => (xs[k]?).map fun y => (y, .lst true (xs.eraseIdx k)) else none
  | .reverse, .lst true xs, [] => some (.non, .lst true xs.reverse)
  | .removeI, .lst true xs, [.int k] => (intsP xs).bind fun ns => (idxI ns k).map fun j => (.non, .lst true (xs.eraseIdx j))
  | .insert, .lst true xs, [.int i, y] => if xs.length < lim ∧ 0 ≤ i ∧ i < 2 ^ 62 then some (.non, .lst true (xs.take i.toNat ++ y :: xs.drop i.toNat)) else none
  | .extend, .lst true xs, [.lst _ ys] => if xs.length + ys.length ≤ lim ∧ isFs ys = true then some (.non, .lst true (xs ++ ys)) else none
  | _, _, _ => none
def setLX (i : Int) (y : PV) : PV → Option (PV × PV)
  | .lst true xs => (ixN xs.length i).map fun j => (.non, .lst true (xs.set j y))
  | _ => none
def setDX (k y : PV) : PV → Option (PV × PV)
  | .dic true ks xs => if (keyP k).isSome = true ∧ isF y = true ∧ ks.length < lim then some (.non, .dic true (putD ks xs k y).1 (putD ks xs k y).2) else none
  | _ => none
def popDX (k : PV) : PV → Option (PV × PV)
  | .dic true ks xs => if (keyP k).isSome = true then (lookD ks xs k).map fun v => (v, .dic true (dropDk ks k) (dropDx ks xs k)) else none
  | _ => none
def fldX (f : Str) (y : PV) : PV → Option (PV × PV)
  | .ins true c fs xs => if fs.length < 900 then some (.non, if f ∈ fs then .ins true c fs (setF fs xs f y) else .ins true c (fs ++ [f]) (xs ++ [y])) else none
  | _ => none
/-- the arguments x are reckoned while the path's root is locked -/
def lockM (p : Nat × List Stp) (x : Slots → Res (List PV)) (k : List PV → Slots → Res PV) (e : Slots) : Res PV :=
  match p.2 with
  | [] => (x e).bind k
  | _ :: _ => match slot e p.1 with
    | none => .stuck
    | some r => (x (e.set p.1 none)).bind fun ys e => k ys (e.set p.1 (some r))
def argsP (e : Slots) (es : List CE) : Option (List PV) := if pus es = true then (evQs e es).bind fun xs => if isFs xs = true then some xs else none else none
def isLst : PV → Bool
  | .lst true _ => true
  | _ => false
def isDic : PV → Bool
  | .dic true _ _ => true
  | _ => false
def kindM (q : Nat × List Stp) (kd : PV → Bool) (e : Slots) : Bool := match (slot e q.1).bind (getS q.2) with
  | some x => kd x
  | none => false
def mutM (kd : PV → Bool) (p : CE) (es : List CE) (x : Slots → Res (List PV)) (g : List PV → PV → Option (PV × PV)) (e : Slots) : Res PV :=
  match pathS e p with
  | none => .stuck
  | some q => if kindM q kd e = true then match argsP e es with
    | some ys => updM q (g ys) e
    | none => lockM q x (fun ys e => updM q (g ys) e) e
    else .stuck
/-- what is new at each asking -/
def frB : CE → Bool
  | .call _ _ _ => true
  | .meth _ _ _ _ _ => true
  | _ => false
def frE (g : List PV → PV → Option (PV × PV)) (x : PV) (e : Slots) : Option (List PV) → Res PV
  | none => .stuck
  | some ys => ofO ((g ys x).map (·.1)) e
def frE2 (xa : Slots → Res (List PV)) (g : List PV → PV → Option (PV × PV)) (x : PV) (e : Slots) : Option (List PV) → Res PV
  | none => (xa e).bind fun ys e => ofO ((g ys x).map (·.1)) e
  | some ys => frE g x e (some ys)
def freshM (kd : PV → Bool) (es : List CE) (xa : Slots → Res (List PV)) (xp : Slots → Res PV) (g : List PV → PV → Option (PV × PV)) (e : Slots) : Res PV :=
  (xp e).bind fun x e => if kd x = true then frE2 xa g x e (argsP e es) else .stuck
/-- a part of a tuple that has a name -/
def tpB (e : Slots) : CE → Bool
  | .ix (.var i) _ => match slot e i with
    | some (.tup _) => true
    | _ => false
  | _ => false
def tpU (i n : Nat) (xs : List PV) (e : Slots) : Option (PV × PV) → Res PV
  | none => .stuck
  | some z => .ok z.1 (e.set i (some (.tup (xs.set n z.2))))
def tpN (i : Nat) (xs : List PV) (kd : PV → Bool) (g : List PV → PV → Option (PV × PV)) (e : Slots) (a : Option (List PV)) : Option Nat → Res PV
  | none => .stuck
  | some n => match xs[n]?, a with
    | some x, some ys => if kd x = true then tpU i n xs e (g ys x) else .stuck
    | _, _ => .stuck
def tpI (i : Nat) (kd : PV → Bool) (g : List PV → PV → Option (PV × PV)) (e : Slots) (a : Option (List PV)) : Option PV → Option PV → Res PV
  | some (.tup xs), some (.int j) => tpN i xs kd g e a (ixN xs.length j)
  | _, _ => .stuck
def tupM (kd : PV → Bool) (p : CE) (es : List CE) (g : List PV → PV → Option (PV × PV)) (e : Slots) : Res PV := match p with
  | .ix (.var i) q => tpI i kd g e (argsP e es) (slot e i) (evQ e q)
  | _ => .stuck
/-- the methods of lists -/
def bmList : Bm → Bool
  | .append => true
  | .clear => true
  | .pop0 => true
  | .pop1 => true
  | .reverse => true
  | .removeI => true
  | .insert => true
  | .extend => true
  | _ => false
def bmZero : Bm → Bool
  | .clear => true
  | .pop0 => true
  | .reverse => true
  | _ => false
/-! comprehensions, loops -/
def setsM : List Nat → List PV → Slots → Option Slots
  | [], [], e => some e
  | i :: is, x :: xs, e => setsM is xs (e.set i (some x))
  | _, _, _ => none
/-- a target takes an item -/
def takeM (tg : List Nat) (x : PV) (e : Slots) : Option Slots := match tg with
  | [i] => some (e.set i (some x))
  | _ => match x with
    | .tup xs => setsM tg xs e
    | _ => none
def killM : List Nat → Slots → Slots
  | [], e => e
  | i :: is, e => killM is (e.set i none)
def keepM : List Nat → Slots → Slots → Slots
  | [], _, e => e
  | i :: is, e0, e => keepM is e0 (e.set i (slot e0 i))
def rangeL (a b : Int) : List Int := (List.range (b - a).toNat).map fun i : Nat => a + (i : Int)
def rngQ (a b : Int) : Option (List PV) := if -(2 ^ 62) ≤ a ∧ a < 2 ^ 62 ∧ -(2 ^ 62) ≤ b ∧ b < 2 ^ 62 then some ((rangeL a b).map .int) else none
def enumL (xs : List PV) : List PV := xs.zipIdx.map fun p => .tup [.int p.2, p.1]
def zipL (xs ys : List PV) : List PV := (xs.zip ys).map fun p => .tup [p.1, p.2]
def seqQ : PV → Option (List PV)
  | .lst _ xs => if isFs xs = true then some xs else none
  | .scr ns => some (ns.map .int)
  | _ => none
def ikN : IK → Nat
  | .zip => 2
  | .rng2 => 2
  | _ => 1
def iterQ : IK → List PV → Option (List PV)
  | .lst, [x] => seqQ x
  | .tup, [.tup xs] => if isFs xs = true then some xs else none
  | .rng1, [.int n] => rngQ 0 n
  | .rng2, [.int a, .int b] => rngQ a b
  | .enum, [x] => (seqQ x).map enumL
  | .zip, [x, y] => (seqQ x).bind fun xs => (seqQ y).map fun ys => zipL xs ys
  | .rev, [x] => (seqQ x).map List.reverse
  | .str, [.str z] => some (z.cps.toList.map fun c => .str ⟨#[c]⟩)
  | .rrg, [.int n] => (rngQ 0 n).map List.reverse
  | _, _ => none
/-- what was lent for a walk comes back -/
def ownersM (as : List (PV × Option Nat)) (e : Slots) : Slots := backM as (as.map fun a => some a.1) e
def lentsM (as : List (PV × Option Nat)) : List Nat := as.filterMap (·.2)
def disj (a b : List Nat) : Bool := a.all fun i => decide (i ∉ b)
def nodupB : List Nat → Bool
  | [] => true
  | i :: is => decide (i ∉ is) && nodupB is
/-- a call, some of its arguments items of a list of one's own -/
def hole : PV := .exn ⟨#[]⟩
def rootE : List CE → Nat
  | .ix (.var o) _ :: _ => o
  | _ => 0
def ixsE (e : Slots) (o m : Nat) : Nat → List CE → Option (List Nat)
  | 0, _ => some []
  | n + 1, .ix (.var j) i :: es => if j = o then (match evQ e i with
      | some (.int k) => (ixN m k).bind fun a => (ixsE e o m n es).map (a :: ·)
      | _ => none) else none
  | _, _ => none
def holes (xs : List PV) : List Nat → List PV
  | [] => xs
  | k :: ks => holes (xs.set k hole) ks
def putL (xs : List PV) : List Nat → List (Option PV) → Option (List PV × List (Option PV))
  | [], os => some (xs, os)
  | k :: ks, some y :: os => putL (xs.set k y) ks os
  | _, _ => none
def backP (o : Nat) (xs : List PV) (ks : List Nat) (as : List (PV × Option Nat)) (os : List (Option PV)) (e : Slots) : Option Slots :=
  (putL (holes xs ks) ks os).map fun r => (backM as r.2 e).set o (some (.lst true r.1))
def partA (xs : List PV) (ks : List Nat) : List PV := ks.map fun k => (xs[k]?).getD .non
def callPM (f : Fn) (o : Nat) (xs : List PV) (ks : List Nat) (as : List (PV × Option Nat)) (e : Slots) : Res PV :=
  match f (partA xs ks ++ as.map (·.1)) with
  | .stuck => .stuck
  | .exc x os => (match backP o xs ks as os e with
    | some e => .exc x e
    | none => .stuck)
  | .ok v os => (match backP o xs ks as os e with
    | some e => .ok v e
    | none => .stuck)
def makePM (c : Str) (f : Fn) (o : Nat) (xs : List PV) (ks : List Nat) (as : List (PV × Option Nat)) (e : Slots) : Res PV :=
  match f (.ins true c [] [] :: (partA xs ks ++ as.map (·.1))) with
  | .exc x (_ :: os) => (match backP o xs ks as os e with
    | some e => .exc x e
    | none => .stuck)
  | .ok .non (some s :: os) => (match backP o xs ks as os e with
    | some e => .ok s e
    | none => .stuck)
  | _ => .stuck
def partM (n : Nat) (es : List CE) (xa : Slots → Res (List (PV × Option Nat))) (k : Nat → List PV → List Nat → List (PV × Option Nat) → Slots → Res PV) (e : Slots) : Res PV :=
  match slot e (rootE es) with
  | some (.lst true xs) => (match ixsE e (rootE es) xs.length n es with
    | some ks => if nodupB ks = true then (xa (e.set (rootE es) none)).bind fun as e => k (rootE es) xs ks as e else .stuck
    | none => .stuck)
  | _ => .stuck
def compL (tg : List Nat) (cond : Slots → Res PV) (elt : Slots → Res PV) : List PV → Slots → Res (List PV)
  | [], e => .ok [] e
  | x :: xs, e => match takeM tg x e with
    | none => .stuck
    | some e => match cond e with
      | .ok (.bl true) e => (match elt e with
        | .ok y e => (compL tg cond elt xs (killM tg e)).bind fun ys e => .ok (y :: ys) e
        | _ => .stuck)
      | .ok (.bl false) e => compL tg cond elt xs (killM tg e)
      | _ => .stuck
mutual
/-- what may stand as a test -/
def tOk : CE → Bool
  | .and es => tOks es
  | .or es => tOks es
  | .not a => tOk a
  | .frz _ _ => false
  | .nop => false
  | .neg _ => false
  | .dct _ => false
  | .make _ _ _ => false
  | .makeP _ _ _ _ => false
  | _ => true
def tOks : List CE → Bool
  | [] => true
  | c :: cs => tOk c && tOks cs
end
def lrgQ : PV → Option PV
  | .int n => if 0 ≤ n ∧ n ≤ 1000000 then some (.lst true ((rangeL 0 n).map .int)) else none
  | _ => none
def lrvQ (x : PV) : Option PV := (seqQ x).map fun xs => .lst true xs.reverse
mutual
def evX : CE → Slots → Res PV
  | .mov i, e => match slot e i with
    | none => .stuck
    | some x => .ok x (e.set i none)
  | .frz n a, e => (valM a (evX a) e).bind fun x e => .ok (frz n x) e
  | .bin op a b, e => two a b (evX a) (evX b) e fun x y e => ofO (binQ op x y) e
  | .cat op a b, e => two a b (evX a) (evX b) e fun x y e => ofO (catQ op x y) e
  | .neg a, e => one a (evX a) e fun x e => ofO (negQ x) e
  | .cmp op a b, e => two a b (evX a) (evX b) e fun x y e => ofO ((cmpQ op x y).map .bl) e
  | .and es, e => evXand es e
  | .or es, e => evXor es e
  | .not a, e => one a (evX a) e fun x e => ofO (notQ x) e
  | .tup es, e => (evXs es e).bind fun xs e => if xs.length ≤ lim then .ok (.tup xs) e else .stuck
  | .lst es, e => (evXs es e).bind fun xs e => if xs.length ≤ lim then .ok (.lst true xs) e else .stuck
  | .dct tk, e => if tk = true then .stuck else .ok (.dic true [] []) e
  | .ix a i, e => if pu a = true then two a i (evX a) (evX i) e fun x y e => ofF (ixQ x y) e
    else if pu i = true then (evX a e).bind fun x e => (match evQ e i with
      | some y => ofO (ixQ x y) e
      | none => .stuck)
    else two a i (evX a) (evX i) e fun x y e => ofF (ixQ x y) e
  | .dix a i, e => two a i (evX a) (evX i) e fun x y e => ofF (dixQ x y) e
  | .din neg a d, e => two a d (evX a) (evX d) e fun x y e => ofO ((dinQ y x).map fun b => .bl (if neg then !b else b)) e
  | .fld a f, e => one a (evX a) e fun x e => ofF (fldQ x f) e
  | .sl a lo hi, e => one a (evX a) e fun x e => match partQ e lo, partQ e hi with
    | some l, some h => ofO (slQ x l h) e
    | _, _ => .stuck
  | .call _ f es, e => (evXa es e).bind fun as e => callM f as e
  | .make c f es, e => (evXa es e).bind fun as e => makeM c f as e
  | .callP n _ f es, e => partM n es (evXd n es) (callPM f) e
  | .makeP n c f es, e => partM n es (evXd n es) (makePM c f) e
  | .meth c o m f es, e => (argM o (evX o) e).bind fun r e => if okR c m r.1 = true then (evXa es e).bind fun as e => callM f (r :: as) e else .stuck
  | .blt b es, e => evXb b es e
  | .isi a ty, e => one a (evX a) e fun x e => ofO ((isiQ ty x).map .bl) e
  | .bm b p es, e => if bmList b = true ∧ bmZero b = es.isEmpty then (if frB p = true then freshM isLst es (evXs es) (evX p) (fun ys x => bmX b x ys) e else
      if tpB e p = true then tupM isLst p es (fun ys x => bmX b x ys) e else mutM isLst p es (evXs es) (fun ys x => bmX b x ys) e) else .stuck
  | .dpop1 p k, e => if pu k = true then mutM isDic p [k] (fun _ => .stuck) (fun ys x => match ys with
      | [y] => popDX y x
      | _ => none) e else .stuck
  | .lrg a, e => one a (evX a) e fun x e => ofO (lrgQ x) e
  | .lrv a, e => one a (evX a) e fun x e => ofO (lrvQ x) e
  | .lc elt tg k es cond, e => (evXa es e).bind fun as e => match iterQ k (as.map (·.1)) with
    | none => .stuck
    | some items => if items.length ≤ lim ∧ nodupB tg = true ∧ disj (lentsM as) tg = true then
        (compL tg (evXc cond) (fun e => valM elt (evX elt) e) items (killM tg e)).bind fun ys e' => .ok (.lst true ys) (ownersM as (keepM tg e e'))
      else .stuck
  | _, _ => .stuck
def evXs : List CE → Slots → Res (List PV)
  | [], e => .ok [] e
  | c :: cs, e => (valM c (evX c) e).bind fun x e => (evXs cs e).bind fun xs e => .ok (x :: xs) e
def evXa : List CE → Slots → Res (List (PV × Option Nat))
  | [], e => .ok [] e
  | c :: cs, e => (argM c (evX c) e).bind fun x e => (evXa cs e).bind fun xs e => .ok (x :: xs) e
def evXd : Nat → List CE → Slots → Res (List (PV × Option Nat))
  | _, [], e => .ok [] e
  | n + 1, _ :: cs, e => evXd n cs e
  | 0, c :: cs, e => (argM c (evX c) e).bind fun x e => (evXd 0 cs e).bind fun xs e => .ok (x :: xs) e
def evXb (b : Blt) : List CE → Slots → Res PV
  | [a], e => one a (evX a) e fun x e => ofO (bltX b x) e
  | [a, c], e => two a c (evX a) (evX c) e fun x y e => ofO (bltQ b [x, y]) e
  | _, _ => .stuck
def evXc : List CE → Slots → Res PV
  | [], e => .ok (.bl true) e
  | [c], e => if tOk c = true then one c (evX c) e fun x e => ofO ((boolQ x).map .bl) e else .stuck
  | _, _ => .stuck
def evXand : List CE → Slots → Res PV
  | [], _ => .stuck
  | [c], e => one c (evX c) e fun x e => ofO ((boolQ x).map .bl) e
  | c :: cs, e => one c (evX c) e fun x e => match x with
    | .bl true => evXand cs e
    | .bl false => .ok (.bl false) e
    | _ => .stuck
def evXor : List CE → Slots → Res PV
  | [], _ => .stuck
  | [c], e => one c (evX c) e fun x e => ofO ((boolQ x).map .bl) e
  | c :: cs, e => one c (evX c) e fun x e => match x with
    | .bl false => evXor cs e
    | .bl true => .ok (.bl true) e
    | _ => .stuck
end
end Rk

set_option Elab.async false
set_option linter.all false
set_option maxRecDepth 100000
set_option maxHeartbeats 1000000
namespace Rk
open PySem PySem.Spec PyProof.Rows L2
inductive Fl where
  | nxt | ret (v : PV)
mutual
/-- the slots that are stored -/
def asgS : CS → List Nat
  | .asg i _ => [i]
  | .unp is _ => is
  | .unpL is _ => is
  | .par i j _ _ => [i, j]
  | .aug i _ => [i]
  | .ite _ a b => asgB a ++ asgB b
  | .forr _ tg _ _ body => tg ++ asgB body
  | .forO _ x _ body => x :: asgB body
  | .forZ _ x y _ _ body => [x, y] ++ asgB body
  | .whil _ _ _ body => asgB body
  | .tryE _ i body su => asgB body ++ (i :: su.map (·.1))
  | _ => []
def asgB : List CS → List Nat
  | [] => []
  | c :: r => asgS c ++ asgB r
end
def seqM (r : Res Fl) (k : Slots → Res Fl) : Res Fl := match r with
  | .stuck => .stuck
  | .exc x e => .exc x e
  | .ok (.ret v) e => .ok (.ret v) e
  | .ok .nxt e => k e
def ownersR (as : List (PV × Option Nat)) (r : Res Fl) : Res Fl := match r with
  | .stuck => .stuck
  | .exc x e => .exc x (ownersM as e)
  | .ok f e => .ok f (ownersM as e)
def forL (kl tg : List Nat) (body : Slots → Res Fl) : List PV → Slots → Res Fl
  | [], e => .ok .nxt (killM kl e)
  | x :: xs, e => match takeM tg x (killM kl e) with
    | none => .stuck
    | some e => seqM (body e) (forL kl tg body xs)
/-- a walk over a list of one's own, its items change meanwhile -/
def forOL (kl : List Nat) (x : Nat) (body : Slots → Res Fl) : List PV → Slots → Res (List PV)
  | [], e => .ok [] (killM kl e)
  | y :: ys, e => match body ((killM kl e).set x (some y)) with
    | .ok .nxt e => (match slot e x with
      | some z => (forOL kl x body ys (e.set x none)).bind fun zs e => .ok (z :: zs) e
      | none => .stuck)
    | _ => .stuck
def forOM (kl : List Nat) (x : Nat) (a : List Nat) (body : Slots → Res Fl) (p : Option (Nat × List Stp)) (e : Slots) : Res Fl := match p with
  | none => .stuck
  | some (i, l) => match slot e i with
    | none => .stuck
    | some root => match getS l root with
      | some (.lst true xs) => if i ≠ x ∧ i ∉ a ∧ x ∉ a then
          (forOL kl x body xs (e.set i none)).bind fun zs e => .ok .nxt (e.set i (some (putS l root (.lst true zs)))) else .stuck
      | _ => .stuck
/-- .. beside another list -/
def forZL (kl : List Nat) (x y : Nat) (body : Slots → Res Fl) : List PV → List PV → Slots → Res (List PV)
  | u :: us, w :: ws, e => match body (((killM kl e).set x (some u)).set y (some w)) with
    | .ok .nxt e => (match slot e x with
      | some z => (forZL kl x y body us ws (e.set x none)).bind fun zs e => .ok (z :: zs) e
      | none => .stuck)
    | _ => .stuck
  | us, _, e => .ok us (killM kl e)
def frzQ (w : PV) : Option (List PV) := if isF w = true then seqQ w else none
def forZM (kl : List Nat) (x y : Nat) (a : List Nat) (body : Slots → Res Fl) (p : Option (Nat × List Stp)) (b : Option (List PV)) (e : Slots) : Res Fl := match p, b with
  | some (i, l), some bs => (match slot e i with
    | none => .stuck
    | some root => match getS l root with
      | some (.lst true xs) => if i ≠ x ∧ i ≠ y ∧ x ≠ y ∧ i ∉ a ∧ x ∉ a then
          (forZL kl x y body xs bs (e.set i none)).bind fun zs e => .ok .nxt (e.set i (some (putS l root (.lst true zs)))) else .stuck
      | _ => .stuck)
  | _, _ => .stuck
def whilL (kl : List Nat) (test : Slots → Res PV) (body : Slots → Res Fl) : Nat → Slots → Res Fl
  | 0, _ => .stuck
  | n + 1, e => (test (killM kl e)).bind fun t e => match t with
    | .bl true => seqM (body e) (whilL kl test body n)
    | .bl false => .ok .nxt e
    | _ => .stuck
def tstM (c : CE) (e : Slots) : Res PV := if tOk c = true then one c (evX c) e fun x e => ofO ((boolQ x).map .bl) e else .stuck
def opM (c : CE) (e : Slots) : Res PV := one c (evX c) e fun x e => .ok x e
def addQ (x y : PV) : Option PV := match x, y with
  | .int i, .int j => some (.int (i + j))
  | _, _ => none
/-- an except suite, the error is a y -/
def suM (y : Str) : List (Nat × CE) → Slots → Res Fl
  | [], e => .ok .nxt e
  | (j, c) :: r, e => seqM ((valM (subE y c) (evX (subE y c)) e).bind fun x e => .ok .nxt (e.set j (some x))) (suM y r)
def tryN (i : Nat) : Res Fl → Res Fl
  | .ok f e => .ok f (e.set i none)
  | _ => .stuck
def tryM (x : Str) (i : Nat) (su : List (Nat × CE)) : Res Fl → Res Fl
  | .stuck => .stuck
  | .ok f e => .ok f e
  | .exc y e => if isE y x = true then (if i < e.length then tryN i (suM y su (e.set i none)) else .stuck) else .exc y e
mutual
def evS : CS → Slots → Res Fl
  | .pass, e => .ok .nxt e
  | .asg i c, e => (valM c (evX c) e).bind fun x e => .ok .nxt (e.set i (some x))
  | .unp is c, e => (valM c (evX c) e).bind fun x e => match x with
    | .tup xs => (match setsM is xs e with
      | none => .stuck
      | some e => .ok .nxt e)
    | _ => .stuck
  | .unpL is c, e => (valM c (evX c) e).bind fun x e => match x with
    | .lst true xs => (match setsM is xs e with
      | none => .stuck
      | some e => .ok .nxt e)
    | _ => .stuck
  | .setIx o i c, e => (valM c (evX c) e).bind fun x e => if pu i = true then (match pathS e o, evQ e i with
    | some p, some (.int j) => (updM p (setLX j x) e).bind fun _ e => .ok .nxt e
    | _, _ => .stuck) else .stuck
  | .setD o i c, e => (valM c (evX c) e).bind fun x e => if pu i = true then (match pathS e o, evQ e i with
    | some p, some k => (updM p (setDX k x) e).bind fun _ e => .ok .nxt e
    | _, _ => .stuck) else .stuck
  | .swp o i j c d, e => if pu i = true ∧ pu j = true ∧ pu c = true ∧ pu d = true then (match pathS e o, evQ e i, evQ e c, evQ e d with
    | some p, some (.int k), some x, some y => if isF x = true ∧ isF y = true then (updM p (setLX k x) e).bind fun _ e => (match pathS e o, evQ e j with
      | some q, some (.int m) => (updM q (setLX m y) e).bind fun _ e => .ok .nxt e
      | _, _ => .stuck) else .stuck
    | _, _, _, _ => .stuck) else .stuck
  | .fldA o f c, e => (valM c (evX c) e).bind fun x e => match pathS e o with
    | some p => (updM p (fldX f x) e).bind fun _ e => .ok .nxt e
    | none => .stuck
  | .aug i c, e => match slot e i with
    | some (.int n) => (opM c e).bind fun x e => match x with
      | .int m => .ok .nxt (e.set i (some (.int (n + m))))
      | _ => .stuck
    | _ => .stuck
  | .augIx o i c, e => if pu i = true ∧ pu c = true then (match pathS e o, evQ e i, evQ e c with
    | some p, some (.int j), some (.int m) => if 0 ≤ j then (match (slot e p.1).bind (getS p.2) with
      | some x => (match ixQ x (.int j) with
        | some (.int n) => (updM p (setLX j (.int (n + m))) e).bind fun _ e => .ok .nxt e
        | _ => .stuck)
      | none => .stuck) else .stuck
    | _, _, _ => .stuck) else .stuck
  | .expr c, e => (opM c e).bind fun _ e => .ok .nxt e
  | .ite c a b, e => (tstM c e).bind fun t e => match t with
    | .bl true => evB a e
    | .bl false => evB b e
    | _ => .stuck
  | .forr kl tg k es body, e => (evXa es e).bind fun as e => match iterQ k (as.map (·.1)) with
    | none => .stuck
    | some items => if disj (lentsM as) (tg ++ asgB body) = true then ownersR as (forL kl tg (evB body) items e) else .stuck
  | .forO kl x o body, e => forOM kl x (asgB body) (evB body) (pathS e o) e
  | .forZ kl x y o b body, e => forZM kl x y (asgB body) (evB body) (pathS e o) ((evQ e b).bind frzQ) e
  | .whil kl n c body, e => whilL kl (tstM c) (evB body) n e
  | .ret c, e => (valM c (evX c) e).bind fun x e => .ok (.ret x) e
  | .retN, e => .ok (.ret .non) e
  | .raise x, e => .exc x e
  | .tryE x i body su, e => tryM x i su (evB body e)
  | .par _ _ _ _, _ => .stuck
def evB : List CS → Slots → Res Fl
  | [], e => .ok .nxt e
  | c :: r, e => seqM (evS c e) (evB r)
end
def outM (np : Nat) (lost : List Nat) (e : Slots) : Slots := (killM lost e).take np
/-- what a def is: np parameters, ns slots; parameters that are stored are lost to the caller -/
def fnM (np ns : Nat) (code : List CS) : Fn := fun as =>
  if as.length = np then match evB code (as.map some ++ List.replicate (ns - np) none) with
    | .stuck => .stuck
    | .exc x e => .exc x (outM np (asgB code) e)
    | .ok .nxt e => .ok .non (outM np (asgB code) e)
    | .ok (.ret v) e => .ok v (outM np (asgB code) e)
  else .stuck
example : fnM 1 2 [.asg 1 (.bin .Add (.var 0) (.int 1)), .ret (.var 1)] [.int 5] = .ok (.int 6) [some (.int 5)] := rfl
end Rk

set_option Elab.async false
set_option linter.all false
set_option maxRecDepth 100000
set_option maxHeartbeats 1000000
namespace Rk
open PySem PySem.Spec PyProof.Rows L2
section
variable {B O F F' H H' : Hp} {ps X Y : List Rs} {ads : List Addr}
/-- what is one's own is changed, put together, taken apart -/
theorem Good.swap (g : Good B O (ps ++ X) H F) (h : ∀ ads, OkL F H X ads → ads.Nodup → (∀ b, b ∉ ads → H' b = H b) ∧ ∃ ads', OkL F H' Y ads' ∧ ads'.Perm ads) : Good B O (ps ++ Y) H' F := by
  obtain ⟨ads, h1, h2, h3, h4, h5, h6⟩ := g
  obtain ⟨a, b, rfl, k1, k2⟩ := h1.split
  have nd := List.nodup_append.mp h2
  obtain ⟨q1, b', q2, q3⟩ := h b k2 nd.2.1
  have pm : (a ++ b').Perm (a ++ b) := q3.append_left a
  refine ⟨a ++ b', (k1.loc (.refl _) fun d hd => q1 d fun hb => nd.2.2 d hd d hb rfl).append q2, (pm.nodup_iff).mpr h2, ?_, h4, fun d o q => ?_, fun d hd => h6 d (pm.mem_iff.mp hd)⟩
  · rw [h3, delO_congr (fun x => pm.mem_iff)]
    funext d
    unfold delO
    split
    · rfl
    · rename_i hd
      exact (q1 d fun z => hd (.inl (List.mem_append_right _ z))).symm
  · rw [q1 d fun z => ?_]
    · exact h5 d o q
    · rw [h6 d (List.mem_append_right _ z)] at q; cases q
/-- .. and some of it is given up -/
theorem Good.less (g : Good B O (ps ++ X) H F) (h : ∀ ads, OkL F H X ads → ads.Nodup → ∃ ads', ads'.Sublist ads ∧ ∀ F', Ex F F' → (∀ a ∈ ads, a ∉ ads' → F' a = H a) → OkL F' H Y ads') : ∃ F', Good B O (ps ++ Y) H F' ∧ Ex F F' := by
  obtain ⟨ads, h1, h2, h3, h4, h5, h6⟩ := g
  obtain ⟨a, b, rfl, k1, k2⟩ := h1.split
  have nd := List.nodup_append.mp h2
  obtain ⟨b', q1, q2⟩ := h b k2 nd.2.1
  have sl : (a ++ b').Sublist (a ++ b) := (List.Sublist.refl a).append q1
  have e : Ex F (delO H O (a ++ b')) := by rw [h3]; exact delO_less fun x z => sl.subset z
  refine ⟨_, ⟨a ++ b', (k1.loc e fun _ _ => rfl).append (q2 _ e fun d hd hn => ?_), h2.sublist sl, rfl, h4.trans e, h5, fun d hd => h6 d (sl.subset hd)⟩, e⟩
  refine delO_out (fun z => ?_) (h6 d (List.mem_append_right _ hd))
  rcases List.mem_append.mp z with z | z
  · exact nd.2.2 d z d hd rfl
  · exact hn z
theorem Good.view (g : Good B O (ps ++ X) H F) : ∃ ads, OkL F H X ads ∧ ads.Nodup ∧ ∀ Y, OkL F H Y ads → Good B O (ps ++ Y) H F := by
  obtain ⟨ads, h1, h2, h3, h4, h5, h6⟩ := g
  obtain ⟨a, b, rfl, k1, k2⟩ := h1.split
  exact ⟨b, k2, (List.nodup_append.mp h2).2.1, fun Y hY => ⟨a ++ b, k1.append hY, h2, h3, h4, h5, h6⟩⟩
theorem Good.app (g : Good B O ps H F) (h : OkL F H X []) : Good B O (ps ++ X) H F := by
  obtain ⟨ads, h1, h2, h3, h4, h5, h6⟩ := g
  exact ⟨ads, by simpa using h1.append h, h2, h3, h4, h5, h6⟩
theorem Good.last (g : Good B O (ps ++ X) H F) : ∃ ads, OkL F H X ads ∧ ads.Nodup := by
  obtain ⟨ads, h1, h2, h3, h4, h5, h6⟩ := g
  obtain ⟨a, b, rfl, k1, k2⟩ := h1.split
  exact ⟨b, k2, (List.nodup_append.mp h2).2.1⟩
theorem Good.dropR' (g : Good B O (ps ++ X) H F) : ∃ F', Good B O ps H F' ∧ Ex F F' := g.dropR
end
section
variable {B O F F' H H' : Hp} {ps X Y : List Rs}
/-- the frame, and what it keeps -/
theorem Good.frame' {qs : List Rs} (g : Good B O (ps ++ qs) H F) : ∃ O2 a, OkL F H ps a ∧ (∀ d ∈ a, O2 d = H d) ∧ (∀ d ∈ a, (H d).isSome = true) ∧ a.Nodup ∧ Good F O2 qs H F ∧ ∀ qs' H' F', Good F O2 qs' H' F' → (∀ d ∈ a, H' d = H d) ∧ Good B O (ps ++ qs') H' F' := by
  obtain ⟨ads, h1, h2, h3, h4, h5, h6⟩ := g
  obtain ⟨a, b, rfl, k1, k2⟩ := h1.split
  have nd := List.nodup_append.mp h2
  let O2 : Hp := fun d => if d ∈ a then H d else O d
  have o2a : ∀ d ∈ a, O2 d = H d := fun d hd => if_pos hd
  have o2o : ∀ d, d ∉ a → O2 d = O d := fun d hd => if_neg hd
  have dom : ∀ d, (O2 d).isSome = true ↔ d ∈ a ∨ (O d).isSome = true := fun d => by
    by_cases hd : d ∈ a
    · rw [o2a d hd]; exact ⟨fun _ => .inl hd, fun _ => k1.there d hd⟩
    · rw [o2o d hd]; exact ⟨fun z => .inr z, fun z => z.resolve_left hd⟩
  have key : ∀ (G : Hp) (l : List Addr), delO G O2 l = delO G O (a ++ l) := fun G l => by
    funext d
    unfold delO
    have e : (d ∈ l ∨ (O2 d).isSome = true) = (d ∈ a ++ l ∨ (O d).isSome = true) := by
      rw [List.mem_append]
      apply propext
      rw [dom]
      constructor
      · rintro (z | z | z)
        · exact .inl (.inr z)
        · exact .inl (.inl z)
        · exact .inr z
      · rintro ((z | z) | z)
        · exact .inr (.inl z)
        · exact .inl z
        · exact .inr (.inr z)
    simp only [e]
  refine ⟨O2, a, k1, o2a, k1.there, nd.1, ⟨b, k2, nd.2.1, by rw [h3, key], .refl _, fun d o q => ?_, fun d hd => ?_⟩, fun qs' H' F' g' => ?_⟩
  · by_cases hd : d ∈ a
    · rw [o2a d hd] at q; exact q
    · rw [o2o d hd] at q; exact h5 d o q
  · have na : d ∉ a := fun z => nd.2.2 d z d hd rfl
    rw [o2o d na]; exact h6 d (List.mem_append_right _ hd)
  · obtain ⟨ads', m1, m2, m3, m4, m5, m6⟩ := g'
    have keep : ∀ d ∈ a, H' d = H d := fun d hd => by
      obtain ⟨o, ho⟩ := Option.isSome_iff_exists.mp (k1.there d hd)
      rw [m5 d o (by rw [o2a d hd]; exact ho), ho]
    refine ⟨keep, a ++ ads', (k1.loc m4 keep).append m1, List.nodup_append.mpr ⟨nd.1, m2, fun d hd d' hd' z => ?_⟩, by rw [m3, key], h4.trans m4, fun d o q => ?_, fun d hd => ?_⟩
    · subst z
      have q := m6 d hd'
      rw [o2a d hd] at q
      have := k1.there d hd
      rw [q] at this; cases this
    · refine m5 d o ?_
      rw [o2o d fun z => ?_]
      · exact q
      · rw [h6 d (List.mem_append_left _ z)] at q; cases q
    · rcases List.mem_append.mp hd with z | z
      · exact h6 d (List.mem_append_left _ z)
      · have q := m6 d z
        have na : d ∉ a := fun y => by
          rw [o2a d y] at q
          have := k1.there d y
          rw [q] at this; cases this
        rwa [o2o d na] at q
end
/-! ### the slots -/
def sdoA (K : PySem.W.Frag) (adr : Str → Option Addr) : Option PV → Sd
  | none => .any
  | some x => .own (co K adr x)
abbrev sdo (K : PySem.W.Frag) (T : Tab) : Option PV → Sd := sdoA K T.adr
abbrev ze (K : PySem.W.Frag) (T : Tab) (e : Slots) (σ : L2.St) : List Rs := (e.map (sdo K T)).zip σ
abbrev cv (K : PySem.W.Frag) (T : Tab) (x : PV) (v : V) : Rs := (.own (co K T.adr x), some v)
/-- values and what they are -/
abbrev zc (K : PySem.W.Frag) (T : Tab) (xs : List PV) (vs : List V) : List Rs := ze K T (xs.map some) (vs.map some)
section
variable {K : PySem.W.Frag} {T : Tab} {B O F F' H H' : Hp} {ps L X Y : List Rs} {e : Slots} {σ : L2.St} {x y : PV} {xs ys : List PV} {v : V} {vs ws : List V} {i : Nat} {ads : List Addr}
theorem okL_one : OkL F H [cv K T x v] ads ↔ rep K T.adr F H x v ads := by
  constructor
  · intro h
    cases h with
    | cons h1 h2 =>
      cases h2
      obtain ⟨u, e, h⟩ := h1
      cases e
      rw [List.append_nil]
      exact h
  · intro h
    have := OkL.cons (F := F) (H := H) (x := cv K T x v) (a := ads) (b := []) ⟨v, rfl, h⟩ .nil
    simpa using this
theorem okL_zc : ∀ {xs : List PV} {vs : List V} {ads : List Addr}, reps K T.adr F H xs vs ads → OkL F H (zc K T xs vs) ads
  | [], [], _, h => by rw [show _ = [] from h]; exact .nil
  | x :: xs, v :: vs, _, ⟨a, b, h1, h2, h3⟩ => by rw [h1]; exact .cons ⟨v, rfl, h2⟩ (okL_zc h3)
theorem okL_zc' : ∀ {xs : List PV} {vs : List V} {ads : List Addr}, vs.length = xs.length → OkL F H (zc K T xs vs) ads → reps K T.adr F H xs vs ads
  | [], [], _, _, h => by cases h; rfl
  | x :: xs, v :: vs, _, hl, h => by
    cases h with
    | cons h1 h2 =>
      obtain ⟨u, e, h⟩ := h1
      cases e
      exact ⟨_, _, rfl, h, okL_zc' (by simpa using hl) h2⟩
theorem rep_of (g : Good B O (ps ++ [cv K T x v]) H F) : ∃ ads, rep K T.adr F H x v ads ∧ ads.Nodup := by
  obtain ⟨ads, h, n⟩ := g.last
  exact ⟨ads, okL_one.mp h, n⟩
theorem dup (g : Good B O ps H F) (h : rep K T.adr F H x v []) : Good B O (ps ++ [cv K T x v]) H F := g.app (okL_one.mpr h)
theorem drop1 {c : Rs} (g : Good B O (ps ++ [c]) H F) : ∃ F', Good B O ps H F' ∧ Ex F F' := g.dropR
theorem slot_lt (h : slot e i = some x) : i < e.length := by
  unfold slot at h
  cases q : e[i]? with
  | none => rw [q] at h; cases h
  | some o => exact (List.getElem?_eq_some_iff.mp q).1
theorem slot_at (h : slot e i = some x) : e[i]? = some (some x) := by
  unfold slot at h
  cases q : e[i]? with
  | none => rw [q] at h; cases h
  | some o => rw [q] at h; simp at h; rw [h]
theorem set_same' {α : Type} : ∀ {l : List α} {i : Nat} {x : α}, l[i]? = some x → l.set i x = l
  | [], _, _, h => by simp at h
  | a :: r, 0, x, h => by simp at h; subst h; rfl
  | a :: r, i + 1, x, h => by simp [set_same' (l := r) (i := i) (by simpa using h)]
theorem ze_at : ∀ {e : Slots} {σ : L2.St} {i : Nat} {s : Option PV}, σ.length = e.length → e[i]? = some s → ∃ o ps, σ[i]? = some o ∧ (ze K T e σ).Perm ((sdo K T s, o) :: ps) ∧
    ∀ s' o', (ze K T (e.set i s') (σ.set i o')).Perm ((sdo K T s', o') :: ps)
  | [], _, _, _, _, h => by simp at h
  | _ :: _, [], _, _, hl, _ => by simp at hl
  | t :: r, o :: os, 0, s, hl, h => by
    simp at h; subst h
    exact ⟨o, ze K T r os, by simp, .refl _, fun s' o' => .refl _⟩
  | t :: r, o :: os, i + 1, s, hl, h => by
    obtain ⟨u, ps, h1, h2, h3⟩ := ze_at (e := r) (σ := os) (i := i) (s := s) (by simpa using hl) (by simpa using h)
    exact ⟨u, (sdo K T t, o) :: ps, by simpa using h1, (h2.cons _).trans (.swap ..), fun s' o' => ((h3 s' o').cons _).trans (.swap ..)⟩
theorem mvL {a : Rs} {A R : List Rs} : (a :: (A ++ R)).Perm (A ++ R ++ [a]) := (List.perm_append_singleton _ _).symm
theorem slot_take (hl : σ.length = e.length) (g : Good B O (ze K T e σ ++ L) H F) (h : slot e i = some x) : ∃ v, σ[i]? = some (some v) ∧ Good B O (ze K T (e.set i none) σ ++ L ++ [cv K T x v]) H F := by
  obtain ⟨o, ps, h1, h2, h3⟩ := ze_at (K := K) (T := T) hl (slot_at h)
  have g1 := g.perm (h2.append_right L)
  obtain ⟨v, ads, rfl, hv⟩ := g1.own'
  refine ⟨v, h1, ?_⟩
  have e1 := h3 none (some v)
  rw [set_same' h1] at e1
  have g2 : Good B O (((sdo K T (some x), some v) :: (ps ++ L)) ++ [(Sd.any, some v)]) H F := g1.knowAny
  refine g2.perm ?_
  refine (List.perm_append_singleton _ _).trans ?_
  refine (List.Perm.swap _ _ _).trans ?_
  have p1 : ((Sd.any, some v) :: (ps ++ L)).Perm (ze K T (e.set i none) σ ++ L) := e1.symm.append_right L
  exact (p1.cons _).trans mvL
theorem slot_get (hl : σ.length = e.length) (g : Good B O (ze K T e σ ++ L) H F) (h : slot e i = some x) : ∃ v ads, σ[i]? = some (some v) ∧ rep K T.adr F H x v ads ∧ ads.Nodup := by
  obtain ⟨v, h1, g1⟩ := slot_take hl g h
  obtain ⟨ads, r, n⟩ := rep_of g1
  exact ⟨v, ads, h1, r, n⟩
theorem slot_put {s : Option PV} (hl : σ.length = e.length) (hi : i < e.length) (g : Good B O (ze K T e σ ++ L ++ [(sdo K T s, some v)]) H F) : ∃ F', Good B O (ze K T (e.set i s) (σ.set i (some v)) ++ L) H F' ∧ Ex F F' := by
  obtain ⟨o, ps, h1, h2, h3⟩ := ze_at (K := K) (T := T) hl (List.getElem?_eq_getElem hi)
  have g1 : Good B O ((sdo K T e[i], o) :: ((sdo K T s, some v) :: (ps ++ L))) H F := by
    refine g.perm ?_
    refine (List.perm_append_singleton _ _).trans ?_
    refine ((h2.append_right L).cons _).trans ?_
    exact List.Perm.swap _ _ _
  obtain ⟨F1, g2, e1⟩ := g1.drop
  exact ⟨F1, g2.perm ((h3 s (some v)).symm.append_right L), e1⟩
theorem slot_back {s : Option PV} (hl : σ.length = e.length) (hs : σ[i]? = some (some v)) (g : Good B O (ze K T e σ ++ L ++ [(sdo K T s, some v)]) H F) : ∃ F', Good B O (ze K T (e.set i s) σ ++ L) H F' ∧ Ex F F' := by
  have hi : i < e.length := by rw [← hl]; exact (List.getElem?_eq_some_iff.mp hs).1
  obtain ⟨F1, g1, e1⟩ := slot_put (s := s) hl hi g
  rw [set_same' hs] at g1
  exact ⟨F1, g1, e1⟩
/-- a slot is forgotten -/
theorem slot_kill (hl : σ.length = e.length) (g : Good B O (ze K T e σ ++ L) H F) : ∃ F', Good B O (ze K T (e.set i none) σ ++ L) H F' ∧ Ex F F' := by
  by_cases hi : i < e.length
  · obtain ⟨o, ps, h1, h2, h3⟩ := ze_at (K := K) (T := T) hl (List.getElem?_eq_getElem hi)
    obtain ⟨F1, g2, e1⟩ := (g.perm (h2.append_right L)).drop
    have e3 := h3 none o
    rw [set_same' h1] at e3
    refine ⟨F1, ?_, e1⟩
    have g3 := (g2.knowAny (o := o)).perm (List.perm_append_singleton _ _)
    exact g3.perm (e3.symm.append_right L)
  · rw [List.set_eq_of_length_le (by omega)]
    exact ⟨F, g, .refl _⟩
theorem killM_len : ∀ {kl : List Nat} {e : Slots}, (killM kl e).length = e.length
  | [], _ => rfl
  | i :: is, e => (killM_len (kl := is) (e := e.set i none)).trans (by simp)
theorem kill_good : ∀ {kl : List Nat} {e : Slots} {F : Hp}, σ.length = e.length → Good B O (ze K T e σ ++ L) H F → ∃ F', Good B O (ze K T (killM kl e) σ ++ L) H F' ∧ Ex F F'
  | [], _, F, _, g => ⟨F, g, .refl _⟩
  | i :: is, e, F, hl, g => by
    obtain ⟨F1, g1, e1⟩ := slot_kill (i := i) hl g
    obtain ⟨F2, g2, e2⟩ := kill_good (kl := is) (by simpa using hl) g1
    exact ⟨F2, g2, e1.trans e2⟩
/-- given up -/
theorem frz_good {n : Nat} (g : Good B O (ps ++ [cv K T x v]) H F) : ∃ F', Good B O (ps ++ [cv K T (frz n x) v]) H F' ∧ Ex F F' := by
  refine g.less fun ads h nd => ?_
  obtain ⟨ads', s, _, k⟩ := rep.frz (n := n) (okL_one.mp h) nd
  exact ⟨ads', s, fun F' e q => okL_one.mpr (k F' e q)⟩
theorem frz_F0 (n : Nat) (x : PV) (h : isF x = true) : frz n x = x := frz_F h
mutual
theorem isF_frz : ∀ x : PV, isF (frz 0 x) = true
  | .non => rfl
  | .bl _ => rfl
  | .int _ => rfl
  | .str _ => rfl
  | .scr _ => rfl
  | .exn _ => rfl
  | .tup xs => isFs_frz xs
  | .lst _ xs => by simp [frz, isF, isFs_frz xs]
  | .dic _ _ xs => by simp [frz, isF, isFs_frz xs]
  | .ins _ _ _ xs => by simp [frz, isF, isFs_frz xs]
theorem isFs_frz : ∀ xs : List PV, isFs (frzs 0 xs) = true
  | [] => rfl
  | x :: xs => by simp [frzs, isFs, isF_frz x, isFs_frz xs]
end
/-- a claim with nothing of one's own is one more time there -/
theorem rep_dup (f : isF x = true) (h : rep K T.adr F H x v ads) : rep K T.adr F H x v [] := (h.fz f).2 H
/-! ### new things -/
def cel (a : Addr) (o : HO) : Co where
  p := fun F H v ads => v = .ref a ∧ ads = [a] ∧ H a = some o
  loc := fun ⟨h1, h2, h3⟩ e k => ⟨h1, h2, by rw [k a (by rw [h2]; simp)]; exact h3⟩
  there := fun ⟨h1, h2, h3⟩ b hb => by
    rw [h2, List.mem_singleton] at hb
    rw [hb, h3]; rfl
theorem new_cell {p : Addr} {o : HO} (g : Good B O ps H F) (hp : H p = none) : Good B O (ps ++ [(.own (cel p o), some (.ref p))]) (upd H p o) F :=
  (Good.newOwn (c := cel p o) (v := .ref p) g hp ⟨rfl, rfl, upd_same⟩).perm (List.perm_append_singleton _ _).symm
theorem okL_cel {p : Addr} {o : HO} : OkL F H [(.own (cel p o), some (.ref p))] ads → ads = [p] ∧ H p = some o := fun h => by
  cases h with
  | cons h1 h2 =>
    cases h2
    obtain ⟨u, e, k1, k2, k3⟩ := h1
    exact ⟨by simp [k2], k3⟩
theorem OkL.cut {X Y : List Rs} (h : OkL F H (X ++ Y) ads) : ∃ a b, ads = a ++ b ∧ OkL F H X a ∧ OkL F H Y b := h.split
/-- a new list out of values -/
theorem new_list {p : Addr} (hl : vs.length = xs.length) (g : Good B O (ps ++ zc K T xs vs) H F) (hp : H p = none) : Good B O (ps ++ [cv K T (.lst true xs) (.ref p)]) (upd H p (.lst vs)) F := by
  have g1 := new_cell (o := .lst vs) g hp
  rw [List.append_assoc] at g1
  refine g1.swap fun ads h nd => ⟨fun _ _ => rfl, ?_⟩
  obtain ⟨a, b, rfl, h1, h2⟩ := h.cut
  obtain ⟨rfl, h3⟩ := okL_cel h2
  exact ⟨p :: a, okL_one.mpr ⟨p, vs, a, rfl, rfl, h3, okL_zc' hl h1⟩, (List.perm_append_singleton _ _).symm⟩
theorem new_tup {p : Addr} (hl : vs.length = xs.length) (g : Good B O (ps ++ zc K T xs vs) H F) (hp : H p = none) : Good B O (ps ++ [cv K T (.tup xs) (.ref p)]) (upd H p (.tup vs)) (upd F p (.tup vs)) := by
  obtain ⟨g1, fp⟩ := g.new (o := .tup vs) hp
  refine g1.swap fun ads h nd => ⟨fun _ _ => rfl, ads, okL_one.mpr ⟨p, vs, rfl, .inl (.inl upd_same), okL_zc' hl h⟩, .refl _⟩
theorem new_dict {p : Addr} (g : Good B O ps H F) (hp : H p = none) : Good B O (ps ++ [cv K T (.dic true [] []) (.ref p)]) (upd H p (.dK [])) F := by
  refine (new_cell (o := .dK []) g hp).swap fun ads h nd => ⟨fun _ _ => rfl, ?_⟩
  obtain ⟨rfl, h3⟩ := okL_cel h
  exact ⟨[p], okL_one.mpr ⟨p, [], rfl, rfl, h3, rfl, rfl⟩, .refl _⟩
/-! ### a tuple's parts, a list's parts -/
theorem tup_open (g : Good B O (ps ++ [cv K T (.tup xs) v]) H F) : ∃ a vs, v = .ref a ∧ SqT K F a vs ∧ vs.length = xs.length ∧ Good B O (ps ++ zc K T xs vs) H F := by
  obtain ⟨ads, h, nd, k⟩ := g.view
  obtain ⟨a, vs, h1, h2, h3⟩ := okL_one.mp h
  exact ⟨a, vs, h1, h2, h3.length, k _ (okL_zc h3)⟩
end
end Rk

set_option Elab.async false
set_option linter.all false
set_option maxRecDepth 100000
set_option maxHeartbeats 1000000
namespace Rk
open PySem PySem.Spec PyProof.Rows L2
/-! ### one part of a thing of one's own -/
section
variable {K : PySem.W.Frag} {cl : Str → Option Addr} {F F' H H' : Hp}
theorem reps_at : ∀ {xs : List PV} {vs : List V} {ads : List Addr} {j : Nat} {x : PV}, reps K cl F H xs vs ads → xs[j]? = some x → ∃ u a c, vs[j]? = some u ∧ ads.Perm (a ++ c) ∧ rep K cl F H x u a ∧
    ∀ F' H' y a', Ex F F' → (∀ b ∈ c, H' b = H b) → rep K cl F' H' y u a' → ∃ ads', ads'.Perm (a' ++ c) ∧ reps K cl F' H' (xs.set j y) vs ads'
  | [], _, _, _, _, _, h => by simp at h
  | z :: xs, v :: vs, _, 0, x, ⟨a, b, h1, h2, h3⟩, h => by
    simp at h; subst h
    exact ⟨v, a, b, by simp, by rw [h1], h2, fun F' H' y a' e k r => ⟨a' ++ b, .refl _, a', b, rfl, r, reps.loc h3 e k⟩⟩
  | z :: xs, v :: vs, _, j + 1, x, ⟨a, b, h1, h2, h3⟩, h => by
    obtain ⟨u, a1, c, k1, k2, k3, k4⟩ := reps_at (j := j) h3 (by simpa using h)
    refine ⟨u, a1, a ++ c, by simpa using k1, ?_, k3, fun F' H' y a' e k r => ?_⟩
    · rw [h1]
      have := k2.append_left a
      refine this.trans ?_
      rw [← List.append_assoc, ← List.append_assoc]
      exact (List.perm_append_comm).append_right c
    · obtain ⟨b', q1, q2⟩ := k4 F' H' y a' e (fun d hd => k d (List.mem_append_right _ hd)) r
      refine ⟨a ++ b', ?_, a, b', rfl, rep.loc h2 e fun d hd => k d (List.mem_append_left _ hd), q2⟩
      have := q1.append_left a
      refine this.trans ?_
      rw [← List.append_assoc, ← List.append_assoc]
      exact (List.perm_append_comm).append_right c
theorem reps_fld : ∀ {fv : List (Str × V)} {xs : List PV} {ads : List Addr} {g : Str} {x : PV}, reps K cl F H xs (fv.map (·.2)) ads → lookF (fv.map (·.1)) xs g = some x → ∃ u a c, fv.lookup g = some u ∧ ads.Perm (a ++ c) ∧ rep K cl F H x u a ∧
    ∀ F' H' y a', Ex F F' → (∀ b ∈ c, H' b = H b) → rep K cl F' H' y u a' → ∃ ads', ads'.Perm (a' ++ c) ∧ reps K cl F' H' (setF (fv.map (·.1)) xs g y) (fv.map (·.2)) ads'
  | [], _, _, _, _, _, h => by cases h
  | (f, v) :: fv, [], _, _, _, h, _ => by cases h
  | (f, v) :: fv, z :: xs, _, g, x, ⟨a, b, h1, h2, h3⟩, h => by
    have lk : ((f, v) :: fv).lookup g = if g = f then some v else fv.lookup g := by
      rw [List.lookup_cons]
      by_cases q : g = f
      · subst q; simp
      · rw [if_neg q, show (g == f) = false from beq_eq_false_iff_ne.mpr q]
    have e1 : lookF (((f, v) :: fv).map (·.1)) (z :: xs) g = if g = f then some z else lookF (fv.map (·.1)) xs g := rfl
    have e2 : ∀ y, setF (((f, v) :: fv).map (·.1)) (z :: xs) g y = if g = f then y :: xs else z :: setF (fv.map (·.1)) xs g y := fun _ => rfl
    rw [e1] at h
    by_cases q : g = f
    · rw [if_pos q] at h
      cases h
      exact ⟨v, a, b, by rw [lk, if_pos q], by rw [h1], h2, fun F' H' y a' e k r => ⟨a' ++ b, .refl _, by rw [e2, if_pos q]; exact ⟨a', b, rfl, r, reps.loc h3 e k⟩⟩⟩
    · rw [if_neg q] at h
      obtain ⟨u, a1, c, k1, k2, k3, k4⟩ := reps_fld h3 h
      refine ⟨u, a1, a ++ c, by rw [lk, if_neg q]; exact k1, ?_, k3, fun F' H' y a' e k r => ?_⟩
      · rw [h1]
        refine (k2.append_left a).trans ?_
        rw [← List.append_assoc, ← List.append_assoc]
        exact (List.perm_append_comm).append_right c
      · obtain ⟨b', q1, q2⟩ := k4 F' H' y a' e (fun d hd => k d (List.mem_append_right _ hd)) r
        refine ⟨a ++ b', ?_, by rw [e2, if_neg q]; exact ⟨a, b', rfl, rep.loc h2 e fun d hd => k d (List.mem_append_left _ hd), q2⟩⟩
        refine (q1.append_left a).trans ?_
        rw [← List.append_assoc, ← List.append_assoc]
        exact (List.perm_append_comm).append_right c
/-- how one comes from a thing to a part of it -/
def Leads (cl : Str → Option Addr) (H : Hp) : V → List Stp → V → Prop
  | v, [], v' => v' = v
  | v, .f g :: r, v' => ∃ a cn C dx fv u, v = .ref a ∧ cl cn = some C ∧ H a = some (.ins C dx fv) ∧ fv.lookup g = some u ∧ Leads cl H u r v'
  | v, .i j :: r, v' => ∃ a vs u, v = .ref a ∧ H a = some (.lst vs) ∧ vs[j]? = some u ∧ Leads cl H u r v'
theorem Leads.det : ∀ {r : List Stp} {v u w : V}, Leads cl H v r u → Leads cl H v r w → u = w
  | [], _, _, _, h, k => by rw [show _ = _ from h, show _ = _ from k]
  | .f g :: r, _, _, _, ⟨a, cn, C, dx, fv, u, h1, h2, h3, h4, h5⟩, ⟨a', cn', C', dx', fv', u', k1, k2, k3, k4, k5⟩ => by
    rw [h1] at k1; cases k1
    rw [h3] at k3; cases k3
    rw [h4] at k4; cases k4
    exact Leads.det h5 k5
  | .i j :: r, _, _, _, ⟨a, vs, u, h1, h2, h3, h4⟩, ⟨a', vs', u', k1, k2, k3, k4⟩ => by
    rw [h1] at k1; cases k1
    rw [h2] at k2; cases k2
    rw [h3] at k3; cases k3
    exact Leads.det h4 k4
theorem Leads.cut : ∀ {r s : List Stp} {v w : V}, Leads cl H v (r ++ s) w → ∃ u, Leads cl H v r u ∧ Leads cl H u s w
  | [], s, v, w, h => ⟨v, rfl, h⟩
  | .f g :: r, s, v, w, ⟨a, cn, C, dx, fv, u, h1, h2, h3, h4, h5⟩ => by
    obtain ⟨z, q1, q2⟩ := Leads.cut h5
    exact ⟨z, ⟨a, cn, C, dx, fv, u, h1, h2, h3, h4, q1⟩, q2⟩
  | .i j :: r, s, v, w, ⟨a, vs, u, h1, h2, h3, h4⟩ => by
    obtain ⟨z, q1, q2⟩ := Leads.cut h4
    exact ⟨z, ⟨a, vs, u, h1, h2, h3, q1⟩, q2⟩
theorem getS_f {g : Str} {l : List Stp} {x y : PV} (e : getS (.f g :: l) x = some y) : ∃ c fs xs z, x = .ins true c fs xs ∧ lookF fs xs g = some z ∧ getS l z = some y := by
  cases x <;> try (simp [getS] at e; done)
  rename_i o c fs xs
  cases o
  · simp [getS] at e
  · simp only [getS] at e
    cases q : lookF fs xs g with
    | none => rw [q] at e; cases e
    | some z => rw [q] at e; exact ⟨c, fs, xs, z, rfl, q, e⟩
theorem getS_i {j : Nat} {l : List Stp} {x y : PV} (e : getS (.i j :: l) x = some y) : ∃ xs z, x = .lst true xs ∧ xs[j]? = some z ∧ getS l z = some y := by
  cases x <;> try (simp [getS] at e; done)
  rename_i o xs
  cases o
  · simp [getS] at e
  · simp only [getS] at e
    cases q : xs[j]? with
    | none => rw [q] at e; cases e
    | some z => rw [q] at e; exact ⟨xs, z, rfl, q, e⟩
theorem putS_f {g : Str} {l : List Stp} {c : Str} {fs : List Str} {xs : List PV} {z y : PV} (q : lookF fs xs g = some z) : putS (.f g :: l) (.ins true c fs xs) y = .ins true c fs (setF fs xs g (putS l z y)) := by
  simp only [putS, q, Option.getD_some]
theorem putS_i {j : Nat} {l : List Stp} {xs : List PV} {z y : PV} (q : xs[j]? = some z) : putS (.i j :: l) (.lst true xs) y = .lst true (xs.set j (putS l z y)) := by
  simp only [putS, q, Option.getD_some]
/-- THE FOCUS -/
theorem focus : ∀ {l : List Stp} {x : PV} {v : V} {ads : List Addr} {y : PV}, rep K cl F H x v ads → getS l x = some y → ∃ u r c, ads.Perm (r ++ c) ∧ rep K cl F H y u r ∧ (∀ H', (∀ a ∈ c, H' a = H a) → Leads cl H' v l u) ∧
    ∀ F' H' y' r', Ex F F' → (∀ a ∈ c, H' a = H a) → rep K cl F' H' y' u r' → ∃ ads', ads'.Perm (r' ++ c) ∧ rep K cl F' H' (putS l x y') v ads'
  | [], x, v, ads, y, h, e => by
    simp [getS] at e; subst e
    exact ⟨v, ads, [], by simp, h, fun _ _ => rfl, fun F' H' y' r' _ _ k => ⟨r', by simp, k⟩⟩
  | .f g :: l, x, v, ads, y, h, e => by
        obtain ⟨c, fs, xs, z, rfl, q, ez⟩ := getS_f e
        obtain ⟨a, C, dx, fv, r, h1, h2, h3, h4, h5, h6, h7⟩ := h
        subst h6
        obtain ⟨u, a1, c1, k1, k2, k3, k4⟩ := reps_fld h7 q
        obtain ⟨w, r1, c2, m1, m2, m3, m4⟩ := focus (l := l) k3 ez
        refine ⟨w, r1, a :: dx :: (c2 ++ c1), ?_, m2, fun H' hk => ?_, fun F' H' y' r' ex hk hr => ?_⟩
        · rw [h3]
          have p1 : r.Perm (r1 ++ (c2 ++ c1)) := by rw [← List.append_assoc]; exact k2.trans (m1.append_right c1)
          exact ((p1.cons dx).cons a).trans (((List.perm_middle (a := dx)).symm.cons a).trans (List.perm_middle (a := a)).symm)
        · exact ⟨a, c, C, dx, fv, u, h1, h2, by rw [hk a (by simp)]; exact h4, k1, m3 H' fun b hb => hk b (by simp [hb])⟩
        · obtain ⟨a2, p1, p2⟩ := m4 F' H' y' r' ex (fun b hb => hk b (by simp [hb])) hr
          obtain ⟨a3, p3, p4⟩ := k4 F' H' (putS l z y') a2 ex (fun b hb => hk b (by simp [hb])) p2
          refine ⟨a :: dx :: a3, ?_, ?_⟩
          · have p5 : a3.Perm (r' ++ (c2 ++ c1)) := by rw [← List.append_assoc]; exact p3.trans (p1.append_right c1)
            exact ((p5.cons dx).cons a).trans (((List.perm_middle (a := dx)).symm.cons a).trans (List.perm_middle (a := a)).symm)
          · rw [putS_f q]
            exact ⟨a, C, dx, fv, a3, h1, h2, rfl, by rw [hk a (by simp)]; exact h4, by rw [hk dx (by simp)]; exact h5, rfl, p4⟩
  | .i j :: l, x, v, ads, y, h, e => by
        obtain ⟨xs, z, rfl, q, ez⟩ := getS_i e
        obtain ⟨a, vs, r, h1, h2, h3, h4⟩ := h
        obtain ⟨u, a1, c1, k1, k2, k3, k4⟩ := reps_at h4 q
        obtain ⟨w, r1, c2, m1, m2, m3, m4⟩ := focus (l := l) k3 ez
        refine ⟨w, r1, a :: (c2 ++ c1), ?_, m2, fun H' hk => ?_, fun F' H' y' r' ex hk hr => ?_⟩
        · rw [h2]
          have p1 : r.Perm (r1 ++ (c2 ++ c1)) := by rw [← List.append_assoc]; exact k2.trans (m1.append_right c1)
          exact (p1.cons a).trans (List.perm_middle (a := a)).symm
        · exact ⟨a, vs, u, h1, by rw [hk a (by simp)]; exact h3, k1, m3 H' fun b hb => hk b (by simp [hb])⟩
        · obtain ⟨a2, p1, p2⟩ := m4 F' H' y' r' ex (fun b hb => hk b (by simp [hb])) hr
          obtain ⟨a3, p3, p4⟩ := k4 F' H' (putS l z y') a2 ex (fun b hb => hk b (by simp [hb])) p2
          refine ⟨a :: a3, ?_, ?_⟩
          · have p5 : a3.Perm (r' ++ (c2 ++ c1)) := by rw [← List.append_assoc]; exact p3.trans (p1.append_right c1)
            exact (p5.cons a).trans (List.perm_middle (a := a)).symm
          · rw [putS_i q]
            exact ⟨a, vs, a3, h1, rfl, by rw [hk a (by simp)]; exact h3, p4⟩
end
end Rk

set_option Elab.async false
set_option linter.all false
set_option maxRecDepth 100000
set_option maxHeartbeats 1000000
namespace Rk
open PySem PySem.Spec PyProof.Rows L2
def WEx (T : Tab) (W : WX) (σ : L2.St) (H : Hp) (e : Str) : Prop := ∀ C, T.exc e = some C → W (.ref C) none σ H
/-- what a def promises -/
def spF (K : PySem.W.Frag) (adr exs : Str → Option Addr) (f : Fn) : Sp := fun vs H Q E =>
  ∃ (xs : List PV) (F O : Hp), vs.length = xs.length ∧ Good F O (((xs.map some).map (sdoA K adr)).zip (vs.map some)) H F ∧
    match f xs with
    | .stuck => False
    | .exc n os => ∀ C, exs n = some C → ∀ H' F', os.length = vs.length → Good F O ((os.map (sdoA K adr)).zip (vs.map some)) H' F' → E (.ref C) none H'
    | .ok y os => ∀ v H' F', os.length = vs.length → Good F O ((os.map (sdoA K adr)).zip (vs.map some) ++ [(.own (co K adr y), some v)]) H' F' → Q v H'
mutual
/-- the names in a code mean what the table says -/
def wf (K : PySem.W.Frag) (T : Tab) : CE → Prop
  | .con x v => ∃ u, T.con x = some u ∧ ∀ F H, rep K T.adr F H v u []
  | .bin _ a b => wf K T a ∧ wf K T b
  | .cat _ a b => wf K T a ∧ wf K T b
  | .frz _ a => wf K T a
  | .neg a => wf K T a
  | .cmp _ a b => wf K T a ∧ wf K T b
  | .chn _ _ a b c => wf K T a ∧ wf K T b ∧ wf K T c
  | .and es => wfs K T es
  | .or es => wfs K T es
  | .not a => wf K T a
  | .tup es => wfs K T es
  | .lst es => wfs K T es
  | .ix a i => wf K T a ∧ wf K T i
  | .dix a i => wf K T a ∧ wf K T i
  | .din _ a d => wf K T a ∧ wf K T d
  | .sl a lo hi => wf K T a ∧ wf K T lo ∧ wf K T hi
  | .fld a f => f ∈ T.flds ∧ wf K T a
  | .call x f es => T.fn x = some (spF K T.adr T.exc f) ∧ wfs K T es
  | .make x f es => (∃ C, T.cls x = some (C, spF K T.adr T.exc f) ∧ T.adr x = some C) ∧ wfs K T es
  | .callP _ x f es => T.fn x = some (spF K T.adr T.exc f) ∧ wfs K T es
  | .makeP _ x f es => (∃ C, T.cls x = some (C, spF K T.adr T.exc f) ∧ T.adr x = some C) ∧ wfs K T es
  | .meth c o m f es => (∃ C, T.mth c m = some (C, spF K T.adr T.exc f) ∧ T.adr c = some C) ∧ wf K T o ∧ wfs K T es
  | .blt _ es => wfs K T es
  | .isi a _ => wf K T a
  | .bm _ o es => wf K T o ∧ wfs K T es
  | .dget1 d k => wf K T d ∧ wf K T k
  | .dget2 d k x => wf K T d ∧ wf K T k ∧ wf K T x
  | .dpop1 d k => wf K T d ∧ wf K T k
  | .lrg a => wf K T a
  | .lrv a => wf K T a
  | .lc elt tg k es cond => es.length = ikN k ∧ wf K T elt ∧ wfs K T es ∧ wfs K T cond
  | _ => True
def wfs (K : PySem.W.Frag) (T : Tab) : List CE → Prop
  | [] => True
  | c :: cs => wf K T c ∧ wfs K T cs
end
structure KT (K : PySem.W.Frag) (T : Tab) : Prop where
  cls : ∀ c C, T.adr c = some C → Cls K C
  fld : ∀ c C f, T.adr c = some C → f ∈ T.flds → NoAttr K C f
  exm : T.tr = true → ∀ x C y D, T.exc x = some C → T.exc y = some D → PySem.W.exmOne K (.ref C) (.ref D) = some (isE x y)
section
variable {K : PySem.W.Frag} {T : Tab} {B O F F' H H' : Hp} {L : List Rs} {e : Slots} {σ : L2.St} {x y z : PV} {xs ys : List PV} {u v w : V} {vs ws : List V} {ads bds : List Addr} {Q : VK}
abbrev rp (K : PySem.W.Frag) (T : Tab) (F H : Hp) (x : PV) (v : V) : Prop := ∃ ads, rep K T.adr F H x v ads
/-! ### what is read -/
theorem rep_lst {o : Bool} (ex : Ex F H) (h : rep K T.adr F H (.lst o xs) v ads) : ∃ a vs r, v = .ref a ∧ H a = some (.lst vs) ∧ reps K T.adr F H xs vs r := by
  cases o with
  | true => obtain ⟨a, vs, r, h1, h2, h3, h4⟩ := h; exact ⟨a, vs, r, h1, h3, h4⟩
  | false => obtain ⟨h, a, vs, h1, h2, h3⟩ := h; exact ⟨a, vs, [], h1, ex _ _ h2, h3⟩
theorem rep_tup (ex : Ex F H) (h : rep K T.adr F H (.tup xs) v ads) : ∃ a vs r, v = .ref a ∧ SqT K H a vs ∧ reps K T.adr F H xs vs r := by
  obtain ⟨a, vs, h1, h2, h3⟩ := h; exact ⟨a, vs, ads, h1, ex.sqT h2, h3⟩
theorem rep_dic {o : Bool} {ks : List PV} (ex : Ex F H) (h : rep K T.adr F H (.dic o ks xs) v ads) : ∃ a dk, v = .ref a ∧ H a = some (.dK dk) ∧ dk.map (fun p => kP p.1) = ks ∧ reps K T.adr F H xs (dk.map (·.2)) [] := by
  cases o with
  | true => obtain ⟨a, dk, h1, h2, h3, h4, h5⟩ := h; exact ⟨a, dk, h1, h3, h4, h5⟩
  | false => obtain ⟨h, a, dk, h1, h2, h3, h4⟩ := h; exact ⟨a, dk, h1, ex _ _ h2, h3, h4⟩
theorem rep_ins {o : Bool} {c : Str} {fs : List Str} (ex : Ex F H) (h : rep K T.adr F H (.ins o c fs xs) v ads) : ∃ a C dx fv r, v = .ref a ∧ T.adr c = some C ∧ H a = some (.ins C dx fv) ∧ fv.map (·.1) = fs ∧ reps K T.adr F H xs (fv.map (·.2)) r := by
  cases o with
  | true => obtain ⟨a, C, dx, fv, r, h1, h2, h3, h4, h5, h6, h7⟩ := h; exact ⟨a, C, dx, fv, r, h1, h2, h4, h6, h7⟩
  | false => obtain ⟨h, a, C, dx, fv, h1, h2, h3, h4, h5, h6⟩ := h; exact ⟨a, C, dx, fv, [], h1, h2, ex _ _ h3, h5, h6⟩
theorem rep_scr {ns : List Int} (ex : Ex F H) (h : rep K T.adr F H (.scr ns) v ads) : ∃ a, v = .ref a ∧ SqL K H a (ns.map V.int) := by
  obtain ⟨h, a, h1, h2⟩ := h; exact ⟨a, h1, ex.sqL h2⟩
theorem rep_int {i : Int} (h : rep K T.adr F H (.int i) v ads) : v = .int i := h.1
theorem rep_bl {i : Bool} (h : rep K T.adr F H (.bl i) v ads) : v = .bl i := h.1
theorem rep_str {i : Str} (h : rep K T.adr F H (.str i) v ads) : v = .str i := h.1
theorem rep_non (h : rep K T.adr F H .non v ads) : v = .non := h.1
theorem reps_ix : ∀ {xs : List PV} {vs : List V} {ads : List Addr} {j : Nat}, reps K T.adr F H xs vs ads → xs[j]? = some x → ∃ v, vs[j]? = some v ∧ ∃ r, rep K T.adr F H x v r
  | [], _, _, _, _, h => by simp at h
  | z :: xs, v :: vs, _, 0, ⟨a, b, h1, h2, h3⟩, h => by simp at h; subst h; exact ⟨v, by simp, a, h2⟩
  | z :: xs, v :: vs, _, j + 1, ⟨a, b, h1, h2, h3⟩, h => by
    obtain ⟨u, k1, k2⟩ := reps_ix (j := j) h3 (by simpa using h)
    exact ⟨u, by simpa using k1, k2⟩
theorem reps_atI {i : Int} (h : reps K T.adr F H xs vs ads) (q : atI xs i = some x) : ∃ v, atI vs i = some v ∧ ∃ r, rep K T.adr F H x v r := by
  unfold atI at q ⊢
  rw [h.length]
  cases z : ixN xs.length i with
  | none => rw [z] at q; cases q
  | some j => rw [z] at q; exact reps_ix h q
/-! ### operators -/
theorem binQ_ok {op : Operator} (hx : rp K T F H x u) (hy : rp K T F H y w) (h : binQ op x y = some z) (k : ∀ v, rep K T.adr F H z v [] → Q v H) : binR K op u w H Q := by
  obtain ⟨_, hx⟩ := hx
  obtain ⟨_, hy⟩ := hy
  unfold binQ at h
  split at h
  · cases h; rw [rep_int hx, rep_int hy]; exact .inl ⟨_, _, rfl, rfl, k _ ⟨rfl, rfl⟩⟩
  · split at h
    · cases h; rw [rep_str hx, rep_str hy]; rename_i q; exact .inr (.inl ⟨_, _, rfl, rfl, q, k _ ⟨rfl, rfl⟩⟩)
    · cases h
  · cases h; rw [rep_int hx, rep_int hy]; exact ⟨_, _, rfl, rfl, k _ ⟨rfl, rfl⟩⟩
  · split at h
    · cases h; rw [rep_int hx, rep_int hy]; rename_i q; exact .inl ⟨_, _, rfl, rfl, q, k _ ⟨rfl, rfl⟩⟩
    · cases h
  · split at h
    · cases h; rw [rep_int hx, rep_int hy]; rename_i q; exact ⟨_, _, rfl, rfl, q, k _ ⟨rfl, rfl⟩⟩
    · cases h
  · split at h
    · cases h; rw [rep_int hx, rep_int hy]; rename_i q; exact ⟨_, _, rfl, rfl, q, k _ ⟨rfl, rfl⟩⟩
    · cases h
  · split at h
    · cases h; rw [rep_int hx, rep_int hy]; rename_i q; exact ⟨_, _, rfl, rfl, q, k _ ⟨rfl, rfl⟩⟩
    · cases h
  · cases h
mutual
def datum : PV → PyData
  | .non => .none
  | .bl b => .bool b
  | .int i => .int i
  | .str s => .str s
  | .tup xs => .tuple (datums xs)
  | .lst _ xs => .list (datums xs)
  | _ => .none
def datums : List PV → List PyData
  | [] => []
  | x :: xs => datum x :: datums xs
end
mutual
theorem dp_of (ex : Ex F H) : ∀ {n : Nat} {x : PV} {v : V} {ads : List Addr}, okD n x = true → rep K T.adr F H x v ads → L2.Dp K H v (datum x)
  | _, .non, _, _, _, h => by rw [rep_non h]; exact .non
  | _, .bl _, _, _, _, h => by rw [rep_bl h]; exact .bl _
  | _, .int _, _, _, _, h => by rw [rep_int h]; exact .int _
  | _, .str _, _, _, _, h => by rw [rep_str h]; exact .str _
  | n + 1, .tup xs, _, _, q, h => by
    obtain ⟨a, vs, r, rfl, h2, h3⟩ := rep_tup ex h
    exact .tup h2 (dps_of ex (n := n) (by simpa [okD] using q) h3)
  | n + 1, .lst o xs, _, _, q, h => by
    obtain ⟨a, vs, r, rfl, h2, h3⟩ := rep_lst ex h
    exact .lst (.inl (.inl h2)) (dps_of ex (n := n) (by simpa [okD] using q) h3)
  | 0, .tup xs, _, _, q, _ => by simp [okD] at q
  | 0, .lst o xs, _, _, q, _ => by simp [okD] at q
  | 0, .scr xs, _, _, q, _ => by simp [okD] at q
  | 0, .dic _ _ xs, _, _, q, _ => by simp [okD] at q
  | 0, .ins _ _ _ xs, _, _, q, _ => by simp [okD] at q
  | 0, .exn _, _, _, q, _ => by simp [okD] at q
  | n + 1, .scr xs, _, _, q, _ => by simp [okD] at q
  | n + 1, .dic _ _ xs, _, _, q, _ => by simp [okD] at q
  | n + 1, .ins _ _ _ xs, _, _, q, _ => by simp [okD] at q
  | n + 1, .exn _, _, _, q, _ => by simp [okD] at q
theorem dps_of (ex : Ex F H) : ∀ {n : Nat} {xs : List PV} {vs : List V} {ads : List Addr}, okDs n xs = true → reps K T.adr F H xs vs ads → L2.DpAll K H vs (datums xs)
  | _, [], [], _, _, _ => .nil
  | n, x :: xs, v :: vs, _, q, ⟨a, b, h1, h2, h3⟩ => by
    simp only [okDs, Bool.and_eq_true] at q
    exact .cons (dp_of ex q.1 h2) (dps_of ex q.2 h3)
end
mutual
theorem lay_of : ∀ {n : Nat} {x : PV}, okD n x = true → (datum x).canLay0 = true ∧ (datum x).depth ≤ n
  | _, .non, _ => ⟨by simp [datum, PyData.canLay0], by simp [datum, PyData.depth]⟩
  | _, .bl _, _ => ⟨by simp [datum, PyData.canLay0], by simp [datum, PyData.depth]⟩
  | _, .int _, _ => ⟨by simp [datum, PyData.canLay0], by simp [datum, PyData.depth]⟩
  | _, .str _, q => ⟨by simpa [datum, PyData.canLay0, okD] using q, by simp [datum, PyData.depth]⟩
  | n + 1, .tup xs, q => by
    obtain ⟨h1, h2⟩ := lays_of (n := n) (xs := xs) (by simpa [okD] using q)
    exact ⟨by simpa [datum, PyData.canLay0] using h1, by simp only [datum, PyData.depth]; omega⟩
  | n + 1, .lst o xs, q => by
    obtain ⟨h1, h2⟩ := lays_of (n := n) (xs := xs) (by simpa [okD] using q)
    exact ⟨by simpa [datum, PyData.canLay0] using h1, by simp only [datum, PyData.depth]; omega⟩
  | 0, .tup xs, q => by simp [okD] at q
  | 0, .lst o xs, q => by simp [okD] at q
  | 0, .scr xs, q => by simp [okD] at q
  | 0, .dic _ _ xs, q => by simp [okD] at q
  | 0, .ins _ _ _ xs, q => by simp [okD] at q
  | 0, .exn _, q => by simp [okD] at q
  | n + 1, .scr xs, q => by simp [okD] at q
  | n + 1, .dic _ _ xs, q => by simp [okD] at q
  | n + 1, .ins _ _ _ xs, q => by simp [okD] at q
  | n + 1, .exn _, q => by simp [okD] at q
theorem lays_of : ∀ {n : Nat} {xs : List PV}, okDs n xs = true → PyData.canLayAll0 (datums xs) = true ∧ PyData.depthAll (datums xs) ≤ n
  | _, [], _ => ⟨by simp [datums, PyData.canLayAll0], by simp [datums, PyData.depthAll]⟩
  | n, x :: xs, q => by
    simp only [okDs, Bool.and_eq_true] at q
    obtain ⟨a1, a2⟩ := lay_of q.1
    obtain ⟨b1, b2⟩ := lays_of q.2
    exact ⟨by simp [datums, PyData.canLayAll0, a1, b1], by simp only [datums, PyData.depthAll]; omega⟩
end
theorem shaped_of (h : okD 64 x = true) : SeqAt.shaped (datum x) = true := by
  obtain ⟨h1, h2⟩ := lay_of h
  simp [SeqAt.shaped, h1, h2]
mutual
theorem eqv_of : ∀ {n m : Nat} {x y : PV}, okD n x = true → okD m y = true → PyData.eqv (datum x) (datum y) = pvEq x y
  | n, m, x, y, hx, hy => by
    cases x <;> cases y <;> first
      | (cases n <;> simp [okD] at hx; done)
      | (cases m <;> simp [okD] at hy; done)
      | (simp [datum, PyData.eqv, pvEq]; done)
      | skip
    · rename_i xs ys
      cases n with
      | zero => simp [okD] at hx
      | succ n =>
        cases m with
        | zero => simp [okD] at hy
        | succ m =>
          simp only [datum, PyData.eqv, pvEq]
          exact eqvs_of (by simpa [okD] using hx) (by simpa [okD] using hy)
    · rename_i o xs o' ys
      cases n with
      | zero => simp [okD] at hx
      | succ n =>
        cases m with
        | zero => simp [okD] at hy
        | succ m =>
          simp only [datum, PyData.eqv, pvEq]
          exact eqvs_of (by simpa [okD] using hx) (by simpa [okD] using hy)
theorem eqvs_of : ∀ {n m : Nat} {xs ys : List PV}, okDs n xs = true → okDs m ys = true → PyData.eqvAll (datums xs) (datums ys) = pvEqs xs ys
  | _, _, [], [], _, _ => by simp [datums, PyData.eqvAll, pvEqs]
  | _, _, [], _ :: _, _, _ => by simp [datums, PyData.eqvAll, pvEqs]
  | _, _, _ :: _, [], _, _ => by simp [datums, PyData.eqvAll, pvEqs]
  | n, m, x :: xs, y :: ys, hx, hy => by
    simp only [okDs, Bool.and_eq_true] at hx hy
    simp only [datums, PyData.eqvAll, pvEqs, eqv_of hx.1 hy.1, eqvs_of hx.2 hy.2]
end
theorem any_eqv {n : Nat} (hx : okD n x = true) : ∀ {m : Nat} {ys : List PV}, okDs m ys = true → ((datums ys).any fun z => PyData.eqv z (datum x)) = ys.any fun y => pvEq y x
  | _, [], _ => rfl
  | m, y :: ys, h => by
    simp only [okDs, Bool.and_eq_true] at h
    simp only [datums, List.any_cons, eqv_of h.1 hx, any_eqv hx h.2]
theorem flat_eq (ex : Ex F H) (hx : rep K T.adr F H x v ads) (hy : rep K T.adr F H y u bds) (fx : flatP x = true) (fy : flatP y = true) : flatV v = true ∧ flatV u = true ∧ eqV u v = pvEq y x := by
  cases x <;> simp [flatP] at fx <;> cases y <;> simp [flatP] at fy <;>
    (first | rw [rep_non hx] | rw [rep_bl hx] | rw [rep_int hx] | rw [rep_str hx]) <;>
    (first | rw [rep_non hy] | rw [rep_bl hy] | rw [rep_int hy] | rw [rep_str hy]) <;> exact ⟨rfl, rfl, rfl⟩
theorem flat_any (ex : Ex F H) (hx : rep K T.adr F H x v ads) (fx : flatP x = true) : ∀ {ys : List PV} {us : List V} {bds : List Addr}, ys.all flatP = true → reps K T.adr F H ys us bds → us.all flatV = true ∧ inV v us = ys.any fun y => pvEq y x
  | [], [], _, _, _ => ⟨rfl, rfl⟩
  | y :: ys, u :: us, _, f, ⟨a, b, h1, h2, h3⟩ => by
    simp only [List.all_cons, Bool.and_eq_true] at f
    obtain ⟨q1, q2⟩ := flat_any ex hx fx f.2 h3
    obtain ⟨_, r2, r3⟩ := flat_eq ex hx h2 fx f.1
    refine ⟨by simp [r2, q1], ?_⟩
    unfold inV at q2 ⊢
    rw [List.any_cons, List.any_cons, q2, r3]
theorem isNon_ok {b : Bool} (hx : rep K T.adr F H x v ads) (h : isNonQ x = some b) : decide (v = .non) = b := by
  cases x with
  | non => rw [rep_non hx]; simp [isNonQ] at h; simp [h]
  | bl _ => rw [rep_bl hx]; simp [isNonQ] at h; simp [h]
  | int _ => rw [rep_int hx]; simp [isNonQ] at h; simp [h]
  | str _ => rw [rep_str hx]; simp [isNonQ] at h; simp [h]
  | scr _ => obtain ⟨_, a, rfl, _⟩ := hx; simp [isNonQ] at h; simp [h]
  | tup _ => obtain ⟨a, _, rfl, _⟩ := hx; simp [isNonQ] at h; simp [h]
  | lst o _ => cases o with
    | true => obtain ⟨a, _, _, rfl, _⟩ := hx; simp [isNonQ] at h; simp [h]
    | false => obtain ⟨_, a, _, rfl, _⟩ := hx; simp [isNonQ] at h; simp [h]
  | dic o _ _ => cases o with
    | true => obtain ⟨a, _, rfl, _⟩ := hx; simp [isNonQ] at h; simp [h]
    | false => obtain ⟨_, a, _, rfl, _⟩ := hx; simp [isNonQ] at h; simp [h]
  | ins o _ _ _ => cases o with
    | true => obtain ⟨a, _, _, _, _, rfl, _⟩ := hx; simp [isNonQ] at h; simp [h]
    | false => obtain ⟨_, a, _, _, _, rfl, _⟩ := hx; simp [isNonQ] at h; simp [h]
  | exn _ => simp [isNonQ] at h
theorem inQ_ok {b : Bool} (ex : Ex F H) (hx : rp K T F H x u) (hy : rp K T F H y w) (h : inQ x y = some b) (k : Q (.bl b) H) : cmpR K .In u w H Q := by
  obtain ⟨_, hx⟩ := hx
  obtain ⟨_, hy⟩ := hy
  unfold inQ at h
  split at h
  · split at h
    · rename_i q
      cases h
      obtain ⟨a, us, r, rfl, h1, h2⟩ := rep_lst ex hy
      refine .inr (.inr ⟨_, _, dp_of ex q.1 hx, .lst (.inl (.inl h1)) (dps_of ex q.2 h2), shaped_of q.1, ?_, ?_⟩)
      · have := shaped_of (x := .lst true _) (show okD 64 (.lst true _) = true from q.2)
        exact this
      · rw [any_eqv q.1 q.2]; exact k
    · cases h
  · split at h
    · rename_i q
      cases h
      obtain ⟨a, us, r, rfl, h1, h2⟩ := rep_tup ex hy
      obtain ⟨q1, q2⟩ := flat_any ex hx q.1 q.2 h2
      refine .inl ⟨a, us, rfl, .inr h1, (flat_eq ex hx hx q.1 q.1).1, q1, ?_⟩
      rw [if_neg Bool.false_ne_true, q2]; exact k
    · cases h
  · split at h
    · cases h
      rw [rep_str hx, rep_str hy]
      exact .inr (.inl ⟨_, _, rfl, rfl, k⟩)
    · cases h
  · cases h
theorem notInQ_ok {b : Bool} (ex : Ex F H) (hx : rp K T F H x u) (hy : rp K T F H y w) (h : inQ x y = some b) (k : Q (.bl (!b)) H) : cmpR K .NotIn u w H Q := by
  obtain ⟨_, hx⟩ := hx
  obtain ⟨_, hy⟩ := hy
  unfold inQ at h
  split at h
  · split at h
    · rename_i q
      cases h
      obtain ⟨a, us, r, rfl, h1, h2⟩ := rep_lst ex hy
      refine .inr (.inr ⟨_, _, dp_of ex q.1 hx, .lst (.inl (.inl h1)) (dps_of ex q.2 h2), shaped_of q.1, ?_, ?_⟩)
      · have := shaped_of (x := .lst true _) (show okD 64 (.lst true _) = true from q.2)
        exact this
      · rw [any_eqv q.1 q.2]; exact k
    · cases h
  · split at h
    · rename_i q
      cases h
      obtain ⟨a, us, r, rfl, h1, h2⟩ := rep_tup ex hy
      obtain ⟨q1, q2⟩ := flat_any ex hx q.1 q.2 h2
      refine .inl ⟨a, us, rfl, .inr h1, (flat_eq ex hx hx q.1 q.1).1, q1, ?_⟩
      rw [if_pos rfl, q2]; exact k
    · cases h
  · split at h
    · cases h
      rw [rep_str hx, rep_str hy]
      exact .inr (.inl ⟨_, _, rfl, rfl, k⟩)
    · cases h
  · cases h
theorem eqQ_ok {b : Bool} (ex : Ex F H) (hx : rp K T F H x u) (hy : rp K T F H y w) (h : eqQ x y = some b) : (Q (.bl b) H → cmpR K .Eq u w H Q) ∧ (Q (.bl (!b)) H → cmpR K .NotEq u w H Q) := by
  obtain ⟨_, hx⟩ := hx
  obtain ⟨_, hy⟩ := hy
  unfold eqQ at h
  split at h
  · rename_i q
    cases h
    exact ⟨fun k => .inr ⟨_, _, dp_of ex q.1 hx, dp_of ex q.2 hy, shaped_of q.1, shaped_of q.2, by rw [eqv_of q.1 q.2]; exact k⟩,
      fun k => .inr ⟨_, _, dp_of ex q.1 hx, dp_of ex q.2 hy, shaped_of q.1, shaped_of q.2, by rw [eqv_of q.1 q.2]; exact k⟩⟩
  · cases h
theorem cmpQ_ok {op : CmpOp} {b : Bool} (ex : Ex F H) (hx : rp K T F H x u) (hy : rp K T F H y w) (h : cmpQ op x y = some b) (k : Q (.bl b) H) : cmpR K op u w H Q := by
  have hx0 := hx
  have hy0 := hy
  obtain ⟨_, hx⟩ := hx
  obtain ⟨_, hy⟩ := hy
  unfold cmpQ at h
  split at h
  · exact (eqQ_ok ex hx0 hy0 h).1 k
  · cases q : eqQ x y with
    | none => rw [q] at h; cases h
    | some c => rw [q] at h; cases h; exact (eqQ_ok ex hx0 hy0 q).2 k
  · cases h; rw [rep_int hx, rep_int hy]; exact ⟨_, _, rfl, rfl, k⟩
  · cases h; rw [rep_int hx, rep_int hy]; exact ⟨_, _, rfl, rfl, k⟩
  · cases h; rw [rep_int hx, rep_int hy]; exact ⟨_, _, rfl, rfl, k⟩
  · cases h; rw [rep_int hx, rep_int hy]; exact ⟨_, _, rfl, rfl, k⟩
  · exact .inl ⟨rep_non hy, by rw [isNon_ok hx h]; exact k⟩
  · cases q : isNonQ x with
    | none => rw [q] at h; cases h
    | some c => rw [q] at h; cases h; exact .inl ⟨rep_non hy, by rw [isNon_ok hx q]; exact k⟩
  · cases h; rw [rep_bl hx, rep_bl hy]; exact .inr ⟨_, _, rfl, rfl, k⟩
  · cases h; rw [rep_bl hx, rep_bl hy]; exact .inr ⟨_, _, rfl, rfl, k⟩
  · exact inQ_ok ex hx0 hy0 h k
  · cases q : inQ x y with
    | none => rw [q] at h; cases h
    | some c => rw [q] at h; cases h; exact notInQ_ok ex hx0 hy0 q k
  · cases h
theorem ixQ_ok (ex : Ex F H) (hx : rp K T F H x u) (hy : rp K T F H y w) (h : ixQ x y = some z) (k : ∀ v, rp K T F H z v → Q v H) : rIx K u w H Q := by
  obtain ⟨_, hx⟩ := hx
  obtain ⟨_, hy⟩ := hy
  unfold ixQ at h
  split at h
  · obtain ⟨a, vs, r, rfl, h1, h2⟩ := rep_lst ex hx
    obtain ⟨v, e1, e2⟩ := reps_atI h2 h
    exact .inl ⟨a, vs, _, v, rfl, rep_int hy, .inl (.inl h1), e1, k v e2⟩
  · obtain ⟨a, vs, r, rfl, h1, h2⟩ := rep_tup ex hx
    obtain ⟨v, e1, e2⟩ := reps_atI h2 h
    exact .inr (.inl ⟨a, vs, _, v, rfl, rep_int hy, h1, e1, k v e2⟩)
  · rename_i ns i
    obtain ⟨a, rfl, h1⟩ := rep_scr ex hx
    cases q : atI ns i with
    | none => rw [q] at h; cases h
    | some n =>
      rw [q] at h; cases h
      refine .inl ⟨a, ns.map V.int, i, .int n, rfl, rep_int hy, h1, ?_, k _ ⟨[], rfl, rfl⟩⟩
      unfold atI at q ⊢
      rw [List.length_map]
      cases z : ixN ns.length i with
      | none => rw [z] at q; cases q
      | some j =>
        rw [z] at q
        show (ns.map V.int)[j]? = _
        rw [List.getElem?_map, show ns[j]? = some n from q]; rfl
  · rename_i s i
    split at h
    · rename_i hs
      cases q : atI s.cps.toList i with
      | none => rw [q] at h; cases h
      | some c =>
        rw [q] at h; cases h
        exact .inr (.inr ⟨s, i, c, rep_str hx, rep_int hy, hs, q, k _ ⟨[], rfl, rfl⟩⟩)
    · cases h
  · cases h
/-! ### dicts -/
theorem key_rep {k : Key} (h : keyP x = some k) (r : rep K T.adr F H x v ads) : v = kV k := by
  cases x <;> simp [keyP] at h
  · subst h; rw [rep_int r]; rfl
  · subst h; rw [rep_str r]; rfl
theorem keyP_kP (k : Key) : keyP (kP k) = some k := by cases k <;> rfl
theorem keyIsP_of {k k' : Key} (h : keyP x = some k) : keyIsP (kP k') x = decide (k' = k) := by
  unfold keyIsP
  rw [keyP_kP, h]
theorem lookD_ok {k : Key} (hk : keyP x = some k) : ∀ {dk : List (Key × V)} {xs : List PV} {ads : List Addr}, reps K T.adr F H xs (dk.map (·.2)) ads → match lookD (dk.map fun p => kP p.1) xs x with
    | none => valV dk k = none
    | some y => ∃ v, valV dk k = some v ∧ rp K T F H y v
  | [], [], _, _ => by simp [lookD, valV]
  | (k', v) :: dk, y :: xs, _, ⟨a, b, h1, h2, h3⟩ => by
    have ih := lookD_ok hk h3
    show match (if keyIsP (kP k') x = true then some y else lookD (dk.map fun p => kP p.1) xs x) with | none => _ | some y => _
    rw [keyIsP_of hk]
    by_cases q : k' = k
    · rw [if_pos (by simp [q])]
      exact ⟨v, valV_pos (p := (k', v)) q, a, h2⟩
    · rw [if_neg (by simp [q]), valV_neg (p := (k', v)) q]
      exact ih
theorem lookD_some {k : Key} {dk : List (Key × V)} (hk : keyP x = some k) (h : reps K T.adr F H xs (dk.map (·.2)) ads) : (valV dk k).isSome = (lookD (dk.map fun p => kP p.1) xs x).isSome := by
  have := lookD_ok hk h
  cases q : lookD (dk.map fun p => kP p.1) xs x with
  | none => rw [q] at this; rw [show valV dk k = none from this]; rfl
  | some y => rw [q] at this; obtain ⟨v, e, _⟩ := this; rw [e]; rfl
theorem dget_of {o : Bool} {ks : List PV} (ex : Ex F H) (hx : rep K T.adr F H (.dic o ks xs) u ads) (hy : rep K T.adr F H y w bds) (hk : (keyP y).isSome = true) : ∃ a r, u = .ref a ∧ DGet H a w r ∧ IsD H a ∧
    match lookD ks xs y with
    | none => r = none
    | some z => ∃ v, r = some v ∧ rp K T F H z v := by
  obtain ⟨a, dk, rfl, h1, h2, h3⟩ := rep_dic ex hx
  obtain ⟨k, hk⟩ := Option.isSome_iff_exists.mp hk
  refine ⟨a, valV dk k, rfl, by rw [key_rep hk hy]; exact DGet.k h1, .inl ⟨dk, .inl h1⟩, ?_⟩
  rw [← h2]
  exact lookD_ok hk h3
/-! ### built-in functions -/
theorem ints_ok : ∀ {xs : List PV} {ns : List Int} {vs : List V} {ads : List Addr}, intsP xs = some ns → reps K T.adr F H xs vs ads → vs = ns.map V.int
  | [], _, [], _, h, _ => by simp [intsP] at h; subst h; rfl
  | .int i :: xs, _, v :: vs, _, h, ⟨a, b, h1, h2, h3⟩ => by
    simp only [intsP] at h
    cases q : intsP xs with
    | none => rw [q] at h; cases h
    | some ms => rw [q] at h; cases h; rw [rep_int h2, ints_ok q h3]; rfl
  | .non :: _, _, _, _, h, _ => by simp [intsP] at h
  | .bl _ :: _, _, _, _, h, _ => by simp [intsP] at h
  | .str _ :: _, _, _, _, h, _ => by simp [intsP] at h
  | .scr _ :: _, _, _, _, h, _ => by simp [intsP] at h
  | .tup _ :: _, _, _, _, h, _ => by simp [intsP] at h
  | .lst _ _ :: _, _, _, _, h, _ => by simp [intsP] at h
  | .dic _ _ _ :: _, _, _, _, h, _ => by simp [intsP] at h
  | .ins _ _ _ _ :: _, _, _, _, h, _ => by simp [intsP] at h
  | .exn _ :: _, _, _, _, h, _ => by simp [intsP] at h
theorem bools_ok : ∀ {xs : List PV} {ns : List Bool} {vs : List V} {ads : List Addr}, boolsP xs = some ns → reps K T.adr F H xs vs ads → vs = ns.map V.bl
  | [], _, [], _, h, _ => by simp [boolsP] at h; subst h; rfl
  | .bl i :: xs, _, v :: vs, _, h, ⟨a, b, h1, h2, h3⟩ => by
    simp only [boolsP] at h
    cases q : boolsP xs with
    | none => rw [q] at h; cases h
    | some ms => rw [q] at h; cases h; rw [rep_bl h2, bools_ok q h3]; rfl
  | .non :: _, _, _, _, h, _ => by simp [boolsP] at h
  | .int _ :: _, _, _, _, h, _ => by simp [boolsP] at h
  | .str _ :: _, _, _, _, h, _ => by simp [boolsP] at h
  | .scr _ :: _, _, _, _, h, _ => by simp [boolsP] at h
  | .tup _ :: _, _, _, _, h, _ => by simp [boolsP] at h
  | .lst _ _ :: _, _, _, _, h, _ => by simp [boolsP] at h
  | .dic _ _ _ :: _, _, _, _, h, _ => by simp [boolsP] at h
  | .ins _ _ _ _ :: _, _, _, _, h, _ => by simp [boolsP] at h
  | .exn _ :: _, _, _, _, h, _ => by simp [boolsP] at h
/-- values, one by one -/
def rls (K : PySem.W.Frag) (T : Tab) (F H : Hp) : List PV → List V → Prop
  | [], [] => True
  | x :: xs, v :: vs => rp K T F H x v ∧ rls K T F H xs vs
  | _, _ => False
theorem lenQ_ok (ex : Ex F H) (hx : rp K T F H x u) (h : lenQ x = some z) (k : ∀ v, rep K T.adr F H z v [] → Q v H) : rLen K [u] H Q := by
  obtain ⟨_, hx⟩ := hx
  unfold lenQ at h
  split at h
  · cases h
    obtain ⟨a, vs, r, rfl, h1, h2⟩ := rep_lst ex hx
    exact .inl ⟨_, vs.length, rfl, .inl ⟨vs, .inl (.inl h1), rfl⟩, k _ ⟨by rw [h2.length], rfl⟩⟩
  · cases h
    obtain ⟨a, vs, r, rfl, h1, h2⟩ := rep_tup ex hx
    exact .inl ⟨_, vs.length, rfl, .inr ⟨vs, h1, rfl⟩, k _ ⟨by rw [h2.length], rfl⟩⟩
  · cases h
    obtain ⟨a, rfl, h1⟩ := rep_scr ex hx
    exact .inl ⟨_, _, rfl, .inl ⟨_, h1, rfl⟩, k _ ⟨by rw [List.length_map], rfl⟩⟩
  · cases h
    obtain ⟨a, dk, rfl, h1, h2, h3⟩ := rep_dic ex hx
    exact .inr ⟨a, dk, rfl, .inl h1, k _ ⟨by rw [← h2, List.length_map], rfl⟩⟩
  · split at h
    · rename_i q
      cases h
      rw [rep_str hx]
      exact .inl ⟨_, _, rfl, ⟨q, rfl⟩, k _ ⟨rfl, rfl⟩⟩
    · cases h
  · cases h
theorem sumQ_ok (ex : Ex F H) (hx : rp K T F H x u) (h : sumQ x = some z) (k : ∀ v, rep K T.adr F H z v [] → Q v H) : rSum K [u] H Q := by
  obtain ⟨_, hx⟩ := hx
  unfold sumQ at h
  split at h
  · rename_i o ys
    cases q : intsP ys with
    | none => rw [q] at h; cases h
    | some ns =>
      rw [q] at h; cases h
      obtain ⟨a, us, r, rfl, h1, h2⟩ := rep_lst ex hx
      exact ⟨a, ns, rfl, by rw [← ints_ok q h2]; exact .inl (.inl h1), k _ ⟨rfl, rfl⟩⟩
  · cases h
    obtain ⟨a, rfl, h1⟩ := rep_scr ex hx
    exact ⟨a, _, rfl, h1, k _ ⟨rfl, rfl⟩⟩
  · cases h
theorem bltQ_ok {b : Blt} (ex : Ex F H) (hx : rls K T F H xs vs) (h : bltQ b xs = some z) (k : ∀ v, rep K T.adr F H z v [] → Q v H) : bltR K b vs H Q := by
  unfold bltQ at h
  split at h
  · match vs, hx with
    | [v], hx => exact lenQ_ok ex hx.1 h k
  · cases h
    match vs, hx with
    | [v], hx => obtain ⟨_, hx⟩ := hx.1; rw [rep_int hx]; exact .inl ⟨_, rfl, k _ ⟨rfl, rfl⟩⟩
  · cases h
    match vs, hx with
    | [v], hx => obtain ⟨_, hx⟩ := hx.1; rw [rep_bl hx]; exact .inr ⟨_, rfl, k _ ⟨rfl, rfl⟩⟩
  · split at h
    · rename_i q
      cases h
      match vs, hx with
      | [v], hx => obtain ⟨_, hx⟩ := hx.1; rw [rep_int hx]; exact ⟨_, rfl, q, k _ ⟨rfl, rfl⟩⟩
    · cases h
  · match vs, hx with
    | [v], hx =>
      exact sumQ_ok ex hx.1 h k
  · rename_i o ys
    cases q : boolsP ys with
    | none => rw [q] at h; cases h
    | some ns =>
      rw [q] at h; cases h
      match vs, hx with
      | [v], hx =>
        obtain ⟨_, hx⟩ := hx.1
        obtain ⟨a, us, r, rfl, h1, h2⟩ := rep_lst ex hx
        exact ⟨a, ns, rfl, by rw [← bools_ok q h2]; exact .inl (.inl h1), k _ ⟨rfl, rfl⟩⟩
  · rename_i o ys
    cases q : boolsP ys with
    | none => rw [q] at h; cases h
    | some ns =>
      rw [q] at h; cases h
      match vs, hx with
      | [v], hx =>
        obtain ⟨_, hx⟩ := hx.1
        obtain ⟨a, us, r, rfl, h1, h2⟩ := rep_lst ex hx
        exact ⟨a, ns, rfl, by rw [← bools_ok q h2]; exact .inl (.inl h1), k _ ⟨rfl, rfl⟩⟩
  · cases h
    match vs, hx with
    | [v, v'], hx => obtain ⟨_, h1⟩ := hx.1; obtain ⟨_, h2⟩ := hx.2.1; rw [rep_int h1, rep_int h2]; exact ⟨_, _, rfl, k _ ⟨rfl, rfl⟩⟩
  · cases h
    match vs, hx with
    | [v, v'], hx => obtain ⟨_, h1⟩ := hx.1; obtain ⟨_, h2⟩ := hx.2.1; rw [rep_int h1, rep_int h2]; exact ⟨_, _, rfl, k _ ⟨rfl, rfl⟩⟩
  · cases h
def tyNm : Nat → String
  | 0 => "NoneType"
  | 1 => "bool"
  | 2 => "int"
  | 3 => "str"
  | 4 => "tuple"
  | _ => "list"
theorem kit_tab : ∀ n < 6, kitB (tyNm n) "int" = some (n == 2 || n == 1) ∧ kitB (tyNm n) "bool" = some (n == 1) ∧ kitB (tyNm n) "str" = some (n == 3) ∧ kitB (tyNm n) "tuple" = some (n == 4) ∧ kitB (tyNm n) "list" = some (n == 5) := by decide +kernel
theorem tyN_ok {n : Nat} (ex : Ex F H) (hx : rep K T.adr F H x u ads) (h : tyN x = some n) : n < 6 ∧ TyX K H u (.type (tyNm n)) := by
  unfold tyN at h
  split at h <;> first | (cases h; done) | (cases h; refine ⟨by decide, ?_⟩)
  · rw [rep_non hx]; exact .base .non
  · rw [rep_bl hx]; exact .base (.bl _)
  · rw [rep_int hx]; exact .base (.int _)
  · rw [rep_str hx]; exact .base (.str _)
  · obtain ⟨a, vs, r, rfl, h1, h2⟩ := rep_tup ex hx
    rcases h1 with (h1 | ⟨o, h1⟩) | ⟨o, its, n, h1, h2, _⟩
    · exact .base (.tup h1)
    · exact .fTuple h1
    · exact .kTuple h1 h2
  · obtain ⟨a, vs, r, rfl, h1, h2⟩ := rep_lst ex hx
    exact .base (.lst h1)
theorem isiQ_ok {ty : String} {b : Bool} (ex : Ex F H) (hx : rp K T F H x u) (h : isiQ ty x = some b) (k : Q (.bl b) H) : rIsi K [u, .ty ty] H Q := by
  obtain ⟨_, hx⟩ := hx
  unfold isiQ at h
  cases q : tyN x with
  | none => rw [q] at h; cases h
  | some n =>
    rw [q] at h
    obtain ⟨hn, t⟩ := tyN_ok ex hx q
    obtain ⟨k1, k2, k3, k4, k5⟩ := kit_tab n hn
    refine ⟨u, .ty ty, _, _, b, rfl, .ty ty, t, kit_ty ?_, k⟩
    rw [Option.bind_some] at h
    split at h
    · rename_i e; subst e; rw [k1, h]
    · split at h
      · rename_i e; subst e; rw [k2, h]
      · split at h
        · rename_i e; subst e; rw [k3, h]
        · split at h
          · rename_i e; subst e; rw [k4, h]
          · split at h
            · rename_i e; subst e; rw [k5, h]
            · cases h
theorem fldQ_ok {f : Str} {W : WX} {σ : L2.St} (kt : KT K T) (hf : f ∈ T.flds) (ex : Ex F H) (hx : rp K T F H x u) (h : fldQ x f = some z) (k : ∀ v, rp K T F H z v → Q v H) : ∃ a C dx fs v, u = .ref a ∧ H a = some (.ins C dx fs) ∧ Cls K C ∧ NoAttr K C f ∧ fs.lookup f = some v ∧ Q v H := by
  obtain ⟨_, hx⟩ := hx
  unfold fldQ at h
  split at h
  · obtain ⟨a, C, dx, fv, r, rfl, h1, h2, h3, h4⟩ := rep_ins ex hx
    subst h3
    obtain ⟨v, a1, c1, e1, e2, e3, _⟩ := reps_fld h4 h
    exact ⟨a, C, dx, fv, v, rfl, h2, kt.cls _ _ h1, kt.fld _ _ _ h1 hf, e1, k v ⟨_, e3⟩⟩
  · cases h
end
end Rk

set_option Elab.async false
set_option linter.all false
set_option maxRecDepth 100000
set_option maxHeartbeats 1000000
namespace Rk
open PySem PySem.Spec PyProof.Rows L2
section
variable {K : PySem.W.Frag} {T : Tab} {B O F F' H H' : Hp} {L : List Rs} {e : Slots} {σ : L2.St} {x y z : PV} {xs ys : List PV} {u v w : V} {vs ws : List V} {ads bds : List Addr} {Q : VK}
theorem bind2 {α β γ : Type} {a : Option α} {b : Option β} {f : α → β → Option γ} {z : γ} (h : (a.bind fun x => b.bind fun y => f x y) = some z) : ∃ x y, a = some x ∧ b = some y ∧ f x y = some z := by
  cases a with
  | none => cases h
  | some x =>
    cases b with
    | none => cases h
    | some y => exact ⟨x, y, rfl, rfl, h⟩
theorem bind1 {α γ : Type} {a : Option α} {f : α → Option γ} {z : γ} (h : (a.bind fun x => f x) = some z) : ∃ x, a = some x ∧ f x = some z := by
  cases a with
  | none => cases h
  | some x => exact ⟨x, rfl, h⟩
theorem map1 {α γ : Type} {a : Option α} {f : α → γ} {z : γ} (h : a.map f = some z) : ∃ x, a = some x ∧ f x = z := by
  cases a with
  | none => cases h
  | some x => exact ⟨x, rfl, by simpa using h⟩
theorem rp_bl {b : Bool} : rp K T F H (.bl b) (.bl b) := ⟨[], rfl, rfl⟩
theorem bool_rp {b : Bool} (h : boolQ x = some b) (r : rp K T F H x v) : v = .bl b := by
  obtain ⟨_, r⟩ := r
  cases x <;> simp [boolQ] at h
  subst h
  exact rep_bl r
theorem dget_non {o : Option V} (h : match (lookD xs ys y) with
    | none => o = none
    | some z => ∃ v, o = some v ∧ rp K T F H z v) : rp K T F H ((lookD xs ys y).getD .non) (o.getD .non) := by
  cases q : lookD xs ys y with
  | none => rw [q] at h; rw [show o = none from h]; exact ⟨[], rfl, rfl⟩
  | some z => rw [q] at h; obtain ⟨v, e, r⟩ := h; rw [e]; exact r
theorem dget_dfl {o : Option V} (hz : rp K T F H z w) (h : match (lookD xs ys y) with
    | none => o = none
    | some z => ∃ v, o = some v ∧ rp K T F H z v) : rp K T F H ((lookD xs ys y).getD z) (o.getD w) := by
  cases q : lookD xs ys y with
  | none => rw [q] at h; rw [show o = none from h]; exact hz
  | some z => rw [q] at h; obtain ⟨v, e, r⟩ := h; rw [e]; exact r
mutual
theorem pq (kt : KT K T) : ∀ (c : CE) (W : WX) {B O F H : Hp} {L : List Rs} {e : Slots} {σ : L2.St} {x : PV} {Q : VK}, wf K T c → evQ e c = some x → σ.length = e.length → Good B O (ze K T e σ ++ L) H F → (∀ v, rp K T F H x v → Q v H) → (sem K T c W).1 σ H Q
  | .var i, W, B, O, F, H, L, e, σ, x, Q, hw, h, hl, g, k => by
    obtain ⟨v, ads, h1, h2, _⟩ := slot_get hl g h
    exact ⟨v, h1, k v ⟨ads, h2⟩⟩
  | .int n, W, B, O, F, H, L, e, σ, x, Q, hw, h, hl, g, k => by cases h; exact k _ ⟨[], rfl, rfl⟩
  | .str n, W, B, O, F, H, L, e, σ, x, Q, hw, h, hl, g, k => by cases h; exact k _ ⟨[], rfl, rfl⟩
  | .non, W, B, O, F, H, L, e, σ, x, Q, hw, h, hl, g, k => by cases h; exact k _ ⟨[], rfl, rfl⟩
  | .bl n, W, B, O, F, H, L, e, σ, x, Q, hw, h, hl, g, k => by cases h; exact k _ ⟨[], rfl, rfl⟩
  | .con c y, W, B, O, F, H, L, e, σ, x, Q, hw, h, hl, g, k => by
    cases h
    obtain ⟨u, h1, h2⟩ := hw
    simp only [sem, h1]
    exact k u ⟨[], h2 F H⟩
  | .bin op a b, W, B, O, F, H, L, e, σ, x, Q, hw, h, hl, g, k => by
    obtain ⟨y, z, h1, h2, h3⟩ := bind2 h
    exact pq kt a W hw.1 h1 hl g fun u hu => pq kt b W hw.2 h2 hl g fun w hw => binQ_ok hu hw h3 fun v hv => k v ⟨[], hv⟩
  | .neg a, W, B, O, F, H, L, e, σ, x, Q, hw, h, hl, g, k => by
    obtain ⟨y, h1, h2⟩ := bind1 h
    refine pq kt a W hw h1 hl g fun u ⟨_, hu⟩ => ?_
    cases y <;> simp [negQ] at h2
    subst h2
    exact ⟨_, rep_int hu, k _ ⟨[], rfl, rfl⟩⟩
  | .cmp op a b, W, B, O, F, H, L, e, σ, x, Q, hw, h, hl, g, k => by
    obtain ⟨y, z, h1, h2, h3⟩ := bind2 h
    obtain ⟨t, h3', rfl⟩ := map1 h3
    exact pq kt a W hw.1 h1 hl g fun u hu => pq kt b W hw.2 h2 hl g fun w hw => cmpQ_ok g.exH hu hw h3' (k _ rp_bl)
  | .chn op op2 a b c, W, B, O, F, H, L, e, σ, x, Q, hw, h, hl, g, k => by
    obtain ⟨y, z, h1, h2, h3⟩ := bind2 h
    obtain ⟨t, h3, h4⟩ := bind1 h3
    refine pq kt a W hw.1 h1 hl g fun u hu => pq kt b W hw.2.1 h2 hl g fun w hw' => cmpQ_ok g.exH hu hw' h3 ⟨t, rfl, ?_⟩
    cases t with
    | true =>
      rw [if_pos rfl] at h4 ⊢
      obtain ⟨s, h5, h6⟩ := bind1 h4
      obtain ⟨q, h6', rfl⟩ := map1 h6
      exact pq kt c W hw.2.2 h5 hl g fun p hp => cmpQ_ok g.exH hw' hp h6' (k _ rp_bl)
    | false =>
      rw [if_neg Bool.false_ne_true] at h4 ⊢
      cases h4
      exact k _ rp_bl
  | .and es, W, B, O, F, H, L, e, σ, x, Q, hw, h, hl, g, k => pqAnd kt es W hw h hl g k
  | .or es, W, B, O, F, H, L, e, σ, x, Q, hw, h, hl, g, k => pqOr kt es W hw h hl g k
  | .not a, W, B, O, F, H, L, e, σ, x, Q, hw, h, hl, g, k => by
    obtain ⟨y, h1, h2⟩ := bind1 h
    obtain ⟨b, h2', rfl⟩ := map1 h2
    exact pq kt a W hw h1 hl g fun u hu => ⟨b, bool_rp h2' hu, k _ rp_bl⟩
  | .ix a b, W, B, O, F, H, L, e, σ, x, Q, hw, h, hl, g, k => by
    obtain ⟨y, z, h1, h2, h3⟩ := bind2 h
    exact pq kt a W hw.1 h1 hl g fun u hu => pq kt b W hw.2 h2 hl g fun w hw => ixQ_ok g.exH hu hw h3 k
  | .dix a b, W, B, O, F, H, L, e, σ, x, Q, hw, h, hl, g, k => by
    obtain ⟨y, z, h1, h2, h3⟩ := bind2 h
    refine pq kt a W hw.1 h1 hl g fun u ⟨_, hu⟩ => pq kt b W hw.2 h2 hl g fun w ⟨_, hw⟩ => ?_
    cases y <;> simp [dixQ] at h3
    rename_i o ks xs
    obtain ⟨a, r, rfl, h4, _, h5⟩ := dget_of g.exH hu hw h3.1
    rw [h3.2] at h5
    obtain ⟨v, rfl, h6⟩ := h5
    exact ⟨a, v, rfl, h4, k v h6⟩
  | .din neg a d, W, B, O, F, H, L, e, σ, x, Q, hw, h, hl, g, k => by
    obtain ⟨y, z, h1, h2, h3⟩ := bind2 h
    obtain ⟨t, h3', rfl⟩ := map1 h3
    clear h3 h
    cases z <;> simp [dinQ] at h3'
    rename_i o ks xs
    have key : ∀ u w, rp K T F H y u → rp K T F H (.dic o ks xs) w → ∃ a r, w = .ref a ∧ DGet H a u r ∧ r.isSome = t := fun u w ⟨_, hu⟩ ⟨_, hw⟩ => by
      obtain ⟨a, r, rfl, h4, _, h5⟩ := dget_of g.exH hw hu h3'.1
      refine ⟨a, r, rfl, h4, ?_⟩
      rw [← h3'.2]
      cases q : lookD ks xs y with
      | none => rw [q] at h5; rw [show r = none from h5]; rfl
      | some z => rw [q] at h5; obtain ⟨v, e, _⟩ := h5; rw [e]; rfl
    cases neg with
    | true =>
      refine pq kt a W hw.1 h1 hl g fun u hu => pq kt d W hw.2 h2 hl g fun w hw => ?_
      obtain ⟨a, r, e1, e2, e3⟩ := key u w hu hw
      exact ⟨a, r, e1, e2, by rw [e3]; exact k _ rp_bl⟩
    | false =>
      refine pq kt a W hw.1 h1 hl g fun u hu => pq kt d W hw.2 h2 hl g fun w hw => ?_
      obtain ⟨a, r, e1, e2, e3⟩ := key u w hu hw
      exact ⟨a, r, e1, e2, by rw [e3]; exact k _ rp_bl⟩
  | .fld a f, W, B, O, F, H, L, e, σ, x, Q, hw, h, hl, g, k => by
    obtain ⟨y, h1, h2⟩ := bind1 h
    exact pq kt a W hw.2 h1 hl g fun u hu => fldQ_ok (W := W) (σ := σ) kt hw.1 g.exH hu h2 k
  | .blt b es, W, B, O, F, H, L, e, σ, x, Q, hw, h, hl, g, k => by
    simp only [evQ] at h
    split at h
    · obtain ⟨ys, h1, h2⟩ := bind1 h
      exact pqs kt es W hw h1 hl g fun vs hv => bltQ_ok g.exH hv h2 fun v hv => k v ⟨[], hv⟩
    · cases h
  | .isi a ty, W, B, O, F, H, L, e, σ, x, Q, hw, h, hl, g, k => by
    obtain ⟨y, h1, h2⟩ := bind1 h
    obtain ⟨t, h2', rfl⟩ := map1 h2
    exact pq kt a W hw h1 hl g fun u hu => isiQ_ok g.exH hu h2' (k _ rp_bl)
  | .dget1 d q, W, B, O, F, H, L, e, σ, x, Q, hw, h, hl, g, k => by
    obtain ⟨y, z, h1, h2, h3⟩ := bind2 h
    refine pq kt d W hw.1 h1 hl g fun u ⟨_, hu⟩ => ?_
    have hd : ∃ a, u = .ref a ∧ IsD H a := by
      cases y <;> simp [dgetQ] at h3
      obtain ⟨a, dk, rfl, h4, _, _⟩ := rep_dic g.exH hu
      exact ⟨a, rfl, .inl ⟨dk, .inl h4⟩⟩
    obtain ⟨a, rfl, hd⟩ := hd
    refine ⟨a, rfl, hd, pq kt q W hw.2 h2 hl g fun w ⟨_, hw⟩ => ?_⟩
    cases y <;> simp [dgetQ] at h3
    rename_i o ks xs
    obtain ⟨a', r, e1, h4, _, h5⟩ := dget_of g.exH hu hw h3.1
    cases e1
    refine ⟨r, h4, ?_⟩
    rw [← h3.2] at k
    exact k _ (dget_non h5)
  | .dget2 d q f, W, B, O, F, H, L, e, σ, x, Q, hw, h, hl, g, k => by
    obtain ⟨y, z, h1, h2, h3⟩ := bind2 h
    obtain ⟨s, h3, h6⟩ := bind1 h3
    refine pq kt d W hw.1 h1 hl g fun u ⟨_, hu⟩ => ?_
    have hd : ∃ a, u = .ref a ∧ IsD H a := by
      cases y <;> simp [dgetQ] at h6
      obtain ⟨a, dk, rfl, h4, _, _⟩ := rep_dic g.exH hu
      exact ⟨a, rfl, .inl ⟨dk, .inl h4⟩⟩
    obtain ⟨a, rfl, hd⟩ := hd
    refine ⟨a, rfl, hd, pq kt q W hw.2.1 h2 hl g fun w ⟨_, hw1⟩ => pq kt f W hw.2.2 h3 hl g fun p hp => ?_⟩
    cases y <;> simp [dgetQ] at h6
    rename_i o ks xs
    obtain ⟨a', r, e1, h4, _, h5⟩ := dget_of g.exH hu hw1 h6.1
    cases e1
    refine ⟨r, h4, ?_⟩
    rw [← h6.2] at k
    exact k _ (dget_dfl hp h5)
  | .bm b o es, W, B, O, F, H, L, e, σ, x, Q, hw, h, hl, g, k => by
    simp only [evQ] at h
    split at h
    · rename_i q; simp [bmPu] at q
    · cases h
  | .mov _, _, _, _, _, _, _, _, _, _, _, _, h, _, _, _ => by cases h
  | .frz _ _, _, _, _, _, _, _, _, _, _, _, _, h, _, _, _ => by cases h
  | .nop, _, _, _, _, _, _, _, _, _, _, _, h, _, _, _ => by cases h
  | .cat _ _ _, _, _, _, _, _, _, _, _, _, _, _, h, _, _, _ => by cases h
  | .tup _, _, _, _, _, _, _, _, _, _, _, _, h, _, _, _ => by cases h
  | .lst _, _, _, _, _, _, _, _, _, _, _, _, h, _, _, _ => by cases h
  | .dct _, _, _, _, _, _, _, _, _, _, _, _, h, _, _, _ => by cases h
  | .sl _ _ _, _, _, _, _, _, _, _, _, _, _, _, h, _, _, _ => by cases h
  | .call _ _ _, _, _, _, _, _, _, _, _, _, _, _, h, _, _, _ => by cases h
  | .make _ _ _, _, _, _, _, _, _, _, _, _, _, _, h, _, _, _ => by cases h
  | .callP _ _ _ _, _, _, _, _, _, _, _, _, _, _, _, h, _, _, _ => by cases h
  | .makeP _ _ _ _, _, _, _, _, _, _, _, _, _, _, _, h, _, _, _ => by cases h
  | .meth _ _ _ _ _, _, _, _, _, _, _, _, _, _, _, _, h, _, _, _ => by cases h
  | .dpop1 _ _, _, _, _, _, _, _, _, _, _, _, _, h, _, _, _ => by cases h
  | .lrg _, _, _, _, _, _, _, _, _, _, _, _, h, _, _, _ => by cases h
  | .lrv _, _, _, _, _, _, _, _, _, _, _, _, h, _, _, _ => by cases h
  | .lc _ _ _ _ _, _, _, _, _, _, _, _, _, _, _, _, h, _, _, _ => by cases h
theorem pqs (kt : KT K T) : ∀ (cs : List CE) (W : WX) {B O F H : Hp} {L : List Rs} {e : Slots} {σ : L2.St} {xs : List PV} {Q : List V → Hp → Prop}, wfs K T cs → evQs e cs = some xs → σ.length = e.length → Good B O (ze K T e σ ++ L) H F → (∀ vs, rls K T F H xs vs → Q vs H) → (taOf (sems K T cs W).1) σ H Q
  | [], W, B, O, F, H, L, e, σ, xs, Q, hw, h, hl, g, k => by cases h; exact k [] trivial
  | c :: cs, W, B, O, F, H, L, e, σ, xs, Q, hw, h, hl, g, k => by
    obtain ⟨y, ys, h1, h2, h3⟩ := bind2 h
    cases h3
    exact pq kt c W hw.1 h1 hl g fun u hu => pqs kt cs W hw.2 h2 hl g fun us hus => k _ ⟨hu, hus⟩
theorem pqAnd (kt : KT K T) : ∀ (cs : List CE) (W : WX) {B O F H : Hp} {L : List Rs} {e : Slots} {σ : L2.St} {x : PV} {Q : VK}, wfs K T cs → evAnd e cs = some x → σ.length = e.length → Good B O (ze K T e σ ++ L) H F → (∀ v, rp K T F H x v → Q v H) → semAndV (sems K T cs W).1 σ H Q
  | [], W, B, O, F, H, L, e, σ, x, Q, hw, h, hl, g, k => by cases h
  | [c], W, B, O, F, H, L, e, σ, x, Q, hw, h, hl, g, k => by
    obtain ⟨b, h', rfl⟩ := map1 h
    obtain ⟨y, h1, h2⟩ := bind1 h'
    exact pq kt c W hw.1 h1 hl g fun u hu => by rw [bool_rp h2 hu]; exact k _ rp_bl
  | c :: d :: cs, W, B, O, F, H, L, e, σ, x, Q, hw, h, hl, g, k => by
    have h' : andO (evQ e c) (evAnd e (d :: cs)) = some x := h
    obtain ⟨b, h', h3⟩ := bind1 h'
    obtain ⟨y, h1, h2⟩ := bind1 h'
    refine pq kt c W hw.1 h1 hl g fun u hu => ⟨b, bool_rp h2 hu, ?_⟩
    cases b with
    | true => rw [if_pos rfl] at h3 ⊢; exact pqAnd kt (d :: cs) W hw.2 h3 hl g k
    | false => rw [if_neg Bool.false_ne_true] at h3 ⊢; cases h3; exact k _ rp_bl
theorem pqOr (kt : KT K T) : ∀ (cs : List CE) (W : WX) {B O F H : Hp} {L : List Rs} {e : Slots} {σ : L2.St} {x : PV} {Q : VK}, wfs K T cs → evOr e cs = some x → σ.length = e.length → Good B O (ze K T e σ ++ L) H F → (∀ v, rp K T F H x v → Q v H) → semOrV (sems K T cs W).1 σ H Q
  | [], W, B, O, F, H, L, e, σ, x, Q, hw, h, hl, g, k => by cases h
  | [c], W, B, O, F, H, L, e, σ, x, Q, hw, h, hl, g, k => by
    obtain ⟨b, h', rfl⟩ := map1 h
    obtain ⟨y, h1, h2⟩ := bind1 h'
    exact pq kt c W hw.1 h1 hl g fun u hu => by rw [bool_rp h2 hu]; exact k _ rp_bl
  | c :: d :: cs, W, B, O, F, H, L, e, σ, x, Q, hw, h, hl, g, k => by
    have h' : orO (evQ e c) (evOr e (d :: cs)) = some x := h
    obtain ⟨b, h', h3⟩ := bind1 h'
    obtain ⟨y, h1, h2⟩ := bind1 h'
    refine pq kt c W hw.1 h1 hl g fun u hu => ⟨b, bool_rp h2 hu, ?_⟩
    cases b with
    | true => rw [if_pos rfl] at h3 ⊢; cases h3; exact k _ rp_bl
    | false => rw [if_neg Bool.false_ne_true] at h3 ⊢; exact pqOr kt (d :: cs) W hw.2 h3 hl g k
end
/-! ### tests -/
/-- whose test is the value's truth -/
def plainT : CE → Bool
  | .and _ => false
  | .or _ => false
  | .not _ => false
  | .nop => false
  | .neg _ => false
  | .dct _ => false
  | .make _ _ _ => false
  | .makeP _ _ _ _ => false
  | .frz _ _ => false
  | _ => true
theorem tst_of : ∀ {c : CE} {W : WX} {σ : L2.St} {H : Hp} {Q : Bool → Hp → Prop}, plainT c = true → ∃ R : VK, (∀ b H', Q b H' → R (.bl b) H') ∧ ((sem K T c W).1 σ H R → (sem K T c W).2 σ H Q) := by
  intro c W σ H Q hc
  have tru : ∀ t : TE, ∃ R : VK, (∀ b H', Q b H' → R (.bl b) H') ∧ (t σ H R → tTru K t σ H Q) := fun t => ⟨fun x H1 => ∃ k, TruV K x H1 k ∧ Q k H1, fun b H' q => ⟨b, rfl, q⟩, fun h => h⟩
  have tes : ∀ t : TE, ∃ R : VK, (∀ b H', Q b H' → R (.bl b) H') ∧ (t σ H R → tTest t σ H Q) := fun t => ⟨fun x H1 => ∃ k, x = .bl k ∧ Q k H1, fun b H' q => ⟨b, rfl, q⟩, fun h => h⟩
  have teb : ∀ t : TE, ∃ R : VK, (∀ b H', Q b H' → R (.bl b) H') ∧ (t σ H R → tB t σ H Q) := fun t => ⟨fun x H1 => ∃ k, x = .bl k ∧ Q k H1, fun b H' q => ⟨b, rfl, q⟩, fun h => h⟩
  have no : ∃ R : VK, (∀ b H', Q b H' → R (.bl b) H') ∧ ((tNo : TE) σ H R → (ttNo : TT) σ H Q) := ⟨fun _ _ => True, fun _ _ _ => trivial, fun h => h.elim⟩
  cases c <;> first | (simp [plainT] at hc; done) | exact tru _ | exact tes _ | exact teb _ | skip
  · simp only [sem]; split <;> first | exact tru _ | exact no
  · simp only [sem]; split <;> first | exact tru _ | exact no
  · simp only [sem]; split <;> first | exact tru _ | exact no
  · simp only [sem]; split <;> first | exact tru _ | exact no
mutual
theorem pt (kt : KT K T) : ∀ (c : CE) (W : WX) {B O F H : Hp} {L : List Rs} {e : Slots} {σ : L2.St} {x : PV} {b : Bool} {Q : Bool → Hp → Prop}, wf K T c → evQ e c = some x → boolQ x = some b → σ.length = e.length → Good B O (ze K T e σ ++ L) H F → Q b H → (sem K T c W).2 σ H Q
  | .and es, W, B, O, F, H, L, e, σ, x, b, Q, hw, h, hb, hl, g, k => ptAnd kt es W hw h hb hl g k
  | .or es, W, B, O, F, H, L, e, σ, x, b, Q, hw, h, hb, hl, g, k => ptOr kt es W hw h hb hl g k
  | .not a, W, B, O, F, H, L, e, σ, x, b, Q, hw, h, hb, hl, g, k => by
    obtain ⟨y, h1, h2⟩ := bind1 h
    obtain ⟨c, h2', rfl⟩ := map1 h2
    cases hb
    exact pt kt a W hw h1 h2' hl g k
  | .neg a, W, B, O, F, H, L, e, σ, x, b, Q, hw, h, hb, hl, g, k => by
    obtain ⟨y, h1, h2⟩ := bind1 h
    cases y <;> simp [negQ] at h2
    subst h2
    cases hb
  | .frz n a, W, B, O, F, H, L, e, σ, x, b, Q, hw, h, hb, hl, g, k => by cases h
  | .nop, W, B, O, F, H, L, e, σ, x, b, Q, hw, h, hb, hl, g, k => by cases h
  | .dct _, W, B, O, F, H, L, e, σ, x, b, Q, hw, h, hb, hl, g, k => by cases h
  | .make _ _ _, W, B, O, F, H, L, e, σ, x, b, Q, hw, h, hb, hl, g, k => by cases h
  | .callP _ _ _ _, W, B, O, F, H, L, e, σ, x, b, Q, hw, h, hb, hl, g, k => by cases h
  | .makeP _ _ _ _, W, B, O, F, H, L, e, σ, x, b, Q, hw, h, hb, hl, g, k => by cases h
  | .var i, W, B, O, F, H, L, e, σ, x, b, Q, hw, h, hb, hl, g, k => by obtain ⟨R, r1, r2⟩ := tst_of (K := K) (T := T) (c := .var i) (W := W) (σ := σ) (H := H) (Q := Q) rfl; exact r2 (pq kt _ W hw h hl g fun v hv => by rw [bool_rp hb hv]; exact r1 b H k)
  | .int i, W, B, O, F, H, L, e, σ, x, b, Q, hw, h, hb, hl, g, k => by obtain ⟨R, r1, r2⟩ := tst_of (K := K) (T := T) (c := .int i) (W := W) (σ := σ) (H := H) (Q := Q) rfl; exact r2 (pq kt _ W hw h hl g fun v hv => by rw [bool_rp hb hv]; exact r1 b H k)
  | .str i, W, B, O, F, H, L, e, σ, x, b, Q, hw, h, hb, hl, g, k => by obtain ⟨R, r1, r2⟩ := tst_of (K := K) (T := T) (c := .str i) (W := W) (σ := σ) (H := H) (Q := Q) rfl; exact r2 (pq kt _ W hw h hl g fun v hv => by rw [bool_rp hb hv]; exact r1 b H k)
  | .non, W, B, O, F, H, L, e, σ, x, b, Q, hw, h, hb, hl, g, k => by obtain ⟨R, r1, r2⟩ := tst_of (K := K) (T := T) (c := .non) (W := W) (σ := σ) (H := H) (Q := Q) rfl; exact r2 (pq kt _ W hw h hl g fun v hv => by rw [bool_rp hb hv]; exact r1 b H k)
  | .bl i, W, B, O, F, H, L, e, σ, x, b, Q, hw, h, hb, hl, g, k => by obtain ⟨R, r1, r2⟩ := tst_of (K := K) (T := T) (c := .bl i) (W := W) (σ := σ) (H := H) (Q := Q) rfl; exact r2 (pq kt _ W hw h hl g fun v hv => by rw [bool_rp hb hv]; exact r1 b H k)
  | .con i j, W, B, O, F, H, L, e, σ, x, b, Q, hw, h, hb, hl, g, k => by obtain ⟨R, r1, r2⟩ := tst_of (K := K) (T := T) (c := .con i j) (W := W) (σ := σ) (H := H) (Q := Q) rfl; exact r2 (pq kt _ W hw h hl g fun v hv => by rw [bool_rp hb hv]; exact r1 b H k)
  | .bin i j l, W, B, O, F, H, L, e, σ, x, b, Q, hw, h, hb, hl, g, k => by obtain ⟨R, r1, r2⟩ := tst_of (K := K) (T := T) (c := .bin i j l) (W := W) (σ := σ) (H := H) (Q := Q) rfl; exact r2 (pq kt _ W hw h hl g fun v hv => by rw [bool_rp hb hv]; exact r1 b H k)
  | .cmp i j l, W, B, O, F, H, L, e, σ, x, b, Q, hw, h, hb, hl, g, k => by obtain ⟨R, r1, r2⟩ := tst_of (K := K) (T := T) (c := .cmp i j l) (W := W) (σ := σ) (H := H) (Q := Q) rfl; exact r2 (pq kt _ W hw h hl g fun v hv => by rw [bool_rp hb hv]; exact r1 b H k)
  | .chn i j l m n, W, B, O, F, H, L, e, σ, x, b, Q, hw, h, hb, hl, g, k => by obtain ⟨R, r1, r2⟩ := tst_of (K := K) (T := T) (c := .chn i j l m n) (W := W) (σ := σ) (H := H) (Q := Q) rfl; exact r2 (pq kt _ W hw h hl g fun v hv => by rw [bool_rp hb hv]; exact r1 b H k)
  | .ix i j, W, B, O, F, H, L, e, σ, x, b, Q, hw, h, hb, hl, g, k => by obtain ⟨R, r1, r2⟩ := tst_of (K := K) (T := T) (c := .ix i j) (W := W) (σ := σ) (H := H) (Q := Q) rfl; exact r2 (pq kt _ W hw h hl g fun v hv => by rw [bool_rp hb hv]; exact r1 b H k)
  | .dix i j, W, B, O, F, H, L, e, σ, x, b, Q, hw, h, hb, hl, g, k => by obtain ⟨R, r1, r2⟩ := tst_of (K := K) (T := T) (c := .dix i j) (W := W) (σ := σ) (H := H) (Q := Q) rfl; exact r2 (pq kt _ W hw h hl g fun v hv => by rw [bool_rp hb hv]; exact r1 b H k)
  | .din i j l, W, B, O, F, H, L, e, σ, x, b, Q, hw, h, hb, hl, g, k => by obtain ⟨R, r1, r2⟩ := tst_of (K := K) (T := T) (c := .din i j l) (W := W) (σ := σ) (H := H) (Q := Q) rfl; exact r2 (pq kt _ W hw h hl g fun v hv => by rw [bool_rp hb hv]; exact r1 b H k)
  | .fld i j, W, B, O, F, H, L, e, σ, x, b, Q, hw, h, hb, hl, g, k => by obtain ⟨R, r1, r2⟩ := tst_of (K := K) (T := T) (c := .fld i j) (W := W) (σ := σ) (H := H) (Q := Q) rfl; exact r2 (pq kt _ W hw h hl g fun v hv => by rw [bool_rp hb hv]; exact r1 b H k)
  | .blt i j, W, B, O, F, H, L, e, σ, x, b, Q, hw, h, hb, hl, g, k => by obtain ⟨R, r1, r2⟩ := tst_of (K := K) (T := T) (c := .blt i j) (W := W) (σ := σ) (H := H) (Q := Q) rfl; exact r2 (pq kt _ W hw h hl g fun v hv => by rw [bool_rp hb hv]; exact r1 b H k)
  | .isi i j, W, B, O, F, H, L, e, σ, x, b, Q, hw, h, hb, hl, g, k => by obtain ⟨R, r1, r2⟩ := tst_of (K := K) (T := T) (c := .isi i j) (W := W) (σ := σ) (H := H) (Q := Q) rfl; exact r2 (pq kt _ W hw h hl g fun v hv => by rw [bool_rp hb hv]; exact r1 b H k)
  | .dget1 i j, W, B, O, F, H, L, e, σ, x, b, Q, hw, h, hb, hl, g, k => by obtain ⟨R, r1, r2⟩ := tst_of (K := K) (T := T) (c := .dget1 i j) (W := W) (σ := σ) (H := H) (Q := Q) rfl; exact r2 (pq kt _ W hw h hl g fun v hv => by rw [bool_rp hb hv]; exact r1 b H k)
  | .dget2 i j l, W, B, O, F, H, L, e, σ, x, b, Q, hw, h, hb, hl, g, k => by obtain ⟨R, r1, r2⟩ := tst_of (K := K) (T := T) (c := .dget2 i j l) (W := W) (σ := σ) (H := H) (Q := Q) rfl; exact r2 (pq kt _ W hw h hl g fun v hv => by rw [bool_rp hb hv]; exact r1 b H k)
  | .bm i j l, W, B, O, F, H, L, e, σ, x, b, Q, hw, h, hb, hl, g, k => by obtain ⟨R, r1, r2⟩ := tst_of (K := K) (T := T) (c := .bm i j l) (W := W) (σ := σ) (H := H) (Q := Q) rfl; exact r2 (pq kt _ W hw h hl g fun v hv => by rw [bool_rp hb hv]; exact r1 b H k)
  | .mov _, _, _, _, _, _, _, _, _, _, _, _, _, h, _, _, _, _ => by cases h
  | .cat _ _ _, _, _, _, _, _, _, _, _, _, _, _, _, h, _, _, _, _ => by cases h
  | .tup _, _, _, _, _, _, _, _, _, _, _, _, _, h, _, _, _, _ => by cases h
  | .lst _, _, _, _, _, _, _, _, _, _, _, _, _, h, _, _, _, _ => by cases h
  | .sl _ _ _, _, _, _, _, _, _, _, _, _, _, _, _, h, _, _, _, _ => by cases h
  | .call _ _ _, _, _, _, _, _, _, _, _, _, _, _, _, h, _, _, _, _ => by cases h
  | .meth _ _ _ _ _, _, _, _, _, _, _, _, _, _, _, _, _, h, _, _, _, _ => by cases h
  | .dpop1 _ _, _, _, _, _, _, _, _, _, _, _, _, _, h, _, _, _, _ => by cases h
  | .lrg _, _, _, _, _, _, _, _, _, _, _, _, _, h, _, _, _, _ => by cases h
  | .lrv _, _, _, _, _, _, _, _, _, _, _, _, _, h, _, _, _, _ => by cases h
  | .lc _ _ _ _ _, _, _, _, _, _, _, _, _, _, _, _, _, h, _, _, _, _ => by cases h
theorem ptAnd (kt : KT K T) : ∀ (cs : List CE) (W : WX) {B O F H : Hp} {L : List Rs} {e : Slots} {σ : L2.St} {x : PV} {b : Bool} {Q : Bool → Hp → Prop}, wfs K T cs → evAnd e cs = some x → boolQ x = some b → σ.length = e.length → Good B O (ze K T e σ ++ L) H F → Q b H → semAndT (sems K T cs W).2 σ H Q
  | [], W, B, O, F, H, L, e, σ, x, b, Q, hw, h, hb, hl, g, k => by cases h
  | [c], W, B, O, F, H, L, e, σ, x, b, Q, hw, h, hb, hl, g, k => by
    obtain ⟨b', h', rfl⟩ := map1 h
    obtain ⟨y, h1, h2⟩ := bind1 h'
    cases hb
    exact pt kt c W hw.1 h1 h2 hl g k
  | c :: d :: cs, W, B, O, F, H, L, e, σ, x, b, Q, hw, h, hb, hl, g, k => by
    have h' : andO (evQ e c) (evAnd e (d :: cs)) = some x := h
    obtain ⟨b', h', h3⟩ := bind1 h'
    obtain ⟨y, h1, h2⟩ := bind1 h'
    refine pt kt c W hw.1 h1 h2 hl g ?_
    cases b' with
    | true => rw [if_pos rfl] at h3 ⊢; exact ptAnd kt (d :: cs) W hw.2 h3 hb hl g k
    | false => rw [if_neg Bool.false_ne_true] at h3 ⊢; cases h3; cases hb; exact k
theorem ptOr (kt : KT K T) : ∀ (cs : List CE) (W : WX) {B O F H : Hp} {L : List Rs} {e : Slots} {σ : L2.St} {x : PV} {b : Bool} {Q : Bool → Hp → Prop}, wfs K T cs → evOr e cs = some x → boolQ x = some b → σ.length = e.length → Good B O (ze K T e σ ++ L) H F → Q b H → semOrT (sems K T cs W).2 σ H Q
  | [], W, B, O, F, H, L, e, σ, x, b, Q, hw, h, hb, hl, g, k => by cases h
  | [c], W, B, O, F, H, L, e, σ, x, b, Q, hw, h, hb, hl, g, k => by
    obtain ⟨b', h', rfl⟩ := map1 h
    obtain ⟨y, h1, h2⟩ := bind1 h'
    cases hb
    exact pt kt c W hw.1 h1 h2 hl g k
  | c :: d :: cs, W, B, O, F, H, L, e, σ, x, b, Q, hw, h, hb, hl, g, k => by
    have h' : orO (evQ e c) (evOr e (d :: cs)) = some x := h
    obtain ⟨b', h', h3⟩ := bind1 h'
    obtain ⟨y, h1, h2⟩ := bind1 h'
    refine pt kt c W hw.1 h1 h2 hl g ?_
    cases b' with
    | true => rw [if_pos rfl] at h3 ⊢; cases h3; cases hb; exact k
    | false => rw [if_neg Bool.false_ne_true] at h3 ⊢; exact ptOr kt (d :: cs) W hw.2 h3 hb hl g k
end
end
end Rk

set_option Elab.async false
set_option linter.all false
set_option maxRecDepth 100000
set_option maxHeartbeats 1000000
namespace Rk
open PySem PySem.Spec PyProof.Rows L2
/-- what is dropped -/
def junk : Co where
  p := fun F H v ads => ∀ a ∈ ads, (H a).isSome = true
  loc := fun h e k a ha => by rw [k a ha]; exact h a ha
  there := fun h => h
section
variable {K : PySem.W.Frag} {T : Tab} {B O F F' H H' : Hp} {ps L : List Rs} {e : Slots} {σ : L2.St} {x y z root sub : PV} {xs ys : List PV} {u v w : V} {vs ws : List V} {ads bds : List Addr} {Q : VK} {l : List Stp} {i : Nat}
/-- what an update does to its thing and its arguments: r is handed back, the thing is sub' then -/
def Upd (K : PySem.W.Frag) (T : Tab) (F H H' : Hp) (sub : PV) (u : V) (ys : List PV) (vs : List V) (sub' r : PV) (vr : V) : Prop :=
  ∀ rs as, rep K T.adr F H sub u rs → reps K T.adr F H ys vs as → (rs ++ as).Nodup → (∀ b, b ∉ rs → H' b = H b) ∧
    ∃ rs' ar dr, rep K T.adr F H' sub' u rs' ∧ rep K T.adr F H' r vr ar ∧ (∀ a ∈ dr, (H' a).isSome = true) ∧ (rs' ++ (ar ++ dr)).Perm (rs ++ as)
theorem upd_good (hl : σ.length = e.length) (g : Good B O (ze K T e σ ++ (L ++ zc K T ys vs)) H F) (hs : slot e i = some root) (hg : getS l root = some sub) (hn : vs.length = ys.length) :
    ∃ rv u, σ[i]? = some (some rv) ∧ Leads T.adr H rv l u ∧ rp K T F H sub u ∧
      ∀ H' sub' r vr, Upd K T F H H' sub u ys vs sub' r vr → ∃ F', Good B O (ze K T (e.set i (some (putS l root sub'))) σ ++ L ++ [cv K T r vr]) H' F' := by
  obtain ⟨rv, h1, g1⟩ := slot_take hl g hs
  have g2 : Good B O ((ze K T (e.set i none) σ ++ L) ++ ([cv K T root rv] ++ zc K T ys vs)) H F := g1.perm (by
    rw [← List.append_assoc, ← List.append_assoc]
    rw [List.append_assoc (ze K T (e.set i none) σ ++ L)]
    exact (List.perm_append_comm).append_left _ |>.trans (by rw [← List.append_assoc]))
  obtain ⟨ads, hX, nd, _⟩ := g2.view
  obtain ⟨a, b, rfl, k1, k2⟩ := hX.cut
  have rr := okL_one.mp k1
  obtain ⟨u, rs, c, p1, p2, p3, p4⟩ := focus rr hg
  refine ⟨rv, u, h1, p3 H (fun _ _ => rfl), ⟨rs, p2⟩, fun H' sub' r vr up => ?_⟩
  have g3 : Good B O ((ze K T (e.set i none) σ ++ L) ++ ([cv K T (putS l root sub') rv] ++ ([cv K T r vr] ++ [(.own junk, some .non)]))) H' F := by
    refine g2.swap fun ads' hX' nd' => ?_
    obtain ⟨a', b', rfl, m1, m2⟩ := hX'.cut
    obtain ⟨u', rs', c', q1, q2, q3, q4⟩ := focus (okL_one.mp m1) hg
    obtain rfl : u' = u := (q3 H (fun _ _ => rfl)).det (p3 H fun _ _ => rfl)
    have nd2 : ((rs' ++ c') ++ b').Nodup := ((q1.append_right b').nodup_iff).mp nd'
    have nd3 : (rs' ++ b').Nodup := by
      refine List.Nodup.sublist ?_ nd2
      rw [List.append_assoc]
      exact (List.Sublist.refl rs').append (List.sublist_append_right c' b')
    obtain ⟨t1, rs2, ar, dr, t2, t3, t4, t5⟩ := up rs' b' q2 (okL_zc' hn m2) nd3
    have cd : ∀ d ∈ c', d ∉ rs' := fun d hd hr => by
      rw [List.append_assoc] at nd2
      exact (List.nodup_append.mp nd2).2.2 d hr d (List.mem_append_left _ hd) rfl
    refine ⟨fun d hd => t1 d fun hr => hd (List.mem_append_left _ (q1.mem_iff.mpr (List.mem_append_left _ hr))), ?_⟩
    obtain ⟨ad2, s1, s2⟩ := q4 F H' sub' rs2 (.refl _) (fun d hd => t1 d (cd d hd)) t2
    refine ⟨ad2 ++ (ar ++ (dr ++ [])), .cons ⟨rv, rfl, s2⟩ (.cons ⟨vr, rfl, t3⟩ (.cons ⟨.non, rfl, t4⟩ .nil)), ?_⟩
    rw [List.append_nil]
    refine (s1.append_right _).trans ?_
    refine List.Perm.trans ?_ ((q1.symm).append_right b')
    have e1 : (rs2 ++ c' ++ (ar ++ dr)).Perm (rs2 ++ (ar ++ dr) ++ c') := by
      rw [List.append_assoc, List.append_assoc]
      exact (List.perm_append_comm).append_left rs2
    refine e1.trans ((t5.append_right c').trans ?_)
    rw [List.append_assoc, List.append_assoc]
    exact (List.perm_append_comm).append_left rs'
  rw [← List.append_assoc, ← List.append_assoc] at g3
  obtain ⟨F1, g4, _⟩ := drop1 g3
  have g5 : Good B O (ze K T (e.set i none) σ ++ (L ++ [cv K T r vr]) ++ [(sdo K T (some (putS l root sub')), some rv)]) H' F1 := g4.perm (by
    rw [List.append_assoc, ← List.append_assoc (ze K T (e.set i none) σ)]
    refine ((List.perm_append_comm).append_left _).trans ?_
    rw [← List.append_assoc]
    exact .refl _)
  obtain ⟨F2, g6, _⟩ := slot_back (s := some (putS l root sub')) (by simpa using hl) h1 g5
  rw [List.set_set] at g6
  exact ⟨F2, by rw [← List.append_assoc] at g6; exact g6⟩
/-! ### updates of lists -/
theorem reps_app : ∀ {xs ys : List PV} {vs ws : List V} {a b : List Addr}, reps K T.adr F H xs vs a → reps K T.adr F H ys ws b → reps K T.adr F H (xs ++ ys) (vs ++ ws) (a ++ b)
  | [], _, [], _, _, _, h, k => by rw [show _ = [] from h]; exact k
  | x :: xs, _, v :: vs, _, _, b, ⟨a1, a2, h1, h2, h3⟩, k => ⟨a1, a2 ++ b, by rw [h1, List.append_assoc], h2, reps_app h3 k⟩
theorem reps_cut : ∀ {xs ys : List PV} {ws : List V} {c : List Addr}, reps K T.adr F H (xs ++ ys) ws c → ∃ vs us a b, ws = vs ++ us ∧ c = a ++ b ∧ reps K T.adr F H xs vs a ∧ reps K T.adr F H ys us b
  | [], ys, ws, c, h => ⟨[], ws, [], c, rfl, rfl, rfl, h⟩
  | x :: xs, ys, w :: ws, c, ⟨a1, a2, h1, h2, h3⟩ => by
    obtain ⟨vs, us, a, b, e1, e2, k1, k2⟩ := reps_cut h3
    exact ⟨w :: vs, us, a1 ++ a, b, by rw [e1]; rfl, by rw [h1, e2, List.append_assoc], ⟨a1, a, rfl, h2, k1⟩, k2⟩
theorem reps_cutAt : ∀ {n : Nat} {xs : List PV} {vs : List V} {c : List Addr}, reps K T.adr F H xs vs c → ∃ a b, c = a ++ b ∧ reps K T.adr F H (xs.take n) (vs.take n) a ∧ reps K T.adr F H (xs.drop n) (vs.drop n) b
  | 0, xs, vs, c, h => ⟨[], c, rfl, by simp [reps], by simpa using h⟩
  | n + 1, [], [], c, h => ⟨[], c, rfl, rfl, h⟩
  | n + 1, x :: xs, v :: vs, _, ⟨a1, a2, h1, h2, h3⟩ => by
    obtain ⟨a, b, rfl, k1, k2⟩ := reps_cutAt (n := n) h3
    exact ⟨a1 ++ a, b, by rw [h1, List.append_assoc], ⟨a1, a, rfl, h2, k1⟩, k2⟩
theorem reps_nil {vs : List V} {a : List Addr} (h : reps K T.adr F H [] vs a) : vs = [] ∧ a = [] := by
  cases vs with
  | nil => exact ⟨rfl, h⟩
  | cons _ _ => exact h.elim
theorem reps_one {vs : List V} {a : List Addr} (h : reps K T.adr F H [x] vs a) : ∃ v, vs = [v] ∧ rep K T.adr F H x v a := by
  cases vs with
  | nil => exact h.elim
  | cons v vs =>
    obtain ⟨a1, a2, h1, h2, h3⟩ := h
    obtain ⟨rfl, rfl⟩ := reps_nil h3
    exact ⟨v, rfl, by rw [h1, List.append_nil]; exact h2⟩
theorem reps_two {vs : List V} {a : List Addr} (h : reps K T.adr F H [x, y] vs a) : ∃ v w a1 a2, vs = [v, w] ∧ a = a1 ++ a2 ∧ rep K T.adr F H x v a1 ∧ rep K T.adr F H y w a2 := by
  cases vs with
  | nil => exact h.elim
  | cons v vs =>
    obtain ⟨a1, a2, h1, h2, h3⟩ := h
    obtain ⟨w, rfl, h4⟩ := reps_one h3
    exact ⟨v, w, a1, a2, rfl, h1, h2, h4⟩
theorem reps_one_of (h : rep K T.adr F H x v ads) : reps K T.adr F H [x] [v] ads := ⟨ads, [], by simp, h, rfl⟩
/-- a list's items, changed -/
theorem upd_list' {vs' : List V} {xs' : List PV} {r : PV} {vr : V} {p : Addr} {us : List V} (hp : H p = some (.lst us))
    (h : ∀ a as, reps K T.adr F H xs us a → reps K T.adr F H ys vs as → ∀ H', (∀ b ∈ a ++ as, H' b = H b) → ∃ a' ar dr, reps K T.adr F H' xs' vs' a' ∧ rep K T.adr F H' r vr ar ∧ (∀ d ∈ dr, d ∈ a ++ as) ∧ (a' ++ (ar ++ dr)).Perm (a ++ as)) :
    Upd K T F H (upd H p (.lst vs')) (.lst true xs) (.ref p) ys vs (.lst true xs') r vr := by
  rintro rs as ⟨q, us', a, e1, rfl, e3, e4⟩ ha nd
  cases e1
  rw [hp] at e3
  cases e3
  refine ⟨fun b hb => upd_ne fun z => hb (by simp [z]), ?_⟩
  rw [List.cons_append] at nd
  have np := (List.nodup_cons.mp nd).1
  obtain ⟨a', ar, dr, k4, k5, k2, k3⟩ := h a as e4 ha (upd H p (.lst vs')) fun b hb => upd_ne fun z => np (by rw [← z]; exact hb)
  refine ⟨p :: a', ar, dr, ⟨p, vs', a', rfl, rfl, upd_same, k4⟩, k5, fun d hd => ?_, k3.cons p⟩
  have hd2 := k2 d hd
  rw [upd_ne fun z => np (by rw [← z]; exact hd2)]
  rcases List.mem_append.mp hd2 with hd2 | hd2
  · exact e4.there d hd2
  · exact ha.there d hd2
theorem upd_list {vs' : List V} {xs' : List PV} {r : PV} {vr : V} {p : Addr} {us : List V} (hp : H p = some (.lst us))
    (h : ∀ a as, reps K T.adr F H xs us a → reps K T.adr F H ys vs as → ∃ a' ar dr, (∀ H', (∀ b ∈ a ++ as, H' b = H b) → reps K T.adr F H' xs' vs' a' ∧ rep K T.adr F H' r vr ar) ∧ (∀ d ∈ dr, d ∈ a ++ as) ∧ (a' ++ (ar ++ dr)).Perm (a ++ as)) :
    Upd K T F H (upd H p (.lst vs')) (.lst true xs) (.ref p) ys vs (.lst true xs') r vr := upd_list' hp fun a as ha has H' hk => by
  obtain ⟨a', ar, dr, k1, k2, k3⟩ := h a as ha has
  exact ⟨a', ar, dr, (k1 H' hk).1, (k1 H' hk).2, k2, k3⟩
theorem non_rep : rep K T.adr F H .non .non [] := ⟨rfl, rfl⟩
def bmR : Bm → V → List V → Hp → VK → Prop
  | .append => rAppend
  | .clear => rClear
  | .pop0 => rPop
  | .pop1 => rPopAt
  | .reverse => rReverse
  | .removeI => rRemI
  | .insert => rInsert
  | .extend => rExtend
  | _ => fun _ _ _ _ => False
theorem reps_pick {j : Nat} (h : reps K T.adr F H xs vs ads) (q : xs[j]? = some x) : ∃ v a c, vs[j]? = some v ∧ ads.Perm (a ++ c) ∧ rep K T.adr F H x v a ∧ reps K T.adr F H (xs.eraseIdx j) (vs.eraseIdx j) c := by
  induction xs generalizing vs ads j with
  | nil => simp at q
  | cons z xs ih =>
    cases vs with
    | nil => exact h.elim
    | cons v vs =>
      obtain ⟨a, b, rfl, h2, h3⟩ := h
      cases j with
      | zero =>
        simp at q; subst q
        exact ⟨v, a, b, by simp, .refl _, h2, by simpa using h3⟩
      | succ j =>
        obtain ⟨u, a1, c, k1, k2, k3, k4⟩ := ih h3 (by simpa using q)
        refine ⟨u, a1, a ++ c, by simpa using k1, ?_, k3, ?_⟩
        · refine (k2.append_left a).trans ?_
          rw [← List.append_assoc, ← List.append_assoc]
          exact (List.perm_append_comm).append_right c
        · rw [List.eraseIdx_cons_succ, List.eraseIdx_cons_succ]
          exact ⟨a, c, rfl, h2, k4⟩
theorem dropLast_erase {α : Type} (xs : List α) : xs.dropLast = xs.eraseIdx (xs.length - 1) := by
  rw [List.dropLast_eq_take, List.eraseIdx_eq_take_drop_succ]
  cases xs with
  | nil => rfl
  | cons x xs => simp
theorem reps_rev : ∀ {xs : List PV} {vs : List V} {ads : List Addr}, reps K T.adr F H xs vs ads → ∃ a', a'.Perm ads ∧ reps K T.adr F H xs.reverse vs.reverse a'
  | [], [], _, h => ⟨[], by rw [show _ = [] from h], rfl⟩
  | x :: xs, v :: vs, _, ⟨a, b, h1, h2, h3⟩ => by
    obtain ⟨b', k1, k2⟩ := reps_rev h3
    refine ⟨b' ++ a, ?_, by rw [List.reverse_cons, List.reverse_cons]; exact reps_app k2 (reps_one_of h2)⟩
    rw [h1]
    exact (List.perm_append_comm).trans (k1.append_left a)
theorem ints_map : ∀ {xs : List PV} {ns : List Int}, intsP xs = some ns → xs = ns.map PV.int
  | [], _, h => by simp [intsP] at h; subst h; rfl
  | .int i :: xs, _, h => by
    simp only [intsP] at h
    obtain ⟨ms, q, rfl⟩ := map1 h
    rw [List.map_cons, ints_map q]
  | .non :: _, _, h => by simp [intsP] at h
  | .bl _ :: _, _, h => by simp [intsP] at h
  | .str _ :: _, _, h => by simp [intsP] at h
  | .scr _ :: _, _, h => by simp [intsP] at h
  | .tup _ :: _, _, h => by simp [intsP] at h
  | .lst _ _ :: _, _, h => by simp [intsP] at h
  | .dic _ _ _ :: _, _, h => by simp [intsP] at h
  | .ins _ _ _ _ :: _, _, h => by simp [intsP] at h
  | .exn _ :: _, _, h => by simp [intsP] at h
theorem atV_of {n : Nat} {k : Int} {j : Nat} (h : ixN n k = some j) : seqIndex? k n = some j := (ixN_seq h).1
theorem bmX_ok {b : Bm} {p : Addr} {us : List V} (hp : H p = some (.lst us)) (hs : rp K T F H sub (.ref p)) (hargs : ∃ as, reps K T.adr F H ys vs as) (h : bmX b sub ys = some (z, x))
    (ex : Ex F H) (k : ∀ vr H', Upd K T F H H' sub (.ref p) ys vs x z vr → Q vr H') : bmR b (.ref p) vs H Q := by
  obtain ⟨as0, hargs⟩ := hargs
  have len : ∀ {xs : List PV}, sub = .lst true xs → us.length = xs.length := fun e => by
    subst e
    obtain ⟨_, q, us', a, e1, _, e3, e4⟩ := hs
    cases e1
    rw [hp] at e3; cases e3
    exact e4.length
  unfold bmX at h
  split at h
  · -- append
    rename_i xs y
    split at h
    · rename_i hlt
      cases h
      obtain ⟨vy, rfl, _⟩ := reps_one hargs
      refine ⟨p, us, vy, rfl, rfl, hp, by rw [len rfl]; exact Nat.lt_of_lt_of_le hlt lim_line, k .non _ (upd_list hp fun a as ha has => ?_)⟩
      exact ⟨a ++ as, [], [], fun H' hk => ⟨reps_app (ha.loc (.refl _) fun b hb => hk b (List.mem_append_left _ hb)) (has.loc (.refl _) fun b hb => hk b (List.mem_append_right _ hb)), non_rep⟩, fun _ hd => (by cases hd), by simp⟩
    · cases h
  · -- clear
    cases h
    obtain ⟨rfl, rfl⟩ := reps_nil hargs
    refine ⟨p, us, rfl, rfl, hp, k .non _ (upd_list hp fun a as ha has => ?_)⟩
    exact ⟨[], [], a ++ as, fun H' hk => ⟨rfl, non_rep⟩, fun d hd => hd, by simp⟩
  · -- pop()
    rename_i xs
    obtain ⟨y, h1, h2⟩ := map1 h
    clear h
    cases h2
    obtain ⟨rfl, rfl⟩ := reps_nil hargs
    obtain ⟨_, q, us', a0, e1, _, e3, e4⟩ := hs
    cases e1
    rw [hp] at e3; cases e3
    obtain ⟨vy, _, _, k1, _, _, _⟩ := reps_pick e4 h1
    refine ⟨p, us, vy, rfl, rfl, hp, by rw [e4.length]; exact k1, k vy _ (upd_list hp fun a as ha has => ?_)⟩
    obtain ⟨_, rfl⟩ := reps_nil has
    obtain ⟨vy', a1, c, m1, m2, m3, m4⟩ := reps_pick ha h1
    rw [k1] at m1; cases m1
    refine ⟨c, a1, [], fun H' hk => ⟨?_, m3.loc (.refl _) fun b hb => hk b (by simpa using m2.mem_iff.mpr (List.mem_append_left _ hb))⟩, fun _ hd => (by cases hd), ?_⟩
    · rw [dropLast_erase xs, dropLast_erase us, e4.length]
      exact m4.loc (.refl _) fun b hb => hk b (by simpa using m2.mem_iff.mpr (List.mem_append_right _ hb))
    · rw [List.append_nil, List.append_nil]; exact (List.perm_append_comm).trans m2.symm
  · -- pop(i)
    rename_i xs i
    split at h
    · rename_i hlim
      obtain ⟨j, h0, h1'⟩ := bind1 h
      obtain ⟨y, h1, h2⟩ := map1 h1'
      clear h h1'
      cases h2
      obtain ⟨vi, rfl, hi⟩ := reps_one hargs
      obtain ⟨_, q, us', a0, e1, _, e3, e4⟩ := hs
      cases e1
      rw [hp] at e3; cases e3
      obtain ⟨vy, _, _, k1, _, _, _⟩ := reps_pick e4 h1
      obtain ⟨s1, s2, s3, s4⟩ := ixN_seq h0
      have hl2 : (xs.length : Int) ≤ 1000000 := by have : xs.length ≤ lim := hlim; unfold lim at this; omega
      refine ⟨p, us, i, j, vy, rfl, by rw [rep_int hi], hp, by omega, by omega, by rw [e4.length]; exact s1, k1, k vy _ (upd_list hp fun a as ha has => ?_)⟩
      obtain ⟨vi', _, hi'⟩ := reps_one has
      obtain ⟨_, rfl⟩ := hi'
      obtain ⟨vy', a1, c, m1, m2, m3, m4⟩ := reps_pick ha h1
      rw [k1] at m1; cases m1
      refine ⟨c, a1, [], fun H' hk => ⟨?_, m3.loc (.refl _) fun b hb => hk b (by simpa using m2.mem_iff.mpr (List.mem_append_left _ hb))⟩, fun _ hd => (by cases hd), ?_⟩
      · exact m4.loc (.refl _) fun b hb => hk b (by simpa using m2.mem_iff.mpr (List.mem_append_right _ hb))
      · rw [List.append_nil, List.append_nil]; exact (List.perm_append_comm).trans m2.symm
    · cases h
  · -- reverse
    cases h
    obtain ⟨rfl, rfl⟩ := reps_nil hargs
    refine ⟨p, us, rfl, rfl, hp, k .non _ (upd_list hp fun a as ha has => ?_)⟩
    obtain ⟨_, rfl⟩ := reps_nil has
    obtain ⟨a', k1, k2⟩ := reps_rev ha
    refine ⟨a', [], [], fun H' hk => ⟨k2.loc (.refl _) fun b hb => hk b (by simpa using k1.mem_iff.mp hb), non_rep⟩, fun _ hd => (by cases hd), by simpa using k1⟩
  · -- remove
    rename_i xs kk
    obtain ⟨ns, h0, h1'⟩ := bind1 h
    obtain ⟨j, h1, h2⟩ := map1 h1'
    clear h h1'
    cases h2
    obtain rfl := ints_map h0
    obtain ⟨vi, rfl, hi⟩ := reps_one hargs
    obtain ⟨_, q, us', a0, e1, _, e3, e4⟩ := hs
    cases e1
    rw [hp] at e3; cases e3
    obtain rfl := ints_ok h0 e4
    have f1 := List.findIdx?_eq_some_iff_getElem.mp h1
    obtain ⟨f2, f3, f4⟩ := f1
    have g1 : ns[j]? = some kk := by rw [List.getElem?_eq_getElem f2]; simp at f3; rw [f3]
    refine ⟨p, ns, kk, j, rfl, by rw [rep_int hi], hp, g1, fun m hm z => ?_, k .non _ (upd_list hp fun a as ha has => ?_)⟩
    · have hmj : m < ns.length := Nat.lt_trans hm f2
      rw [List.getElem?_eq_getElem hmj] at z
      have := f4 m hm
      simp at this
      exact this (Option.some.inj z)
    · obtain ⟨vi', _, hi'⟩ := reps_one has
      obtain ⟨_, rfl⟩ := hi'
      obtain ⟨vy', a1, c, m1, m2, m3, m4⟩ := reps_pick (x := .int kk) ha (by rw [List.getElem?_map, g1]; rfl)
      obtain ⟨_, rfl⟩ := m3
      refine ⟨c, [], [], fun H' hk => ⟨?_, non_rep⟩, fun _ hd => (by cases hd), by simpa using m2.symm⟩
      have e5 : (ns.eraseIdx j).map V.int = (ns.map V.int).eraseIdx j := by
        rw [List.eraseIdx_eq_take_drop_succ, List.eraseIdx_eq_take_drop_succ, List.map_append, List.map_take, List.map_drop]
      rw [e5]
      exact m4.loc (.refl _) fun b hb => hk b (by simpa using m2.mem_iff.mpr (List.mem_append_right _ hb))
  · -- insert
    rename_i xs i y
    split at h
    · rename_i hc
      cases h
      obtain ⟨vi, vy, a1, a2, rfl, _, hi, _⟩ := reps_two hargs
      refine ⟨p, us, i, vy, rfl, by rw [rep_int hi], hp, by rw [len rfl]; exact Nat.lt_of_lt_of_le hc.1 lim_line, hc.2.1, by omega, k .non _ (upd_list hp fun a as ha has => ?_)⟩
      obtain ⟨vi', vy', b1, b2, e1, rfl, hi', hy'⟩ := reps_two has
      cases e1
      obtain ⟨_, rfl⟩ := hi'
      have ht := reps_cutAt (n := i.toNat) ha
      obtain ⟨c1, c2, rfl, m1, m2⟩ := ht
      refine ⟨c1 ++ (b2 ++ c2), [], [], fun H' hk => ⟨?_, non_rep⟩, fun _ hd => (by cases hd), ?_⟩
      · rw [List.append_assoc]
        refine reps_app (m1.loc (.refl _) fun b hb => hk b (by simp [hb])) ?_
        exact reps_app (reps_one_of (hy'.loc (.refl _) fun b hb => hk b (by simp [hb]))) (m2.loc (.refl _) fun b hb => hk b (by simp [hb]))
      · rw [List.append_nil, List.append_nil, List.nil_append, List.append_assoc]
        exact (List.perm_append_comm).append_left c1
    · cases h
  · -- extend
    rename_i xs o ys'
    split at h
    · rename_i hc
      cases h
      obtain ⟨vb, rfl, hb⟩ := reps_one hargs
      obtain ⟨q, zs, r, rfl, h1, h2⟩ := rep_lst ex hb
      refine ⟨p, q, us, zs, rfl, rfl, hp, h1, by rw [len rfl, h2.length]; exact Nat.le_trans hc.1 lim_line, k .non _ (upd_list hp fun a as ha has => ?_)⟩
      have hz := (h2.fz hc.2).2 H
      refine ⟨a, [], as, fun H' hk => ⟨?_, non_rep⟩, fun d hd => List.mem_append_right _ hd, by simp⟩
      have := reps_app (ha.loc (H' := H') (.refl _) fun b hb => hk b (List.mem_append_left _ hb)) ((h2.fz hc.2).2 H')
      rwa [List.append_nil] at this
    · cases h
  · cases h
end
end Rk

set_option Elab.async false
set_option linter.all false
set_option maxRecDepth 100000
set_option maxHeartbeats 1000000
namespace Rk
open PySem PySem.Spec PyProof.Rows L2
section
variable {K : PySem.W.Frag} {T : Tab} {B O F F' H H' : Hp} {ps L : List Rs} {e : Slots} {σ : L2.St} {x y z root sub : PV} {xs ys : List PV} {u v w : V} {vs ws : List V} {ads bds : List Addr} {Q : VK} {l : List Stp} {i : Nat}
theorem swap3 (a b c : List Addr) : (a ++ (b ++ c)).Perm (b ++ (a ++ c)) := by
  rw [← List.append_assoc, ← List.append_assoc]
  exact (List.perm_append_comm).append_right c
theorem rot3 (a b c : List Addr) : (a ++ b ++ c).Perm (c ++ b ++ a) := by
  refine (List.perm_append_comm).trans ?_
  rw [List.append_assoc]
  exact (List.perm_append_comm).append_left c
theorem reps_set : ∀ {xs : List PV} {us : List V} {a : List Addr} {n : Nat}, reps K T.adr F H xs us a → n < xs.length → ∃ a1 c, a.Perm (a1 ++ c) ∧ ∀ H' y w as, (∀ b ∈ c, H' b = H b) → rep K T.adr F H' y w as → ∃ ads', ads'.Perm (as ++ c) ∧ reps K T.adr F H' (xs.set n y) (us.set n w) ads' := by
  intro xs
  induction xs with
  | nil => intro us a n h hn; simp at hn
  | cons x xs ih =>
    intro us a n h hn
    cases us with
    | nil => exact h.elim
    | cons v us =>
      obtain ⟨a1, a2, rfl, h2, h3⟩ := h
      cases n with
      | zero => exact ⟨a1, a2, .refl _, fun H' y w as hk hr => ⟨as ++ a2, .refl _, as, a2, rfl, hr, h3.loc (.refl _) hk⟩⟩
      | succ n =>
        obtain ⟨b1, c, p1, p2⟩ := ih h3 (by simpa using hn)
        refine ⟨b1, a1 ++ c, (p1.append_left a1).trans (swap3 _ _ _), fun H' y w as hk hr => ?_⟩
        obtain ⟨ads', q1, q2⟩ := p2 H' y w as (fun b hb => hk b (List.mem_append_right _ hb)) hr
        exact ⟨a1 ++ ads', (q1.append_left a1).trans (swap3 _ _ _), a1, ads', rfl, h2.loc (.refl _) fun b hb => hk b (List.mem_append_left _ hb), q2⟩
theorem ixN_lt {n : Nat} {k : Int} {j : Nat} (h : ixN n k = some j) : j < n := (ixN_seq h).2.1
/-- xs[i] = y -/
theorem setLX_ok {j : Int} {N : Hp → Prop} (hs : rp K T F H sub u) (h : setLX j y sub = some (z, x)) (k : ∀ H', Upd K T F H H' sub u [y] [w] x z .non → N H') : rSetL u (.int j) w H N := by
  unfold setLX at h
  split at h
  · rename_i xs
    obtain ⟨n, h1, h2⟩ := map1 h
    clear h
    cases h2
    obtain ⟨_, p, us, a0, rfl, rfl, hp, h4⟩ := hs
    refine ⟨p, us, j, n, rfl, rfl, hp, by rw [h4.length]; exact h1, k _ (upd_list' hp fun a as ha has H' hk => ?_)⟩
    obtain ⟨v', e', has'⟩ := reps_one has
    cases e'
    obtain ⟨a1, c, p1, p2⟩ := reps_set ha (ixN_lt h1)
    obtain ⟨ad, q1, q2⟩ := p2 H' y w as (fun b hb => hk b (List.mem_append_left _ (p1.mem_iff.mpr (List.mem_append_right _ hb)))) (has'.loc (.refl _) fun b hb => hk b (List.mem_append_right _ hb))
    refine ⟨ad, [], a1, q2, non_rep, fun d hd => List.mem_append_left _ (p1.mem_iff.mpr (List.mem_append_left _ hd)), ?_⟩
    rw [List.nil_append]
    refine (q1.append_right a1).trans ?_
    refine List.Perm.trans ?_ ((p1.symm).append_right as)
    exact rot3 _ _ _
  · cases h
/-! ### dicts -/
theorem keyIs_map {k k' : Key} (h : keyP x = some k) : keyIsP (kP k') x = decide (k' = k) := keyIsP_of h
theorem putD_ok {k : Key} (hk : keyP y = some k) (fz : ∀ a, ads = a → a = []) : ∀ {dk : List (Key × V)} {xs : List PV}, reps K T.adr F H xs (dk.map (·.2)) [] → rep K T.adr F H z w [] → lookD (dk.map fun p => kP p.1) xs y ≠ none →
    reps K T.adr F H (setD' (dk.map fun p => kP p.1) xs y z) ((dk.map fun kv => if kv.1 = k then (kv.1, w) else kv).map (·.2)) []
  | [], [], _, _, h => absurd rfl h
  | (k', v) :: dk, x :: xs, ⟨a, b, h1, h2, h3⟩, hz, _ => by
    obtain ⟨rfl, rfl⟩ := List.append_eq_nil_iff.mp h1.symm
    have rest : reps K T.adr F H (setD' (dk.map fun p => kP p.1) xs y z) ((dk.map fun kv => if kv.1 = k then (kv.1, w) else kv).map (·.2)) [] := by
      by_cases q : lookD (dk.map fun p => kP p.1) xs y = none
      · -- nothing changes there
        have gen : ∀ {dk : List (Key × V)} {xs : List PV}, reps K T.adr F H xs (dk.map (·.2)) [] → reps K T.adr F H (setD' (dk.map fun p => kP p.1) xs y z) ((dk.map fun kv => if kv.1 = k then (kv.1, w) else kv).map (·.2)) [] := by
          intro dk
          induction dk with
          | nil => intro xs h; cases xs with
            | nil => rfl
            | cons _ _ => exact h.elim
          | cons p dk ih =>
            intro xs h
            cases xs with
            | nil => exact h.elim
            | cons x xs =>
              obtain ⟨a, b, h1, h2, h3⟩ := h
              obtain ⟨rfl, rfl⟩ := List.append_eq_nil_iff.mp h1.symm
              show reps K T.adr F H (if keyIsP (kP p.1) y = true then _ else _) (((if p.1 = k then (p.1, w) else p) :: _).map (·.2)) []
              rw [keyIs_map hk]
              by_cases q : p.1 = k
              · rw [if_pos (by simp [q]), if_pos q]; exact ⟨[], [], rfl, hz, ih h3⟩
              · rw [if_neg (by simp [q]), if_neg q]; exact ⟨[], [], rfl, h2, ih h3⟩
        exact gen h3
      · exact putD_ok hk fz h3 hz q
    show reps K T.adr F H (if keyIsP (kP k') y = true then _ else _) (((if k' = k then (k', w) else (k', v)) :: _).map (·.2)) []
    rw [keyIs_map hk]
    by_cases q : k' = k
    · rw [if_pos (by simp [q]), if_pos q]; exact ⟨[], [], rfl, hz, rest⟩
    · rw [if_neg (by simp [q]), if_neg q]; exact ⟨[], [], rfl, h2, rest⟩
theorem key_of_rep {k : Key} (h : keyP x = some k) : x = kP k := by
  cases x <;> simp [keyP] at h <;> subst h <;> rfl
theorem upd_dict {dk' : List (Key × V)} {ks : List PV} {xs' : List PV} {ks' : List PV} {r : PV} {vr : V} {p : Addr} {dk : List (Key × V)} (hp : H p = some (.dK dk))
    (h : ∀ as, reps K T.adr F H xs (dk.map (·.2)) [] → reps K T.adr F H ys vs as → as = [] ∧ dk'.map (fun p => kP p.1) = ks' ∧ reps K T.adr F H xs' (dk'.map (·.2)) [] ∧ rep K T.adr F H r vr []) :
    Upd K T F H (upd H p (.dK dk')) (.dic true ks xs) (.ref p) ys vs (.dic true ks' xs') r vr := by
  rintro rs as ⟨q, dk2, e1, rfl, e3, e4, e5⟩ ha nd
  cases e1
  rw [hp] at e3
  cases e3
  obtain ⟨rfl, k1, k2, k3⟩ := h as e5 ha
  refine ⟨fun b hb => upd_ne fun z => hb (by simp [z]), [p], [], [], ⟨p, dk', rfl, rfl, upd_same, k1, k2.loc (.refl _) fun _ hb => by cases hb⟩, k3.loc (.refl _) fun _ hb => (by cases hb), fun _ hd => (by cases hd), by simp⟩
theorem setDX_ok {N : Hp → Prop} (hs : rp K T F H sub u) (hk : rp K T F H y v) (h : setDX y root sub = some (z, x)) (ex : Ex F H) (k : ∀ H', Upd K T F H H' sub u [root] [w] x z .non → N H') : ∃ a H4, u = .ref a ∧ DPut H a v w H4 ∧ N H4 := by
  unfold setDX at h
  split at h
  · rename_i ks xs
    split at h
    · rename_i hc
      cases h
      obtain ⟨_, p, dk, rfl, rfl, hp, hks, h5⟩ := hs
      obtain ⟨kk, hkk⟩ := Option.isSome_iff_exists.mp hc.1
      obtain ⟨_, hk⟩ := hk
      rw [key_rep hkk hk]
      have hlen : dk.length = ks.length := by rw [← hks, List.length_map]
      refine ⟨p, _, rfl, DPut.k (v := w) hp (by rw [hlen]; exact Nat.lt_of_lt_of_le hc.2.2 lim_line), k _ (upd_dict hp fun as hx has => ?_)⟩
      obtain ⟨w', e', hw⟩ := reps_one has
      cases e'
      obtain ⟨rfl, hw0⟩ := hw.fz hc.2.1
      have l1 := lookD_some (x := y) hkk hx
      refine ⟨rfl, ?_, ?_, non_rep⟩
      · unfold putD putK
        rw [valV_any, l1, ← hks]
        split
        · rw [List.map_map]
          apply List.map_congr_left
          intro q _
          by_cases e : q.1 = kk <;> simp [e]
        · rw [List.map_append, key_of_rep hkk]; rfl
      · unfold putD putK
        rw [valV_any, l1, ← hks]
        split
        · rename_i hq
          exact putD_ok (ads := []) hkk (fun a e => e.symm) hx hw (fun q => by rw [q] at hq; cases hq)
        · rw [List.map_append]
          exact reps_app hx (reps_one_of hw)
    · cases h
  · cases h
theorem popDX_ok {N : V → Hp → Prop} (hs : rp K T F H sub u) (hk : rp K T F H y v) (h : popDX y sub = some (z, x)) (ex : Ex F H) (k : ∀ vr H', Upd K T F H H' sub u [y] [v] x z vr → N vr H') : ∃ a kvs kk vr, u = .ref a ∧ H a = some (.dK kvs) ∧ v = kV kk ∧ valV kvs kk = some vr ∧ N vr (upd H a (.dK (dropK kvs kk))) := by
  unfold popDX at h
  split at h
  · rename_i ks xs
    split at h
    · rename_i hc
      obtain ⟨y', h1, h2⟩ := map1 h
      clear h
      cases h2
      obtain ⟨_, p, dk, rfl, rfl, hp, hks, h5⟩ := hs
      obtain ⟨kk, hkk⟩ := Option.isSome_iff_exists.mp hc
      obtain ⟨_, hk⟩ := hk
      have hv := key_rep hkk hk
      have l0 := lookD_ok (x := y) hkk h5
      rw [hks, h1] at l0
      obtain ⟨vr, l1, l2⟩ := l0
      refine ⟨p, dk, kk, vr, rfl, hp, hv, l1, k vr _ (upd_dict hp fun as hx has => ?_)⟩
      obtain ⟨w', e', hw⟩ := reps_one has
      cases e'
      have fy : isF y = true := by cases y <;> simp [keyP] at hkk <;> rfl
      obtain ⟨rfl, _⟩ := hw.fz fy
      have drop : ∀ {dk : List (Key × V)} {xs : List PV}, reps K T.adr F H xs (dk.map (·.2)) [] → (dropK dk kk).map (fun p => kP p.1) = dropDk (dk.map fun p => kP p.1) y ∧ reps K T.adr F H (dropDx (dk.map fun p => kP p.1) xs y) ((dropK dk kk).map (·.2)) [] := by
        intro dk
        induction dk with
        | nil => intro xs h; cases xs with
          | nil => exact ⟨rfl, rfl⟩
          | cons _ _ => exact h.elim
        | cons p dk ih =>
          intro xs h
          cases xs with
          | nil => exact h.elim
          | cons x xs =>
            obtain ⟨a, b, h1, h2, h3⟩ := h
            obtain ⟨rfl, rfl⟩ := List.append_eq_nil_iff.mp h1.symm
            obtain ⟨i1, i2⟩ := ih h3
            have e1 : dropDk ((p :: dk).map fun p => kP p.1) y = if keyIsP (kP p.1) y = true then dropDk (dk.map fun p => kP p.1) y else kP p.1 :: dropDk (dk.map fun p => kP p.1) y := rfl
            have e2 : dropDx ((p :: dk).map fun p => kP p.1) (x :: xs) y = if keyIsP (kP p.1) y = true then dropDx (dk.map fun p => kP p.1) xs y else x :: dropDx (dk.map fun p => kP p.1) xs y := rfl
            rw [e1, e2, keyIs_map hkk]
            unfold dropK at i1 i2 ⊢
            by_cases q : p.1 = kk
            · rw [List.filter_cons_of_neg (by simp [q]), if_pos (by simp [q]), if_pos (by simp [q])]
              exact ⟨i1, i2⟩
            · rw [List.filter_cons_of_pos (by simp [q]), if_neg (by simp [q]), if_neg (by simp [q]), List.map_cons, List.map_cons, i1]
              exact ⟨rfl, [], [], rfl, h2, i2⟩
      obtain ⟨d1, d2⟩ := drop hx
      have fv : ∃ v, valV dk kk = some v ∧ rep K T.adr F H z v [] := by
        have gen : ∀ {dk : List (Key × V)} {xs : List PV}, reps K T.adr F H xs (dk.map (·.2)) [] → lookD (dk.map fun p => kP p.1) xs y = some z → ∃ v, valV dk kk = some v ∧ rep K T.adr F H z v [] := by
          intro dk
          induction dk with
          | nil => intro xs h e; cases xs <;> simp [lookD] at e
          | cons p dk ih =>
            intro xs h e
            cases xs with
            | nil => exact h.elim
            | cons x xs =>
              obtain ⟨a, b, h1, h2, h3⟩ := h
              obtain ⟨rfl, rfl⟩ := List.append_eq_nil_iff.mp h1.symm
              have e1 : lookD ((p :: dk).map fun p => kP p.1) (x :: xs) y = if keyIsP (kP p.1) y = true then some x else lookD (dk.map fun p => kP p.1) xs y := rfl
              rw [e1, keyIs_map hkk] at e
              by_cases q : p.1 = kk
              · rw [if_pos (by simp [q])] at e; cases e
                exact ⟨p.2, valV_pos q, h2⟩
              · rw [if_neg (by simp [q])] at e
                obtain ⟨v, k1, k2⟩ := ih h3 e
                exact ⟨v, by rw [valV_neg q]; exact k1, k2⟩
        exact gen hx (by rw [hks]; exact h1)
      obtain ⟨v0, f1, f2⟩ := fv
      rw [l1] at f1
      cases f1
      exact ⟨rfl, by rw [d1, hks], by rw [← hks]; exact d2, f2⟩
    · cases h
  · cases h
/-! ### attributes -/
theorem putF_fst {f : Str} {w : V} : ∀ {fv : List (Str × V)}, (putF f w fv).map (·.1) = if f ∈ fv.map (·.1) then fv.map (·.1) else fv.map (·.1) ++ [f]
  | [] => by simp [putF]
  | (g, x) :: r => by
    unfold putF
    by_cases q : g = f
    · subst q; simp
    · rw [if_neg q, List.map_cons, putF_fst (fv := r)]
      have q' : ¬ f = g := fun e => q e.symm
      by_cases m : f ∈ r.map (·.1)
      · rw [if_pos m, if_pos (by simp [m])]; rfl
      · rw [if_neg m, if_neg (by simp [m, q'])]; rfl
theorem putF_reps {f : Str} : ∀ {fv : List (Str × V)} {xs : List PV} {a : List Addr}, reps K T.adr F H xs (fv.map (·.2)) a → ∃ a1 c, a.Perm (a1 ++ c) ∧ ∀ H' y w as, (∀ b ∈ c, H' b = H b) → rep K T.adr F H' y w as →
    ∃ ads', ads'.Perm (as ++ c) ∧ reps K T.adr F H' (if f ∈ fv.map (·.1) then setF (fv.map (·.1)) xs f y else xs ++ [y]) ((putF f w fv).map (·.2)) ads'
  | [], xs, a, h => by
    cases xs with
    | nil =>
      obtain rfl : a = [] := h
      exact ⟨[], [], .refl _, fun H' y w as _ hr => ⟨as, by simp, reps_one_of hr⟩⟩
    | cons _ _ => exact h.elim
  | (g, v) :: r, xs, a, h => by
    cases xs with
    | nil => exact h.elim
    | cons x xs =>
      obtain ⟨a1, a2, rfl, h2, h3⟩ := h
      by_cases q : g = f
      · subst q
        refine ⟨a1, a2, .refl _, fun H' y w as hk hr => ⟨as ++ a2, .refl _, ?_⟩⟩
        have : setF (((g, v) :: r).map (·.1)) (x :: xs) g y = y :: xs := by simp [setF]
        rw [if_pos (by simp), this]
        simp only [putF, if_true]
        exact ⟨as, a2, rfl, hr, h3.loc (.refl _) hk⟩
      · obtain ⟨b1, c, p1, p2⟩ := putF_reps (f := f) h3
        refine ⟨b1, a1 ++ c, (p1.append_left a1).trans (swap3 _ _ _), fun H' y w as hk hr => ?_⟩
        obtain ⟨ads', q1, q2⟩ := p2 H' y w as (fun b hb => hk b (List.mem_append_right _ hb)) hr
        refine ⟨a1 ++ ads', (q1.append_left a1).trans (swap3 _ _ _), ?_⟩
        have q' : ¬ f = g := fun e => q e.symm
        have e1 : (if f ∈ ((g, v) :: r).map (·.1) then setF (((g, v) :: r).map (·.1)) (x :: xs) f y else x :: xs ++ [y]) = x :: (if f ∈ r.map (·.1) then setF (r.map (·.1)) xs f y else xs ++ [y]) := by
          by_cases m : f ∈ r.map (·.1)
          · rw [if_pos m, if_pos (by simp [m])]
            show (if f = g then _ else _) = _
            rw [if_neg q']
          · rw [if_neg m, if_neg (by simp [m, q'])]; rfl
        have e2 : (putF f w ((g, v) :: r)).map (·.2) = v :: (putF f w r).map (·.2) := by simp [putF, q]
        rw [e1, e2]
        exact ⟨a1, ads', rfl, h2.loc (.refl _) fun b hb => hk b (List.mem_append_left _ hb), q2⟩
theorem fldX_ok {f : Str} {N : Hp → Prop} (kt : KT K T) (hf : f ∈ T.flds) (hs : rp K T F H sub u) (h : fldX f y sub = some (z, x)) (k : ∀ H', Upd K T F H H' sub u [y] [w] x z .non → N H') :
    ∃ a C dx fs, u = .ref a ∧ H a = some (.ins C dx fs) ∧ Cls K C ∧ NoAttr K C f ∧ fs.length < 1000 ∧ N (upd H a (.ins C dx (putF f w fs))) := by
  unfold fldX at h
  split at h
  · rename_i c fs xs
    split at h
    · rename_i hc
      cases h
      obtain ⟨_, p, C, dx, fv, r0, rfl, hC, rfl, hp, hdx, rfl, h7⟩ := hs
      rw [List.length_map] at hc
      refine ⟨p, C, dx, fv, rfl, hp, kt.cls _ _ hC, kt.fld _ _ _ hC hf, by omega, k _ ?_⟩
      rintro rs as ⟨q, C', dx', fv', a, e1, e2, rfl, e4, e5, e6, e7⟩ ha nd
      cases e1
      rw [hp] at e4
      cases e4
      have ndp := List.nodup_cons.mp nd
      have ndx := List.nodup_cons.mp ndp.2
      have npx : dx ≠ p := fun z => ndp.1 (by rw [← z]; simp)
      refine ⟨fun b hb => upd_ne fun z => hb (by simp [z]), ?_⟩
      obtain ⟨a1, cc, p1, p2⟩ := putF_reps (f := f) e7
      obtain ⟨w', ew, hw⟩ := reps_one ha
      cases ew
      have off : ∀ b ∈ a ++ as, upd H p (.ins C dx (putF f w fv)) b = H b := fun b hb => upd_ne fun z => ndp.1 (by rw [← z]; exact List.mem_cons_of_mem _ hb)
      obtain ⟨ads', q1, q2⟩ := p2 (upd H p (.ins C dx (putF f w fv))) y w as (fun b hb => off b (List.mem_append_left _ (p1.mem_iff.mpr (List.mem_append_right _ hb)))) (hw.loc (.refl _) fun b hb => off b (List.mem_append_right _ hb))
      refine ⟨p :: dx :: ads', [], a1, ?_, non_rep, fun d hd => ?_, ?_⟩
      · have hfs := putF_fst (f := f) (w := w) (fv := fv)
        by_cases m : f ∈ fv.map (·.1)
        · rw [if_pos m] at hfs q2
          rw [if_pos m]
          exact ⟨p, C, dx, _, ads', rfl, hC, rfl, upd_same, by rw [upd_ne npx]; exact hdx, hfs, q2⟩
        · rw [if_neg m] at hfs q2
          rw [if_neg m]
          exact ⟨p, C, dx, _, ads', rfl, hC, rfl, upd_same, by rw [upd_ne npx]; exact hdx, hfs, q2⟩
      · have hd2 : d ∈ a ++ as := List.mem_append_left _ (p1.mem_iff.mpr (List.mem_append_left _ hd))
        rw [off d hd2]
        exact e7.there d (p1.mem_iff.mpr (List.mem_append_left _ hd))
      · rw [List.nil_append, List.cons_append, List.cons_append, List.cons_append, List.cons_append]
        refine (List.Perm.cons dx ?_).cons p
        refine (q1.append_right a1).trans ?_
        refine List.Perm.trans ?_ ((p1.symm).append_right as)
        exact rot3 _ _ _
    · cases h
  · cases h
end
end Rk

set_option Elab.async false
set_option linter.all false
set_option maxRecDepth 100000
set_option maxHeartbeats 1000000
namespace Rk
open PySem PySem.Spec PyProof.Rows L2
/-- what holds of a run: an error is wished for, a value goes on -/
def PG (K : PySem.W.Frag) (T : Tab) (W : WX) (B O : Hp) (L : List Rs) (σ : L2.St) {α : Type} (P : α → Slots → Prop) : Res α → Prop
  | .stuck => False
  | .exc n e => e.length = σ.length → ∀ H F, Good B O (ze K T e σ ++ L) H F → WEx T W σ H n
  | .ok a e => P a e
abbrev okV (K : PySem.W.Frag) (T : Tab) (B O : Hp) (L : List Rs) (σ : L2.St) (Q : VK) : PV → Slots → Prop := fun y e => e.length = σ.length → ∀ v H F, Good B O (ze K T e σ ++ L ++ [cv K T y v]) H F → Q v H
def SXp (K : PySem.W.Frag) (T : Tab) (c : CE) : Prop := ∀ (W : WX) (B O F H : Hp) (L : List Rs) (e : Slots) (σ : L2.St) (Q : VK), wf K T c → σ.length = e.length → Good B O (ze K T e σ ++ L) H F → PG K T W B O L σ (okV K T B O L σ Q) (evX c e) → (sem K T c W).1 σ H Q
section
variable {K : PySem.W.Frag} {T : Tab} {B O F F' H H' : Hp} {ps L ts : List Rs} {e e' : Slots} {σ : L2.St} {x y z root sub : PV} {xs ys : List PV} {u v w : V} {vs ws : List V} {ads bds : List Addr} {Q : VK} {i : Nat} {W : WX} {α β : Type} {P : α → Slots → Prop}
theorem PG_bind {r : Res α} {k : α → Slots → Res β} {P : β → Slots → Prop} : PG K T W B O L σ P (r.bind k) ↔ PG K T W B O L σ (fun a e => PG K T W B O L σ P (k a e)) r := by
  cases r <;> exact Iff.rfl
theorem PG.imp {P P' : α → Slots → Prop} {r : Res α} (h : PG K T W B O L σ P r) (k : ∀ a e, P a e → P' a e) : PG K T W B O L σ P' r := by
  cases r
  · exact h
  · exact h
  · exact k _ _ h
theorem PG.more {r : Res α} (h : PG K T W B O L σ P r) : PG K T W B O (L ++ ts) σ P r := by
  cases r
  · exact h
  · intro hl H F g
    rw [← List.append_assoc] at g
    obtain ⟨F1, g1, _⟩ := g.dropR'
    exact h hl H F1 g1
  · exact h
/-- its claims fewer -/
theorem PG.less {L' : List Rs} {r : Res α} (h : PG K T W B O L σ P r) (k : ∀ e H F, e.length = σ.length → Good B O (ze K T e σ ++ L') H F → ∃ F', Good B O (ze K T e σ ++ L) H F') : PG K T W B O L' σ P r := by
  cases r
  · exact h
  · intro hl H F g
    obtain ⟨F1, g1⟩ := k _ _ _ hl g
    exact h hl H F1 g1
  · exact h
/-! ### ends -/
theorem fin_rep (g : Good B O (ze K T e σ ++ (L ++ ts)) H F) (hl : e.length = σ.length) (r : rep K T.adr F H z v []) (k : okV K T B O L σ Q z e) : Q v H := by
  rw [← List.append_assoc] at g
  obtain ⟨F1, g1, e1⟩ := g.dropR'
  exact k hl v H F1 (dup g1 (r.loc e1 fun _ h => by cases h))
theorem fin_lst {p : Addr} (g : Good B O (ze K T e σ ++ (L ++ ts)) H F) (hl : e.length = σ.length) (r : reps K T.adr F H xs vs []) (hp : H p = none) (k : okV K T B O L σ Q (.lst true xs) e) : Q (.ref p) (upd H p (.lst vs)) := by
  rw [← List.append_assoc] at g
  obtain ⟨F1, g1, e1⟩ := g.dropR'
  have g2 := g1.app (okL_zc (r.loc e1 (H' := H) fun _ h => by cases h))
  exact k hl _ _ F1 (new_list r.length g2 hp)
theorem fin_tup {p : Addr} (g : Good B O (ze K T e σ ++ (L ++ ts)) H F) (hl : e.length = σ.length) (r : reps K T.adr F H xs vs []) (hp : H p = none) (k : okV K T B O L σ Q (.tup xs) e) : Q (.ref p) (upd H p (.tup vs)) := by
  rw [← List.append_assoc] at g
  obtain ⟨F1, g1, e1⟩ := g.dropR'
  have g2 := g1.app (okL_zc (r.loc e1 (H' := H) fun _ h => by cases h))
  exact k hl _ _ _ (new_tup r.length g2 hp)
/-! ### values -/
theorem val_ok (kt : KT K T) {c : CE} (sx : SXp K T c) (hw : wf K T c) (hl : σ.length = e.length) (g : Good B O (ze K T e σ ++ L) H F) (k : PG K T W B O L σ (okV K T B O L σ Q) (valM c (evX c) e)) : (sem K T c W).1 σ H Q := by
  unfold valM at k
  split at k
  · cases q : evQ e c with
    | none => rw [q] at k; exact k.elim
    | some x =>
      rw [q] at k
      dsimp only at k
      split at k
      · rename_i f
        exact pq kt c W hw q hl g fun v ⟨_, hv⟩ => k hl.symm v H F (dup g (rep_dup f hv))
      · split at k
        · rename_i i _
          obtain ⟨v, h1, g1⟩ := slot_take hl g q
          obtain ⟨F1, g2, e1⟩ := frz_good (n := 0) g1
          obtain ⟨_, r, _⟩ := rep_of g2
          have r0 := rep_dup (isF_frz x) r
          obtain ⟨F2, g3, e2⟩ := slot_back (s := some (frz 0 x)) (by simpa using hl) h1 g2
          rw [List.set_set] at g3
          exact ⟨v, h1, k (by simpa using hl.symm) v H F2 (dup g3 (r0.loc e2 fun _ h => by cases h))⟩
        · exact k.elim
  · exact sx W B O F H L e σ Q hw hl g k
/-- one operand -/
theorem one_ok (kt : KT K T) {c : CE} (sx : SXp K T c) {kont : PV → Slots → Res β} {P : β → Slots → Prop} {R : VK} (hw : wf K T c) (hl : σ.length = e.length) (g : Good B O (ze K T e σ ++ L) H F) (k : PG K T W B O L σ P (one c (evX c) e kont))
    (hk : ∀ x e' u H' F' ts, e'.length = σ.length → Good B O (ze K T e' σ ++ (L ++ ts)) H' F' → rp K T F' H' x u → PG K T W B O L σ P (kont x e') → R u H') : (sem K T c W).1 σ H R := by
  unfold one at k
  split at k
  · cases q : evQ e c with
    | none => rw [q] at k; exact k.elim
    | some x =>
      rw [q] at k
      exact pq kt c W hw q hl g fun v hv => hk x e v H F [] hl.symm (by simpa using g) hv k
  · refine sx W B O F H L e σ R hw hl g ((PG_bind.mp k).imp fun y e' k' hl' v H' F' g' => ?_)
    obtain ⟨_, r, _⟩ := rep_of g'
    exact hk y e' v H' F' _ hl' (by rw [List.append_assoc] at g'; exact g') ⟨_, r⟩ k'
theorem rls_reps0 : ∀ {xs : List PV} {vs : List V}, isFs xs = true → rls K T F H xs vs → reps K T.adr F H xs vs []
  | [], [], _, _ => rfl
  | x :: xs, v :: vs, f, h => by
    simp only [isFs, Bool.and_eq_true] at f
    obtain ⟨⟨a, h1⟩, h2⟩ := h
    exact ⟨[], [], rfl, rep_dup f.1 h1, rls_reps0 f.2 h2⟩
theorem reps_rep {vs : List V} (h : reps K T.adr F H xs vs []) : ∀ n : Nat, reps K T.adr F H (List.replicate n xs).flatten (List.replicate n vs).flatten []
  | 0 => rfl
  | n + 1 => by
    rw [List.replicate_succ, List.replicate_succ, List.flatten_cons, List.flatten_cons]
    exact reps_app (a := []) (b := []) h (reps_rep h n)
theorem dspE_l {e : Slots} {es : List CE} {y : PV} (h : dspE e (.lst es) = some y) : ∃ ys, itsE e es = some ys ∧ ys.length ≤ lim ∧ y = .lst true ys := by
  have h : ((itsE e es).bind fun ys => if ys.length ≤ lim then some (PV.lst true ys) else none) = some y := h
  obtain ⟨ys, h1, h2⟩ := bind1 h
  split at h2
  · rename_i c
    cases h2
    exact ⟨ys, h1, c, rfl⟩
  · cases h2
theorem dspE_m {e : Slots} {es : List CE} {n : CE} {y : PV} (h : dspE e (.cat .Mult (.lst es) n) = some y) : ∃ ys m, itsE e es = some ys ∧ evQ e n = some (.int m) ∧ ys.length ≤ lim ∧ -(2 ^ 62) < m ∧ m < 2 ^ 62 ∧ ys.length * m.toNat ≤ lim ∧ y = .lst true (List.replicate m.toNat ys).flatten := by
  have h : (if pu n = true then (itsE e es).bind fun ys => (evQ e n).bind fun m => dspM ys m else none) = some y := h
  split at h
  · obtain ⟨ys, h1, h2⟩ := bind1 h
    obtain ⟨m, h3, h4⟩ := bind1 h2
    cases m <;> try (cases h4; done)
    rename_i m
    have h4 : (if ys.length ≤ lim ∧ -(2 ^ 62) < m ∧ m < 2 ^ 62 ∧ ys.length * m.toNat ≤ lim then some (PV.lst true (List.replicate m.toNat ys).flatten) else none) = some y := h4
    split at h4
    · rename_i c
      cases h4
      exact ⟨ys, m, h1, h3, c.1, c.2.1, c.2.2.1, c.2.2.2, rfl⟩
    · cases h4
  · cases h
theorem dspE_c {e : Slots} {b : CE} {y : PV} (h : dspE e b = some y) : (∃ es, b = .lst es) ∨ ∃ es n, b = .cat .Mult (.lst es) n := by
  unfold dspE at h
  split at h
  · exact .inl ⟨_, rfl⟩
  · exact .inr ⟨_, _, rfl⟩
  · cases h
/-- one item -/
theorem it_ok (kt : KT K T) {c : CE} {R : VK} (wb : wf K T c) (hl : σ.length = e.length) (g : Good B O (ze K T e σ ++ L) H F) (h : itE e c = some y)
    (k : ∀ w H1 F1, (∀ a, (H a).isSome = true → H1 a = H a) → Good B O (ze K T e σ ++ L) H1 F1 → Ex F F1 → isF y = true → rep K T.adr F1 H1 y w [] → R w H1) : (sem K T c W).1 σ H R := by
  unfold itE at h
  split at h
  · rename_i es
    split at h
    · obtain ⟨ys, h1, h2⟩ := bind1 h
      split at h2
      · rename_i hc
        cases h2
        refine pqs kt es W (show wfs K T es from wb) h1 hl g fun vs hvs => ?_
        have hr := rls_reps0 hc.1 hvs
        refine ⟨by rw [hr.length]; exact Nat.le_trans hc.2 lim_line, fun p hp => ?_⟩
        obtain ⟨g1, hF⟩ := Good.new (o := .tup vs) g hp
        exact k _ _ _ (fun a ha => upd_ne fun z => by rw [z, hp] at ha; cases ha) g1 (Ex.new hF) hc.1 ⟨p, vs, rfl, .inl (.inl upd_same), hr.loc (Ex.new hF) fun _ z => by cases z⟩
      · cases h2
    · cases h
  · split at h
    · obtain ⟨x, h1, h2⟩ := bind1 h
      split at h2
      · rename_i f
        cases h2
        exact pq kt c W wb h1 hl g fun v ⟨_, hv⟩ => k v H F (fun _ _ => rfl) g (.refl _) f (rep_dup f hv)
      · cases h2
    · cases h
theorem its_ok (kt : KT K T) : ∀ {es : List CE} {ys : List PV} {H F : Hp} {R : List V → Hp → Prop}, wfs K T es → σ.length = e.length → Good B O (ze K T e σ ++ L) H F → itsE e es = some ys →
    (∀ vs H1 F1, (∀ a, (H a).isSome = true → H1 a = H a) → Good B O (ze K T e σ ++ L) H1 F1 → Ex F F1 → isFs ys = true → reps K T.adr F1 H1 ys vs [] → R vs H1) → (taOf (sems K T es W).1) σ H R
  | [], ys, H, F, R, wb, hl, g, h, k => by
    simp only [itsE, Option.some.injEq] at h
    subst h
    exact k [] H F (fun _ _ => rfl) g (.refl _) rfl rfl
  | c :: cs, ys, H, F, R, wb, hl, g, h, k => by
    obtain ⟨x, h1, h2⟩ := bind1 h
    obtain ⟨xs, h3, rfl⟩ := map1 h2
    show tCons (sem K T c W).1 (taOf (sems K T cs W).1) σ H R
    refine it_ok kt wb.1 hl g h1 fun w H1 F1 s1 g1 e1 f1 r1 => ?_
    refine its_ok kt (es := cs) wb.2 hl g1 h3 fun vs H2 F2 s2 g2 e2 f2 r2 => ?_
    exact k (w :: vs) H2 F2 (fun a ha => by rw [s2 a (by rw [s1 a ha]; exact ha), s1 a ha]) g2 (e1.trans e2) (by simp [isFs, f1, f2]) ⟨[], [], rfl, r1.loc e2 (fun _ z => by cases z), r2⟩
/-- a display, or one some times -/
theorem dsp_ok (kt : KT K T) {b : CE} {R : VK} (wb : wf K T b) (hl : σ.length = e.length) (g : Good B O (ze K T e σ ++ L) H F) (h : dspE e b = some y)
    (k : ∀ w H1 F1 ts, (∀ a, (H a).isSome = true → H1 a = H a) → Ex F F1 → Good B O (ze K T e σ ++ (L ++ ts)) H1 F1 → rp K T F1 H1 y w → R w H1) : (sem K T b W).1 σ H R := by
  rcases dspE_c h with ⟨es, rfl⟩ | ⟨es, n, rfl⟩
  · obtain ⟨ys, q3, q5, rfl⟩ := dspE_l h
    refine its_ok kt (show wfs K T es from wb) hl g q3 fun vs H0 F0 s0 g0 e0 q4 hr => ?_
    have hn := hr.length
    refine ⟨by rw [hn]; exact Nat.le_trans q5 lim_line, fun p hp => ?_⟩
    have g1 : Good B O (ze K T e σ ++ L ++ zc K T ys vs) H0 F0 := g0.app (okL_zc hr)
    have g2 := new_list (p := p) hn g1 hp
    rw [List.append_assoc] at g2
    exact k (.ref p) _ _ _ (fun a ha => by rw [upd_ne (fun z => by rw [← z, s0 a ha] at hp; rw [hp] at ha; cases ha), s0 a ha]) e0 g2 ⟨[p], p, vs, [], rfl, rfl, upd_same, hr.loc (fun _ _ z => z) fun _ z => by cases z⟩
  · obtain ⟨ys, m, q3, q3', q5, q6, q7, q8, rfl⟩ := dspE_m h
    refine its_ok kt (show wfs K T es from wb.1) hl g q3 fun vs H0 F0 s0 g0 e0 q4 hr => ?_
    have hn := hr.length
    refine ⟨by rw [hn]; exact Nat.le_trans q5 lim_line, fun p hp => ?_⟩
    have g1 : Good B O (ze K T e σ ++ L ++ zc K T ys vs) H0 F0 := g0.app (okL_zc hr)
    have g2 := new_list (p := p) hn g1 hp
    rw [List.append_assoc] at g2
    refine pq kt n W wb.2 q3' hl g2 fun w ⟨_, hw⟩ => ?_
    have hr2 : reps K T.adr F0 (upd H0 p (.lst vs)) ys vs [] := hr.loc (fun _ _ z => z) fun _ z => by cases z
    have g3 : Good B O (ze K T e σ ++ (L ++ [cv K T (.lst true ys) (.ref p)]) ++ zc K T (List.replicate m.toNat ys).flatten (List.replicate m.toNat vs).flatten) (upd H0 p (.lst vs)) F0 := g2.app (okL_zc (reps_rep hr2 _))
    refine .inr ⟨p, m, vs, rfl, rep_int hw, upd_same, by omega, by omega, by rw [hn]; exact Nat.le_trans q8 lim_line, fun p2 hp2 => ?_⟩
    have g4 := new_list (p := p2) (reps_rep hr2 _).length g3 hp2
    rw [List.append_assoc, List.append_assoc] at g4
    have hpp : p2 ≠ p := fun z => by rw [z, upd_same] at hp2; cases hp2
    have hp0 : H0 p2 = none := by rw [upd_ne hpp] at hp2; exact hp2
    refine k (.ref p2) _ _ _ (fun a ha => ?_) e0 g4 ⟨[p2], p2, _, [], rfl, rfl, upd_same, (reps_rep hr2 _).loc (fun _ _ z => z) fun _ z => by cases z⟩
    rw [upd_ne (fun z => by rw [← z, s0 a ha] at hp0; rw [hp0] at ha; cases ha), upd_ne (fun z => by rw [← z, s0 a ha] at hp; rw [hp] at ha; cases ha), s0 a ha]
/-- two operands -/
theorem two_ok (kt : KT K T) {a b : CE} (sa : SXp K T a) (sb : SXp K T b) {kont : PV → PV → Slots → Res PV} {P : PV → Slots → Prop} {R : V → V → Hp → Prop} (wa : wf K T a) (wb : wf K T b) (hl : σ.length = e.length) (g : Good B O (ze K T e σ ++ L) H F)
    (k : PG K T W B O L σ P (two a b (evX a) (evX b) e kont))
    (hk : ∀ x y e' u w H' F' ts, e'.length = σ.length → Good B O (ze K T e' σ ++ (L ++ ts)) H' F' → rp K T F' H' x u → rp K T F' H' y w → PG K T W B O L σ P (kont x y e') → R u w H') : (sem K T a W).1 σ H fun u H1 => (sem K T b W).1 σ H1 fun w H2 => R u w H2 := by
  unfold two at k
  split at k
  · cases q : evQ e a with
    | none => rw [q] at k; exact k.elim
    | some x =>
      rw [q] at k
      dsimp only at k
      refine pq kt a W wa q hl g fun u hu => ?_
      split at k
      · cases q2 : evQ e b with
        | none => rw [q2] at k; exact k.elim
        | some y =>
          rw [q2] at k
          exact pq kt b W wb q2 hl g fun w hw => hk x y e u w H F [] hl.symm (by simpa using g) hu hw k
      · split at k
        · rename_i f
          obtain ⟨_, hu⟩ := hu
          have g2 := dup g (rep_dup f hu)
          rw [List.append_assoc] at g2
          refine sb W B O F H (L ++ [cv K T x u]) e σ _ wb hl g2 (PG.imp (PG.more (PG_bind.mp k)) fun y e' k' hl' w H' F' g' => ?_)
          obtain ⟨_, r, _⟩ := rep_of g'
          have g3 : Good B O (ze K T e' σ ++ (L ++ ([cv K T x u] ++ [cv K T y w]))) H' F' := by
            simp only [List.append_assoc] at g' ⊢
            exact g'
          -- the first one stands as well
          have hx : rp K T F' H' x u := by
            obtain ⟨ads, hX, _, _⟩ := (by rw [← List.append_assoc] at g3; exact g3 : Good B O ((ze K T e' σ ++ L) ++ ([cv K T x u] ++ [cv K T y w])) H' F').view
            obtain ⟨a1, b1, _, k1, _⟩ := hX.cut
            exact ⟨_, okL_one.mp k1⟩
          exact hk x y e' u w H' F' _ hl' g3 hx ⟨_, r⟩ k'
        · cases q2 : dspE e b with
          | none => rw [q2] at k; exact k.elim
          | some y =>
            rw [q2] at k
            obtain ⟨ads, hu⟩ := hu
            exact dsp_ok kt wb hl g q2 fun w H1 F1 ts same ex g2 hw => hk x y e u w H1 F1 ts hl.symm g2 ⟨ads, hu.loc ex fun a ha => same a (hu.there a ha)⟩ hw k
  · refine sa W B O F H L e σ _ wa hl g ((PG_bind.mp k).imp fun x e' k' hl' u H' F' g' => ?_)
    have g2 : Good B O (ze K T e' σ ++ (L ++ [cv K T x u])) H' F' := by rw [← List.append_assoc]; exact g'
    split at k'
    · cases q2 : evQ e' b with
      | none => rw [q2] at k'; exact k'.elim
      | some y =>
        rw [q2] at k'
        obtain ⟨_, r, _⟩ := rep_of g'
        exact pq kt b W wb q2 hl'.symm g2 fun w hw => hk x y e' u w H' F' _ hl' g2 ⟨_, r⟩ hw k'
    · refine sb W B O F' H' (L ++ [cv K T x u]) e' σ _ wb hl'.symm g2 (PG.imp (PG.more (PG_bind.mp k')) fun y e2 k2 hl2 w H2 F2 g3 => ?_)
      obtain ⟨_, r, _⟩ := rep_of g3
      have g4 : Good B O (ze K T e2 σ ++ (L ++ ([cv K T x u] ++ [cv K T y w]))) H2 F2 := by
        simp only [List.append_assoc] at g3 ⊢
        exact g3
      have hx : rp K T F2 H2 x u := by
        obtain ⟨ads, hX, _, _⟩ := (by rw [← List.append_assoc] at g4; exact g4 : Good B O ((ze K T e2 σ ++ L) ++ ([cv K T x u] ++ [cv K T y w])) H2 F2).view
        obtain ⟨a1, b1, _, k1, _⟩ := hX.cut
        exact ⟨_, okL_one.mp k1⟩
      exact hk x y e2 u w H2 F2 _ hl2 g4 hx ⟨_, r⟩ k2
/-! ### lists of values -/
abbrev okL' (K : PySem.W.Frag) (T : Tab) (B O : Hp) (L : List Rs) (σ : L2.St) (Q : List V → Hp → Prop) : List PV → Slots → Prop := fun ys e => e.length = σ.length → ∀ vs H F, vs.length = ys.length → Good B O (ze K T e σ ++ L ++ zc K T ys vs) H F → Q vs H
def SXl (K : PySem.W.Frag) (T : Tab) (cs : List CE) : Prop := ∀ (W : WX) (B O F H : Hp) (L : List Rs) (e : Slots) (σ : L2.St) (Q : List V → Hp → Prop), wfs K T cs → σ.length = e.length → Good B O (ze K T e σ ++ L) H F → PG K T W B O L σ (okL' K T B O L σ Q) (evXs cs e) → (taOf (sems K T cs W).1) σ H Q
theorem sxl_nil : SXl K T [] := fun W B O F H L e σ Q _ hl g k => k hl.symm [] H F rfl (by show Good B O (_ ++ []) H F; rw [List.append_nil]; exact g)
theorem sxl_cons (kt : KT K T) {c : CE} {cs : List CE} (s1 : SXp K T c) (s2 : SXl K T cs) : SXl K T (c :: cs) := fun W B O F H L e σ Q hw hl g k => by
  show tCons (sem K T c W).1 (taOf (sems K T cs W).1) σ H Q
  refine val_ok kt s1 hw.1 hl g ((PG_bind.mp k).imp fun x e' k' hl' v H' F' g' => ?_)
  refine s2 W B O F' H' (L ++ [cv K T x v]) e' σ _ hw.2 hl'.symm (by rw [← List.append_assoc]; exact g') (PG.imp (PG.more (PG_bind.mp k')) fun ys e2 k2 hl2 vs H2 F2 hv g2 => ?_)
  refine k2 hl2 (v :: vs) H2 F2 (by simp [hv]) ?_
  have e3 : ze K T e2 σ ++ L ++ zc K T (x :: ys) (v :: vs) = ze K T e2 σ ++ (L ++ [cv K T x v]) ++ zc K T ys vs := by
    show _ ++ (cv K T x v :: zc K T ys vs) = _
    simp
  rw [e3]
  exact g2
/-! ### arguments -/
def lentOk (σ : L2.St) : List (PV × Option Nat) → List V → Prop
  | [], [] => True
  | (_, some i) :: as, v :: vs => σ[i]? = some (some v) ∧ lentOk σ as vs
  | (_, none) :: as, _ :: vs => lentOk σ as vs
  | _, _ => False
theorem lentOk.len : ∀ {as : List (PV × Option Nat)} {vs : List V}, lentOk σ as vs → vs.length = as.length
  | [], [], _ => rfl
  | (_, some _) :: _, _ :: _, h => congrArg (· + 1) (lentOk.len h.2)
  | (_, none) :: as, _ :: vs, h => congrArg (· + 1) (lentOk.len (as := as) (vs := vs) h)
abbrev okA (K : PySem.W.Frag) (T : Tab) (B O : Hp) (L : List Rs) (σ : L2.St) (Q : List V → Hp → Prop) : List (PV × Option Nat) → Slots → Prop := fun as e => e.length = σ.length → ∀ vs H F, lentOk σ as vs → Good B O (ze K T e σ ++ L ++ zc K T (as.map (·.1)) vs) H F → Q vs H
def SXa (K : PySem.W.Frag) (T : Tab) (cs : List CE) : Prop := ∀ (W : WX) (B O F H : Hp) (L : List Rs) (e : Slots) (σ : L2.St) (Q : List V → Hp → Prop), wfs K T cs → σ.length = e.length → Good B O (ze K T e σ ++ L) H F → PG K T W B O L σ (okA K T B O L σ Q) (evXa cs e) → (taOf (sems K T cs W).1) σ H Q
theorem arg_ok (kt : KT K T) {c : CE} (sx : SXp K T c) {Q : V → Hp → Prop} (hw : wf K T c) (hl : σ.length = e.length) (g : Good B O (ze K T e σ ++ L) H F)
    (k : PG K T W B O L σ (fun a e => e.length = σ.length → ∀ v H F, lentOk σ [a] [v] → Good B O (ze K T e σ ++ L ++ [cv K T a.1 v]) H F → Q v H) (argM c (evX c) e)) : (sem K T c W).1 σ H Q := by
  unfold argM at k
  split at k
  · rename_i i
    cases q : slot e i with
    | none => rw [q] at k; exact k.elim
    | some x =>
      rw [q] at k
      dsimp only at k
      split at k
      · rename_i f
        obtain ⟨v, ads, h1, h2, _⟩ := slot_get hl g q
        exact ⟨v, h1, k hl.symm v H F trivial (dup g (rep_dup f h2))⟩
      · obtain ⟨v, h1, g1⟩ := slot_take hl g q
        exact ⟨v, h1, k (by simpa using hl.symm) v H F ⟨h1, trivial⟩ g1⟩
  · exact val_ok kt sx hw hl g ((PG_bind.mp k).imp fun y e' k' hl' v H' F' g' => k' hl' v H' F' trivial g')
theorem sxa_nil : SXa K T [] := fun W B O F H L e σ Q _ hl g k => k hl.symm [] H F trivial (by show Good B O (_ ++ []) H F; rw [List.append_nil]; exact g)
theorem sxa_cons (kt : KT K T) {c : CE} {cs : List CE} (s1 : SXp K T c) (s2 : SXa K T cs) : SXa K T (c :: cs) := fun W B O F H L e σ Q hw hl g k => by
  show tCons (sem K T c W).1 (taOf (sems K T cs W).1) σ H Q
  refine arg_ok kt s1 hw.1 hl g ((PG_bind.mp k).imp fun a e' k' hl' v H' F' hlt g' => ?_)
  refine s2 W B O F' H' (L ++ [cv K T a.1 v]) e' σ _ hw.2 hl'.symm (by rw [← List.append_assoc]; exact g') (PG.imp (PG.more (PG_bind.mp k')) fun as e2 k2 hl2 vs H2 F2 hv g2 => ?_)
  refine k2 hl2 (v :: vs) H2 F2 ?_ ?_
  · obtain ⟨x, o⟩ := a
    cases o with
    | none => exact hv
    | some i => exact ⟨hlt.1, hv⟩
  · have e3 : ze K T e2 σ ++ L ++ zc K T ((a :: as).map (·.1)) (v :: vs) = ze K T e2 σ ++ (L ++ [cv K T a.1 v]) ++ zc K T (as.map (·.1)) vs := by
      show _ ++ (cv K T a.1 v :: zc K T (as.map (·.1)) vs) = _
      simp
    rw [e3]
    exact g2
theorem backM_len : ∀ {as : List (PV × Option Nat)} {os : List (Option PV)} {e : Slots}, (backM as os e).length = e.length
  | [], _, _ => by simp [backM]
  | (_, some i) :: as, [], e => by simp [backM]
  | (_, none) :: as, [], e => by simp [backM]
  | (_, some i) :: as, o :: os, e => (backM_len (as := as) (os := os)).trans (by simp)
  | (_, none) :: as, o :: os, e => backM_len (as := as) (os := os) (e := e)
theorem ze_nil {l : L2.St} : ze K T [] l = [] := rfl
theorem back_good : ∀ {as : List (PV × Option Nat)} {os : List (Option PV)} {vs : List V} {e : Slots} {F : Hp} {R : List Rs}, σ.length = e.length → lentOk σ as vs → Good B O ((ze K T e σ ++ L) ++ (ze K T os (vs.map some) ++ R)) H F → ∃ F', Good B O ((ze K T (backM as os e) σ ++ L) ++ R) H F'
  | [], [], [], e, F, R, _, _, g => ⟨F, by simpa [backM] using g⟩
  | [], o :: os, [], e, F, R, _, _, g => ⟨F, by simpa [backM] using g⟩
  | (_, some i) :: as, [], v :: vs, e, F, R, _, _, g => ⟨F, g⟩
  | (_, none) :: as, [], v :: vs, e, F, R, _, _, g => ⟨F, g⟩
  | (_, some i) :: as, o :: os, v :: vs, e, F, R, hl, h, g => by
    have g1 : Good B O (ze K T e σ ++ (L ++ (ze K T os (vs.map some) ++ R)) ++ [(sdo K T o, some v)]) H F := g.perm (by
      show ((ze K T e σ ++ L) ++ ((sdo K T o, some v) :: (ze K T os (vs.map some) ++ R))).Perm _
      refine List.perm_middle.trans ?_
      refine (List.perm_append_singleton _ _).symm.trans ?_
      rw [List.append_assoc (ze K T e σ)])
    obtain ⟨F1, g2, _⟩ := slot_back hl h.1 g1
    rw [← List.append_assoc] at g2
    exact back_good (as := as) (by simpa using hl) h.2 g2
  | (_, none) :: as, o :: os, v :: vs, e, F, R, hl, h, g => by
    have g1 : Good B O ((sdo K T o, some v) :: ((ze K T e σ ++ L) ++ (ze K T os (vs.map some) ++ R))) H F := g.perm List.perm_middle
    obtain ⟨F1, g2, _⟩ := g1.drop
    exact back_good (as := as) hl (show lentOk σ as vs from h) g2
/-- a call, its arguments at hand -/
theorem call_ok {f : Fn} {as : List (PV × Option Nat)} (hl : σ.length = e.length) (hlt : lentOk σ as vs) (g : Good B O (ze K T e σ ++ L ++ zc K T (as.map (·.1)) vs) H F) (k : PG K T W B O L σ (okV K T B O L σ Q) (callM f as e)) :
    spF K T.adr T.exc f vs H Q (WE W σ) := by
  obtain ⟨O2, g1, back⟩ := g.frame
  have hlen := hlt.len
  refine ⟨as.map (·.1), F, O2, by simpa using hlen, g1, ?_⟩
  unfold callM at k
  cases q : f (as.map (·.1)) with
  | stuck => rw [q] at k; exact k.elim
  | exc n os =>
    rw [q] at k
    intro C hC H' F' ho g2
    have g3 := back _ H' F' g2
    obtain ⟨F4, g4⟩ := back_good (R := []) hl hlt (by simpa using g3)
    exact k (by rw [backM_len]; exact hl.symm) H' F4 (by simpa using g4) C hC
  | ok y os =>
    rw [q] at k
    intro v H' F' ho g2
    obtain ⟨F4, g4⟩ := back_good hl hlt (back _ H' F' g2)
    exact k (by rw [backM_len]; exact hl.symm) v H' F4 g4
end
end Rk

set_option Elab.async false
set_option linter.all false
set_option maxRecDepth 100000
set_option maxHeartbeats 1000000
namespace Rk
open PySem PySem.Spec PyProof.Rows L2
section
variable {K : PySem.W.Frag} {T : Tab} {B O F F' H H' : Hp} {ps L ts : List Rs} {e e' : Slots} {σ : L2.St} {x y z root sub : PV} {xs ys : List PV} {u v w : V} {vs ws : List V} {ads bds : List Addr} {Q : VK} {i : Nat} {W : WX} {α β : Type} {P : α → Slots → Prop}
theorem PG_ofO {z : Option PV} {P : PV → Slots → Prop} (h : PG K T W B O L σ P (ofO z e)) : ∃ y, z = some y ∧ P y e := by
  cases z with
  | none => exact h.elim
  | some y => exact ⟨y, rfl, h⟩
theorem PG_ofF {z : Option PV} {P : PV → Slots → Prop} (h : PG K T W B O L σ P (ofF z e)) : ∃ y, z = some y ∧ isF y = true ∧ P y e := by
  cases z with
  | none => exact h.elim
  | some y =>
    unfold ofF at h
    dsimp only at h
    split at h
    · rename_i f; exact ⟨y, rfl, f, h⟩
    · exact h.elim
theorem fz0 (f : isFs xs = true) (h : reps K T.adr F H xs vs ads) : reps K T.adr F H xs vs [] := (h.fz f).2 H
theorem catQ_ok {op : Operator} (hl : e.length = σ.length) (g : Good B O (ze K T e σ ++ (L ++ ts)) H F) (hx : rp K T F H x u) (hy : rp K T F H y w) (h : catQ op x y = some z) (k : okV K T B O L σ Q z e) : binR K op u w H Q := by
  obtain ⟨_, hx⟩ := hx
  obtain ⟨_, hy⟩ := hy
  have ex := g.exH
  unfold catQ at h
  split at h
  · split at h
    · rename_i hc
      cases h
      obtain ⟨a, us, r, rfl, h1, h2⟩ := rep_lst ex hx
      obtain ⟨b, vs, s, rfl, h3, h4⟩ := rep_lst ex hy
      refine .inr (.inr (.inl ⟨a, b, us, vs, rfl, rfl, h1, h3, by rw [h2.length, h4.length]; exact Nat.le_trans hc.2.2 lim_line, fun p hp => ?_⟩))
      exact fin_lst g hl (reps_app (a := []) (b := []) (fz0 hc.1 h2) (fz0 hc.2.1 h4)) hp k
    · cases h
  · split at h
    · rename_i hc
      cases h
      obtain ⟨a, us, r, rfl, h1, h2⟩ := rep_tup ex hx
      obtain ⟨b, vs, s, rfl, h3, h4⟩ := rep_tup ex hy
      have r1 := fz0 hc.1 h2
      have r2 := fz0 hc.2.1 h4
      have hx0 := rep_dup (x := .tup _) (show isF (.tup _) = true from hc.1) hx
      have hy0 := rep_dup (x := .tup _) (show isF (.tup _) = true from hc.2.1) hy
      refine .inr (.inr (.inr ⟨a, b, us, vs, rfl, rfl, h1, h3, by rw [h2.length, h4.length]; exact Nat.le_trans hc.2.2 lim_line, fun q => ?_, fun _ q => ?_, fun _ _ p hp => ?_⟩))
      · subst q
        have e1 := h2.length
        have q1 := List.length_eq_zero_iff.mp e1.symm
        rw [q1, List.nil_append] at k
        exact fin_rep g hl hy0 k
      · subst q
        have e1 := h4.length
        have q1 := List.length_eq_zero_iff.mp e1.symm
        rw [q1, List.append_nil] at k
        exact fin_rep g hl hx0 k
      · exact fin_tup g hl (reps_app (a := []) (b := []) r1 r2) hp k
    · cases h
  · split at h
    · rename_i hc
      cases h
      obtain ⟨a, us, r, rfl, h1, h2⟩ := rep_lst ex hx
      rename_i n
      exact .inr ⟨a, n, us, rfl, rep_int hy, h1, by omega, by omega, by rw [h2.length]; exact Nat.le_trans hc.2.2.2 lim_line, fun p hp => fin_lst g hl (reps_rep (fz0 hc.1 h2) _) hp k⟩
    · cases h
  · cases h
theorem reps_take {n : Nat} (h : reps K T.adr F H xs vs []) : reps K T.adr F H (xs.take n) (vs.take n) [] ∧ reps K T.adr F H (xs.drop n) (vs.drop n) [] := by
  obtain ⟨a, b, e, h1, h2⟩ := reps_cutAt (n := n) h
  obtain ⟨rfl, rfl⟩ := List.append_eq_nil_iff.mp e.symm
  exact ⟨h1, h2⟩
theorem reps_cutL {l h : Option Int} (r : reps K T.adr F H xs vs []) : reps K T.adr F H (cutL xs l h) (cutV vs l h) [] := by
  unfold cutL cutV
  rw [r.length]
  exact (reps_take (reps_take r).2).1
theorem reps_ints {ns : List Int} : reps K T.adr F H (ns.map .int) (ns.map V.int) [] := by
  induction ns with
  | nil => rfl
  | cons n ns ih => exact ⟨[], [], rfl, ⟨rfl, rfl⟩, ih⟩
theorem cutL_map {α β : Type} {f : α → β} {xs : List α} {l h : Option Int} : (cutL xs l h).map f = cutL (xs.map f) l h := by
  unfold cutL
  rw [List.map_take, List.map_drop, List.length_map]
theorem cutL_int {ns : List Int} {l h : Option Int} : cutV (ns.map V.int) l h = (cutL ns l h).map V.int := by
  rw [cutL_map]; rfl
theorem slQ_ok {l h : Option Int} (hl : e.length = σ.length) (g : Good B O (ze K T e σ ++ (L ++ ts)) H F) (hx : rp K T F H x u) (hq : slQ x l h = some z) (k : okV K T B O L σ Q z e) : slR K u l h H Q := by
  obtain ⟨_, hx⟩ := hx
  have ex := g.exH
  unfold slQ at hq
  split at hq
  · split at hq
    · rename_i f
      cases hq
      obtain ⟨a, us, r, rfl, h1, h2⟩ := rep_lst ex hx
      exact .inl ⟨a, us, rfl, .inl (.inl h1), fun p hp => fin_lst g hl (reps_cutL (fz0 f h2)) hp k⟩
    · cases hq
  · split at hq
    · rename_i f
      cases hq
      obtain ⟨a, us, r, rfl, h1, h2⟩ := rep_tup ex hx
      refine .inr (.inl ⟨a, us, rfl, h1, fun q => ?_, fun _ p hp => fin_tup g hl (reps_cutL (fz0 f h2)) hp k⟩)
      have e1 : ∀ xs : List PV, us.length = xs.length → cutL xs l h = xs := fun xs hlen => by
        unfold cutL
        rw [← hlen, q.1, q.2, List.drop_zero, hlen, Nat.sub_zero, List.take_length]
      rw [e1 _ h2.length] at k
      exact fin_rep g hl (rep_dup (x := .tup _) (show isF (.tup _) = true from f) hx) k
    · cases hq
  · cases hq
    obtain ⟨a, rfl, h1⟩ := rep_scr ex hx
    refine .inl ⟨a, _, rfl, h1, fun p hp => ?_⟩
    rw [cutL_int]
    exact fin_lst g hl reps_ints hp k
  · split at hq
    · rename_i f
      cases hq
      rw [rep_str hx]
      exact .inr (.inr ⟨_, rfl, f, fin_rep (z := .str _) g hl ⟨rfl, rfl⟩ k⟩)
    · cases hq
  · cases hq
theorem ints_kV : ∀ {dk : List (Key × V)} {ns : List Int}, intsP (dk.map fun p => kP p.1) = some ns → (dk.map fun kv => kV kv.1) = ns.map V.int
  | [], ns, h => by simp [intsP] at h; subst h; rfl
  | (k, v) :: dk, ns, h => by
    cases k with
    | inl i =>
      simp only [List.map_cons, kP, intsP] at h
      obtain ⟨ms, h1, rfl⟩ := map1 h
      rw [List.map_cons, List.map_cons, ints_kV h1]; rfl
    | inr s => simp [kP, intsP] at h
theorem sortIL_ok {ns ms : List Int} (h1 : ms.Perm ns) (h2 : ms.Pairwise (· ≤ ·)) : ms = sortIL ns := by
  have p1 : (sortIL ns).Perm ns := List.mergeSort_perm ns _
  have p2 : (sortIL ns).Pairwise (· ≤ ·) := by
    have := List.pairwise_mergeSort (le := fun (a b : Int) => decide (a ≤ b)) (by intro a b c; simp; omega) (by intro a b; simp; omega) ns
    exact this.imp (by intro a b h; simpa using h)
  exact List.Perm.eq_of_pairwise (by intro a b _ _ h1 h2; omega) h2 p2 (h1.trans p1.symm)
theorem bltX_ok {b : Blt} (hl : e.length = σ.length) (g : Good B O (ze K T e σ ++ (L ++ ts)) H F) (hx : rp K T F H x u) (hq : bltX b x = some z) (k : okV K T B O L σ Q z e) : bltR K b [u] H Q := by
  have hx0 := hx
  obtain ⟨_, hx⟩ := hx
  have ex := g.exH
  unfold bltX at hq
  split at hq
  · split at hq
    · rename_i f
      cases hq
      obtain ⟨a, us, r, rfl, h1, h2⟩ := rep_lst ex hx
      exact ⟨a, us, rfl, .inl (.inl (.inl h1)), fun p hp => fin_lst g hl (fz0 f h2) hp k⟩
    · cases hq
  · split at hq
    · rename_i f
      cases hq
      obtain ⟨a, us, r, rfl, h1, h2⟩ := rep_tup ex hx
      exact ⟨a, us, rfl, .inr h1, fun p hp => fin_lst g hl (fz0 f h2) hp k⟩
    · cases hq
  · cases hq
    obtain ⟨a, rfl, h1⟩ := rep_scr ex hx
    exact ⟨a, _, rfl, .inl h1, fun p hp => fin_lst g hl reps_ints hp k⟩
  · split at hq
    · rename_i f
      cases hq
      obtain ⟨a, us, r, rfl, h1, h2⟩ := rep_lst ex hx
      exact ⟨a, us, rfl, .inl ⟨.inl (.inl h1), fun p hp => fin_tup g hl (fz0 f h2) hp k⟩⟩
    · cases hq
  · split at hq
    · rename_i f
      cases hq
      obtain ⟨a, us, r, rfl, h1, h2⟩ := rep_tup ex hx
      exact ⟨a, us, rfl, .inr ⟨h1, fin_rep g hl (rep_dup (x := .tup _) (show isF (.tup _) = true from f) hx) k⟩⟩
    · cases hq
  · obtain ⟨ns, h1, rfl⟩ := map1 hq
    obtain ⟨a, us, r, rfl, h2, h3⟩ := rep_lst ex hx
    obtain rfl := ints_ok h1 h3
    refine ⟨a, ns, rfl, .inl (.inl h2), fun ms p hp hs hn => ?_⟩
    rw [sortIL_ok hp hs]
    exact fin_lst g hl reps_ints hn k
  · obtain ⟨ns, h1, rfl⟩ := map1 hq
    obtain ⟨a, dk, rfl, h2, h3, _⟩ := rep_dic ex hx
    have hns : (dk.map fun kv => kV kv.1) = ns.map V.int := by
      rw [← h3] at h1
      exact ints_kV h1
    refine ⟨a, dk, ns, rfl, h2, hns, fun ms p hp hs hn => ?_⟩
    rw [sortIL_ok hp hs]
    exact fin_lst g hl reps_ints hn k
  · exact bltQ_ok (xs := [x]) (vs := [u]) ex ⟨hx0, trivial⟩ hq fun v hv => fin_rep g hl hv k
theorem part_ok (kt : KT K T) {c : CE} {R : Option Int → Hp → Prop} {l : Option Int} (hw : wf K T c) (hl : σ.length = e.length) (g : Good B O (ze K T e σ ++ L) H F) (h : partQ e c = some l) (k : R l H) : poOf c (sem K T c W).1 σ H R := by
  have gen : pu c = true → (∃ i, evQ e c = some (.int i) ∧ l = some i) → tPart (sem K T c W).1 σ H R := fun _ ⟨i, h1, h2⟩ => by
    subst h2
    exact pq kt c W hw h1 hl g fun v ⟨_, hv⟩ => ⟨i, rep_int hv, k⟩
  unfold partQ at h
  cases c <;> first | (cases h; exact k) | skip
  all_goals
    dsimp only at h
    split at h
    · rename_i hp
      split at h
      · rename_i i q
        cases h
        exact gen hp ⟨i, q, rfl⟩
      · cases h
    · cases h
/-! ### a part of a new thing -/
theorem Good.view' {X : List Rs} (g : Good B O (ps ++ X) H F) : ∃ ads, OkL F H X ads ∧ ads.Nodup ∧ ∀ Y ads', ads'.Perm ads → OkL F H Y ads' → Good B O (ps ++ Y) H F := by
  obtain ⟨ads, h1, h2, h3, h4, h5, h6⟩ := g
  obtain ⟨a, b, rfl, k1, k2⟩ := h1.split
  refine ⟨b, k2, (List.nodup_append.mp h2).2.1, fun Y b' p hY => ?_⟩
  have pm : (a ++ b').Perm (a ++ b) := p.append_left a
  exact ⟨a ++ b', k1.append hY, (pm.nodup_iff).mpr h2, by rw [h3]; exact delO_congr fun x => (pm.mem_iff).symm, h4, h5, fun d hd => h6 d (pm.mem_iff.mp hd)⟩
theorem ixT_ok (hl : e.length = σ.length) (g : Good B O (ze K T e σ ++ L ++ [cv K T x u]) H F) (hy : rp K T F H y w) (h : ixQ x y = some z) (k : okV K T B O L σ Q z e) : rIx K u w H Q := by
  have ex := g.exH
  obtain ⟨ads, hX, nd, bk⟩ := g.view'
  have hx := okL_one.mp hX
  obtain ⟨_, hy⟩ := hy
  have done : ∀ v a c, ads.Perm (a ++ c) → rep K T.adr F H z v a → (∀ d ∈ c, (H d).isSome = true) → Q v H := fun v a c p r hc => by
    have g2 : Good B O (ze K T e σ ++ L ++ ([cv K T z v] ++ [(.own junk, some .non)])) H F := bk _ (a ++ (c ++ [])) (by rw [List.append_nil]; exact p.symm) (.cons ⟨v, rfl, r⟩ (.cons ⟨.non, rfl, hc⟩ .nil))
    rw [← List.append_assoc] at g2
    obtain ⟨F1, g3, _⟩ := drop1 g2
    exact k hl v H F1 g3
  have th := hx.there
  unfold ixQ at h
  split at h
  · rename_i o xs j
    unfold atI at h
    obtain ⟨n, h1, h2⟩ := bind1 h
    cases o with
    | true =>
      obtain ⟨p, us, r, rfl, rfl, hp, h4⟩ := hx
      obtain ⟨v, a, c, q1, q2, q3, _⟩ := reps_pick h4 h2
      refine .inl ⟨p, us, j, v, rfl, rep_int hy, .inl (.inl hp), ?_, done v a (p :: c) ?_ q3 fun d hd => ?_⟩
      · unfold atI; rw [h4.length, h1]; exact q1
      · exact (q2.cons p).trans (List.perm_middle).symm
      · rcases List.mem_cons.mp hd with rfl | hd
        · exact th _ (by simp)
        · exact th d (List.mem_cons_of_mem _ (q2.mem_iff.mpr (List.mem_append_right _ hd)))
    | false =>
      obtain ⟨rfl, p, us, rfl, hp, h4⟩ := hx
      obtain ⟨v, a, c, q1, q2, q3, _⟩ := reps_pick h4 h2
      refine .inl ⟨p, us, j, v, rfl, rep_int hy, .inl (.inl (ex _ _ hp)), ?_, done v a c q2 q3 fun d hd => ?_⟩
      · unfold atI; rw [h4.length, h1]; exact q1
      · exact th d (q2.mem_iff.mpr (List.mem_append_right _ hd))
  · rename_i xs j
    unfold atI at h
    obtain ⟨n, h1, h2⟩ := bind1 h
    obtain ⟨p, us, rfl, hp, h4⟩ := hx
    obtain ⟨v, a, c, q1, q2, q3, _⟩ := reps_pick h4 h2
    refine .inr (.inl ⟨p, us, j, v, rfl, rep_int hy, ex.sqT hp, ?_, done v a c q2 q3 fun d hd => ?_⟩)
    · unfold atI; rw [h4.length, h1]; exact q1
    · exact th d (q2.mem_iff.mpr (List.mem_append_right _ hd))
  · have := ixQ_ok (K := K) (T := T) (F := F) (H := H) (x := .scr _) (y := .int _) (z := z) (Q := Q) ex ⟨_, hx⟩ ⟨_, hy⟩ (by unfold ixQ; exact h) fun v ⟨a, hv⟩ => ?_
    · exact this
    · obtain ⟨i, q, rfl⟩ := map1 h
      exact done v [] ads (by simp) ((hv.fz rfl).2 H) th
  · rename_i s j
    split at h
    · rename_i hs
      have hx' := hx
      have hxn := (hx.fz (x := .str s) rfl).1
      obtain ⟨c, q, rfl⟩ := map1 h
      exact .inr (.inr ⟨s, j, c, rep_str hx, rep_int hy, hs, q, done _ [] ads (by simp) ⟨rfl, rfl⟩ th⟩)
    · cases h
  · cases h
end
end Rk

set_option Elab.async false
set_option linter.all false
set_option maxRecDepth 100000
set_option maxHeartbeats 1000000
namespace Rk
open PySem PySem.Spec PyProof.Rows L2
section
variable {K : PySem.W.Frag} {T : Tab} {B O F F' H H' : Hp} {ps L ts : List Rs} {e e' : Slots} {σ : L2.St} {x y z root sub : PV} {xs ys : List PV} {u v w rv : V} {vs ws : List V} {ads bds : List Addr} {Q : VK} {i : Nat} {W : WX} {α β : Type} {P : α → Slots → Prop} {l : List Stp}
theorem getS_app : ∀ {l : List Stp} {s : Stp} {x y : PV}, getS (l ++ [s]) x = some y → ∃ z, getS l x = some z ∧ getS [s] z = some y
  | [], s, x, y, h => ⟨x, rfl, h⟩
  | .f g :: l, s, x, y, h => by
    obtain ⟨c, fs, xs, z, rfl, h1, h2⟩ := getS_f (l := l ++ [s]) h
    obtain ⟨z', h3, h4⟩ := getS_app h2
    exact ⟨z', by simp only [getS, h1, Option.bind_some]; exact h3, h4⟩
  | .i j :: l, s, x, y, h => by
    obtain ⟨xs, z, rfl, h1, h2⟩ := getS_i (l := l ++ [s]) h
    obtain ⟨z', h3, h4⟩ := getS_app h2
    exact ⟨z', by simp only [getS, h1, Option.bind_some]; exact h3, h4⟩
/-- a path's value -/
theorem path_ok (kt : KT K T) : ∀ (c : CE) {l : List Stp} {sub : PV} {u : V} {Q : VK}, wf K T c → pathS e c = some (i, l) → σ.length = e.length → Good B O (ze K T e σ ++ L) H F → slot e i = some root → getS l root = some sub → σ[i]? = some (some rv) → Leads T.adr H rv l u → Q u H → (sem K T c W).1 σ H Q
  | .var j, l, sub, u, Q, hw, h, hl, g, hr, hs, h1, hL, k => by
    cases h
    obtain rfl : u = rv := hL
    exact ⟨u, h1, k⟩
  | .fld a f, l, sub, u, Q, hw, h, hl, g, hr, hs, h1, hL, k => by
    obtain ⟨⟨j, l0⟩, h2, h3⟩ := map1 h
    cases h3
    obtain ⟨z, s1, s2⟩ := getS_app hs
    obtain ⟨w, L1, L2⟩ := hL.cut
    obtain ⟨p, cn, C, dx, fv, u', rfl, q2, q3, q4, q5⟩ := L2
    obtain rfl : u = u' := q5
    exact path_ok kt a hw.2 h2 hl g hr s1 h1 L1 ⟨p, C, dx, fv, u, rfl, q3, kt.cls _ _ q2, kt.fld _ _ _ q2 hw.1, q4, k⟩
  | .ix a q, l, sub, u, Q, hw, h, hl, g, hr, hs, h1, hL, k => by
    obtain ⟨⟨j, l0⟩, h2, h3⟩ := bind1 h
    dsimp only at h3
    split at h3
    · rename_i jj xs k1 k2
      obtain ⟨n, h4, h5⟩ := map1 h3
      cases h5
      obtain ⟨z, s1, s2⟩ := getS_app hs
      obtain ⟨w, L1, L2⟩ := hL.cut
      obtain ⟨p, us, u', rfl, q3, q4, q5⟩ := L2
      obtain rfl : u = u' := q5
      -- the list there
      obtain ⟨rv', ads, r1, r2, nd⟩ := slot_get hl g hr
      rw [h1] at r1
      cases r1
      have hsub : getS l0 root = some (.lst true xs) := by
        rw [hr] at k2
        exact k2
      obtain ⟨w', _, _, _, r3, r4, _⟩ := focus r2 hsub
      obtain rfl : w' = .ref p := (r4 H fun _ _ => rfl).det L1
      obtain ⟨p', us', r, e1, _, e3, e4⟩ := r3
      cases e1
      rw [q3] at e3
      cases e3
      refine path_ok kt a hw.1 h2 hl g hr s1 h1 L1 (pq kt q W hw.2 k1 hl g fun v ⟨_, hv⟩ => ?_)
      refine .inl ⟨p, us, jj, u, rfl, rep_int hv, .inl (.inl q3), ?_, k⟩
      unfold atI
      rw [e4.length, h4]
      exact q4
    · cases h3
  | .mov _, _, _, _, _, _, h, _, _, _, _, _, _, _ => by cases h
  | .frz _ _, _, _, _, _, _, h, _, _, _, _, _, _, _ => by cases h
  | .int _, _, _, _, _, _, h, _, _, _, _, _, _, _ => by cases h
  | .str _, _, _, _, _, _, h, _, _, _, _, _, _, _ => by cases h
  | .non, _, _, _, _, _, h, _, _, _, _, _, _, _ => by cases h
  | .bl _, _, _, _, _, _, h, _, _, _, _, _, _, _ => by cases h
  | .nop, _, _, _, _, _, h, _, _, _, _, _, _, _ => by cases h
  | .con _ _, _, _, _, _, _, h, _, _, _, _, _, _, _ => by cases h
  | .bin _ _ _, _, _, _, _, _, h, _, _, _, _, _, _, _ => by cases h
  | .cat _ _ _, _, _, _, _, _, h, _, _, _, _, _, _, _ => by cases h
  | .neg _, _, _, _, _, _, h, _, _, _, _, _, _, _ => by cases h
  | .cmp _ _ _, _, _, _, _, _, h, _, _, _, _, _, _, _ => by cases h
  | .chn _ _ _ _ _, _, _, _, _, _, h, _, _, _, _, _, _, _ => by cases h
  | .and _, _, _, _, _, _, h, _, _, _, _, _, _, _ => by cases h
  | .or _, _, _, _, _, _, h, _, _, _, _, _, _, _ => by cases h
  | .not _, _, _, _, _, _, h, _, _, _, _, _, _, _ => by cases h
  | .tup _, _, _, _, _, _, h, _, _, _, _, _, _, _ => by cases h
  | .lst _, _, _, _, _, _, h, _, _, _, _, _, _, _ => by cases h
  | .dct _, _, _, _, _, _, h, _, _, _, _, _, _, _ => by cases h
  | .dix _ _, _, _, _, _, _, h, _, _, _, _, _, _, _ => by cases h
  | .din _ _ _, _, _, _, _, _, h, _, _, _, _, _, _, _ => by cases h
  | .sl _ _ _, _, _, _, _, _, h, _, _, _, _, _, _, _ => by cases h
  | .call _ _ _, _, _, _, _, _, h, _, _, _, _, _, _, _ => by cases h
  | .make _ _ _, _, _, _, _, _, h, _, _, _, _, _, _, _ => by cases h
  | .callP _ _ _ _, _, _, _, _, _, h, _, _, _, _, _, _, _ => by cases h
  | .makeP _ _ _ _, _, _, _, _, _, h, _, _, _, _, _, _, _ => by cases h
  | .meth _ _ _ _ _, _, _, _, _, _, h, _, _, _, _, _, _, _ => by cases h
  | .blt _ _, _, _, _, _, _, h, _, _, _, _, _, _, _ => by cases h
  | .isi _ _, _, _, _, _, _, h, _, _, _, _, _, _, _ => by cases h
  | .bm _ _ _, _, _, _, _, _, h, _, _, _, _, _, _, _ => by cases h
  | .dget1 _ _, _, _, _, _, _, h, _, _, _, _, _, _, _ => by cases h
  | .dget2 _ _ _, _, _, _, _, _, h, _, _, _, _, _, _, _ => by cases h
  | .dpop1 _ _, _, _, _, _, _, h, _, _, _, _, _, _, _ => by cases h
  | .lrg _, _, _, _, _, _, h, _, _, _, _, _, _, _ => by cases h
  | .lrv _, _, _, _, _, _, h, _, _, _, _, _, _, _ => by cases h
  | .lc _ _ _ _ _, _, _, _, _, _, h, _, _, _, _, _, _, _ => by cases h
/-- an update at a path -/
theorem upd_run {q : Nat × List Stp} {gx : PV → Option (PV × PV)} (hl : σ.length = e.length) (g : Good B O (ze K T e σ ++ (L ++ zc K T ys vs)) H F) (hn : vs.length = ys.length) (k : PG K T W B O L σ (okV K T B O L σ Q) (updM q gx e)) :
    ∃ root sub r sub' rv u, slot e q.1 = some root ∧ getS q.2 root = some sub ∧ gx sub = some (r, sub') ∧ σ[q.1]? = some (some rv) ∧ Leads T.adr H rv q.2 u ∧ rp K T F H sub u ∧ ∀ vr H', Upd K T F H H' sub u ys vs sub' r vr → Q vr H' := by
  unfold updM at k
  cases h1 : slot e q.1 with
  | none => rw [h1] at k; exact k.elim
  | some root =>
    rw [h1, Option.bind_some] at k
    cases h2 : getS q.2 root with
    | none => rw [h2] at k; exact k.elim
    | some sub =>
      rw [h2, Option.bind_some] at k
      cases h3 : gx sub with
      | none => rw [h3] at k; exact k.elim
      | some z =>
        rw [h3] at k
        obtain ⟨r, sub'⟩ := z
        obtain ⟨rv, u, u1, u2, u3, u4⟩ := upd_good hl g h1 h2 hn
        refine ⟨root, sub, r, sub', rv, u, rfl, h2, h3, u1, u2, u3, fun vr H' up => ?_⟩
        obtain ⟨F', g'⟩ := u4 H' sub' r vr up
        exact k (by simpa using hl.symm) vr H' F' g'
theorem rls_reps : ∀ {xs : List PV} {vs : List V}, isFs xs = true → rls K T F H xs vs → reps K T.adr F H xs vs []
  | [], [], _, _ => rfl
  | x :: xs, v :: vs, f, h => by
    simp only [isFs, Bool.and_eq_true] at f
    obtain ⟨⟨a, h1⟩, h2⟩ := h
    exact ⟨[], [], rfl, rep_dup f.1 h1, rls_reps f.2 h2⟩
/-- THE MUTATION AT A PATH: V1 is what is asked of the path's value, V2 of it and the arguments -/
theorem mut_ok (kt : KT K T) {p : CE} {es : List CE} {kd : PV → Bool} {gm : List PV → PV → Option (PV × PV)} {xa : Slots → Res (List PV)} {V1 : V → Hp → Prop} {V2 : V → List V → Hp → Prop} (hp : wf K T p) (hes : wfs K T es) (hl : σ.length = e.length) (g : Good B O (ze K T e σ ++ L) H F)
    (hx : ∀ (B O F H : Hp) (L : List Rs) (e : Slots) (Q : List V → Hp → Prop), σ.length = e.length → Good B O (ze K T e σ ++ L) H F → PG K T W B O L σ (okL' K T B O L σ Q) (xa e) → (taOf (sems K T es W).1) σ H Q)
    (h1 : ∀ F H sub u, Ex F H → kd sub = true → rp K T F H sub u → V1 u H)
    (h2 : ∀ F H ys vs sub u z x, Ex F H → kd sub = true → rp K T F H sub u → (∃ as, reps K T.adr F H ys vs as) → gm ys sub = some (z, x) → (∀ vr H', Upd K T F H H' sub u ys vs x z vr → Q vr H') → V2 u vs H)
    (hkd : ∀ ys sub z x, gm ys sub = some (z, x) → kd sub = true)
    (k : PG K T W B O L σ (okV K T B O L σ Q) (mutM kd p es xa gm e)) : (sem K T p W).1 σ H fun u H1 => V1 u H1 ∧ (taOf (sems K T es W).1) σ H1 fun vs H2 => V2 u vs H2 := by
  unfold mutM at k
  cases hq : pathS e p with
  | none => rw [hq] at k; exact k.elim
  | some q =>
    rw [hq] at k
    dsimp only at k
    split at k
    · rename_i hk
      -- what is there
      unfold kindM at hk
      cases r1 : slot e q.1 with
      | none => rw [r1] at hk; cases hk
      | some root =>
        rw [r1, Option.bind_some] at hk
        cases r2 : getS q.2 root with
        | none => rw [r2] at hk; cases hk
        | some sub =>
          rw [r2] at hk
          dsimp only at hk
          obtain ⟨rv, ads, s1, s2, nd⟩ := slot_get hl g r1
          obtain ⟨u, rs, c, f1, f2, f3, f4⟩ := focus s2 r2
          refine path_ok kt p hp hq hl g r1 r2 s1 (f3 H fun _ _ => rfl) ⟨h1 F H sub u g.exH hk ⟨_, f2⟩, ?_⟩
          -- behind the arguments
          have core : ∀ (e1 : Slots) (ys : List PV) (vs : List V) (H1 F1 : Hp), e1.length = σ.length → vs.length = ys.length → Good B O (ze K T e1 σ ++ (L ++ zc K T ys vs)) H1 F1 → (∀ rv', σ[q.1]? = some (some rv') → ∀ u', Leads T.adr H1 rv' q.2 u' → u' = u) →
              PG K T W B O L σ (okV K T B O L σ Q) (updM q (gm ys) e1) → V2 u vs H1 := fun e1 ys vs H1 F1 hl1 hn g1 hu k1 => by
            obtain ⟨root', sub', r, sub2, rv', u', t1, t2, t3, t4, t5, t6, t7⟩ := upd_run hl1.symm g1 hn k1
            obtain rfl := hu rv' t4 u' t5
            obtain ⟨adsz, hz, _⟩ := (by rw [← List.append_assoc] at g1; exact g1 : Good B O ((ze K T e1 σ ++ L) ++ zc K T ys vs) H1 F1).last
            exact h2 F1 H1 ys vs sub' u' r sub2 g1.exH (hkd _ _ _ _ t3) t6 ⟨_, okL_zc' hn hz⟩ t3 t7
          cases ha : argsP e es with
          | some ys =>
            rw [ha] at k
            unfold argsP at ha
            split at ha
            · obtain ⟨ys', a1, a2⟩ := bind1 ha
              split at a2
              · rename_i fz
                cases a2
                refine pqs kt es W hes a1 hl g fun vs hv => ?_
                have rz := rls_reps fz hv
                have gz := g.app (okL_zc rz)
                refine core e ys vs H F hl.symm rz.length (by rw [← List.append_assoc]; exact gz) (fun rv' t4 u' t5 => ?_) k
                rw [s1] at t4
                cases t4
                exact t5.det (f3 H fun _ _ => rfl)
              · cases a2
            · cases ha
          | none =>
            rw [ha] at k
            dsimp only at k
            unfold lockM at k
            split at k
            · rename_i hq2
              refine hx B O F H L e _ hl g ((PG_bind.mp k).imp fun ys e1 k1 hl1 vs H1 F1 hn g1 => ?_)
              refine core e1 ys vs H1 F1 hl1 hn (by rw [← List.append_assoc]; exact g1) (fun rv' t4 u' t5 => ?_) k1
              have hf := f3 H fun _ _ => rfl
              rw [hq2] at t5 hf
              rw [s1] at t4
              cases t4
              rw [show u' = rv from t5, show u = rv from hf]
            · rw [r1] at k
              dsimp only at k
              obtain ⟨rv2, t1, g0⟩ := slot_take hl g r1
              rw [s1] at t1
              cases t1
              have g1 : Good B O ([cv K T root rv] ++ (ze K T (e.set q.1 none) σ ++ L)) H F := g0.perm List.perm_append_comm
              obtain ⟨O2, a, k1, k2, k3, k4, g2, back⟩ := g1.frame'
              have hr := okL_one.mp k1
              obtain ⟨u2, rs2, c2, m1, m2, m3, m4⟩ := focus hr r2
              obtain rfl : u2 = u := (m3 H fun _ _ => rfl).det (f3 H fun _ _ => rfl)
              refine hx F O2 F H L (e.set q.1 none) _ (by simpa using hl) g2 ?_
              have kk := PG_bind.mp k
              cases qx : xa (e.set q.1 none) with
              | stuck => rw [qx] at kk; exact kk.elim
              | exc n e1 =>
                rw [qx] at kk
                intro hl1 H1 F1 g3
                obtain ⟨_, g4⟩ := back _ H1 F1 g3
                obtain ⟨F5, g5, _⟩ := Good.drop (ps := ze K T e1 σ ++ L) g4
                exact kk hl1 H1 F5 g5
              | ok ys e1 =>
                rw [qx] at kk
                intro hl1 vs H1 F1 hn g3
                obtain ⟨keep, g4⟩ := back _ H1 F1 g3
                have g5 : Good B O (ze K T e1 σ ++ (L ++ zc K T ys vs) ++ [(sdo K T (some root), some rv)]) H1 F1 := g4.perm (by
                  rw [List.append_assoc (ze K T e1 σ)]
                  exact List.perm_append_comm)
                obtain ⟨F6, g6, _⟩ := slot_back hl1.symm s1 g5
                refine core (e1.set q.1 (some root)) ys vs H1 F6 (by simpa using hl1) hn g6 (fun rv' t4 u' t5 => ?_) kk
                rw [s1] at t4
                cases t4
                exact t5.det (m3 H1 fun d hd => keep d (m1.mem_iff.mpr (List.mem_append_right _ hd)))
    · exact k.elim
theorem Good.open1 {ps X : List Rs} (g : Good B O (ps ++ X) H F) : ∃ b, OkL F H X b ∧ b.Nodup ∧ ∀ H' Y b', (∀ a, a ∉ b → H' a = H a) → OkL F H' Y b' → b'.Perm b → Good B O (ps ++ Y) H' F := by
  obtain ⟨ads, h1, h2, h3, h4, h5, h6⟩ := g
  obtain ⟨a, b, rfl, k1, k2⟩ := h1.split
  have nd := List.nodup_append.mp h2
  refine ⟨b, k2, nd.2.1, fun H' Y b' q1 q2 q3 => ?_⟩
  have pm : (a ++ b').Perm (a ++ b) := q3.append_left a
  refine ⟨a ++ b', (k1.loc (.refl _) fun d hd => q1 d fun hb => nd.2.2 d hd d hb rfl).append q2, (pm.nodup_iff).mpr h2, ?_, h4, fun d o q => ?_, fun d hd => h6 d (pm.mem_iff.mp hd)⟩
  · rw [h3, delO_congr (fun x => pm.mem_iff)]
    funext d
    unfold delO
    split
    · rfl
    · rename_i hd
      exact (q1 d fun z => hd (.inl (List.mem_append_right _ z))).symm
  · rw [q1 d fun z => ?_]
    · exact h5 d o q
    · rw [h6 d (List.mem_append_right _ z)] at q; cases q
/-- a change of what has no name -/
theorem fresh_ok (kt : KT K T) {p : CE} {es : List CE} {kd : PV → Bool} {gm : List PV → PV → Option (PV × PV)} {V1 : V → Hp → Prop} {V2 : V → List V → Hp → Prop} (sp : SXp K T p) (sl : SXl K T es) (hp : wf K T p) (hes : wfs K T es) (hl : σ.length = e.length) (g : Good B O (ze K T e σ ++ L) H F)
    (h1 : ∀ F H sub u, Ex F H → kd sub = true → rp K T F H sub u → V1 u H)
    (h2 : ∀ F H ys vs sub u z x, Ex F H → kd sub = true → rp K T F H sub u → (∃ as, reps K T.adr F H ys vs as) → gm ys sub = some (z, x) → (∀ vr H', Upd K T F H H' sub u ys vs x z vr → Q vr H') → V2 u vs H)
    (k : PG K T W B O L σ (okV K T B O L σ Q) (freshM kd es (evXs es) (evX p) gm e)) : (sem K T p W).1 σ H fun u H1 => V1 u H1 ∧ (taOf (sems K T es W).1) σ H1 fun vs H2 => V2 u vs H2 := by
  unfold freshM at k
  refine sp W B O F H L e σ _ hp hl g ((PG_bind.mp k).imp fun x e1 k1 hl1 u H1 F1 g1 => ?_)
  split at k1
  · rename_i hk
    obtain ⟨rs0, hx, _⟩ := rep_of g1
    refine ⟨h1 F1 H1 x u g1.exH hk ⟨_, hx⟩, ?_⟩
    cases ha : argsP e1 es with
    | none =>
      rw [ha] at k1
      unfold frE2 at k1
      refine sl W B O F1 H1 (L ++ [cv K T x u]) e1 σ _ hes hl1.symm (by rw [← List.append_assoc]; exact g1) (PG.imp (PG.more (PG_bind.mp k1)) fun ys e2 k2 hl2 vs H2 F2 hv g2 => ?_)
      obtain ⟨z, hz, k3⟩ := PG_ofO k2
      obtain ⟨⟨r, x'⟩, hg, rfl⟩ := map1 hz
      have g4 : Good B O ((ze K T e2 σ ++ L) ++ ([cv K T x u] ++ zc K T ys vs)) H2 F2 := by
        simp only [List.append_assoc] at g2 ⊢
        exact g2
      obtain ⟨ads4, ok4, nd4⟩ := g4.last
      obtain ⟨a4, b4, rfl, k41, k42⟩ := ok4.split
      refine h2 F2 H2 ys vs x u r x' g2.exH hk ⟨_, okL_one.mp k41⟩ ⟨_, okL_zc' hv k42⟩ hg fun vr H' up => ?_
      have g5 := g4.swap (H' := H') (Y := [cv K T r vr] ++ ([cv K T x' u] ++ [(.own junk, some .non)])) (fun ads ok nd => by
        obtain ⟨a, b, rfl, k1, k2⟩ := ok.split
        obtain ⟨t1, rs2, ar, dr, t2, t3, t4, t5⟩ := up a b (okL_one.mp k1) (okL_zc' hv k2) nd
        refine ⟨fun c hc => t1 c (fun z => hc (List.mem_append_left _ z)), ar ++ (rs2 ++ (dr ++ [])), OkL.cons (x := cv K T r vr) ⟨vr, rfl, t3⟩ (OkL.cons (x := cv K T x' u) ⟨u, rfl, t2⟩ (OkL.cons (x := (.own junk, some .non)) ⟨.non, rfl, t4⟩ .nil)), ?_⟩
        rw [List.append_nil]
        refine List.Perm.trans ?_ t5
        rw [← List.append_assoc, ← List.append_assoc]
        exact (List.perm_append_comm).append_right dr)
      rw [← List.append_assoc, ← List.append_assoc] at g5
      obtain ⟨F3, g6, _⟩ := drop1 g5
      obtain ⟨F4, g7, _⟩ := drop1 g6
      exact k3 hl2 vr H' F4 g7
    | some ys =>
      rw [ha] at k1
      unfold frE2 frE at k1
      obtain ⟨z, hz, k2⟩ := PG_ofO k1
      obtain ⟨⟨r, x'⟩, hg, rfl⟩ := map1 hz
      unfold argsP at ha
      split at ha
      · obtain ⟨ys', a1, a2⟩ := bind1 ha
        split at a2
        · rename_i fz
          cases a2
          refine pqs kt es W hes a1 hl1.symm (L := L ++ [cv K T x u]) (by rw [← List.append_assoc]; exact g1) fun vs hv => ?_
          have rz := rls_reps fz hv
          refine h2 F1 H1 ys vs x u r x' g1.exH hk ⟨_, hx⟩ ⟨_, rz⟩ hg fun vr H' up => ?_
          obtain ⟨b, q1, q2, q3⟩ := g1.open1
          obtain ⟨t1, rs2, ar, dr, t2, t3, t4, t5⟩ := up b [] (okL_one.mp q1) rz (by simpa using q2)
          have g3 := q3 H' ([cv K T r vr] ++ ([cv K T x' u] ++ [(.own junk, some .non)])) (ar ++ (rs2 ++ (dr ++ []))) t1 (OkL.cons (x := cv K T r vr) ⟨vr, rfl, t3⟩ (OkL.cons (x := cv K T x' u) ⟨u, rfl, t2⟩ (OkL.cons (x := (.own junk, some .non)) ⟨.non, rfl, t4⟩ .nil))) (by
            rw [List.append_nil] at t5 ⊢
            refine List.Perm.trans ?_ t5
            rw [← List.append_assoc, ← List.append_assoc]
            exact (List.perm_append_comm).append_right dr)
          rw [← List.append_assoc, ← List.append_assoc] at g3
          obtain ⟨F3, g4, _⟩ := drop1 g3
          obtain ⟨F4, g5, _⟩ := drop1 g4
          exact k2 hl1 vr H' F4 g5
        · cases a2
      · cases ha
  · exact k1.elim
/-- a change of a part of a tuple that has a name -/
theorem tup_ok (kt : KT K T) {p : CE} {es : List CE} {kd : PV → Bool} {gm : List PV → PV → Option (PV × PV)} {V1 : V → Hp → Prop} {V2 : V → List V → Hp → Prop} (hp : wf K T p) (hes : wfs K T es) (hl : σ.length = e.length) (g : Good B O (ze K T e σ ++ L) H F)
    (h1 : ∀ F H sub u, Ex F H → kd sub = true → rp K T F H sub u → V1 u H)
    (h2 : ∀ F H ys vs sub u z x, Ex F H → kd sub = true → rp K T F H sub u → (∃ as, reps K T.adr F H ys vs as) → gm ys sub = some (z, x) → (∀ vr H', Upd K T F H H' sub u ys vs x z vr → Q vr H') → V2 u vs H)
    (k : PG K T W B O L σ (okV K T B O L σ Q) (tupM kd p es gm e)) : (sem K T p W).1 σ H fun u H1 => V1 u H1 ∧ (taOf (sems K T es W).1) σ H1 fun vs H2 => V2 u vs H2 := by
  unfold tupM at k
  split at k
  · rename_i i q
    unfold tpI at k
    split at k
    · rename_i xs j r1 r2
      unfold tpN at k
      split at k
      · exact k.elim
      · rename_i n hn
        split at k
        · rename_i sub ys hs ha
          split at k
          · rename_i hk
            unfold tpU at k
            split at k
            · exact k.elim
            · rename_i z hg
              obtain ⟨r, x'⟩ := z
              obtain ⟨rv, s1, g0⟩ := slot_take hl g r1
              obtain ⟨b, q1, q2, q3⟩ := g0.open1
              obtain ⟨a, vs0, rfl, t1, t2⟩ := okL_one.mp q1
              obtain ⟨u, a1, c1, k1, k2, k3, k4⟩ := reps_at t2 hs
              refine ⟨.ref a, s1, pq kt q W hp.2 r2 hl g fun w ⟨_, hw⟩ => ?_⟩
              refine .inr (.inl ⟨a, vs0, j, u, rfl, rep_int hw, g.exH.sqT t1, ?_, ?_⟩)
              · unfold atI
                rw [t2.length, hn]
                exact k1
              refine ⟨h1 F H sub u g.exH hk ⟨_, k3⟩, ?_⟩
              unfold argsP at ha
              split at ha
              · obtain ⟨ys', m1, m2⟩ := bind1 ha
                split at m2
                · rename_i fz
                  cases m2
                  refine pqs kt es W hes m1 hl g fun vs hv => ?_
                  have rz := rls_reps fz hv
                  refine h2 F H ys vs sub u r x' g.exH hk ⟨_, k3⟩ ⟨_, rz⟩ hg fun vr H' up => ?_
                  have nd : (a1 ++ c1).Nodup := (k2.nodup_iff).mp q2
                  obtain ⟨u1, rs2, ar, dr, u2, u3, u4, u5⟩ := up a1 [] k3 rz (by simpa using (List.nodup_append.mp nd).1)
                  have cd : ∀ d ∈ c1, d ∉ a1 := fun d hd hr => (List.nodup_append.mp nd).2.2 d hr d hd rfl
                  obtain ⟨ad2, w1, w2⟩ := k4 F H' x' rs2 (.refl _) (fun d hd => u1 d (cd d hd)) u2
                  have g3 := q3 H' ([cv K T (.tup (xs.set n x')) (.ref a)] ++ ([cv K T r vr] ++ [(.own junk, some .non)])) (ad2 ++ (ar ++ (dr ++ []))) (fun d hd => u1 d fun hr => hd (k2.mem_iff.mpr (List.mem_append_left _ hr)))
                    (OkL.cons (x := cv K T (.tup (xs.set n x')) (.ref a)) ⟨_, rfl, a, vs0, rfl, t1, w2⟩ (OkL.cons (x := cv K T r vr) ⟨vr, rfl, u3⟩ (OkL.cons (x := (.own junk, some .non)) ⟨.non, rfl, u4⟩ .nil))) (by
                    rw [List.append_nil] at u5 ⊢
                    refine (w1.append_right _).trans (List.Perm.trans ?_ k2.symm)
                    refine List.Perm.trans ?_ (u5.append_right c1)
                    rw [List.append_assoc, List.append_assoc]
                    exact (List.perm_append_comm).append_left rs2)
                  rw [← List.append_assoc, ← List.append_assoc] at g3
                  obtain ⟨F3, g4, _⟩ := drop1 g3
                  have g5 : Good B O (ze K T (e.set i none) σ ++ (L ++ [cv K T r vr]) ++ [(sdo K T (some (.tup (xs.set n x'))), some (.ref a))]) H' F3 := g4.perm (by
                    rw [List.append_assoc, ← List.append_assoc (ze K T (e.set i none) σ)]
                    refine ((List.perm_append_comm).append_left _).trans ?_
                    rw [← List.append_assoc]
                    exact .refl _)
                  obtain ⟨F4, g6, _⟩ := slot_back (s := some (.tup (xs.set n x'))) (by simpa using hl) s1 g5
                  rw [List.set_set] at g6
                  exact k (by simpa using hl.symm) vr H' F4 (by rw [← List.append_assoc] at g6; exact g6)
                · cases m2
              · cases ha
          · exact k.elim
        · exact k.elim
    · exact k.elim
  · exact k.elim
end
end Rk

set_option Elab.async false
set_option linter.all false
set_option maxRecDepth 100000
set_option maxHeartbeats 1000000
namespace Rk
open PySem PySem.Spec PyProof.Rows L2
section
variable {K : PySem.W.Frag} {T : Tab} {B O F F' H H' : Hp} {ps L ts : List Rs} {e e' : Slots} {σ : L2.St} {x y z root sub : PV} {xs ys items : List PV} {u v w rv : V} {vs ws : List V} {ads bds : List Addr} {Q : VK} {i : Nat} {W : WX} {α β : Type} {P : α → Slots → Prop} {l : List Stp}
/-- a new instance, its arguments at hand -/
theorem make_ok {c : Str} {C : Addr} (hC : T.adr c = some C) {f : Fn} {as : List (PV × Option Nat)} (hl : σ.length = e.length) (hlt : lentOk σ as vs) (g : Good B O (ze K T e σ ++ L ++ zc K T (as.map (·.1)) vs) H F) (k : PG K T W B O L σ (okV K T B O L σ Q) (makeM c f as e)) :
    ∀ x dx, H x = none → H dx = none → dx ≠ x → spF K T.adr T.exc f (.ref x :: vs) (upd (upd H dx (.own x)) x (.ins C dx [])) (fun v H2 => v = .non ∧ Q (.ref x) H2) (WE W σ) := by
  intro x dx hx hdx hne
  have g1 := new_cell (o := .own x) g hdx
  have g2 := new_cell (o := .ins C dx []) g1 (p := x) (by rw [upd_ne (Ne.symm hne)]; exact hx)
  rw [List.append_assoc] at g2
  have g3 : Good B O (ze K T e σ ++ L ++ zc K T (as.map (·.1)) vs ++ [cv K T (.ins true c [] []) (.ref x)]) (upd (upd H dx (.own x)) x (.ins C dx [])) F := by
    refine g2.swap fun ads h nd => ⟨fun _ _ => rfl, ?_⟩
    obtain ⟨a, b, rfl, h1, h2⟩ := h.cut
    obtain ⟨rfl, h3⟩ := okL_cel h1
    obtain ⟨rfl, h4⟩ := okL_cel h2
    exact ⟨[x, dx], okL_one.mpr ⟨x, C, dx, [], [], rfl, hC, rfl, h4, h3, rfl, rfl⟩, .swap _ _ _⟩
  have g4 : Good B O ((ze K T e σ ++ L) ++ (zc K T (.ins true c [] [] :: as.map (·.1)) (.ref x :: vs))) (upd (upd H dx (.own x)) x (.ins C dx [])) F := g3.perm (by
    rw [List.append_assoc]
    refine List.Perm.append_left _ ?_
    exact List.perm_append_singleton _ _)
  obtain ⟨O2, g5, back⟩ := g4.frame
  have hlen := hlt.len
  refine ⟨.ins true c [] [] :: as.map (·.1), F, O2, by simp [hlen], g5, ?_⟩
  unfold makeM at k
  cases q : f (.ins true c [] [] :: as.map (·.1)) with
  | stuck => rw [q] at k; exact k.elim
  | exc n os =>
    rw [q] at k
    cases os with
    | nil => exact k.elim
    | cons o os =>
      intro Ce hCe H' F' ho g6
      have g7 : Good B O ((sdo K T o, some (.ref x)) :: ((ze K T e σ ++ L) ++ (ze K T os (vs.map some) ++ []))) H' F' := (back _ H' F' g6).perm (by rw [List.append_nil]; exact List.perm_middle)
      obtain ⟨F8, g8, _⟩ := g7.drop
      obtain ⟨F4, g9⟩ := back_good (R := []) hl hlt g8
      exact k (by rw [backM_len]; exact hl.symm) H' F4 (by simpa using g9) Ce hCe
  | ok y os =>
    rw [q] at k
    cases y with
    | non =>
      cases os with
      | nil => exact k.elim
      | cons o os =>
        cases o with
        | none => exact k.elim
        | some s =>
          intro v H' F' ho g6
          have g7 := back _ H' F' g6
          have g8 : Good B O (((ze K T e σ ++ L) ++ (ze K T os (vs.map some) ++ [cv K T s (.ref x)])) ++ [cv K T .non v]) H' F' := g7.perm (by
            rw [← List.append_assoc]
            refine List.Perm.append_right _ ?_
            refine List.Perm.append_left _ ?_
            exact (List.perm_append_singleton (cv K T s (.ref x)) (ze K T os (vs.map some))).symm)
          obtain ⟨_, r, _⟩ := rep_of g8
          obtain ⟨F9, g9, _⟩ := drop1 g8
          obtain ⟨F4, g10⟩ := back_good hl hlt g9
          exact ⟨rep_non r, k (by rw [backM_len]; exact hl.symm) _ H' F4 g10⟩
    | _ => exact k.elim
/-! ### walks -/
def iterV (K : PySem.W.Frag) : IK → List V → Hp → (It → Hp → Prop) → Prop
  | .lst, vs, H, R => ∃ a, vs = [.ref a] ∧ (∃ xs, SqL K H a xs) ∧ R (Itl K a) H
  | .tup, vs, H, R => ∃ a, vs = [.ref a] ∧ (∃ xs, SqT K H a xs) ∧ R (Itt K a) H
  | .rng1, vs, H, R => ∃ j : Int, vs = [.int j] ∧ -(2 ^ 62) ≤ j ∧ j < 2 ^ 62 ∧ R (Itr 0 j.toNat) H
  | .rng2, vs, H, R => ∃ i j : Int, vs = [.int i, .int j] ∧ (-(2 ^ 62) ≤ i ∧ i < 2 ^ 62 ∧ -(2 ^ 62) ≤ j ∧ j < 2 ^ 62) ∧ R (Itr i (j - i).toNat) H
  | .enum, vs, H, R => ∃ a xs, vs = [.ref a] ∧ SqL K H a xs ∧ R (Ite K a) H
  | .zip, vs, H, R => ∃ a b xs ys, vs = [.ref a, .ref b] ∧ SqL K H a xs ∧ SqL K H b ys ∧ R (Itz K a b) H
  | .rev, vs, H, R => ∃ (a : Addr) (xs : List V), vs = [.ref a] ∧ SqL K H a xs ∧ R (Itv K a xs.length) H
  | .str, vs, H, R => ∃ x, vs = [.str x] ∧ R (Its x) H
  | .rrg, vs, H, R => ∃ j : Int, vs = [.int j] ∧ -(2 ^ 62) ≤ (0 : Int) ∧ (0 : Int) < 2 ^ 62 ∧ -(2 ^ 62) ≤ j ∧ j < 2 ^ 62 ∧ R (Itc (0 + (((j - 0).toNat : Nat) : Int) - 1) (-1) (j - 0).toNat) H
theorem iterI_of {k : IK} {es : List CE} {R : It → Hp → Prop} (hn : es.length = ikN k) (h : (taOf (sems K T es W).1) σ H fun vs H1 => iterV K k vs H1 R) : iterI K k (sems K T es W).1 σ H R := by
  have one : ikN k = 1 → ∃ c, es = [c] := fun q => by
    rw [q] at hn
    match es, hn with
    | [c], _ => exact ⟨c, rfl⟩
  cases k
  case lst =>
    obtain ⟨c, rfl⟩ := one rfl
    have e1 : (fun x H1 => iterV K .lst [x] H1 R) = fun x H1 => ∃ a, x = .ref a ∧ (∃ xs, SqL K H1 a xs) ∧ R (Itl K a) H1 := by
      funext x H1
      simp [iterV]
    show (sem K T c W).1 σ H fun x H1 => ∃ a, x = .ref a ∧ (∃ xs, SqL K H1 a xs) ∧ R (Itl K a) H1
    rw [← e1]
    exact h
  case tup =>
    obtain ⟨c, rfl⟩ := one rfl
    have e1 : (fun x H1 => iterV K .tup [x] H1 R) = fun x H1 => ∃ a, x = .ref a ∧ (∃ xs, SqT K H1 a xs) ∧ R (Itt K a) H1 := by
      funext x H1
      simp [iterV]
    show (sem K T c W).1 σ H fun x H1 => ∃ a, x = .ref a ∧ (∃ xs, SqT K H1 a xs) ∧ R (Itt K a) H1
    rw [← e1]
    exact h
  case rrg =>
    obtain ⟨c, rfl⟩ := one rfl
    have e1 : (fun x H1 => iterV K .rrg [x] H1 R) = fun x H1 => ∃ j : Int, x = .int j ∧ -(2 ^ 62) ≤ (0 : Int) ∧ (0 : Int) < 2 ^ 62 ∧ -(2 ^ 62) ≤ j ∧ j < 2 ^ 62 ∧ R (Itc (0 + (((j - 0).toNat : Nat) : Int) - 1) (-1) (j - 0).toNat) H1 := by
      funext x H1
      simp [iterV]
    show (sem K T c W).1 σ H fun x H1 => ∃ j : Int, x = .int j ∧ -(2 ^ 62) ≤ (0 : Int) ∧ (0 : Int) < 2 ^ 62 ∧ -(2 ^ 62) ≤ j ∧ j < 2 ^ 62 ∧ R (Itc (0 + (((j - 0).toNat : Nat) : Int) - 1) (-1) (j - 0).toNat) H1
    rw [← e1]
    exact h
  case str =>
    obtain ⟨c, rfl⟩ := one rfl
    have e1 : (fun x H1 => iterV K .str [x] H1 R) = fun x H1 => ∃ z, x = .str z ∧ R (Its z) H1 := by
      funext x H1
      simp [iterV]
    show (sem K T c W).1 σ H fun x H1 => ∃ z, x = .str z ∧ R (Its z) H1
    rw [← e1]
    exact h
  all_goals exact h
/-- what a walk yields: the items, one by one -/
structure Wlk (K : PySem.W.Frag) (T : Tab) (J : It) (items xs : List PV) (vs : List V) : Prop where
  stop : ∀ F H i, Ex F H → rls K T F H xs vs → items.length ≤ i → J.stop i H
  go : ∀ F H i, Ex F H → rls K T F H xs vs → i < items.length → J.go i H
  yld : ∀ B O ps F H i v H', Good B O ps H F → rls K T F H xs vs → i < items.length → J.yld i H v H' → ∃ x, items[i]? = some x ∧ ∃ F', Good B O (ps ++ [cv K T x v]) H' F' ∧ Ex F F'
theorem seq_ok (h : seqQ x = some items) (ex : Ex F H) (r : rp K T F H x v) : ∃ a us, v = .ref a ∧ SqL K H a us ∧ reps K T.adr F H items us [] := by
  obtain ⟨_, r⟩ := r
  unfold seqQ at h
  split at h
  · split at h
    · rename_i f
      cases h
      obtain ⟨a, us, q, rfl, h1, h2⟩ := rep_lst ex r
      exact ⟨a, us, rfl, .inl (.inl h1), fz0 f h2⟩
    · cases h
  · cases h
    obtain ⟨a, rfl, h1⟩ := rep_scr ex r
    exact ⟨a, _, rfl, h1, reps_ints⟩
  · cases h
theorem reps0_ix {j : Nat} (h : reps K T.adr F H xs vs []) (q : vs[j]? = some v) : ∃ x, xs[j]? = some x ∧ rep K T.adr F H x v [] := by
  have hj : j < xs.length := by
    have := (List.getElem?_eq_some_iff.mp q).1
    rwa [h.length] at this
  obtain ⟨v', a, c, h1, h2, h3, _⟩ := reps_pick h (List.getElem?_eq_getElem hj)
  rw [q] at h1
  cases h1
  have := (List.append_eq_nil_iff.mp (List.perm_nil.mp h2.symm)).1
  exact ⟨_, List.getElem?_eq_getElem hj, by rw [this] at h3; exact h3⟩
theorem reps0_of {j : Nat} (h : reps K T.adr F H xs vs []) (q : xs[j]? = some x) : ∃ v, vs[j]? = some v ∧ rep K T.adr F H x v [] := by
  obtain ⟨v', a, c, h1, h2, h3, _⟩ := reps_pick h q
  have := (List.append_eq_nil_iff.mp (List.perm_nil.mp h2.symm)).1
  exact ⟨_, h1, by rw [this] at h3; exact h3⟩
theorem rls_one (h : rls K T F H [x] vs) : ∃ v, vs = [v] ∧ rp K T F H x v := by
  cases vs with
  | nil => exact h.elim
  | cons v vs => cases vs with
    | nil => exact ⟨v, rfl, h.1⟩
    | cons _ _ => exact h.2.elim
theorem rls_two (h : rls K T F H [x, y] vs) : ∃ v w, vs = [v, w] ∧ rp K T F H x v ∧ rp K T F H y w := by
  cases vs with
  | nil => exact h.elim
  | cons v vs =>
    obtain ⟨w, rfl, r⟩ := rls_one h.2
    exact ⟨v, w, rfl, h.1, r⟩
abbrev WalkOk (K : PySem.W.Frag) (T : Tab) (k : IK) (items xs : List PV) (vs : List V) (H : Hp) : Prop := ∃ J, Wlk K T J items xs vs ∧ ∀ R : It → Hp → Prop, R J H → iterV K k vs H R
theorem walk_lst (h : seqQ x = some items) (ex : Ex F H) (r : rls K T F H [x] vs) : WalkOk K T .lst items [x] vs H := by
  obtain ⟨v, rfl, r0⟩ := rls_one r
  obtain ⟨a, us, rfl, h1, h2⟩ := seq_ok h ex r0
  refine ⟨Itl K a, ⟨fun F H i ex r hi => ?_, fun F H i ex r hi => ?_, fun B O ps F H i v H' g r hi hy => ?_⟩, fun R q => ⟨a, rfl, ⟨us, h1⟩, q⟩⟩
  · obtain ⟨a', us, e1, h1, h2⟩ := seq_ok h ex r.1
    cases e1
    exact ⟨us, h1, by rw [h2.length]; exact hi⟩
  · obtain ⟨a', us, e1, h1, h2⟩ := seq_ok h ex r.1
    cases e1
    obtain ⟨v, q1, _⟩ := reps0_of h2 (List.getElem?_eq_getElem hi)
    exact ⟨us, v, h1, q1⟩
  · obtain ⟨a', us, e1, h1, h2⟩ := seq_ok h g.exH r.1
    cases e1
    obtain ⟨rfl, hy⟩ := hy
    obtain ⟨x, q1, q2⟩ := reps0_ix h2 (hy us h1)
    exact ⟨x, q1, F, dup g q2, .refl _⟩
theorem walk_tup {its : List PV} (f : isFs its = true) (ex : Ex F H) (r : rls K T F H [.tup its] vs) : WalkOk K T .tup its [.tup its] vs H := by
  obtain ⟨v, rfl, r0⟩ := rls_one r
  have key : ∀ {F H : Hp}, Ex F H → rp K T F H (.tup its) v → ∃ a us, v = .ref a ∧ SqT K H a us ∧ reps K T.adr F H its us [] := fun ex ⟨_, r⟩ => by
    obtain ⟨a, us, q, rfl, h1, h2⟩ := rep_tup ex r
    exact ⟨a, us, rfl, h1, fz0 f h2⟩
  obtain ⟨a, us, rfl, h1, h2⟩ := key ex r0
  refine ⟨Itt K a, ⟨fun F H i ex r hi => ?_, fun F H i ex r hi => ?_, fun B O ps F H i v H' g r hi hy => ?_⟩, fun R q => ⟨a, rfl, ⟨us, h1⟩, q⟩⟩
  · obtain ⟨a', us, e1, h1, h2⟩ := key ex r.1
    cases e1
    exact ⟨us, h1, by rw [h2.length]; exact hi⟩
  · obtain ⟨a', us, e1, h1, h2⟩ := key ex r.1
    cases e1
    obtain ⟨v, q1, _⟩ := reps0_of h2 (List.getElem?_eq_getElem hi)
    exact ⟨us, v, h1, q1⟩
  · obtain ⟨a', us, e1, h1, h2⟩ := key g.exH r.1
    cases e1
    obtain ⟨rfl, hy⟩ := hy
    obtain ⟨x, q1, q2⟩ := reps0_ix h2 (hy us h1)
    exact ⟨x, q1, F, dup g q2, .refl _⟩
theorem rng_wlk {a b : Int} : Wlk K T (Itr a (b - a).toNat) ((rangeL a b).map PV.int) xs vs := by
  have len : ((rangeL a b).map PV.int).length = (b - a).toNat := by simp [rangeL]
  refine ⟨fun F H i ex r hi => ?_, fun F H i ex r hi => ?_, fun B O ps F H i v H' g r hi hy => ?_⟩
  · rw [len] at hi; exact hi
  · rw [len] at hi; exact hi
  · obtain ⟨rfl, rfl⟩ := hy
    rw [len] at hi
    exact ⟨.int (a + (i : Int)), by simp [rangeL, List.getElem?_range hi], F, dup g ⟨rfl, rfl⟩, .refl _⟩
theorem walk_rng1 {n : Int} (h : rngQ 0 n = some items) (r : rls K T F H [.int n] vs) : WalkOk K T .rng1 items [.int n] vs H := by
  obtain ⟨v, rfl, ⟨_, r1⟩⟩ := rls_one r
  unfold rngQ at h
  split at h
  · rename_i hc
    cases h
    have := rng_wlk (K := K) (T := T) (a := 0) (b := n) (xs := [.int n]) (vs := [v])
    rw [Int.sub_zero] at this
    exact ⟨Itr 0 n.toNat, this, fun R q => ⟨n, by rw [rep_int r1], hc.2.2.1, hc.2.2.2, q⟩⟩
  · cases h
theorem walk_rrg {n : Int} {its : List PV} (h : rngQ 0 n = some its) (r : rls K T F H [.int n] vs) : WalkOk K T .rrg its.reverse [.int n] vs H := by
  obtain ⟨v, rfl, ⟨_, r1⟩⟩ := rls_one r
  unfold rngQ at h
  split at h
  · rename_i hc
    cases h
    have len : ((rangeL 0 n).map PV.int).reverse.length = (n - 0).toNat := by simp [rangeL]
    refine ⟨Itc (0 + (((n - 0).toNat : Nat) : Int) - 1) (-1) (n - 0).toNat, ⟨fun F H i ex r hi => ?_, fun F H i ex r hi => ?_, fun B O ps F H i v H' g r hi hy => ?_⟩, fun R q => ⟨n, by rw [rep_int r1], hc.1, hc.2.1, hc.2.2.1, hc.2.2.2, q⟩⟩
    · rw [len] at hi; exact hi
    · rw [len] at hi; exact hi
    · obtain ⟨rfl, rfl⟩ := hy
      rw [len] at hi
      refine ⟨.int (0 + (((n - 0).toNat : Nat) : Int) - 1 + (i : Nat) * (-1)), ?_, F, dup g ⟨rfl, rfl⟩, .refl _⟩
      rw [List.getElem?_reverse (by simp [rangeL]; omega)]
      have : (n - 0).toNat - 1 - i < (n - 0).toNat := by omega
      simp only [rangeL, List.length_map, List.length_range, List.getElem?_map, List.getElem?_range this, Option.map_some]
      congr 2
      omega
  · cases h
theorem walk_rng2 {a b : Int} (h : rngQ a b = some items) (r : rls K T F H [.int a, .int b] vs) : WalkOk K T .rng2 items [.int a, .int b] vs H := by
  obtain ⟨v, w, rfl, ⟨_, r1⟩, ⟨_, r2⟩⟩ := rls_two r
  unfold rngQ at h
  split at h
  · rename_i hc
    cases h
    exact ⟨Itr a (b - a).toNat, rng_wlk, fun R q => ⟨a, b, by rw [rep_int r1, rep_int r2], hc, q⟩⟩
  · cases h
theorem fresh_F {t : Addr} (g : Good B O ps H F) (ht : H t = none) : F t = none := by
  cases q : F t with
  | none => rfl
  | some o => have := g.exH t o q; rw [ht] at this; cases this
theorem walk_enum {its : List PV} (h : seqQ x = some its) (ex : Ex F H) (r : rls K T F H [x] vs) : WalkOk K T .enum (enumL its) [x] vs H := by
  obtain ⟨v, rfl, r0⟩ := rls_one r
  obtain ⟨a, us, rfl, h1, h2⟩ := seq_ok h ex r0
  have len : (enumL its).length = its.length := by simp [enumL]
  refine ⟨Ite K a, ⟨fun F H i ex r hi => ?_, fun F H i ex r hi => ?_, fun B O ps F H i v H' g r hi hy => ?_⟩, fun R q => ⟨a, us, rfl, h1, q⟩⟩
  · obtain ⟨a', us, e1, h1, h2⟩ := seq_ok h ex r.1
    cases e1
    rw [len] at hi
    exact ⟨us, h1, by rw [h2.length]; exact hi⟩
  · obtain ⟨a', us, e1, h1, h2⟩ := seq_ok h ex r.1
    cases e1
    rw [len] at hi
    obtain ⟨v, q1, _⟩ := reps0_of h2 (List.getElem?_eq_getElem hi)
    exact ⟨us, v, h1, q1⟩
  · obtain ⟨a', us, e1, h1, h2⟩ := seq_ok h g.exH r.1
    cases e1
    obtain ⟨t, xv, rfl, ht, rfl, hy⟩ := hy
    obtain ⟨x, q1, q2⟩ := reps0_ix h2 (hy us h1)
    have g2 := g.app (okL_zc (xs := [.int i, x]) (vs := [.int (i : Nat), xv]) (ads := []) (K := K) (T := T) ⟨[], [], rfl, ⟨rfl, rfl⟩, [], [], rfl, q2, rfl⟩)
    refine ⟨.tup [.int i, x], ?_, _, new_tup rfl g2 ht, Ex.new (fresh_F g ht)⟩
    unfold enumL
    rw [List.getElem?_map, List.getElem?_zipIdx, q1]
    simp
theorem walk_zip {as bs : List PV} (ha : seqQ x = some as) (hb : seqQ y = some bs) (ex : Ex F H) (r : rls K T F H [x, y] vs) : WalkOk K T .zip (zipL as bs) [x, y] vs H := by
  obtain ⟨v, w, rfl, r1, r2⟩ := rls_two r
  obtain ⟨a, us, rfl, h1, h2⟩ := seq_ok ha ex r1
  obtain ⟨b, ws, rfl, h3, h4⟩ := seq_ok hb ex r2
  have len : (zipL as bs).length = min as.length bs.length := by simp [zipL]
  refine ⟨Itz K a b, ⟨fun F H i ex r hi => ?_, fun F H i ex r hi => ?_, fun B O ps F H i v H' g r hi hy => ?_⟩, fun R q => ⟨a, b, us, ws, rfl, h1, h3, q⟩⟩
  · obtain ⟨a', us, e1, h1, h2⟩ := seq_ok ha ex r.1
    obtain ⟨b', ws, e2, h3, h4⟩ := seq_ok hb ex r.2.1
    cases e1; cases e2
    rw [len] at hi
    exact ⟨us, ws, h1, h3, by rw [h2.length, h4.length]; omega⟩
  · obtain ⟨a', us, e1, h1, h2⟩ := seq_ok ha ex r.1
    obtain ⟨b', ws, e2, h3, h4⟩ := seq_ok hb ex r.2.1
    cases e1; cases e2
    rw [len] at hi
    obtain ⟨v, q1, _⟩ := reps0_of h2 (List.getElem?_eq_getElem (by omega : i < as.length))
    obtain ⟨w, q2, _⟩ := reps0_of h4 (List.getElem?_eq_getElem (by omega : i < bs.length))
    exact ⟨us, ws, v, w, h1, h3, q1, q2⟩
  · obtain ⟨a', us, e1, h1, h2⟩ := seq_ok ha g.exH r.1
    obtain ⟨b', ws, e2, h3, h4⟩ := seq_ok hb g.exH r.2.1
    cases e1; cases e2
    obtain ⟨t, xv, yv, rfl, ht, rfl, hy1, hy2⟩ := hy
    obtain ⟨x, q1, q2⟩ := reps0_ix h2 (hy1 us h1)
    obtain ⟨y, q3, q4⟩ := reps0_ix h4 (hy2 ws h3)
    have g2 := g.app (okL_zc (xs := [x, y]) (vs := [xv, yv]) (ads := []) (K := K) (T := T) ⟨[], [], rfl, q2, [], [], rfl, q4, rfl⟩)
    refine ⟨.tup [x, y], ?_, _, new_tup rfl g2 ht, Ex.new (fresh_F g ht)⟩
    unfold zipL
    rw [List.getElem?_map, show (as.zip bs)[i]? = some (x, y) from by rw [List.getElem?_zip_eq_some]; exact ⟨q1, q3⟩]
    rfl
theorem walk_rev {its : List PV} (h : seqQ x = some its) (ex : Ex F H) (r : rls K T F H [x] vs) : WalkOk K T .rev its.reverse [x] vs H := by
  obtain ⟨v, rfl, r0⟩ := rls_one r
  obtain ⟨a, us, rfl, h1, h2⟩ := seq_ok h ex r0
  have hn := h2.length
  refine ⟨Itv K a us.length, ⟨fun F H i ex r hi => ?_, fun F H i ex r hi => ?_, fun B O ps F H i v H' g r hi hy => ?_⟩, fun R q => ⟨a, us, rfl, h1, q⟩⟩
  · rw [List.length_reverse] at hi
    show us.length ≤ i
    omega
  · rw [List.length_reverse] at hi
    obtain ⟨a', us', e1, h1, h2⟩ := seq_ok h ex r.1
    cases e1
    obtain ⟨v, q1, _⟩ := reps0_of h2 (List.getElem?_eq_getElem (by omega : us.length - 1 - i < its.length))
    exact ⟨by omega, us', v, h1, q1⟩
  · rw [List.length_reverse] at hi
    obtain ⟨a', us', e1, h1, h2⟩ := seq_ok h g.exH r.1
    cases e1
    obtain ⟨rfl, hy⟩ := hy
    obtain ⟨x, q1, q2⟩ := reps0_ix h2 (hy us' h1)
    refine ⟨x, ?_, F, dup g q2, .refl _⟩
    rw [List.getElem?_reverse hi, ← hn]
    exact q1
theorem walk_str {s : Str} (r : rls K T F H [.str s] vs) : WalkOk K T .str (s.cps.toList.map fun c => .str ⟨#[c]⟩) [.str s] vs H := by
  obtain ⟨v, rfl, ⟨_, r1⟩⟩ := rls_one r
  have len : (s.cps.toList.map fun c => PV.str ⟨#[c]⟩).length = s.cps.size := by simp
  refine ⟨Its s, ⟨fun F H i ex r hi => ?_, fun F H i ex r hi => ?_, fun B O ps F H i v H' g r hi hy => ?_⟩, fun R q => ⟨s, by rw [rep_str r1], q⟩⟩
  · rw [len] at hi; exact hi
  · rw [len] at hi; exact hi
  · obtain ⟨rfl, c, hc, rfl⟩ := hy
    exact ⟨.str ⟨#[c]⟩, by rw [List.getElem?_map, Array.getElem?_toList, hc]; rfl, F, dup g ⟨rfl, rfl⟩, .refl _⟩
theorem walk_ok {k : IK} (h : iterQ k xs = some items) (ex : Ex F H) (r : rls K T F H xs vs) : WalkOk K T k items xs vs H := by
  unfold iterQ at h
  split at h
  · exact walk_lst h ex r
  · split at h
    · rename_i f
      cases h
      exact walk_tup f ex r
    · cases h
  · exact walk_rng1 h r
  · exact walk_rng2 h r
  · obtain ⟨its, h', rfl⟩ := map1 h
    exact walk_enum h' ex r
  · obtain ⟨as, ha, h⟩ := bind1 h
    obtain ⟨bs, hb, rfl⟩ := map1 h
    exact walk_zip ha hb ex r
  · obtain ⟨its, h', rfl⟩ := map1 h
    exact walk_rev h' ex r
  · cases h
    exact walk_str r
  · obtain ⟨its, h', rfl⟩ := map1 h
    exact walk_rrg h' r
  · cases h
end
end Rk

set_option Elab.async false
set_option linter.all false
set_option maxRecDepth 100000
set_option maxHeartbeats 1000000
namespace Rk
open PySem PySem.Spec PyProof.Rows L2
section
variable {K : PySem.W.Frag} {T : Tab} {B O F F' H H' : Hp} {ps L ts : List Rs} {e e' e0 : Slots} {σ σ' : L2.St} {x y z root sub : PV} {xs ys items : List PV} {u v w rv : V} {vs ws : List V} {ads bds : List Addr} {Q : VK} {i : Nat} {W : WX} {α β : Type} {P : α → Slots → Prop} {l : List Stp}
/-! ### targets -/
theorem set_good (hl : σ.length = e.length) (g : Good B O (ze K T e σ ++ L ++ [cv K T x v]) H F) : ∃ F', Good B O (ze K T (e.set i (some x)) (σ.set i (some v)) ++ L) H F' := by
  by_cases hi : i < e.length
  · obtain ⟨F1, g1, _⟩ := slot_put (s := some x) hl hi g
    exact ⟨F1, g1⟩
  · rw [List.set_eq_of_length_le (by omega), List.set_eq_of_length_le (by omega)]
    obtain ⟨F1, g1, _⟩ := drop1 g
    exact ⟨F1, g1⟩
theorem sets_ok {N : L2.St → Hp → Prop} : ∀ {is : List Nat} {xs : List PV} {vs : List V} {e e' : Slots} {σ : L2.St} {F : Hp}, setsM is xs e = some e' → σ.length = e.length → vs.length = xs.length → Good B O (ze K T e σ ++ L ++ zc K T xs vs) H F →
    (∀ σ' F', σ'.length = σ.length → (∀ j, j ∉ is → σ'[j]? = σ[j]?) → e'.length = e.length → Good B O (ze K T e' σ' ++ L) H F' → N σ' H) → gNames is vs σ H N
  | [], [], [], e, e', σ, F, h, hl, _, g, k => by
    cases h
    exact ⟨rfl, k σ F rfl (fun _ _ => rfl) rfl (by have := g; rw [show zc K T [] [] = [] from rfl, List.append_nil] at this; exact this)⟩
  | [], _ :: _, _, e, e', σ, F, h, _, _, _, _ => by cases h
  | _ :: _, [], _, e, e', σ, F, h, _, _, _, _ => by cases h
  | i :: is, x :: xs, v :: vs, e, e', σ, F, h, hl, hn, g, k => by
    have g1 : Good B O (ze K T e σ ++ (L ++ zc K T xs vs) ++ [cv K T x v]) H F := g.perm (by
      show (ze K T e σ ++ L ++ (cv K T x v :: zc K T xs vs)).Perm _
      refine List.perm_middle.trans ?_
      rw [List.append_assoc (ze K T e σ)]
      exact (List.perm_append_singleton _ _).symm)
    obtain ⟨F1, g2⟩ := set_good (i := i) hl g1
    rw [← List.append_assoc] at g2
    refine ⟨v, vs, rfl, sets_ok (is := is) h (by simpa using hl) (by simpa using hn) g2 fun σ' F' hl' hk he g3 => k σ' F' (by simpa using hl') (fun j hj => ?_) (by simpa using he) g3⟩
    rw [hk j fun z => hj (by simp [z]), List.getElem?_set_ne fun z => hj (by simp [z])]
theorem setsM_lt : ∀ {is : List Nat} {xs : List PV} {e e' : Slots}, setsM is xs e = some e' → xs.length = is.length ∧ e'.length = e.length
  | [], [], e, e', h => by cases h; exact ⟨rfl, rfl⟩
  | [], _ :: _, e, e', h => by cases h
  | _ :: _, [], e, e', h => by cases h
  | i :: is, x :: xs, e, e', h => by
    obtain ⟨h1, h2⟩ := setsM_lt (is := is) h
    exact ⟨by simp [h1], by simpa using h2⟩
theorem take_ok {tg : List Nat} {N : L2.St → Hp → Prop} (h : takeM tg x e = some e') (hl : σ.length = e.length) (g : Good B O (ze K T e σ ++ L ++ [cv K T x v]) H F)
    (k : ∀ σ' F', σ'.length = σ.length → (∀ j, j ∉ tg → σ'[j]? = σ[j]?) → e'.length = e.length → Good B O (ze K T e' σ' ++ L) H F' → N σ' H) : tgG K tg v σ H N := by
  have tupc : ∀ xs, x = .tup xs → setsM tg xs e = some e' → gTup K tg.length (gNames tg) v σ H N := fun xs hx h' => by
    subst hx
    obtain ⟨a, vs, rfl, h2, h3, g2⟩ := tup_open g
    exact ⟨a, vs, rfl, g2.exH.sqT h2, by rw [h3, (setsM_lt h').1], sets_ok h' hl h3 g2 k⟩
  unfold takeM at h
  split at h
  · rename_i i
    cases h
    obtain ⟨F1, g1⟩ := set_good (i := i) hl g
    exact k _ F1 (by simp) (fun j hj => List.getElem?_set_ne fun z => hj (by simp [z])) (by simp) g1
  · rename_i hne
    split at h
    · rename_i xs
      have := tupc xs rfl h
      unfold tgG
      split
      · rename_i i; exact absurd rfl (hne i)
      · exact this
    · cases h
/-! ### the slots of a comprehension's names are put by -/
theorem wipe_get : ∀ {tg : List Nat} {j : Nat}, (wipe σ tg)[j]? = if j ∈ tg then (if j < σ.length then some none else none) else σ[j]?
  | [], j => by simp [wipe]
  | v :: vs, j => by
    unfold wipe
    by_cases e : v = j
    · subst e
      rw [if_pos (by simp)]
      by_cases h : v < σ.length
      · rw [if_pos h, List.getElem?_set_self (by rw [wipe_length]; exact h)]
      · rw [if_neg h, List.getElem?_eq_none (by rw [List.length_set, wipe_length]; omega)]
    · rw [List.getElem?_set_ne e, wipe_get (tg := vs)]
      by_cases m : j ∈ vs
      · rw [if_pos m, if_pos (List.mem_cons_of_mem _ m)]
      · rw [if_neg m, if_neg (by simp [m, Ne.symm e])]
theorem wipe_eq' {tg : List Nat} (hl : σ'.length = σ.length) (h : ∀ j, j ∉ tg → σ'[j]? = σ[j]?) : wipe σ' tg = wipe σ tg := by
  apply List.ext_getElem?
  intro j
  rw [wipe_get, wipe_get, hl]
  by_cases m : j ∈ tg
  · rw [if_pos m, if_pos m]
  · rw [if_neg m, if_neg m]; exact h j m
theorem wipe_wipe {tg : List Nat} : wipe (wipe σ tg) tg = wipe σ tg := wipe_eq' (wipe_length _ _) fun j hj => by rw [wipe_get, if_neg hj]
theorem killM_comm : ∀ {tg : List Nat} {e : Slots} {i : Nat}, killM tg (e.set i none) = (killM tg e).set i none
  | [], _, _ => rfl
  | j :: tg, e, i => by
    show killM tg ((e.set i none).set j none) = (killM tg (e.set j none)).set i none
    rw [← killM_comm (tg := tg)]
    by_cases q : i = j
    · subst q; rfl
    · rw [List.set_comm _ _ q]
theorem killM_slot : ∀ {tg : List Nat} {e : Slots} {i : Nat}, i ∉ tg → (killM tg e)[i]? = e[i]?
  | [], _, _, _ => rfl
  | j :: tg, e, i, h => by
    show (killM tg (e.set j none))[i]? = _
    rw [killM_slot (tg := tg) fun z => h (by simp [z]), List.getElem?_set_ne fun z => h (by simp [z])]
def stX (K : PySem.W.Frag) (T : Tab) (tg : List Nat) (e : Slots) (σ : L2.St) : List Rs := tg.map fun i => (sdo K T (slot e i), (σ[i]?).join)
theorem knowAny' {o : Option V} (g : Good B O ps H F) : Good B O (ps ++ [(.any, o)]) H F := g.app (.cons (show okSd F H [] (.any, o) from rfl) .nil)
theorem stash : ∀ {tg : List Nat}, nodupB tg = true → σ.length = e.length → Good B O (ze K T e σ ++ L) H F → Good B O (ze K T (killM tg e) (wipe σ tg) ++ (L ++ stX K T tg e σ)) H F
  | [], _, hl, g => by
    show Good B O (ze K T e σ ++ (L ++ [])) H F
    rw [List.append_nil]; exact g
  | i :: tg, nd, hl, g => by
    simp only [nodupB, Bool.and_eq_true, decide_eq_true_eq] at nd
    have g1 := stash (tg := tg) nd.2 hl g
    have hl1 : (wipe σ tg).length = (killM tg e).length := by rw [wipe_length, killM_len]; exact hl
    have e1 : killM (i :: tg) e = (killM tg e).set i none := killM_comm
    have e2 : wipe σ (i :: tg) = (wipe σ tg).set i none := rfl
    have e3 : stX K T (i :: tg) e σ = (sdo K T (slot e i), (σ[i]?).join) :: stX K T tg e σ := rfl
    rw [e1, e2, e3]
    have hk : (killM tg e)[i]? = e[i]? := killM_slot nd.1
    have hw : (wipe σ tg)[i]? = σ[i]? := by rw [wipe_get, if_neg nd.1]
    by_cases hi : i < e.length
    · have hs : (killM tg e)[i]? = some (slot e i) := by
        rw [hk, List.getElem?_eq_getElem hi]
        unfold slot
        rw [List.getElem?_eq_getElem hi]
        rfl
      obtain ⟨o, ps, h1, h2, h3⟩ := ze_at (K := K) (T := T) hl1 hs
      have ho : (σ[i]?).join = o := by rw [← hw, h1]; rfl
      rw [ho]
      have g2 : Good B O ((sdo K T (slot e i), o) :: (ps ++ (L ++ stX K T tg e σ)) ++ [(Sd.any, none)]) H F := knowAny' (g1.perm (h2.append_right _))
      refine g2.perm ?_
      refine (List.perm_append_singleton _ _).trans ?_
      have p1 : ((Sd.any, none) :: ps).Perm (ze K T ((killM tg e).set i none) ((wipe σ tg).set i none)) := (h3 none none).symm
      refine (List.Perm.swap _ _ _).trans ?_
      have p2 : ((Sd.any, (none : Option V)) :: (ps ++ (L ++ stX K T tg e σ))).Perm (ze K T ((killM tg e).set i none) ((wipe σ tg).set i none) ++ (L ++ stX K T tg e σ)) := p1.append_right _
      refine (p2.cons _).trans ?_
      rw [← List.append_assoc, ← List.append_assoc]
      exact List.perm_middle.symm
    · have hi' : e.length ≤ i := Nat.le_of_not_lt hi
      rw [List.set_eq_of_length_le (by rw [killM_len]; exact hi'), List.set_eq_of_length_le (by rw [wipe_length, hl]; exact hi')]
      have q1 : slot e i = none := by unfold slot; rw [List.getElem?_eq_none hi']; rfl
      have q2 : (σ[i]?).join = none := by rw [List.getElem?_eq_none (by rw [hl]; exact hi')]; rfl
      rw [q1, q2]
      refine (knowAny' (o := none) g1).perm ?_
      refine (List.perm_append_singleton _ _).trans ?_
      rw [← List.append_assoc, ← List.append_assoc]
      exact List.perm_middle.symm
theorem keepM_len : ∀ {tg : List Nat} {e0 e : Slots}, (keepM tg e0 e).length = e.length
  | [], _, _ => rfl
  | i :: tg, e0, e => (keepM_len (tg := tg)).trans (by simp)
theorem unstash : ∀ {tg : List Nat} {e' : Slots} {F : Hp}, nodupB tg = true → σ.length = e'.length → Good B O (ze K T e' (wipe σ tg) ++ (L ++ stX K T tg e σ)) H F → ∃ F', Good B O (ze K T (keepM tg e e') σ ++ L) H F'
  | [], e', F, _, hl, g => ⟨F, by have : Good B O (ze K T e' σ ++ (L ++ [])) H F := g; rw [List.append_nil] at this; exact this⟩
  | i :: tg, e', F, nd, hl, g => by
    simp only [nodupB, Bool.and_eq_true, decide_eq_true_eq] at nd
    have e2 : wipe σ (i :: tg) = (wipe σ tg).set i none := rfl
    have e3 : stX K T (i :: tg) e σ = (sdo K T (slot e i), (σ[i]?).join) :: stX K T tg e σ := rfl
    rw [e2, e3] at g
    have hw : (wipe σ tg)[i]? = σ[i]? := by rw [wipe_get, if_neg nd.1]
    have g1 : Good B O ((sdo K T (slot e i), (σ[i]?).join) :: (ze K T e' ((wipe σ tg).set i none) ++ (L ++ stX K T tg e σ))) H F := g.perm (by
      rw [← List.append_assoc, ← List.append_assoc]
      exact List.perm_middle)
    by_cases hi : i < e'.length
    · have hl1 : ((wipe σ tg).set i none).length = e'.length := by rw [List.length_set, wipe_length]; exact hl
      obtain ⟨o, ps, h1, h2, h3⟩ := ze_at (K := K) (T := T) hl1 (List.getElem?_eq_getElem hi)
      have g2 : Good B O ((sdo K T e'[i], o) :: ((sdo K T (slot e i), (σ[i]?).join) :: (ps ++ (L ++ stX K T tg e σ)))) H F := g1.perm (by
        refine List.Perm.trans ((h2.append_right _).cons _) ?_
        exact List.Perm.swap _ _ _)
      obtain ⟨F3, g3, _⟩ := g2.drop
      have h4 := h3 (slot e i) (σ[i]?).join
      have e5 : ((wipe σ tg).set i none).set i (σ[i]?).join = wipe σ tg := by
        rw [List.set_set]
        refine set_same' ?_
        rw [hw]
        cases q : σ[i]? with
        | none => rw [List.getElem?_eq_none_iff] at q; omega
        | some o => rfl
      rw [e5] at h4
      have g4 : Good B O (ze K T (e'.set i (slot e i)) (wipe σ tg) ++ (L ++ stX K T tg e σ)) H F3 := g3.perm (h4.symm.append_right _)
      exact unstash (tg := tg) nd.2 (by simpa using hl) g4
    · obtain ⟨F3, g3, _⟩ := g1.drop
      have hi' : e'.length ≤ i := Nat.le_of_not_lt hi
      rw [List.set_eq_of_length_le (by rw [wipe_length, hl]; exact hi')] at g3
      obtain ⟨F4, g4⟩ := unstash (tg := tg) (e' := e'.set i (slot e i)) nd.2 (by simpa using hl) (by rw [List.set_eq_of_length_le hi']; exact g3)
      exact ⟨F4, g4⟩
/-- what was lent for a walk comes back -/
theorem owners_good {as : List (PV × Option Nat)} {R : List Rs} (hl : σ.length = e.length) (hlt : lentOk σ as vs) (g : Good B O ((ze K T e σ ++ L) ++ (zc K T (as.map (·.1)) vs ++ R)) H F) : ∃ F', Good B O ((ze K T (ownersM as e) σ ++ L) ++ R) H F' := by
  have e1 : (as.map (·.1)).map some = as.map fun a => some a.1 := by rw [List.map_map]; rfl
  have g2 : Good B O ((ze K T e σ ++ L) ++ (ze K T (as.map fun a => some a.1) (vs.map some) ++ R)) H F := by rw [← e1]; exact g
  exact back_good hl hlt g2
theorem ownersM_len {as : List (PV × Option Nat)} : (ownersM as e).length = e.length := backM_len
end
end Rk

set_option Elab.async false
set_option linter.all false
set_option maxRecDepth 100000
set_option maxHeartbeats 1000000
namespace Rk
open PySem PySem.Spec PyProof.Rows L2
section
variable {K : PySem.W.Frag} {T : Tab} {B O F F' H H' : Hp} {ps L ts : List Rs} {e e' e0 : Slots} {σ σ' : L2.St} {x y z root sub : PV} {xs ys items : List PV} {u v w rv : V} {vs ws : List V} {ads bds : List Addr} {Q : VK} {i : Nat} {W : WX} {α β : Type} {P : α → Slots → Prop} {l : List Stp}
/-! ### comprehensions -/
def SCp (K : PySem.W.Frag) (T : Tab) (cond : List CE) : Prop := ∀ (B O F H : Hp) (L : List Rs) (e e' : Slots) (σ : L2.St) (b : Bool) (Q : Bool → Hp → Prop), wfs K T cond → σ.length = e.length → Good B O (ze K T e σ ++ L) H F → evXc cond e = .ok (.bl b) e' →
  (e'.length = σ.length → ∀ H F, Good B O (ze K T e' σ ++ L) H F → Q b H) → condT (sems K T cond W0).2 σ H Q
theorem comp_inv {tg : List Nat} {cond elt : Slots → Res PV} {P : List PV → Slots → Prop} (h : PG K T W B O L σ P (compL tg cond elt (x :: xs) e)) : ∃ e1 b e2, takeM tg x e = some e1 ∧ cond e1 = .ok (.bl b) e2 ∧
    (if b = true then ∃ y e3, elt e2 = .ok y e3 ∧ PG K T W B O L σ (fun ys e => P (y :: ys) e) (compL tg cond elt xs (killM tg e3)) else PG K T W B O L σ P (compL tg cond elt xs (killM tg e2))) := by
  unfold compL at h
  cases h1 : takeM tg x e with
  | none => rw [h1] at h; exact h.elim
  | some e1 =>
    rw [h1] at h
    dsimp only at h
    cases h2 : cond e1 with
    | stuck => rw [h2] at h; exact h.elim
    | exc n e2 => rw [h2] at h; exact h.elim
    | ok t e2 =>
      rw [h2] at h
      cases t with
      | bl b =>
        refine ⟨e1, b, e2, rfl, h2, ?_⟩
        cases b with
        | true =>
          rw [if_pos rfl]
          dsimp only at h
          cases h3 : elt e2 with
          | stuck => rw [h3] at h; exact h.elim
          | exc n e3 => rw [h3] at h; exact h.elim
          | ok y e3 =>
            rw [h3] at h
            exact ⟨y, e3, rfl, PG_bind.mp h⟩
        | false =>
          rw [if_neg Bool.false_ne_true]
          exact h
      | _ => exact h.elim
theorem grow {p : Addr} {us : List V} {acc : List PV} (hp : H p = some (.lst us)) (g : Good B O (ps ++ ([cv K T (.lst true acc) (.ref p)] ++ [cv K T y v])) H F) : Good B O (ps ++ [cv K T (.lst true (acc ++ [y])) (.ref p)]) (upd H p (.lst (us ++ [v]))) F := by
  refine g.swap fun ads h nd => ?_
  obtain ⟨a, b, rfl, h1, h2⟩ := h.cut
  obtain ⟨q, us', r, e1, rfl, e3, e4⟩ := okL_one.mp h1
  cases e1
  rw [hp] at e3
  cases e3
  refine ⟨fun d hd => upd_ne fun z => hd (by simp [z]), p :: (r ++ b), okL_one.mpr ⟨p, us ++ [v], r ++ b, rfl, rfl, upd_same, ?_⟩, .refl _⟩
  rw [List.cons_append] at nd
  have np := (List.nodup_cons.mp nd).1
  have off : ∀ d ∈ r ++ b, upd H p (.lst (us ++ [v])) d = H d := fun d hd => upd_ne fun z => np (by rw [← z]; exact hd)
  exact reps_app (e4.loc (.refl _) fun d hd => off d (List.mem_append_left _ hd)) (reps_one_of ((okL_one.mp h2).loc (.refl _) fun d hd => off d (List.mem_append_right _ hd)))
theorem list_at {p : Addr} {acc : List PV} (g : Good B O (ps ++ [cv K T (.lst true acc) (.ref p)]) H F) : ∃ us, H p = some (.lst us) ∧ us.length = acc.length := by
  obtain ⟨_, ⟨q, us, r, e1, _, e3, e4⟩, _⟩ := rep_of g
  cases e1
  exact ⟨us, e3, e4.length⟩
theorem rls_at {X : List Rs} (hn : vs.length = xs.length) (g : Good B O (ps ++ zc K T xs vs ++ X) H F) : rls K T F H xs vs := by
  obtain ⟨F1, g1, e1⟩ := g.dropR'
  -- the claims as they stand
  have : ∀ {xs : List PV} {vs : List V} {ads : List Addr}, vs.length = xs.length → reps K T.adr F H xs vs ads → rls K T F H xs vs := by
    intro xs
    induction xs with
    | nil => intro vs ads hl h; cases vs with
      | nil => trivial
      | cons _ _ => simp at hl
    | cons x xs ih => intro vs ads hl h; cases vs with
      | nil => simp at hl
      | cons v vs => obtain ⟨a, b, h1, h2, h3⟩ := h; exact ⟨⟨a, h2⟩, ih (by simpa using hl) h3⟩
  have g2 : Good B O ((ps ++ X) ++ zc K T xs vs) H F := g.perm (by
    rw [List.append_assoc, List.append_assoc]
    exact (List.perm_append_comm).append_left ps)
  obtain ⟨ads, hX, _, _⟩ := g2.view
  exact this hn (okL_zc' hn hX)
theorem lc_ok (kt : KT K T) {elt : CE} {tg : List Nat} {k : IK} {es cond : List CE} (sa : SXa K T es) (se : SXp K T elt) (sc : SCp K T cond) : SXp K T (.lc elt tg k es cond) := by
  intro W B O F H L e σ Q hw hl g h
  obtain ⟨hlen, we, wes, wc⟩ := hw
  show tLc (iterI K k (sems K T es W).1) (tgG K tg) (condT (sems K T cond W0).2) (sem K T elt W0).1 tg σ H Q
  show iterI K k (sems K T es W).1 σ H _
  refine iterI_of hlen (sa W B O F H L e σ _ wes hl g ((PG_bind.mp h).imp fun as e1 k1 hl1 vs H1 F1 hlt g1 => ?_))
  cases hit : iterQ k (as.map (·.1)) with
  | none => rw [hit] at k1; exact k1.elim
  | some items =>
    rw [hit] at k1
    dsimp only at k1
    split at k1
    · rename_i hc
      have hn : vs.length = (as.map (·.1)).length := by rw [List.length_map]; exact hlt.len
      obtain ⟨J, wk, toV⟩ := walk_ok hit g1.exH (rls_at (X := []) hn (by rw [List.append_nil]; exact g1))
      refine toV _ ?_
      intro D hD
      have hl1' : σ.length = e1.length := hl1.symm
      rw [List.append_assoc] at g1
      have g2 := stash (tg := tg) hc.2.1 hl1' g1
      let L' : List Rs := L ++ stX K T tg e1 σ
      let σw : L2.St := wipe σ tg
      have hlw : σw.length = σ.length := wipe_length _ _
      -- the claims in order: slots, the rest, the sources, the new list
      have g3 : Good B O (ze K T (killM tg e1) σw ++ L' ++ zc K T (as.map (·.1)) vs) H1 F1 := g2.perm (by
        show (ze K T (killM tg e1) σw ++ ((L ++ zc K T (as.map (·.1)) vs) ++ stX K T tg e1 σ)).Perm _
        rw [List.append_assoc (ze K T (killM tg e1) σw)]
        refine List.Perm.append_left _ ?_
        show (L ++ zc K T (as.map (·.1)) vs ++ stX K T tg e1 σ).Perm (L ++ stX K T tg e1 σ ++ zc K T (as.map (·.1)) vs)
        rw [List.append_assoc, List.append_assoc]
        exact (List.perm_append_comm).append_left L)
      let Final : List PV → Slots → Prop := fun ys e' => e'.length = σ.length → ∀ H F, Good B O (ze K T e' σw ++ L' ++ zc K T (as.map (·.1)) vs ++ [cv K T (.lst true ys) (.ref D)]) H F → Q (.ref D) H
      have fin : ∀ ys e', PG K T W B O L σ (okV K T B O L σ Q) (.ok (.lst true ys) (ownersM as (keepM tg e1 e'))) → Final ys e' := fun ys e' kk hle H F gf => by
        have g4 : Good B O (ze K T e' (wipe σ tg) ++ ((L ++ (zc K T (as.map (·.1)) vs ++ [cv K T (.lst true ys) (.ref D)])) ++ stX K T tg e1 σ)) H F := gf.perm (by
          show (ze K T e' σw ++ (L ++ stX K T tg e1 σ) ++ zc K T (as.map (·.1)) vs ++ [cv K T (.lst true ys) (.ref D)]).Perm _
          rw [List.append_assoc, List.append_assoc (ze K T e' σw)]
          refine List.Perm.append_left _ ?_
          rw [List.append_assoc, List.append_assoc]
          exact (List.perm_append_comm).append_left L)
        obtain ⟨F5, g5⟩ := unstash hc.2.1 hle.symm g4
        rw [← List.append_assoc] at g5
        obtain ⟨F6, g6⟩ := owners_good (by rw [keepM_len]; exact hle.symm) hlt g5
        exact kk (by rw [ownersM_len, keepM_len]; exact hle) _ H F6 g6
      let Iv : Nat → Nat → Hp → Prop := fun i m H => m = items.length - i ∧ i ≤ items.length ∧ ∃ (acc : List PV) (e2 : Slots) (F : Hp), acc.length ≤ i ∧ e2.length = σ.length ∧ Good B O (ze K T e2 σw ++ L' ++ zc K T (as.map (·.1)) vs ++ [cv K T (.lst true acc) (.ref D)]) H F ∧
        PG K T W0 B O (L' ++ zc K T (as.map (·.1)) vs ++ [cv K T (.lst true acc) (.ref D)]) σw (fun ys e' => Final (acc ++ ys) e') (compL tg (evXc cond) (fun e => valM elt (evX elt) e) (items.drop i) e2)
      refine ⟨Iv, ⟨items.length, by simp, Nat.zero_le _, [], killM tg e1, F1, Nat.le_refl _, by rw [killM_len]; exact hl1, ?_, ?_⟩, ?_⟩
      · have := new_list (xs := []) (vs := []) (p := D) (K := K) (T := T) rfl (show Good B O (ze K T (killM tg e1) σw ++ L' ++ zc K T (as.map (·.1)) vs ++ zc K T [] []) H1 F1 by rw [show zc K T [] [] = [] from rfl, List.append_nil]; exact g3) hD
        exact this
      · rw [List.drop_zero]
        have k2 := PG_bind.mp k1
        cases q : compL tg (evXc cond) (fun e => valM elt (evX elt) e) items (killM tg e1) with
        | stuck => rw [q] at k2; exact k2.elim
        | exc n e2 =>
          -- never so
          exfalso
          have never : ∀ (items : List PV) (e : Slots) n e2, compL tg (evXc cond) (fun e => valM elt (evX elt) e) items e ≠ .exc n e2 := by
            intro items
            induction items with
            | nil => intro e n e2 q; simp [compL] at q
            | cons x xs ih =>
              intro e n e2 q
              unfold compL at q
              split at q
              · cases q
              · split at q
                · split at q
                  · rename_i y e3 _
                    cases q2 : compL tg (evXc cond) (fun e => valM elt (evX elt) e) xs (killM tg e3) with
                    | stuck => rw [q2] at q; cases q
                    | exc n' e' => exact ih _ _ _ q2
                    | ok a e' => rw [q2] at q; cases q
                  · cases q
                · exact ih _ _ _ q
                · cases q
          exact never _ _ _ _ q
        | ok ys e2 =>
          rw [q] at k2
          exact fin ys e2 k2
      · rintro i m H2 ⟨rfl, hi, acc, e2, F2, hacc, hl2, g4, k2⟩
        have hr : rls K T F2 H2 (as.map (·.1)) vs := rls_at (X := [cv K T (.lst true acc) (.ref D)]) hn (by
          rw [List.append_assoc] at g4 ⊢
          exact g4)
        by_cases hlt' : i < items.length
        · refine .inr ⟨wk.go F2 H2 i g4.exH hr hlt', fun H' => Iv (i + 1) (items.length - (i + 1)) H', fun H' h' => ⟨_, by omega, h'⟩, fun v H3 hy => ?_⟩
          obtain ⟨x, hx, F3, g5, e5⟩ := wk.yld B O _ F2 H2 i v H3 g4 hr hlt' hy
          rw [List.drop_eq_getElem_cons hlt'] at k2
          have ex : items[i] = x := by rw [List.getElem?_eq_getElem hlt'] at hx; exact Option.some.inj hx
          rw [ex] at k2
          obtain ⟨e3, b, e4, t1, t2, t3⟩ := comp_inv k2
          have g6 : Good B O (ze K T e2 σw ++ (L' ++ zc K T (as.map (·.1)) vs ++ [cv K T (.lst true acc) (.ref D)]) ++ [cv K T x v]) H3 F3 := by
            simp only [List.append_assoc] at g5 ⊢
            exact g5
          refine take_ok t1 (by rw [hlw]; exact hl2.symm) g6 fun σ3 F4 hl3 hk3 he3 g7 => ?_
          have hl3' : σ3.length = e3.length := by rw [hl3, hlw, he3, hl2]
          refine ⟨(wipe_eq' hl3 hk3).trans wipe_wipe, ?_⟩
          -- back to the turn's beginning
          have back : ∀ {e5 : Slots} {H5 F5 : Hp} {X : List Rs}, e5.length = σ3.length → Good B O (ze K T e5 σ3 ++ X) H5 F5 → ∃ F6, Good B O (ze K T (killM tg e5) σw ++ X) H5 F6 := fun {e5 H5 F5 X} hl5 g8 => by
            have g9 := stash (tg := tg) hc.2.1 hl5.symm g8
            rw [(wipe_eq' hl3 hk3).trans wipe_wipe, ← List.append_assoc] at g9
            obtain ⟨F6, g10, _⟩ := g9.dropR'
            exact ⟨F6, g10⟩
          refine sc B O F4 H3 _ e3 e4 σ3 b _ wc hl3' g7 t2 fun hl4 H4 F5 g8 => ?_
          cases b with
          | true =>
            rw [if_pos rfl] at t3 ⊢
            obtain ⟨y, e5, t4, t5⟩ := t3
            refine val_ok kt se we hl4.symm g8 ?_
            rw [t4]
            intro hl5 v5 H5 F6 g9
            have g10 : Good B O ((ze K T e5 σ3 ++ (L' ++ zc K T (as.map (·.1)) vs)) ++ ([cv K T (.lst true acc) (.ref D)] ++ [cv K T y v5])) H5 F6 := by
              simp only [List.append_assoc] at g9 ⊢
              exact g9
            obtain ⟨us, hus, hul⟩ := list_at (ps := (ze K T e5 σ3 ++ (L' ++ zc K T (as.map (·.1)) vs)) ++ [cv K T y v5]) (g10.perm (by
              rw [← List.append_assoc, List.append_assoc (ze K T e5 σ3 ++ (L' ++ zc K T (as.map (·.1)) vs)), List.append_assoc (ze K T e5 σ3 ++ (L' ++ zc K T (as.map (·.1)) vs))]
              exact (List.perm_append_comm).append_left _))
            refine ⟨us, hus, by rw [hul]; exact Nat.lt_of_le_of_lt hacc (Nat.lt_of_lt_of_le hlt' (Nat.le_trans hc.1 lim_line)), rfl, hlt', acc ++ [y], killM tg e5, ?_⟩
            have g11 := grow hus g10
            rw [List.append_assoc] at g11
            obtain ⟨F7, g12⟩ := back hl5 g11
            refine ⟨F7, by simp; omega, by rw [killM_len, hl5, hl3, hlw], by simp only [List.append_assoc] at g12 ⊢; exact g12, ?_⟩
            cases q : compL tg (evXc cond) (fun e => valM elt (evX elt) e) (items.drop (i + 1)) (killM tg e5) with
            | stuck => rw [q] at t5; exact t5.elim
            | exc n e6 =>
              exfalso
              have never : ∀ (items : List PV) (e : Slots) n e2, compL tg (evXc cond) (fun e => valM elt (evX elt) e) items e ≠ .exc n e2 := by
                intro items
                induction items with
                | nil => intro e n e2 q; simp [compL] at q
                | cons x xs ih =>
                  intro e n e2 q
                  unfold compL at q
                  split at q
                  · cases q
                  · split at q
                    · split at q
                      · rename_i y e3 _
                        cases q2 : compL tg (evXc cond) (fun e => valM elt (evX elt) e) xs (killM tg e3) with
                        | stuck => rw [q2] at q; cases q
                        | exc n' e' => exact ih _ _ _ q2
                        | ok a e' => rw [q2] at q; cases q
                      · cases q
                    · exact ih _ _ _ q
                    · cases q
              exact never _ _ _ _ q
            | ok ys e6 =>
              rw [q] at t5
              have t6 : Final (acc ++ y :: ys) e6 := t5
              show Final (acc ++ [y] ++ ys) e6
              rw [show acc ++ [y] ++ ys = acc ++ y :: ys by simp]
              exact t6
          | false =>
            rw [if_neg Bool.false_ne_true] at t3 ⊢
            obtain ⟨F7, g12⟩ := back hl4 g8
            exact ⟨rfl, hlt', acc, killM tg e4, F7, by omega, by rw [killM_len, hl4, hl3, hlw], by simp only [List.append_assoc] at g12 ⊢; exact g12, t3⟩
        · have ei : i = items.length := by omega
          refine .inl ⟨wk.stop F2 H2 i g4.exH hr (by omega), ?_⟩
          rw [ei, List.drop_length] at k2
          have k3 : Final (acc ++ []) e2 := k2
          rw [List.append_nil] at k3
          exact k3 hl2 H2 F2 g4
    · exact k1.elim
end
end Rk

set_option Elab.async false
set_option linter.all false
set_option maxRecDepth 100000
set_option maxHeartbeats 2000000
namespace Rk
open PySem PySem.Spec PyProof.Rows L2
def STk (K : PySem.W.Frag) (T : Tab) (c : CE) : Prop := ∀ (W : WX) (B O F H : Hp) (L : List Rs) (e : Slots) (σ : L2.St) (kont : PV → Slots → Res PV) (P : PV → Slots → Prop) (Q : Bool → Hp → Prop), tOk c = true → wf K T c → σ.length = e.length → Good B O (ze K T e σ ++ L) H F → PG K T W B O L σ P (one c (evX c) e kont) →
  (∀ x e' H' F', e'.length = σ.length → Good B O (ze K T e' σ ++ L) H' F' → PG K T W B O L σ P (kont x e') → ∃ b, boolQ x = some b ∧ Q b H') → (sem K T c W).2 σ H Q
section
variable {K : PySem.W.Frag} {T : Tab} {B O F F' H H' : Hp} {ps L ts : List Rs} {e e' e0 : Slots} {σ σ' : L2.St} {x y z root sub : PV} {xs ys items : List PV} {u v w rv : V} {vs ws : List V} {ads bds : List Addr} {Q : VK} {i : Nat} {W : WX} {α β : Type} {P : α → Slots → Prop} {l : List Stp}
/-- the plain tests -/
theorem stk_plain (kt : KT K T) {c : CE} (hc : plainT c = true) (sx : SXp K T c) : STk K T c := by
  intro W B O F H L e σ kont P Q _ hw hl g k hk
  obtain ⟨R, r1, r2⟩ := tst_of (K := K) (T := T) (c := c) (W := W) (σ := σ) (H := H) (Q := Q) hc
  refine r2 (one_ok kt sx hw hl g k fun x e' u H' F' ts hl' g' hu k' => ?_)
  rw [← List.append_assoc] at g'
  obtain ⟨F1, g1, _⟩ := g'.dropR'
  obtain ⟨b, hb, q⟩ := hk x e' H' F1 hl' g1 k'
  rw [bool_rp hb hu]
  exact r1 b H' q
theorem stk_pure (kt : KT K T) {c : CE} {kont : PV → Slots → Res PV} {P : PV → Slots → Prop} {Q : Bool → Hp → Prop} (hw : wf K T c) (hp : pu c = true) (hl : σ.length = e.length) (g : Good B O (ze K T e σ ++ L) H F) (k : PG K T W B O L σ P (one c (evX c) e kont))
    (hk : ∀ x e' H' F', e'.length = σ.length → Good B O (ze K T e' σ ++ L) H' F' → PG K T W B O L σ P (kont x e') → ∃ b, boolQ x = some b ∧ Q b H') : (sem K T c W).2 σ H Q := by
  unfold one at k
  rw [if_pos hp] at k
  cases q : evQ e c with
  | none => rw [q] at k; exact k.elim
  | some x =>
    rw [q] at k
    obtain ⟨b, hb, qq⟩ := hk x e H F hl.symm g k
    exact pt kt c W hw q hb hl g qq
theorem one_bind {c : CE} {xa : Slots → Res PV} {k1 : PV → Slots → Res α} {k2 : α → Slots → Res β} : (one c xa e k1).bind k2 = one c xa e fun x e => (k1 x e).bind k2 := by
  unfold one
  split
  · cases evQ e c <;> rfl
  · cases xa e <;> rfl
def SAv (K : PySem.W.Frag) (T : Tab) (cs : List CE) : Prop := ∀ (W : WX) (B O F H : Hp) (L : List Rs) (e : Slots) (σ : L2.St) (Q : VK), wfs K T cs → σ.length = e.length → Good B O (ze K T e σ ++ L) H F → PG K T W B O L σ (okV K T B O L σ Q) (evXand cs e) → semAndV (sems K T cs W).1 σ H Q
def SOv (K : PySem.W.Frag) (T : Tab) (cs : List CE) : Prop := ∀ (W : WX) (B O F H : Hp) (L : List Rs) (e : Slots) (σ : L2.St) (Q : VK), wfs K T cs → σ.length = e.length → Good B O (ze K T e σ ++ L) H F → PG K T W B O L σ (okV K T B O L σ Q) (evXor cs e) → semOrV (sems K T cs W).1 σ H Q
def SAt (K : PySem.W.Frag) (T : Tab) (cs : List CE) : Prop := ∀ (W : WX) (B O F H : Hp) (L : List Rs) (e : Slots) (σ : L2.St) (kont : PV → Slots → Res PV) (P : PV → Slots → Prop) (Q : Bool → Hp → Prop), tOks cs = true → wfs K T cs → σ.length = e.length → Good B O (ze K T e σ ++ L) H F → PG K T W B O L σ P ((evXand cs e).bind kont) →
  (∀ x e' H' F', e'.length = σ.length → Good B O (ze K T e' σ ++ L) H' F' → PG K T W B O L σ P (kont x e') → ∃ b, boolQ x = some b ∧ Q b H') → semAndT (sems K T cs W).2 σ H Q
def SOt (K : PySem.W.Frag) (T : Tab) (cs : List CE) : Prop := ∀ (W : WX) (B O F H : Hp) (L : List Rs) (e : Slots) (σ : L2.St) (kont : PV → Slots → Res PV) (P : PV → Slots → Prop) (Q : Bool → Hp → Prop), tOks cs = true → wfs K T cs → σ.length = e.length → Good B O (ze K T e σ ++ L) H F → PG K T W B O L σ P ((evXor cs e).bind kont) →
  (∀ x e' H' F', e'.length = σ.length → Good B O (ze K T e' σ ++ L) H' F' → PG K T W B O L σ P (kont x e') → ∃ b, boolQ x = some b ∧ Q b H') → semOrT (sems K T cs W).2 σ H Q
theorem sav_one (kt : KT K T) {c : CE} (s : SXp K T c) : SAv K T [c] := fun W B O F H L e σ Q hw hl g k => by
  refine one_ok kt s hw.1 hl g (show PG K T W B O L σ (okV K T B O L σ Q) (one c (evX c) e fun x e => ofO ((boolQ x).map .bl) e) from k) fun x e' u H' F' ts hl' g' hu k' => ?_
  obtain ⟨y, h1, k2⟩ := PG_ofO k'
  obtain ⟨b, h2, rfl⟩ := map1 h1
  rw [bool_rp h2 hu]
  exact fin_rep (z := .bl b) g' hl' ⟨rfl, rfl⟩ k2
theorem sov_one (kt : KT K T) {c : CE} (s : SXp K T c) : SOv K T [c] := fun W B O F H L e σ Q hw hl g k => by
  refine one_ok kt s hw.1 hl g (show PG K T W B O L σ (okV K T B O L σ Q) (one c (evX c) e fun x e => ofO ((boolQ x).map .bl) e) from k) fun x e' u H' F' ts hl' g' hu k' => ?_
  obtain ⟨y, h1, k2⟩ := PG_ofO k'
  obtain ⟨b, h2, rfl⟩ := map1 h1
  rw [bool_rp h2 hu]
  exact fin_rep (z := .bl b) g' hl' ⟨rfl, rfl⟩ k2
theorem sav_cons (kt : KT K T) {c d : CE} {cs : List CE} (s : SXp K T c) (s2 : SAv K T (d :: cs)) : SAv K T (c :: d :: cs) := fun W B O F H L e σ Q hw hl g k => by
  refine one_ok kt s hw.1 hl g (show PG K T W B O L σ (okV K T B O L σ Q) (one c (evX c) e fun x e => match x with
    | .bl true => evXand (d :: cs) e
    | .bl false => .ok (.bl false) e
    | _ => .stuck) from k) fun x e' u H' F' ts hl' g' hu k' => ?_
  rw [← List.append_assoc] at g'
  obtain ⟨F1, g1, _⟩ := g'.dropR'
  cases x <;> first | exact k'.elim | skip
  rename_i b
  obtain ⟨_, hu⟩ := hu
  refine ⟨b, rep_bl hu, ?_⟩
  cases b with
  | true => rw [if_pos rfl]; exact s2 W B O F1 H' L e' σ Q hw.2 hl'.symm g1 k'
  | false => rw [if_neg Bool.false_ne_true]; exact fin_rep (ts := []) (z := .bl false) (by rw [List.append_nil]; exact g1) hl' ⟨rfl, rfl⟩ k'
theorem sov_cons (kt : KT K T) {c d : CE} {cs : List CE} (s : SXp K T c) (s2 : SOv K T (d :: cs)) : SOv K T (c :: d :: cs) := fun W B O F H L e σ Q hw hl g k => by
  refine one_ok kt s hw.1 hl g (show PG K T W B O L σ (okV K T B O L σ Q) (one c (evX c) e fun x e => match x with
    | .bl false => evXor (d :: cs) e
    | .bl true => .ok (.bl true) e
    | _ => .stuck) from k) fun x e' u H' F' ts hl' g' hu k' => ?_
  rw [← List.append_assoc] at g'
  obtain ⟨F1, g1, _⟩ := g'.dropR'
  cases x <;> first | exact k'.elim | skip
  rename_i b
  obtain ⟨_, hu⟩ := hu
  refine ⟨b, rep_bl hu, ?_⟩
  cases b with
  | true => rw [if_pos rfl]; exact fin_rep (ts := []) (z := .bl true) (by rw [List.append_nil]; exact g1) hl' ⟨rfl, rfl⟩ k'
  | false => rw [if_neg Bool.false_ne_true]; exact s2 W B O F1 H' L e' σ Q hw.2 hl'.symm g1 k'
theorem sat_one {c : CE} (s : STk K T c) : SAt K T [c] := fun W B O F H L e σ kont P Q ht hw hl g k hk => by
  have ht' : tOk c = true := by simpa [tOks] using ht
  refine s W B O F H L e σ (fun x e => (ofO ((boolQ x).map .bl) e).bind kont) P Q ht' hw.1 hl g (by rw [← one_bind]; exact k) fun x e' H' F' hl' g' k' => ?_
  cases hb : boolQ x with
  | none => rw [hb] at k'; exact k'.elim
  | some b =>
    rw [hb] at k'
    obtain ⟨b', h1, h2⟩ := hk (.bl b) e' H' F' hl' g' k'
    cases h1
    exact ⟨b, rfl, h2⟩
theorem sot_one {c : CE} (s : STk K T c) : SOt K T [c] := fun W B O F H L e σ kont P Q ht hw hl g k hk => by
  have ht' : tOk c = true := by simpa [tOks] using ht
  refine s W B O F H L e σ (fun x e => (ofO ((boolQ x).map .bl) e).bind kont) P Q ht' hw.1 hl g (by rw [← one_bind]; exact k) fun x e' H' F' hl' g' k' => ?_
  cases hb : boolQ x with
  | none => rw [hb] at k'; exact k'.elim
  | some b =>
    rw [hb] at k'
    obtain ⟨b', h1, h2⟩ := hk (.bl b) e' H' F' hl' g' k'
    cases h1
    exact ⟨b, rfl, h2⟩
theorem sat_cons {c d : CE} {cs : List CE} (s : STk K T c) (s2 : SAt K T (d :: cs)) : SAt K T (c :: d :: cs) := fun W B O F H L e σ kont P Q ht hw hl g k hk => by
  have ht' : tOk c = true ∧ tOks (d :: cs) = true := by simpa [tOks] using ht
  have e1 : (evXand (c :: d :: cs) e).bind kont = one c (evX c) e fun x e => (match x with
    | .bl true => evXand (d :: cs) e
    | .bl false => .ok (.bl false) e
    | _ => .stuck : Res PV).bind kont := one_bind
  rw [e1] at k
  refine s W B O F H L e σ _ P _ ht'.1 hw.1 hl g k fun x e' H' F' hl' g' k' => ?_
  cases x <;> first | exact k'.elim | skip
  rename_i b
  refine ⟨b, rfl, ?_⟩
  cases b with
  | true => rw [if_pos rfl]; exact s2 W B O F' H' L e' σ kont P Q ht'.2 hw.2 hl'.symm g' k' hk
  | false =>
    rw [if_neg Bool.false_ne_true]
    obtain ⟨b', h1, h2⟩ := hk (.bl false) e' H' F' hl' g' k'
    cases h1
    exact h2
theorem sot_cons {c d : CE} {cs : List CE} (s : STk K T c) (s2 : SOt K T (d :: cs)) : SOt K T (c :: d :: cs) := fun W B O F H L e σ kont P Q ht hw hl g k hk => by
  have ht' : tOk c = true ∧ tOks (d :: cs) = true := by simpa [tOks] using ht
  have e1 : (evXor (c :: d :: cs) e).bind kont = one c (evX c) e fun x e => (match x with
    | .bl false => evXor (d :: cs) e
    | .bl true => .ok (.bl true) e
    | _ => .stuck : Res PV).bind kont := one_bind
  rw [e1] at k
  refine s W B O F H L e σ _ P _ ht'.1 hw.1 hl g k fun x e' H' F' hl' g' k' => ?_
  cases x <;> first | exact k'.elim | skip
  rename_i b
  refine ⟨b, rfl, ?_⟩
  cases b with
  | true =>
    rw [if_pos rfl]
    obtain ⟨b', h1, h2⟩ := hk (.bl true) e' H' F' hl' g' k'
    cases h1
    exact h2
  | false => rw [if_neg Bool.false_ne_true]; exact s2 W B O F' H' L e' σ kont P Q ht'.2 hw.2 hl'.symm g' k' hk
theorem sx_none {c : CE} (h : ∀ e, evX c e = .stuck) : SXp K T c := fun W B O F H L e σ Q hw hl g k => by
  rw [h] at k
  exact k.elim
theorem bm_shape {b : Bm} {ys : List PV} {sub z x : PV} (h : bmX b sub ys = some (z, x)) : bmList b = true ∧ isLst sub = true := by
  unfold bmX at h
  split at h <;> first | exact ⟨rfl, rfl⟩ | cases h
theorem rep_isLst {sub : PV} (hk : isLst sub = true) (r : rp K T F H sub u) : ∃ p us, u = .ref p ∧ H p = some (.lst us) := by
  obtain ⟨_, r⟩ := r
  cases sub <;> simp [isLst] at hk
  rename_i o xs
  cases o
  · simp [isLst] at hk
  · obtain ⟨p, us, _, rfl, _, hp, _⟩ := r
    exact ⟨p, us, rfl, hp⟩
/-- a method of a list -/
theorem bm_fin {b : Bm} {p : CE} {es : List CE} (hb : bmList b = true) (hz : bmZero b = es.isEmpty) (main : (sem K T p W).1 σ H fun u H1 => tyV K "list" u H1 ∧ (taOf (sems K T es W).1) σ H1 fun vs H2 => bmR b u vs H2 Q) :
    (eBm b (sem K T p W).1 (sems K T es W).1 K) σ H Q := by
  cases b <;> simp [bmList] at hb
  case append => exact main
  case pop1 => exact main
  case insert => exact main
  case removeI => exact main
  case extend => exact main
  case clear =>
    cases es with
    | nil => exact main
    | cons _ _ => simp [bmZero] at hz
  case pop0 =>
    cases es with
    | nil => exact main
    | cons _ _ => simp [bmZero] at hz
  case reverse =>
    cases es with
    | nil => exact main
    | cons _ _ => simp [bmZero] at hz
theorem bm_ok (kt : KT K T) {b : Bm} {p : CE} {es : List CE} (hb : bmList b = true) (hz : bmZero b = es.isEmpty) (sp : SXp K T p) (sl : SXl K T es) (hp : wf K T p) (hes : wfs K T es) (hl : σ.length = e.length) (g : Good B O (ze K T e σ ++ L) H F)
    (k : PG K T W B O L σ (okV K T B O L σ Q) (if frB p = true then freshM isLst es (evXs es) (evX p) (fun ys x => bmX b x ys) e else if tpB e p = true then tupM isLst p es (fun ys x => bmX b x ys) e else mutM isLst p es (evXs es) (fun ys x => bmX b x ys) e)) :
    (eBm b (sem K T p W).1 (sems K T es W).1 K) σ H Q := by
  have v1 : ∀ F H sub u, Ex F H → isLst sub = true → rp K T F H sub u → tyV K "list" u H := fun F H sub u ex hk r => by
    obtain ⟨p, us, rfl, h⟩ := rep_isLst (K := K) (T := T) (F := F) (H := H) hk r
    exact .inl ⟨rfl, us, .inl (.inl h)⟩
  have v2 : ∀ F H ys vs sub u z x, Ex F H → isLst sub = true → rp K T F H sub u → (∃ as, reps K T.adr F H ys vs as) → bmX b sub ys = some (z, x) → (∀ vr H', Upd K T F H H' sub u ys vs x z vr → Q vr H') → bmR b u vs H Q := fun F H ys vs sub u z x ex hk r ha hg k => by
    obtain ⟨p, us, rfl, h⟩ := rep_isLst (K := K) (T := T) (F := F) (H := H) hk r
    exact bmX_ok h r ha hg ex k
  apply bm_fin hb hz
  split at k
  · exact fresh_ok kt (gm := fun ys x => bmX b x ys) (V2 := fun u vs H => bmR b u vs H Q) sp sl hp hes hl g v1 v2 k
  · split at k
    · exact tup_ok kt (gm := fun ys x => bmX b x ys) (V2 := fun u vs H => bmR b u vs H Q) hp hes hl g v1 v2 k
    · exact mut_ok (W := W) (Q := Q) (kd := isLst) (gm := fun ys x => bmX b x ys) (xa := evXs es) (V1 := fun u H => tyV K "list" u H) (V2 := fun u vs H => bmR b u vs H Q) kt hp hes hl g (fun B O F H L e Q hl g k => sl W B O F H L e σ Q hes hl g k)
        v1 v2 (fun ys sub z x h => (bm_shape h).2) k
theorem popD_shape {ys : List PV} {sub z x : PV} (h : (match ys with
    | [y] => popDX y sub
    | _ => none) = some (z, x)) : isDic sub = true ∧ ∃ y, ys = [y] ∧ popDX y sub = some (z, x) := by
  split at h
  · rename_i y
    refine ⟨?_, y, rfl, h⟩
    unfold popDX at h
    split at h <;> first | rfl | cases h
  · cases h
theorem pop_ok (kt : KT K T) {p c : CE} (hp : wf K T p) (hc : wf K T c) (hpu : pu c = true) (sp : SXl K T [c]) (hl : σ.length = e.length) (g : Good B O (ze K T e σ ++ L) H F) (k : PG K T W B O L σ (okV K T B O L σ Q) (mutM isDic p [c] (fun _ => .stuck) (fun ys x => match ys with
      | [y] => popDX y x
      | _ => none) e)) : tDPop1 (sem K T p W).1 (sem K T c W).1 σ H Q := by
  have main := mut_ok (W := W) (Q := Q) (kd := isDic) (gm := fun ys x => match ys with
      | [y] => popDX y x
      | _ => none) (xa := fun _ => .stuck) (V1 := fun u H => ∃ a, u = .ref a ∧ IsD H a) (V2 := fun u vs H => ∃ a y, u = .ref a ∧ vs = [y] ∧ ∃ kvs kk v, H a = some (.dK kvs) ∧ y = kV kk ∧ valV kvs kk = some v ∧ Q v (upd H a (.dK (dropK kvs kk)))) kt hp (es := [c]) ⟨hc, trivial⟩ hl g (fun B O F H L e Q hl g k => k.elim)
    (fun F H sub u ex hk r => by
      obtain ⟨_, r⟩ := r
      cases sub <;> simp [isDic] at hk
      rename_i o ks xs
      obtain ⟨a, dk, rfl, h1, _, _⟩ := rep_dic ex r
      exact ⟨a, rfl, .inl ⟨dk, .inl h1⟩⟩)
    (fun F H ys vs sub u z x ex hk r ha hg k => by
      obtain ⟨_, y, rfl, hg'⟩ := popD_shape hg
      obtain ⟨as, ha⟩ := ha
      obtain ⟨vy, rfl, hy⟩ := reps_one ha
      obtain ⟨a, kvs, kk, vr, rfl, h1, rfl, h2, h3⟩ := popDX_ok (N := Q) r ⟨_, hy⟩ hg' ex k
      exact ⟨a, _, rfl, rfl, kvs, kk, vr, h1, rfl, h2, h3⟩)
    (fun ys sub z x h => (popD_shape h).1) k
  -- from the arguments' form to the method's own
  have e1 : (sem K T p W).1 σ H fun x H1 => ∃ a, x = .ref a ∧ IsD H1 a ∧ (sem K T c W).1 σ H1 fun y H2 => ∃ kvs k v, H2 a = some (.dK kvs) ∧ y = kV k ∧ valV kvs k = some v ∧ Q v (upd H2 a (.dK (dropK kvs k))) := by
    have e2 : (fun (u : V) (H1 : Hp) => (∃ a, u = V.ref a ∧ IsD H1 a) ∧ taOf (sems K T [c] W).1 σ H1 fun vs H2 => ∃ a y, u = .ref a ∧ vs = [y] ∧ ∃ kvs kk v, H2 a = some (.dK kvs) ∧ y = kV kk ∧ valV kvs kk = some v ∧ Q v (upd H2 a (.dK (dropK kvs kk)))) =
      fun x H1 => ∃ a, x = .ref a ∧ IsD H1 a ∧ (sem K T c W).1 σ H1 fun y H2 => ∃ kvs k v, H2 a = some (.dK kvs) ∧ y = kV k ∧ valV kvs k = some v ∧ Q v (upd H2 a (.dK (dropK kvs k))) := by
      funext u H1
      apply propext
      constructor
      · rintro ⟨⟨a, rfl, hd⟩, h⟩
        refine ⟨a, rfl, hd, ?_⟩
        have e3 : (fun y H2 => ∃ kvs k v, H2 a = some (HO.dK kvs) ∧ y = kV k ∧ valV kvs k = some v ∧ Q v (upd H2 a (.dK (dropK kvs k)))) = fun y H2 => ∃ a' y', V.ref a = V.ref a' ∧ [y] = [y'] ∧ ∃ kvs kk v, H2 a' = some (HO.dK kvs) ∧ y' = kV kk ∧ valV kvs kk = some v ∧ Q v (upd H2 a' (.dK (dropK kvs kk))) := by
          funext y H2
          simp
        rw [e3]
        exact h
      · rintro ⟨a, rfl, hd, h⟩
        refine ⟨⟨a, rfl, hd⟩, ?_⟩
        have e3 : (fun y H2 => ∃ kvs k v, H2 a = some (HO.dK kvs) ∧ y = kV k ∧ valV kvs k = some v ∧ Q v (upd H2 a (.dK (dropK kvs k)))) = fun y H2 => ∃ a' y', V.ref a = V.ref a' ∧ [y] = [y'] ∧ ∃ kvs kk v, H2 a' = some (HO.dK kvs) ∧ y' = kV kk ∧ valV kvs kk = some v ∧ Q v (upd H2 a' (.dK (dropK kvs kk))) := by
          funext y H2
          simp
        rw [e3] at h
        exact h
    rw [← e2]
    exact main
  exact e1
/-- a method of an instance -/
theorem meth_ok (kt : KT K T) {c : Str} {o : CE} {m : Str} {f : Fn} {es : List CE} {C : Addr} (ho : SXp K T o) (sa : SXa K T es) (hm : T.mth c m = some (C, spF K T.adr T.exc f)) (hC : T.adr c = some C) (wo : wf K T o) (wes : wfs K T es) (hl : σ.length = e.length) (g : Good B O (ze K T e σ ++ L) H F)
    (k : PG K T W B O L σ (okV K T B O L σ Q) (evX (.meth c o m f es) e)) : (sem K T (.meth c o m f es) W).1 σ H Q := by
  simp only [sem, hm]
  have k0 : PG K T W B O L σ (okV K T B O L σ Q) ((argM o (evX o) e).bind fun r e => if okR c m r.1 = true then (evXa es e).bind fun as e => callM f (r :: as) e else .stuck) := k
  refine arg_ok kt ho wo hl g ((PG_bind.mp k0).imp fun r e1 k1 hl1 v H1 F1 hlt g1 => ?_)
  split at k1
  · rename_i hr
    obtain ⟨_, rr, _⟩ := rep_of g1
    obtain ⟨x, o'⟩ := r
    cases x <;> simp [okR] at hr
    rename_i o2 c' fs xs
    obtain ⟨rfl, hno⟩ := hr
    obtain ⟨a, C', dx, fv, r, rfl, h1, h2, h3, h4⟩ := rep_ins g1.exH rr
    rw [hC] at h1
    cases h1
    have hno' : fv.lookup m = none := by
      subst h3
      have gen : ∀ {fv : List (Str × V)} {xs : List PV} {a : List Addr}, reps K T.adr F1 H1 xs (fv.map (·.2)) a → lookF (fv.map (·.1)) xs m = none → fv.lookup m = none := by
        intro fv
        induction fv with
        | nil => intro _ _ _ _; rfl
        | cons p fv ih =>
          intro xs a h hh
          cases xs with
          | nil => exact h.elim
          | cons x xs =>
            obtain ⟨a1, b1, h1, h2, h3⟩ := h
            have e1 : lookF ((p :: fv).map (·.1)) (x :: xs) m = if m = p.1 then some x else lookF (fv.map (·.1)) xs m := rfl
            rw [e1] at hh
            by_cases q : m = p.1
            · rw [if_pos q] at hh; cases hh
            · rw [if_neg q] at hh
              rw [List.lookup_cons, show (m == p.1) = false from beq_eq_false_iff_ne.mpr q]
              exact ih h3 hh
      exact gen h4 hno
    refine ⟨a, dx, fv, rfl, h2, hno', ?_⟩
    refine sa W B O F1 H1 (L ++ [cv K T (.ins o2 c' fs xs) (.ref a)]) e1 σ _ wes hl1.symm (by rw [← List.append_assoc]; exact g1) (PG.imp (PG.more (PG_bind.mp k1)) fun as e2 k2 hl2 vs H2 F2 hlt2 g2 => ?_)
    refine call_ok (F := F2) (as := (.ins o2 c' fs xs, o') :: as) (vs := .ref a :: vs) hl2.symm ?_ ?_ k2
    · cases o' with
      | none => exact hlt2
      | some i => exact ⟨hlt.1, hlt2⟩
    · have e3 : ze K T e2 σ ++ L ++ zc K T (((PV.ins o2 c' fs xs, o') :: as).map (·.1)) (.ref a :: vs) = ze K T e2 σ ++ (L ++ [cv K T (.ins o2 c' fs xs) (.ref a)]) ++ zc K T (as.map (·.1)) vs := by
        show _ ++ (cv K T (.ins o2 c' fs xs) (.ref a) :: zc K T (as.map (·.1)) vs) = _
        simp
      rw [e3]
      exact g2
  · exact k1.elim
theorem okR_wf {c m : Str} {x : PV} (h : okR c m x = true) : ∃ o fs xs, x = .ins o c fs xs := by
  cases x <;> simp [okR] at h
  exact ⟨_, _, _, by rw [h.1]⟩
end
end Rk

set_option Elab.async false
set_option linter.all false
set_option maxRecDepth 100000
set_option maxHeartbeats 1000000
namespace Rk
open PySem PySem.Spec PyProof.Rows L2
/-! ### calls, some arguments items of a list of one's own -/
section
variable {K : PySem.W.Frag} {T : Tab} {B O F F' H H' : Hp} {ps L ts R : List Rs} {e e' : Slots} {σ : L2.St} {x y z root sub : PV} {xs ys : List PV} {u v w rv : V} {vs ws : List V} {ads bds : List Addr} {Q : VK} {i : Nat} {W : WX} {α β : Type} {P : α → Slots → Prop} {l : List Stp}
theorem evXd_drop : ∀ {es : List CE} {n : Nat} {e : Slots}, evXd n es e = evXa (es.drop n) e
  | [], 0, e => rfl
  | [], n + 1, e => rfl
  | c :: cs, n + 1, e => (evXd_drop (es := cs) (n := n) (e := e) : _)
  | c :: cs, 0, e => by
    have ih : evXd 0 cs = evXa cs := funext fun e => evXd_drop (es := cs) (n := 0)
    show ((argM c (evX c) e).bind fun x e => (evXd 0 cs e).bind fun xs e => .ok (x :: xs) e) = ((argM c (evX c) e).bind fun x e => (evXa cs e).bind fun xs e => .ok (x :: xs) e)
    rw [ih]
/-! claims: a list's cell and its items -/
theorem open_cell (g : Good B O (ps ++ [cv K T (.lst true xs) v]) H F) : ∃ a vs, v = .ref a ∧ vs.length = xs.length ∧ H a = some (.lst vs) ∧ Good B O (ps ++ ((.own (cel a (.lst vs)), some (.ref a)) :: zc K T xs vs)) H F := by
  obtain ⟨ads, h, nd, k⟩ := g.view
  obtain ⟨a, vs, r, h1, h2, h3, h4⟩ := okL_one.mp h
  refine ⟨a, vs, h1, h4.length, h3, k _ ?_⟩
  rw [h2]
  exact OkL.cons (a := [a]) ⟨.ref a, rfl, rfl, rfl, h3⟩ (okL_zc h4)
theorem close_cell {a : Addr} (hn : vs.length = xs.length) (g : Good B O (ps ++ ((.own (cel a (.lst vs)), some (.ref a)) :: zc K T xs vs)) H F) : Good B O (ps ++ [cv K T (.lst true xs) (.ref a)]) H F := by
  obtain ⟨ads, h, nd, k⟩ := g.view
  refine k _ (okL_one.mpr ?_)
  cases h with
  | cons h1 h2 =>
    obtain ⟨v, e1, h3, h4, h5⟩ := h1
    cases e1
    exact ⟨a, vs, _, rfl, by rw [h4]; rfl, h5, okL_zc' hn h2⟩
theorem cell_at {a : Addr} {o : HO} {X : List Rs} (g : Good B O (ps ++ ((.own (cel a o), some (.ref a)) :: X)) H F) : H a = some o := by
  obtain ⟨ads, h, nd, k⟩ := g.view
  cases h with
  | cons h1 h2 =>
    obtain ⟨v, e1, h3, h4, h5⟩ := h1
    exact h5
theorem zc_take {k : Nat} (hn : vs.length = xs.length) (g : Good B O (ps ++ zc K T xs vs) H F) (hk : xs[k]? = some x) : ∃ v, vs[k]? = some v ∧ Good B O (ps ++ (zc K T (xs.set k hole) vs ++ [cv K T x v])) H F := by
  obtain ⟨ads, h, nd, kk⟩ := g.view'
  obtain ⟨v, a, c, h1, h2, h3, h4⟩ := reps_at (okL_zc' hn h) hk
  obtain ⟨ads', p, q⟩ := h4 F H hole [] (.refl _) (fun _ _ => rfl) rfl
  refine ⟨v, h1, kk _ (ads' ++ a) ?_ (.append (okL_zc q) (okL_one.mpr h3))⟩
  refine (p.append_right a).trans ?_
  rw [List.nil_append]
  exact List.perm_append_comm.trans h2.symm
theorem zc_put {k : Nat} (hn : vs.length = xs.length) (hv : vs[k]? = some v) (g : Good B O (ps ++ (zc K T xs vs ++ [cv K T y v])) H F) : ∃ F', Good B O (ps ++ zc K T (xs.set k y) vs) H F' := by
  have g1 : Good B O (ze K T (xs.map some) (vs.map some) ++ ps ++ [(sdo K T (some y), some v)]) H F := g.perm (by
    rw [← List.append_assoc]
    exact List.perm_append_comm.append_right _)
  obtain ⟨F1, g2, _⟩ := slot_back (by simp [hn]) (by rw [List.getElem?_map, hv]; rfl) g1
  rw [← List.map_set] at g2
  exact ⟨F1, g2.perm List.perm_append_comm⟩
def pick (vs : List V) (ks : List Nat) : List V := ks.map fun k => (vs[k]?).getD .non
theorem holes_len : ∀ {ks : List Nat} {xs : List PV}, (holes xs ks).length = xs.length
  | [], _ => rfl
  | k :: ks, xs => (holes_len (ks := ks) (xs := xs.set k hole)).trans (by simp)
theorem partA_set {k : Nat} : ∀ {ks : List Nat}, k ∉ ks → partA (xs.set k z) ks = partA xs ks := fun h => by
  unfold partA
  apply List.map_congr_left
  intro j hj
  rw [List.getElem?_set_ne fun q => h (by rw [q]; exact hj)]
theorem zc_takes : ∀ {ks : List Nat} {xs : List PV} {ps : List Rs}, nodupB ks = true → (∀ k ∈ ks, k < xs.length) → vs.length = xs.length → Good B O (ps ++ zc K T xs vs) H F → Good B O (ps ++ (zc K T (holes xs ks) vs ++ zc K T (partA xs ks) (pick vs ks))) H F
  | [], xs, ps, _, _, _, g => by
    show Good B O (ps ++ (zc K T xs vs ++ [])) H F
    rw [List.append_nil]; exact g
  | k :: ks, xs, ps, nd, hb, hn, g => by
    simp only [nodupB, Bool.and_eq_true, decide_eq_true_eq] at nd
    obtain ⟨x, hk⟩ : ∃ x, xs[k]? = some x := ⟨_, List.getElem?_eq_getElem (hb k (by simp))⟩
    obtain ⟨v, h1, g1⟩ := zc_take hn g hk
    have g2 : Good B O ((ps ++ [cv K T x v]) ++ zc K T (xs.set k hole) vs) H F := g1.perm (by
      rw [List.append_assoc]
      exact (List.perm_append_comm).append_left ps)
    have g3 := zc_takes (ks := ks) nd.2 (fun j hj => by rw [List.length_set]; exact hb j (by simp [hj])) (by simpa using hn) g2
    rw [partA_set nd.1] at g3
    have e1 : partA xs (k :: ks) = x :: partA xs ks := by simp [partA, hk]
    have e2 : pick vs (k :: ks) = v :: pick vs ks := by simp [pick, h1]
    rw [e1, e2]
    refine g3.perm ?_
    show ((ps ++ [cv K T x v]) ++ (zc K T (holes (xs.set k hole) ks) vs ++ zc K T (partA xs ks) (pick vs ks))).Perm (ps ++ (zc K T (holes (xs.set k hole) ks) vs ++ (cv K T x v :: zc K T (partA xs ks) (pick vs ks))))
    rw [List.append_assoc]
    refine List.Perm.append_left ps ?_
    show (cv K T x v :: (zc K T (holes (xs.set k hole) ks) vs ++ zc K T (partA xs ks) (pick vs ks))).Perm _
    exact (List.perm_middle (a := cv K T x v)).symm
theorem pm3 (Z L C R : List Rs) : ((Z ++ (L ++ C)) ++ R).Perm ((Z ++ (L ++ R)) ++ C) := by
  simp only [List.append_assoc]
  exact (List.perm_append_comm.append_left _).append_left _
theorem pm2 (Z A E R : List Rs) (c : Rs) : (Z ++ (A ++ ((c :: E) ++ R))).Perm ((Z ++ (E ++ R)) ++ (A ++ [c])) := by
  rw [List.append_assoc]
  refine List.Perm.append_left Z ?_
  rw [List.cons_append]
  refine List.perm_middle.trans ((List.perm_append_singleton _ _).symm.trans ?_)
  refine (List.perm_append_comm (l₁ := A) (l₂ := E ++ R)).append_right [c] |>.trans ?_
  rw [List.append_assoc]
theorem ixsE_inv {n o m : Nat} : ∀ {es : List CE} {ks : List Nat}, ixsE e o m (n + 1) es = some ks → ∃ q es' jj b ks', es = .ix (.var o) q :: es' ∧ evQ e q = some (.int jj) ∧ ixN m jj = some b ∧ ixsE e o m n es' = some ks' ∧ ks = b :: ks'
  | [], ks, h => by simp [ixsE] at h
  | c :: es, ks, h => by
    cases c <;> try (simp [ixsE] at h; done)
    rename_i a q
    cases a <;> try (simp [ixsE] at h; done)
    rename_i j
    simp only [ixsE] at h
    split at h
    · rename_i hj
      subst hj
      split at h
      · rename_i jj hi
        obtain ⟨b, h5, h6⟩ := bind1 h
        obtain ⟨ks', h7, rfl⟩ := map1 h6
        exact ⟨q, es, jj, b, ks', rfl, hi, h5, h7, rfl⟩
      · cases h
    · cases h
theorem putL_good : ∀ {ks : List Nat} {os os' : List (Option PV)} {xs ys : List PV} {ps : List Rs} {F : Hp}, putL xs ks os = some (ys, os') → vs.length = xs.length → (∀ k ∈ ks, k < xs.length) →
    Good B O (ps ++ (zc K T xs vs ++ (ze K T os ((pick vs ks ++ ws).map some) ++ R))) H F → ∃ F', Good B O (ps ++ (zc K T ys vs ++ (ze K T os' (ws.map some) ++ R))) H F' ∧ ys.length = xs.length
  | [], os, os', xs, ys, ps, F, h, hn, hb, g => by
    simp only [putL, Option.some.injEq, Prod.mk.injEq] at h
    obtain ⟨rfl, rfl⟩ := h
    exact ⟨F, g, rfl⟩
  | k :: ks, [], os', xs, ys, ps, F, h, hn, hb, g => by simp [putL] at h
  | k :: ks, none :: os, os', xs, ys, ps, F, h, hn, hb, g => by simp [putL] at h
  | k :: ks, some y :: os, os', xs, ys, ps, F, h, hn, hb, g => by
    have h : putL (xs.set k y) ks os = some (ys, os') := h
    have hk : k < vs.length := by rw [hn]; exact hb k (by simp)
    have e2 : pick vs (k :: ks) = vs[k] :: pick vs ks := by simp [pick, hk]
    rw [e2] at g
    have g1 : Good B O ((ps ++ (ze K T os ((pick vs ks ++ ws).map some) ++ R)) ++ (zc K T xs vs ++ [cv K T y vs[k]])) H F := g.perm (pm2 _ _ _ _ _)
    obtain ⟨F1, g2⟩ := zc_put hn (List.getElem?_eq_getElem hk) g1
    have g3 : Good B O (ps ++ (zc K T (xs.set k y) vs ++ (ze K T os ((pick vs ks ++ ws).map some) ++ R))) H F1 := g2.perm (by
      rw [List.append_assoc]
      exact List.perm_append_comm.append_left ps)
    obtain ⟨F2, g4, h4⟩ := putL_good (ks := ks) h (by simpa using hn) (fun j hj => by rw [List.length_set]; exact hb j (by simp [hj])) g3
    exact ⟨F2, g4, by simpa using h4⟩
theorem ixsE_lt : ∀ {n o m : Nat} {es : List CE} {ks : List Nat}, ixsE e o m n es = some ks → ∀ k ∈ ks, k < m
  | 0, o, m, es, ks, h => by simp [ixsE] at h; subst h; exact fun _ z => by cases z
  | n + 1, o, m, es, ks, h => by
    obtain ⟨q, es', jj, b, ks', rfl, h1, h2, h3, rfl⟩ := ixsE_inv h
    intro k hk
    rcases List.mem_cons.mp hk with rfl | hk
    · exact ixN_lt h2
    · exact ixsE_lt h3 k hk
/-- the items are asked -/
theorem parts_ok (kt : KT K T) {a : Addr} : ∀ {n o : Nat} {es : List CE} {ks : List Nat} {Q : List V → Hp → Prop}, wfs K T es → σ.length = e.length → Good B O (ze K T e σ ++ L) H F → slot e o = some (.lst true xs) → σ[o]? = some (some (.ref a)) → H a = some (.lst vs) → vs.length = xs.length → ixsE e o xs.length n es = some ks →
    (taOf (sems K T (es.drop n) W).1) σ H (fun ws H1 => Q (pick vs ks ++ ws) H1) → (taOf (sems K T es W).1) σ H Q
  | 0, o, es, ks, Q, hw, hl, g, hs, h1, h2, h3, h4, k => by
    simp [ixsE] at h4; subst h4
    exact k
  | n + 1, o, es, ks, Q, hw, hl, g, hs, h1, h2, h3, h4, k => by
    obtain ⟨q, es', jj, b, ks', rfl, hi, h5, h7, rfl⟩ := ixsE_inv h4
    have hb : b < vs.length := by rw [h3]; exact ixN_lt h5
    show tCons (sem K T (.ix (.var o) q) W).1 (taOf (sems K T es' W).1) σ H Q
    refine ⟨.ref a, h1, pq kt q W hw.1.2 hi hl g fun v ⟨_, hv⟩ => .inl ⟨a, vs, jj, vs[b], rfl, rep_int hv, .inl (.inl h2), ?_, ?_⟩⟩
    · unfold atI
      rw [h3, h5]
      exact List.getElem?_eq_getElem hb
    · refine parts_ok kt (es := es') (ks := ks') hw.2 hl g hs h1 h2 h3 h7 ?_
      have e1 : pick vs (b :: ks') = vs[b] :: pick vs ks' := by simp [pick, hb]
      rw [e1] at k
      exact k
/-- .. and the others, the list locked meanwhile -/
theorem part_ok' (kt : KT K T) {n : Nat} {es : List CE} (sa : SXa K T (es.drop n)) (hw : wfs K T es) (hw2 : wfs K T (es.drop n)) (hl : σ.length = e.length) (g : Good B O (ze K T e σ ++ L) H F) {kk : Nat → List PV → List Nat → List (PV × Option Nat) → Slots → Res PV} {S : List V → Hp → Prop} {P : PV → Slots → Prop}
    (k : PG K T W B O L σ P (partM n es (evXd n es) kk e))
    (hk : ∀ (o : Nat) (xs : List PV) (ks : List Nat) (as : List (PV × Option Nat)) (e' : Slots) (a : Addr) (vs ws : List V) (H' F' : Hp), σ.length = e'.length → σ[o]? = some (some (.ref a)) → vs.length = xs.length → (∀ k ∈ ks, k < xs.length) → nodupB ks = true → lentOk σ as ws →
      Good B O (ze K T e' σ ++ (L ++ ((.own (cel a (.lst vs)), some (.ref a)) :: zc K T xs vs)) ++ zc K T (as.map (·.1)) ws) H' F' → PG K T W B O L σ P (kk o xs ks as e') → S (pick vs ks ++ ws) H') : (taOf (sems K T es W).1) σ H S := by
  unfold partM at k
  split at k
  · rename_i xs hs
    split at k
    · rename_i ks h4
      split at k
      · rename_i nd
        obtain ⟨v, h1, g1⟩ := slot_take hl g hs
        obtain ⟨a, vs, rfl, hn, ha, g2⟩ := open_cell g1
        refine parts_ok kt hw hl g hs h1 ha hn h4 ?_
        rw [evXd_drop] at k
        refine sa W B O F H (L ++ ((.own (cel a (.lst vs)), some (.ref a)) :: zc K T xs vs)) (e.set (rootE es) none) σ _ hw2 (by simpa using hl) (by rw [← List.append_assoc]; exact g2) (PG.imp (PG.more (PG_bind.mp k)) fun as e' k' hl' ws H' F' hlt g' => ?_)
        exact hk _ xs ks as e' a vs ws H' F' hl'.symm h1 hn (ixsE_lt h4) nd hlt g' k'
      · exact k.elim
    · exact k.elim
  · exact k.elim
theorem wfs_drop : ∀ {n : Nat} {es : List CE}, wfs K T es → wfs K T (es.drop n)
  | 0, _, h => h
  | n + 1, [], h => h
  | n + 1, c :: cs, h => wfs_drop (n := n) (es := cs) h.2
theorem zc_app {xs ys : List PV} {vs ws : List V} (h : vs.length = xs.length) : zc K T (xs ++ ys) (vs ++ ws) = zc K T xs vs ++ zc K T ys ws := by
  show ((((xs ++ ys).map some).map (sdo K T)).zip ((vs ++ ws).map some)) = _
  rw [List.map_append, List.map_append, List.map_append, List.zip_append (by simp [h])]
theorem pick_len {ks : List Nat} : (pick vs ks).length = (partA xs ks).length := by simp [pick, partA]
theorem split_parts {a : Addr} {ks : List Nat} {as : List (PV × Option Nat)} (hn : vs.length = xs.length) (hb : ∀ k ∈ ks, k < xs.length) (nd : nodupB ks = true)
    (g : Good B O (ze K T e σ ++ (L ++ ((.own (cel a (.lst vs)), some (.ref a)) :: zc K T xs vs)) ++ zc K T (as.map (·.1)) ws) H F) :
    Good B O ((ze K T e σ ++ (L ++ ((.own (cel a (.lst vs)), some (.ref a)) :: zc K T (holes xs ks) vs))) ++ zc K T (partA xs ks ++ as.map (·.1)) (pick vs ks ++ ws)) H F := by
  have g1 : Good B O ((ze K T e σ ++ (L ++ [(.own (cel a (.lst vs)), some (.ref a))]) ++ zc K T (as.map (·.1)) ws) ++ zc K T xs vs) H F := g.perm (by
    rw [List.append_assoc, List.append_assoc, List.append_assoc, List.append_assoc, List.append_assoc]
    refine List.Perm.append_left _ (List.Perm.append_left _ (List.Perm.cons _ ?_))
    exact List.perm_append_comm)
  have g2 := zc_takes nd hb hn g1
  rw [zc_app pick_len]
  refine g2.perm ?_
  simp only [List.append_assoc, List.singleton_append, List.cons_append, List.nil_append]
  refine List.Perm.append_left _ (List.Perm.append_left _ (List.Perm.cons _ ?_))
  refine (List.perm_append_comm).trans ?_
  rw [List.append_assoc]
/-- all of it comes back -/
theorem back_parts {a : Addr} {o : Nat} {ks : List Nat} {as : List (PV × Option Nat)} {os : List (Option PV)} {e2 : Slots} (hl : σ.length = e.length) (h1 : σ[o]? = some (some (.ref a))) (hlt : lentOk σ as ws) (hn : vs.length = xs.length) (hb : ∀ k ∈ ks, k < xs.length) (hq : backP o xs ks as os e = some e2)
    (g : Good B O ((ze K T e σ ++ (L ++ ((.own (cel a (.lst vs)), some (.ref a)) :: zc K T (holes xs ks) vs))) ++ (ze K T os ((pick vs ks ++ ws).map some) ++ R)) H F) : e2.length = e.length ∧ ∃ F', Good B O (ze K T e2 σ ++ L ++ R) H F' := by
  unfold backP at hq
  obtain ⟨⟨ys, os'⟩, h2, rfl⟩ := map1 hq
  refine ⟨by simp [backM_len], ?_⟩
  have g1 : Good B O ((ze K T e σ ++ (L ++ [(.own (cel a (.lst vs)), some (.ref a))])) ++ (zc K T (holes xs ks) vs ++ (ze K T os ((pick vs ks ++ ws).map some) ++ R))) H F := by
    simp only [List.append_assoc, List.singleton_append, List.cons_append, List.nil_append] at g ⊢
    exact g
  obtain ⟨F1, g2, hy⟩ := putL_good h2 (by rw [holes_len]; exact hn) (fun k hk => by rw [holes_len]; exact hb k hk) g1
  rw [holes_len] at hy
  have g3 : Good B O ((ze K T e σ ++ (L ++ ((.own (cel a (.lst vs)), some (.ref a)) :: zc K T ys vs))) ++ (ze K T os' (ws.map some) ++ R)) H F1 := by
    simp only [List.append_assoc, List.singleton_append, List.cons_append, List.nil_append] at g2 ⊢
    exact g2
  obtain ⟨F2, g4⟩ := back_good hl hlt g3
  have g5 : Good B O ((ze K T (backM as os' e) σ ++ (L ++ R)) ++ ((.own (cel a (.lst vs)), some (.ref a)) :: zc K T ys vs)) H F2 := g4.perm (pm3 _ _ _ _)
  have g6 := close_cell (by rw [hn, hy]) g5
  obtain ⟨F3, g7, _⟩ := slot_back (s := some (.lst true ys)) (by rw [backM_len]; exact hl) h1 g6
  exact ⟨F3, by rw [← List.append_assoc] at g7; exact g7⟩
theorem callP_ok (kt : KT K T) {f : Fn} {n : Nat} {es : List CE} (sa : SXa K T (es.drop n)) (hw : wfs K T es) (hl : σ.length = e.length) (g : Good B O (ze K T e σ ++ L) H F)
    (k : PG K T W B O L σ (okV K T B O L σ Q) (partM n es (evXd n es) (callPM f) e)) : (taOf (sems K T es W).1) σ H fun vs H1 => spF K T.adr T.exc f vs H1 Q (WE W σ) := by
  refine part_ok' kt sa hw (wfs_drop hw) hl g k fun o xs ks as e' a vs ws H' F' hl' h1 hn hb nd hlt g' k' => ?_
  have g1 := split_parts hn hb nd g'
  obtain ⟨O2, g2, back⟩ := g1.frame
  refine ⟨partA xs ks ++ as.map (·.1), F', O2, by simp [pick, partA, hlt.len], g2, ?_⟩
  unfold callPM at k'
  cases q : f (partA xs ks ++ as.map (·.1)) with
  | stuck => rw [q] at k'; exact k'.elim
  | exc n os =>
    rw [q] at k'
    dsimp only at k'
    cases hq : backP o xs ks as os e' with
    | none => rw [hq] at k'; exact k'.elim
    | some e2 =>
      rw [hq] at k'
      intro C hC H2 F2 ho g3
      obtain ⟨he, F4, g4⟩ := back_parts (R := []) hl' h1 hlt hn hb hq (by simpa using back _ H2 F2 g3)
      exact k' (by rw [he, hl']) H2 F4 (by simpa using g4) C hC
  | ok y os =>
    rw [q] at k'
    dsimp only at k'
    cases hq : backP o xs ks as os e' with
    | none => rw [hq] at k'; exact k'.elim
    | some e2 =>
      rw [hq] at k'
      intro v H2 F2 ho g3
      obtain ⟨he, F4, g4⟩ := back_parts hl' h1 hlt hn hb hq (back _ H2 F2 g3)
      exact k' (by rw [he, hl']) v H2 F4 g4
theorem makeP_ok (kt : KT K T) {c : Str} {C : Addr} (hC : T.adr c = some C) {f : Fn} {n : Nat} {es : List CE} (sa : SXa K T (es.drop n)) (hw : wfs K T es) (hl : σ.length = e.length) (g : Good B O (ze K T e σ ++ L) H F)
    (k : PG K T W B O L σ (okV K T B O L σ Q) (partM n es (evXd n es) (makePM c f) e)) : (taOf (sems K T es W).1) σ H fun vs H => ∀ x dx, H x = none → H dx = none → dx ≠ x →
      spF K T.adr T.exc f (.ref x :: vs) (upd (upd H dx (.own x)) x (.ins C dx [])) (fun v H2 => v = .non ∧ Q (.ref x) H2) (WE W σ) := by
  refine part_ok' kt sa hw (wfs_drop hw) hl g k fun o xs ks as e' a vs ws H' F' hl' h1 hn hb nd hlt g' k' => ?_
  intro x dx hx hdx hne
  have g1 := new_cell (o := .own x) (split_parts hn hb nd g') hdx
  have g2 := new_cell (o := .ins C dx []) g1 (p := x) (by rw [upd_ne (Ne.symm hne)]; exact hx)
  rw [List.append_assoc] at g2
  have g3 : Good B O ((ze K T e' σ ++ (L ++ ((.own (cel a (.lst vs)), some (.ref a)) :: zc K T (holes xs ks) vs))) ++ zc K T (partA xs ks ++ as.map (·.1)) (pick vs ks ++ ws) ++ [cv K T (.ins true c [] []) (.ref x)]) (upd (upd H' dx (.own x)) x (.ins C dx [])) F' := by
    refine g2.swap fun ads h nd => ⟨fun _ _ => rfl, ?_⟩
    obtain ⟨a, b, rfl, h1, h2⟩ := h.cut
    obtain ⟨rfl, h3⟩ := okL_cel h1
    obtain ⟨rfl, h4⟩ := okL_cel h2
    exact ⟨[x, dx], okL_one.mpr ⟨x, C, dx, [], [], rfl, hC, rfl, h4, h3, rfl, rfl⟩, .swap _ _ _⟩
  have g4 : Good B O ((ze K T e' σ ++ (L ++ ((.own (cel a (.lst vs)), some (.ref a)) :: zc K T (holes xs ks) vs))) ++ (zc K T (.ins true c [] [] :: (partA xs ks ++ as.map (·.1))) (.ref x :: (pick vs ks ++ ws)))) (upd (upd H' dx (.own x)) x (.ins C dx [])) F' := g3.perm (by
    rw [List.append_assoc]
    refine List.Perm.append_left _ ?_
    exact List.perm_append_singleton _ _)
  obtain ⟨O2, g5, back⟩ := g4.frame
  refine ⟨.ins true c [] [] :: (partA xs ks ++ as.map (·.1)), F', O2, by simp [pick, partA, hlt.len], g5, ?_⟩
  unfold makePM at k'
  cases q : f (.ins true c [] [] :: (partA xs ks ++ as.map (·.1))) with
  | stuck => rw [q] at k'; exact k'.elim
  | exc n os =>
    rw [q] at k'
    cases os with
    | nil => exact k'.elim
    | cons o' os =>
      dsimp only at k'
      cases hq : backP o xs ks as os e' with
      | none => rw [hq] at k'; exact k'.elim
      | some e2 =>
        rw [hq] at k'
        intro Ce hCe H2 F2 ho g6
        have g7 : Good B O ((sdo K T o', some (.ref x)) :: ((ze K T e' σ ++ (L ++ ((.own (cel a (.lst vs)), some (.ref a)) :: zc K T (holes xs ks) vs))) ++ (ze K T os ((pick vs ks ++ ws).map some) ++ []))) H2 F2 := (back _ H2 F2 g6).perm (by rw [List.append_nil]; exact List.perm_middle)
        obtain ⟨F8, g8, _⟩ := g7.drop
        obtain ⟨he, F4, g9⟩ := back_parts (R := []) hl' h1 hlt hn hb hq g8
        exact k' (by rw [he, hl']) H2 F4 (by simpa using g9) Ce hCe
  | ok y os =>
    rw [q] at k'
    cases y with
    | non =>
      cases os with
      | nil => exact k'.elim
      | cons o' os =>
        cases o' with
        | none => exact k'.elim
        | some s =>
          dsimp only at k'
          cases hq : backP o xs ks as os e' with
          | none => rw [hq] at k'; exact k'.elim
          | some e2 =>
            rw [hq] at k'
            intro v H2 F2 ho g6
            have g7 := back _ H2 F2 g6
            have g8 : Good B O (((ze K T e' σ ++ (L ++ ((.own (cel a (.lst vs)), some (.ref a)) :: zc K T (holes xs ks) vs))) ++ (ze K T os ((pick vs ks ++ ws).map some) ++ [cv K T s (.ref x)])) ++ [cv K T .non v]) H2 F2 := g7.perm (by
              rw [← List.append_assoc]
              refine List.Perm.append_right _ ?_
              refine List.Perm.append_left _ ?_
              exact (List.perm_append_singleton (cv K T s (.ref x)) (ze K T os ((pick vs ks ++ ws).map some))).symm)
            obtain ⟨_, r, _⟩ := rep_of g8
            obtain ⟨F9, g9, _⟩ := drop1 g8
            obtain ⟨he, F4, g10⟩ := back_parts hl' h1 hlt hn hb hq g9
            exact ⟨rep_non r, k' (by rw [he, hl']) _ H2 F4 g10⟩
    | _ => exact k'.elim
end
end Rk

set_option Elab.async false
set_option linter.all false
set_option maxRecDepth 100000
set_option maxHeartbeats 2000000
namespace Rk
open PySem PySem.Spec PyProof.Rows L2
section
variable {K : PySem.W.Frag} {T : Tab}
theorem evX_sl {a lo hi : CE} {e : Slots} : evX (.sl a lo hi) e = one a (evX a) e fun x e => match partQ e lo, partQ e hi with
    | some l, some h => ofO (slQ x l h) e
    | _, _ => .stuck := rfl
theorem sx_blt (kt : KT K T) {b : Blt} {es : List CE} (hs : ∀ c ∈ es, SXp K T c) : SXp K T (.blt b es) := fun W B O F H L e σ Q hw hl g k => by
  show (taOf (sems K T es W).1) σ H fun vs H1 => bltR K b vs H1 Q
  have k0 : PG K T W B O L σ (okV K T B O L σ Q) (evXb b es e) := k
  match es, hs, hw, k0 with
  | [], _, _, k0 => exact k0.elim
  | [a], hs, hw, k0 =>
    refine one_ok kt (hs a (by simp)) hw.1 hl g (show PG K T W B O L σ (okV K T B O L σ Q) (one a (evX a) e fun x e => ofO (bltX b x) e) from k0) fun x e' u H' F' ts hl' g' hu k' => ?_
    obtain ⟨y, h1, k2⟩ := PG_ofO k'
    exact bltX_ok hl' g' hu h1 k2
  | [a, c], hs, hw, k0 =>
    refine two_ok kt (hs a (by simp)) (hs c (by simp)) hw.1 hw.2.1 hl g (show PG K T W B O L σ (okV K T B O L σ Q) (two a c (evX a) (evX c) e fun x y e => ofO (bltQ b [x, y]) e) from k0) fun x y e' u w H' F' ts hl' g' hu hw' k' => ?_
    obtain ⟨z, h1, k2⟩ := PG_ofO k'
    exact bltQ_ok (xs := [x, y]) (vs := [u, w]) g'.exH ⟨hu, hw', trivial⟩ h1 fun v hv => fin_rep g' hl' hv k2
  | _ :: _ :: _ :: _, _, _, k0 => exact k0.elim
theorem reps_rev0 {F H : Hp} : ∀ {xs : List PV} {vs : List V}, reps K T.adr F H xs vs [] → reps K T.adr F H xs.reverse vs.reverse []
  | [], [], _ => rfl
  | x :: xs, v :: vs, ⟨a, b, h1, h2, h3⟩ => by
    obtain ⟨rfl, rfl⟩ := List.append_eq_nil_iff.mp h1.symm
    rw [List.reverse_cons, List.reverse_cons]
    exact reps_app (a := []) (b := []) (reps_rev0 h3) ⟨[], [], rfl, h2, rfl⟩
mutual
theorem sx (kt : KT K T) : ∀ c : CE, SXp K T c
  | .mov i => fun W B O F H L e σ Q hw hl g k => by
    have k0 : PG K T W B O L σ (okV K T B O L σ Q) (match slot e i with
      | none => .stuck
      | some x => .ok x (e.set i none)) := k
    cases q : slot e i with
    | none => rw [q] at k0; exact k0.elim
    | some x =>
      rw [q] at k0
      obtain ⟨v, h1, g1⟩ := slot_take hl g q
      exact ⟨v, h1, k0 (by simpa using hl.symm) v H F g1⟩
  | .frz n a => fun W B O F H L e σ Q hw hl g k => by
    have k0 : PG K T W B O L σ (okV K T B O L σ Q) ((valM a (evX a) e).bind fun x e => .ok (frz n x) e) := k
    show (sem K T a W).1 σ H Q
    refine val_ok kt (sx kt a) hw hl g ((PG_bind.mp k0).imp fun y e' k' hl' v H' F' g' => ?_)
    obtain ⟨F1, g1, _⟩ := frz_good (n := n) g'
    exact k' hl' v H' F1 g1
  | .bin op a b => fun W B O F H L e σ Q hw hl g k =>
    two_ok kt (sx kt a) (sx kt b) hw.1 hw.2 hl g (show PG K T W B O L σ (okV K T B O L σ Q) (two a b (evX a) (evX b) e fun x y e => ofO (binQ op x y) e) from k) fun x y e' u w H' F' ts hl' g' hu hw' k' => by
      obtain ⟨z, h1, k2⟩ := PG_ofO k'
      exact binQ_ok hu hw' h1 fun v hv => fin_rep g' hl' hv k2
  | .cat op a b => fun W B O F H L e σ Q hw hl g k =>
    two_ok kt (sx kt a) (sx kt b) hw.1 hw.2 hl g (show PG K T W B O L σ (okV K T B O L σ Q) (two a b (evX a) (evX b) e fun x y e => ofO (catQ op x y) e) from k) fun x y e' u w H' F' ts hl' g' hu hw' k' => by
      obtain ⟨z, h1, k2⟩ := PG_ofO k'
      exact catQ_ok hl' g' hu hw' h1 k2
  | .neg a => fun W B O F H L e σ Q hw hl g k =>
    one_ok kt (sx kt a) hw hl g (show PG K T W B O L σ (okV K T B O L σ Q) (one a (evX a) e fun x e => ofO (negQ x) e) from k) fun x e' u H' F' ts hl' g' hu k' => by
      obtain ⟨z, h1, k2⟩ := PG_ofO k'
      obtain ⟨_, hu⟩ := hu
      cases x <;> simp [negQ] at h1
      subst h1
      exact ⟨_, rep_int hu, fin_rep (z := .int _) g' hl' ⟨rfl, rfl⟩ k2⟩
  | .cmp op a b => fun W B O F H L e σ Q hw hl g k =>
    two_ok kt (sx kt a) (sx kt b) hw.1 hw.2 hl g (show PG K T W B O L σ (okV K T B O L σ Q) (two a b (evX a) (evX b) e fun x y e => ofO ((cmpQ op x y).map .bl) e) from k) fun x y e' u w H' F' ts hl' g' hu hw' k' => by
      obtain ⟨z, h1, k2⟩ := PG_ofO k'
      obtain ⟨t, h2, rfl⟩ := map1 h1
      exact cmpQ_ok g'.exH hu hw' h2 (fin_rep (z := .bl t) g' hl' ⟨rfl, rfl⟩ k2)
  | .and es => fun W B O F H L e σ Q hw hl g k => sav kt es W B O F H L e σ Q hw hl g k
  | .or es => fun W B O F H L e σ Q hw hl g k => sov kt es W B O F H L e σ Q hw hl g k
  | .not a => fun W B O F H L e σ Q hw hl g k =>
    one_ok kt (sx kt a) hw hl g (show PG K T W B O L σ (okV K T B O L σ Q) (one a (evX a) e fun x e => ofO (notQ x) e) from k) fun x e' u H' F' ts hl' g' hu k' => by
      obtain ⟨z, h1, k2⟩ := PG_ofO k'
      obtain ⟨b, h2, rfl⟩ := map1 h1
      exact ⟨b, bool_rp h2 hu, fin_rep (z := .bl _) g' hl' ⟨rfl, rfl⟩ k2⟩
  | .tup es => fun W B O F H L e σ Q hw hl g k => by
    have k0 : PG K T W B O L σ (okV K T B O L σ Q) ((evXs es e).bind fun xs e => if xs.length ≤ lim then .ok (.tup xs) e else .stuck) := k
    refine sxl kt es W B O F H L e σ _ hw hl g ((PG_bind.mp k0).imp fun xs e' k' hl' vs H' F' hn g' => ?_)
    split at k'
    · rename_i hlim
      exact ⟨by rw [hn]; exact Nat.le_trans hlim lim_line, fun p hp => k' hl' _ _ _ (new_tup hn g' hp)⟩
    · exact k'.elim
  | .lst es => fun W B O F H L e σ Q hw hl g k => by
    have k0 : PG K T W B O L σ (okV K T B O L σ Q) ((evXs es e).bind fun xs e => if xs.length ≤ lim then .ok (.lst true xs) e else .stuck) := k
    refine sxl kt es W B O F H L e σ _ hw hl g ((PG_bind.mp k0).imp fun xs e' k' hl' vs H' F' hn g' => ?_)
    split at k'
    · rename_i hlim
      exact ⟨by rw [hn]; exact Nat.le_trans hlim lim_line, fun p hp => k' hl' _ _ _ (new_list hn g' hp)⟩
    · exact k'.elim
  | .dct tk => fun W B O F H L e σ Q hw hl g k => by
    cases tk with
    | true => exact PG.imp (P' := fun _ _ => False) (r := (.stuck : Res PV)) k (fun _ _ h => (show PG K T W B O L σ (okV K T B O L σ Q) .stuck from k).elim)|>.elim
    | false =>
      intro p hp
      have k0 : okV K T B O L σ Q (.dic true [] []) e := k
      exact k0 hl.symm _ _ _ (new_dict g hp)
  | .ix a i => fun W B O F H L e σ Q hw hl g k => by
    have k0 : PG K T W B O L σ (okV K T B O L σ Q) (if pu a = true then two a i (evX a) (evX i) e fun x y e => ofF (ixQ x y) e
      else if pu i = true then (evX a e).bind fun x e => (match evQ e i with
        | some y => ofO (ixQ x y) e
        | none => .stuck)
      else two a i (evX a) (evX i) e fun x y e => ofF (ixQ x y) e) := k
    have twoC : PG K T W B O L σ (okV K T B O L σ Q) (two a i (evX a) (evX i) e fun x y e => ofF (ixQ x y) e) → tOp (rIx K) (sem K T a W).1 (sem K T i W).1 σ H Q := fun k1 =>
      two_ok kt (sx kt a) (sx kt i) hw.1 hw.2 hl g k1 fun x y e' u w H' F' ts hl' g' hu hw' k' => by
        obtain ⟨z, h1, f, k2⟩ := PG_ofF k'
        exact ixQ_ok g'.exH hu hw' h1 fun v ⟨_, hv⟩ => fin_rep g' hl' (rep_dup f hv) k2
    split at k0
    · exact twoC k0
    · split at k0
      · refine sx kt a W B O F H L e σ _ hw.1 hl g ((PG_bind.mp k0).imp fun x e' k' hl' u H' F' g' => ?_)
        cases q : evQ e' i with
        | none => rw [q] at k'; exact k'.elim
        | some y =>
          rw [q] at k'
          obtain ⟨z, h1, k2⟩ := PG_ofO k'
          exact pq kt i W hw.2 q hl'.symm (by rw [List.append_assoc] at g'; exact g') fun w hw' => ixT_ok hl' g' hw' h1 k2
      · exact twoC k0
  | .dix a i => fun W B O F H L e σ Q hw hl g k =>
    two_ok kt (sx kt a) (sx kt i) hw.1 hw.2 hl g (show PG K T W B O L σ (okV K T B O L σ Q) (two a i (evX a) (evX i) e fun x y e => ofF (dixQ x y) e) from k) fun x y e' u w H' F' ts hl' g' ⟨_, hu⟩ ⟨_, hw'⟩ k' => by
      obtain ⟨z, h1, f, k2⟩ := PG_ofF k'
      cases x <;> simp [dixQ] at h1
      rename_i o ks xs
      obtain ⟨a, r, rfl, h4, _, h5⟩ := dget_of g'.exH hu hw' h1.1
      rw [h1.2] at h5
      obtain ⟨v, rfl, _, h6⟩ := h5
      exact ⟨a, v, rfl, h4, fin_rep g' hl' (rep_dup f h6) k2⟩
  | .din neg a d => fun W B O F H L e σ Q hw hl g k => by
    have main := two_ok kt (sx kt a) (sx kt d) (R := fun u w H => ∃ p r, w = .ref p ∧ DGet H p u r ∧ Q (.bl (if neg then !r.isSome else r.isSome)) H) hw.1 hw.2 hl g (show PG K T W B O L σ (okV K T B O L σ Q) (two a d (evX a) (evX d) e fun x y e => ofO ((dinQ y x).map fun b => .bl (if neg then !b else b)) e) from k) fun x y e' u w H' F' ts hl' g' hu hw' k' => by
      obtain ⟨z, h1, k2⟩ := PG_ofO k'
      obtain ⟨t, h2, rfl⟩ := map1 h1
      obtain ⟨_, hu⟩ := hu
      obtain ⟨_, hw'⟩ := hw'
      clear h1 k'
      cases y <;> simp [dinQ] at h2
      rename_i o ks xs
      obtain ⟨p, r, rfl, h4, _, h5⟩ := dget_of g'.exH hw' hu h2.1
      have hr : r.isSome = t := by
        rw [← h2.2]
        cases q : lookD ks xs x with
        | none => rw [q] at h5; rw [show r = none from h5]; rfl
        | some z => rw [q] at h5; obtain ⟨v, e, _⟩ := h5; rw [e]; rfl
      exact ⟨p, r, rfl, h4, by rw [hr]; exact fin_rep (z := .bl _) g' hl' ⟨rfl, rfl⟩ k2⟩
    cases neg with
    | true => exact main
    | false => exact main
  | .sl a lo hi => fun W B O F H L e σ Q hw hl g k => by
    rw [evX_sl] at k
    refine one_ok kt (sx kt a) hw.1 hl g k fun x e' u H' F' ts hl' g' hu k' => ?_
    cases q1 : partQ e' lo with
    | none => rw [q1] at k'; exact k'.elim
    | some l =>
      cases q2 : partQ e' hi with
      | none => rw [q1, q2] at k'; exact k'.elim
      | some h =>
        rw [q1, q2] at k'
        obtain ⟨z, h1, k2⟩ := PG_ofO k'
        exact part_ok kt hw.2.1 hl'.symm g' q1 (part_ok kt hw.2.2 hl'.symm g' q2 (slQ_ok hl' g' hu h1 k2))
  | .fld a f => fun W B O F H L e σ Q hw hl g k =>
    one_ok kt (sx kt a) hw.2 hl g (show PG K T W B O L σ (okV K T B O L σ Q) (one a (evX a) e fun x e => ofF (fldQ x f) e) from k) fun x e' u H' F' ts hl' g' hu k' => by
      obtain ⟨z, h1, fz, k2⟩ := PG_ofF k'
      exact fldQ_ok (W := W) (σ := σ) kt hw.1 g'.exH hu h1 fun v ⟨_, hv⟩ => fin_rep g' hl' (rep_dup fz hv) k2
  | .call x f es => fun W B O F H L e σ Q hw hl g k => by
    have k0 : PG K T W B O L σ (okV K T B O L σ Q) ((evXa es e).bind fun as e => callM f as e) := k
    simp only [sem, hw.1]
    exact sxa kt es W B O F H L e σ _ hw.2 hl g ((PG_bind.mp k0).imp fun as e' k' hl' vs H' F' hlt g' => call_ok hl'.symm hlt g' k')
  | .make c f es => fun W B O F H L e σ Q hw hl g k => by
    have k0 : PG K T W B O L σ (okV K T B O L σ Q) ((evXa es e).bind fun as e => makeM c f as e) := k
    obtain ⟨⟨C, h1, h2⟩, h3⟩ := hw
    simp only [sem, h1]
    exact sxa kt es W B O F H L e σ _ h3 hl g ((PG_bind.mp k0).imp fun as e' k' hl' vs H' F' hlt g' => make_ok h2 hl'.symm hlt g' k')
  | .callP n x f es => fun W B O F H L e σ Q hw hl g k => by
    simp only [sem, hw.1]
    exact callP_ok kt (sxaD kt es n) hw.2 hl g k
  | .makeP n c f es => fun W B O F H L e σ Q hw hl g k => by
    obtain ⟨⟨C, h1, h2⟩, h3⟩ := hw
    simp only [sem, h1]
    exact makeP_ok kt h2 (sxaD kt es n) h3 hl g k
  | .meth c o m f es => fun W B O F H L e σ Q hw hl g k => by
    obtain ⟨⟨C, h1, h2⟩, h3, h4⟩ := hw
    exact meth_ok kt (sx kt o) (sxa kt es) h1 h2 h3 h4 hl g k
  | .blt b es => sx_blt kt (sxm kt es)
  | .isi a ty => fun W B O F H L e σ Q hw hl g k =>
    one_ok kt (sx kt a) hw hl g (show PG K T W B O L σ (okV K T B O L σ Q) (one a (evX a) e fun x e => ofO ((isiQ ty x).map .bl) e) from k) fun x e' u H' F' ts hl' g' hu k' => by
      obtain ⟨z, h1, k2⟩ := PG_ofO k'
      obtain ⟨t, h2, rfl⟩ := map1 h1
      exact isiQ_ok g'.exH hu h2 (fin_rep (z := .bl t) g' hl' ⟨rfl, rfl⟩ k2)
  | .bm b p es => fun W B O F H L e σ Q hw hl g k => by
    have k0 : PG K T W B O L σ (okV K T B O L σ Q) (if bmList b = true ∧ bmZero b = es.isEmpty then (if frB p = true then freshM isLst es (evXs es) (evX p) (fun ys x => bmX b x ys) e else if tpB e p = true then tupM isLst p es (fun ys x => bmX b x ys) e else mutM isLst p es (evXs es) (fun ys x => bmX b x ys) e) else .stuck) := k
    by_cases hb : bmList b = true ∧ bmZero b = es.isEmpty
    · rw [if_pos hb] at k0
      exact bm_ok kt hb.1 hb.2 (sx kt p) (sxl kt es) hw.1 hw.2 hl g k0
    · rw [if_neg hb] at k0
      exact k0.elim
  | .dpop1 p c => fun W B O F H L e σ Q hw hl g k => by
    have k0 : PG K T W B O L σ (okV K T B O L σ Q) (if pu c = true then mutM isDic p [c] (fun _ => .stuck) (fun ys x => match ys with
      | [y] => popDX y x
      | _ => none) e else .stuck) := k
    split at k0
    · rename_i hp
      exact pop_ok kt hw.1 hw.2 hp (sxl_cons kt (sx kt c) sxl_nil) hl g k0
    · exact k0.elim
  | .lrg a => fun W B O F H L e σ Q hw hl g k =>
    one_ok kt (sx kt a) hw hl g (show PG K T W B O L σ (okV K T B O L σ Q) (one a (evX a) e fun x e => ofO (lrgQ x) e) from k) fun x e' u H' F' ts hl' g' hu k' => by
      obtain ⟨z, h1, k2⟩ := PG_ofO k'
      obtain ⟨_, hu⟩ := hu
      cases x <;> try (cases h1; done)
      rename_i n
      have h1 : (if 0 ≤ n ∧ n ≤ 1000000 then some (PV.lst true ((rangeL 0 n).map .int)) else none) = some z := h1
      split at h1
      · rename_i hc
        cases h1
        refine ⟨n, rep_int hu, RgOk.of_le (by omega) (by omega) (by omega) (by omega), fun q hq => ?_⟩
        have hr : reps K T.adr F' H' ((rangeL 0 n).map .int) (rgV 0 n) [] := by
          have : rgV 0 n = (rangeL 0 n).map V.int := by
            unfold rgV rangeL
            rw [List.map_map]; rfl
          rw [this]
          exact reps_ints
        exact fin_lst g' hl' hr hq k2
      · cases h1
  | .lrv a => fun W B O F H L e σ Q hw hl g k =>
    one_ok kt (sx kt a) hw hl g (show PG K T W B O L σ (okV K T B O L σ Q) (one a (evX a) e fun x e => ofO (lrvQ x) e) from k) fun x e' u H' F' ts hl' g' hu k' => by
      obtain ⟨z, h1, k2⟩ := PG_ofO k'
      obtain ⟨its, h2, rfl⟩ := map1 h1
      obtain ⟨a', us, rfl, h3, h4⟩ := seq_ok h2 g'.exH hu
      exact ⟨a', us, rfl, h3, fun q hq => fin_lst g' hl' (reps_rev0 h4) hq k2⟩
  | .lc elt tg k es cond => lc_ok kt (sxa kt es) (sx kt elt) (sc kt cond)
  | .var _ => sx_none fun _ => rfl
  | .int _ => sx_none fun _ => rfl
  | .str _ => sx_none fun _ => rfl
  | .non => sx_none fun _ => rfl
  | .bl _ => sx_none fun _ => rfl
  | .nop => sx_none fun _ => rfl
  | .con _ _ => sx_none fun _ => rfl
  | .chn _ _ _ _ _ => sx_none fun _ => rfl
  | .dget1 _ _ => sx_none fun _ => rfl
  | .dget2 _ _ _ => sx_none fun _ => rfl
theorem sxm (kt : KT K T) : ∀ cs : List CE, ∀ c ∈ cs, SXp K T c
  | [], _, h => by cases h
  | c :: cs, d, h => by
    by_cases q : d = c
    · rw [q]; exact sx kt c
    · exact sxm kt cs d ((List.mem_cons.mp h).resolve_left q)
theorem sxl (kt : KT K T) : ∀ cs : List CE, SXl K T cs
  | [] => sxl_nil
  | c :: cs => sxl_cons kt (sx kt c) (sxl kt cs)
theorem sxa (kt : KT K T) : ∀ cs : List CE, SXa K T cs
  | [] => sxa_nil
  | c :: cs => sxa_cons kt (sx kt c) (sxa kt cs)
theorem sxaD (kt : KT K T) : ∀ (cs : List CE) (n : Nat), SXa K T (cs.drop n)
  | [], n => by rw [List.drop_nil]; exact sxa_nil
  | c :: cs, 0 => sxa_cons kt (sx kt c) (sxa kt cs)
  | c :: cs, n + 1 => sxaD kt cs n
theorem sav (kt : KT K T) : ∀ cs : List CE, SAv K T cs
  | [] => fun W B O F H L e σ Q hw hl g k => (show False from k).elim
  | [c] => sav_one kt (sx kt c)
  | c :: d :: cs => sav_cons kt (sx kt c) (sav kt (d :: cs))
theorem sov (kt : KT K T) : ∀ cs : List CE, SOv K T cs
  | [] => fun W B O F H L e σ Q hw hl g k => (show False from k).elim
  | [c] => sov_one kt (sx kt c)
  | c :: d :: cs => sov_cons kt (sx kt c) (sov kt (d :: cs))
theorem sc (kt : KT K T) : ∀ cs : List CE, SCp K T cs
  | [] => fun B O F H L e e' σ b Q hw hl g h k => by
    have h0 : (Res.ok (PV.bl true) e : Res PV) = .ok (.bl b) e' := h
    cases h0
    exact k hl.symm H F g
  | [c] => fun B O F H L e e' σ b Q hw hl g h k => by
    have h0 : (if tOk c = true then one c (evX c) e fun x e => ofO ((boolQ x).map .bl) e else .stuck) = .ok (.bl b) e' := h
    split at h0
    · rename_i ht
      refine stk kt c W0 B O F H L e σ _ (fun y e2 => y = .bl b ∧ e2 = e') Q ht hw.1 hl g (by rw [h0]; exact ⟨rfl, rfl⟩) fun x e2 H' F' hl' g' k' => ?_
      obtain ⟨y, h1, rfl, rfl⟩ := PG_ofO k'
      obtain ⟨b', h2, h3⟩ := map1 h1
      cases h3
      exact ⟨b, h2, k hl' H' F' g'⟩
    · cases h0
  | _ :: _ :: _ => fun B O F H L e e' σ b Q hw hl g h k => by cases (show (Res.stuck : Res PV) = .ok (.bl b) e' from h)
theorem stk (kt : KT K T) : ∀ c : CE, STk K T c
  | .and es => fun W B O F H L e σ kont P Q ht hw hl g k hk => by
    by_cases hp : pu (.and es) = true
    · exact stk_pure kt hw hp hl g k hk
    · unfold one at k
      rw [if_neg hp] at k
      exact sat kt es W B O F H L e σ kont P Q ht hw hl g k hk
  | .or es => fun W B O F H L e σ kont P Q ht hw hl g k hk => by
    by_cases hp : pu (.or es) = true
    · exact stk_pure kt hw hp hl g k hk
    · unfold one at k
      rw [if_neg hp] at k
      exact sot kt es W B O F H L e σ kont P Q ht hw hl g k hk
  | .not a => fun W B O F H L e σ kont P Q ht hw hl g k hk => by
    by_cases hp : pu (.not a) = true
    · exact stk_pure kt hw hp hl g k hk
    · unfold one at k
      rw [if_neg hp] at k
      have k0 : PG K T W B O L σ P ((one a (evX a) e fun x e => ofO (notQ x) e).bind kont) := k
      rw [one_bind] at k0
      refine stk kt a W B O F H L e σ _ P (fun b H => Q (!b) H) ht hw hl g k0 fun x e' H' F' hl' g' k' => ?_
      cases hb : boolQ x with
      | none => unfold notQ at k'; rw [hb] at k'; exact k'.elim
      | some b =>
        unfold notQ at k'
        rw [hb] at k'
        obtain ⟨b', h1, h2⟩ := hk (.bl (!b)) e' H' F' hl' g' k'
        cases h1
        exact ⟨b, rfl, h2⟩
  | .frz n a => fun W B O F H L e σ kont P Q ht hw hl g k hk => by cases ht
  | .nop => fun W B O F H L e σ kont P Q ht hw hl g k hk => by cases ht
  | .neg a => fun W B O F H L e σ kont P Q ht hw hl g k hk => by cases ht
  | .dct _ => fun W B O F H L e σ kont P Q ht hw hl g k hk => by cases ht
  | .make _ _ _ => fun W B O F H L e σ kont P Q ht hw hl g k hk => by cases ht
  | .makeP _ _ _ _ => fun W B O F H L e σ kont P Q ht hw hl g k hk => by cases ht
  | .callP n x f es => stk_plain kt rfl (sx kt (.callP n x f es))
  | .mov i => stk_plain kt rfl (sx kt (.mov i))
  | .bin op a b => stk_plain kt rfl (sx kt (.bin op a b))
  | .cat op a b => stk_plain kt rfl (sx kt (.cat op a b))
  | .cmp op a b => stk_plain kt rfl (sx kt (.cmp op a b))
  | .tup es => stk_plain kt rfl (sx kt (.tup es))
  | .lst es => stk_plain kt rfl (sx kt (.lst es))
  | .ix a i => stk_plain kt rfl (sx kt (.ix a i))
  | .dix a i => stk_plain kt rfl (sx kt (.dix a i))
  | .din n a d => stk_plain kt rfl (sx kt (.din n a d))
  | .sl a lo hi => stk_plain kt rfl (sx kt (.sl a lo hi))
  | .fld a f => stk_plain kt rfl (sx kt (.fld a f))
  | .call x f es => stk_plain kt rfl (sx kt (.call x f es))
  | .meth c o m f es => stk_plain kt rfl (sx kt (.meth c o m f es))
  | .blt b es => stk_plain kt rfl (sx kt (.blt b es))
  | .isi a ty => stk_plain kt rfl (sx kt (.isi a ty))
  | .bm b p es => stk_plain kt rfl (sx kt (.bm b p es))
  | .dpop1 p c => stk_plain kt rfl (sx kt (.dpop1 p c))
  | .lrg a => stk_plain kt rfl (sx kt (.lrg a))
  | .lrv a => stk_plain kt rfl (sx kt (.lrv a))
  | .lc elt tg k es cond => stk_plain kt rfl (sx kt (.lc elt tg k es cond))
  | .var i => stk_plain kt rfl (sx_none fun _ => rfl)
  | .int i => stk_plain kt rfl (sx_none fun _ => rfl)
  | .str i => stk_plain kt rfl (sx_none fun _ => rfl)
  | .non => stk_plain kt rfl (sx_none fun _ => rfl)
  | .bl i => stk_plain kt rfl (sx_none fun _ => rfl)
  | .con x v => stk_plain kt rfl (sx_none fun _ => rfl)
  | .chn a b c d f => stk_plain kt rfl (sx_none fun _ => rfl)
  | .dget1 d k => stk_plain kt rfl (sx_none fun _ => rfl)
  | .dget2 d k x => stk_plain kt rfl (sx_none fun _ => rfl)
theorem sat (kt : KT K T) : ∀ cs : List CE, SAt K T cs
  | [] => fun W B O F H L e σ kont P Q ht hw hl g k hk => (show False from k).elim
  | [c] => sat_one (stk kt c)
  | c :: d :: cs => sat_cons (stk kt c) (sat kt (d :: cs))
theorem sot (kt : KT K T) : ∀ cs : List CE, SOt K T cs
  | [] => fun W B O F H L e σ kont P Q ht hw hl g k hk => (show False from k).elim
  | [c] => sot_one (stk kt c)
  | c :: d :: cs => sot_cons (stk kt c) (sot kt (d :: cs))
end
end
end Rk

set_option Elab.async false
set_option linter.all false
set_option maxRecDepth 100000
set_option maxHeartbeats 2000000
namespace Rk
open PySem PySem.Spec PyProof.Rows L2
def wfSu (K : PySem.W.Frag) (T : Tab) : List (Nat × CE) → Prop
  | [] => True
  | p :: r => (∀ y, wf K T (subE y p.2)) ∧ wfSu K T r
mutual
def wfS (K : PySem.W.Frag) (T : Tab) : CS → Prop
  | .pass => True
  | .asg _ e => wf K T e
  | .unp _ e => wf K T e
  | .unpL _ e => wf K T e
  | .par _ _ _ _ => True
  | .setIx o i e => wf K T o ∧ wf K T i ∧ wf K T e
  | .setD o i e => wf K T o ∧ wf K T i ∧ wf K T e
  | .swp o i j c d => wf K T o ∧ wf K T i ∧ wf K T j ∧ wf K T c ∧ wf K T d
  | .fldA o f e => f ∈ T.flds ∧ wf K T o ∧ wf K T e
  | .aug _ e => wf K T e
  | .augIx o i e => wf K T o ∧ wf K T i ∧ wf K T e
  | .expr e => wf K T e
  | .ite c a b => wf K T c ∧ wfB K T a ∧ wfB K T b
  | .forr _ _ k es body => es.length = ikN k ∧ wfs K T es ∧ wfB K T body
  | .forO _ _ o body => wf K T o ∧ wfB K T body
  | .forZ _ _ _ o b body => wf K T o ∧ wf K T b ∧ wfB K T body
  | .whil _ _ c body => wf K T c ∧ wfB K T body
  | .ret e => wf K T e
  | .retN => True
  | .raise x => ∃ C, T.exc x = some C
  | .tryE x _ body su => (∃ C, T.exc x = some C) ∧ (T.tr && okSu T su) = true ∧ wfB K T body ∧ wfSu K T su
def wfB (K : PySem.W.Frag) (T : Tab) : List CS → Prop
  | [] => True
  | c :: r => wfS K T c ∧ wfB K T r
end
/-- the same slots but for those -/
def Agr (a : List Nat) (σ σ' : L2.St) : Prop := σ'.length = σ.length ∧ ∀ j, j ∉ a → σ'[j]? = σ[j]?
theorem Agr.refl {a : List Nat} {σ : L2.St} : Agr a σ σ := ⟨rfl, fun _ _ => rfl⟩
theorem Agr.trans {a b : List Nat} {σ σ1 σ2 : L2.St} (h : Agr a σ σ1) (k : Agr b σ1 σ2) : Agr (a ++ b) σ σ2 := ⟨k.1.trans h.1, fun j hj => by
  rw [k.2 j fun z => hj (List.mem_append_right _ z), h.2 j fun z => hj (List.mem_append_left _ z)]⟩
theorem Agr.mono {a b : List Nat} {σ σ1 : L2.St} (h : Agr a σ σ1) (k : ∀ j ∈ a, j ∈ b) : Agr b σ σ1 := ⟨h.1, fun j hj => h.2 j fun z => hj (k j z)⟩
def PF (K : PySem.W.Frag) (T : Tab) (W : WX) (B O : Hp) (L : List Rs) (σ : L2.St) (a : List Nat) (D : Ends) : Res Fl → Prop
  | .stuck => False
  | .exc n e => e.length = σ.length → ∀ σ' H F, Agr a σ σ' → Good B O (ze K T e σ' ++ L) H F → WEx T W σ' H n
  | .ok .nxt e => e.length = σ.length → ∀ σ' H F, Agr a σ σ' → Good B O (ze K T e σ' ++ L) H F → D.nx σ' H
  | .ok (.ret y) e => e.length = σ.length → ∀ σ' v H F, Agr a σ σ' → Good B O (ze K T e σ' ++ L ++ [cv K T y v]) H F → D.rt v H
def SSp (K : PySem.W.Frag) (T : Tab) (c : CS) : Prop := ∀ (W : WX) (B O F H : Hp) (L : List Rs) (e : Slots) (σ : L2.St) (D : Ends), wfS K T c → σ.length = e.length → Good B O (ze K T e σ ++ L) H F → PF K T W B O L σ (asgS c) D (evS c e) → semS K T c W D σ H
def SBp (K : PySem.W.Frag) (T : Tab) (cs : List CS) : Prop := ∀ (W : WX) (B O F H : Hp) (L : List Rs) (e : Slots) (σ : L2.St) (D : Ends), wfB K T cs → σ.length = e.length → Good B O (ze K T e σ ++ L) H F → PF K T W B O L σ (asgB cs) D (evB cs e) → semB K T cs W D σ H
section
variable {K : PySem.W.Frag} {T : Tab} {B O F F' H H' : Hp} {ps L ts : List Rs} {e e' e0 : Slots} {σ σ' : L2.St} {x y z root sub : PV} {xs ys items : List PV} {u v w rv : V} {vs ws : List V} {ads bds : List Addr} {Q : VK} {i : Nat} {W : WX} {α β : Type} {P : α → Slots → Prop} {l : List Stp} {D : Ends} {a b : List Nat}
theorem PF_bind {r : Res α} {k : α → Slots → Res Fl} (h : PF K T W B O L σ a D (r.bind k)) : PG K T W B O L σ (fun x e => PF K T W B O L σ a D (k x e)) r := by
  cases r with
  | stuck => exact h
  | exc n e => exact fun hl H F g => h hl σ H F .refl g
  | ok x e => exact h
theorem PF_shift {r : Res Fl} {σ1 : L2.St} (h : PF K T W B O L σ (a ++ b) D r) (k : Agr a σ σ1) : PF K T W B O L σ1 b D r := by
  cases r with
  | stuck => exact h
  | exc n e => exact fun hl σ' H F q g => h (hl.trans k.1) σ' H F (k.trans q) g
  | ok f e =>
    cases f with
    | nxt => exact fun hl σ' H F q g => h (hl.trans k.1) σ' H F (k.trans q) g
    | ret y => exact fun hl σ' v H F q g => h (hl.trans k.1) σ' v H F (k.trans q) g
theorem PF_mono {r : Res Fl} (h : PF K T W B O L σ b D r) (k : ∀ j ∈ a, j ∈ b) : PF K T W B O L σ a D r := by
  cases r with
  | stuck => exact h
  | exc n e => exact fun hl σ' H F q g => h hl σ' H F (q.mono k) g
  | ok f e =>
    cases f with
    | nxt => exact fun hl σ' H F q g => h hl σ' H F (q.mono k) g
    | ret y => exact fun hl σ' v H F q g => h hl σ' v H F (q.mono k) g
/-- first the one, then the rest -/
theorem PF_seq {r : Res Fl} {k : Slots → Res Fl} {D' : Ends} (h : PF K T W B O L σ (a ++ b) D (seqM r k)) (hr : D'.rt = D.rt) (hn : ∀ e σ1 H F, e.length = σ.length → Agr a σ σ1 → Good B O (ze K T e σ1 ++ L) H F → PF K T W B O L σ1 b D (k e) → D'.nx σ1 H) : PF K T W B O L σ a D' r := by
  cases r with
  | stuck => exact h
  | exc n e => exact fun hl σ' H F q g => h hl σ' H F (q.mono fun j hj => List.mem_append_left _ hj) g
  | ok f e =>
    cases f with
    | nxt => exact fun hl σ' H F q g => hn e σ' H F hl q g (PF_shift h q)
    | ret y => exact fun hl σ' v H F q g => by rw [hr]; exact h hl σ' v H F (q.mono fun j hj => List.mem_append_left _ hj) g
/-- nothing but what goes on -/
theorem PG_nx {r : Res PV} (h : PF K T W B O L σ a D (r.bind fun _ e => .ok .nxt e)) : PG K T W B O L σ (okV K T B O L σ fun _ H => D.nx σ H) r := by
  refine (PF_bind h).imp fun y e k hl v H F g => ?_
  obtain ⟨F1, g1, _⟩ := drop1 g
  exact k hl σ H F1 .refl g1
theorem tst_ok (kt : KT K T) {c : CE} {k : PV → Slots → Res Fl} {Q : Bool → Hp → Prop} (hw : wf K T c) (hl : σ.length = e.length) (g : Good B O (ze K T e σ ++ L) H F) (h : PF K T W B O L σ a D ((tstM c e).bind k))
    (hk : ∀ b e' H' F', e'.length = σ.length → Good B O (ze K T e' σ ++ L) H' F' → PF K T W B O L σ a D (k (.bl b) e') → Q b H') : (sem K T c W).2 σ H Q := by
  have h1 := PF_bind h
  unfold tstM at h1
  split at h1
  · rename_i ht
    refine stk kt c W B O F H L e σ _ _ Q ht hw hl g h1 fun x e' H' F' hl' g' k' => ?_
    obtain ⟨y, h2, k2⟩ := PG_ofO k'
    obtain ⟨b, h3, rfl⟩ := map1 h2
    exact ⟨b, h3, hk b e' H' F' hl' g' k2⟩
  · exact h1.elim
theorem op_ok (kt : KT K T) {c : CE} {k : PV → Slots → Res Fl} {R : VK} (hw : wf K T c) (hl : σ.length = e.length) (g : Good B O (ze K T e σ ++ L) H F) (h : PF K T W B O L σ a D ((opM c e).bind k))
    (hk : ∀ x e' u H' F', e'.length = σ.length → Good B O (ze K T e' σ ++ L) H' F' → rp K T F' H' x u → PF K T W B O L σ a D (k x e') → R u H') : (sem K T c W).1 σ H R := by
  have h1 := PF_bind h
  unfold opM at h1
  refine one_ok kt (sx kt c) hw hl g h1 fun x e' u H' F' ts hl' g' hu k' => ?_
  rw [← List.append_assoc] at g'
  obtain ⟨F1, g1, e1⟩ := g'.dropR'
  obtain ⟨ads, hu⟩ := hu
  -- the value is still seen
  by_cases hf : isF x = true
  · exact hk x e' u H' F1 hl' g1 ⟨[], (rep_dup hf hu).loc e1 fun _ h => by cases h⟩ k'
  · exact hk x e' u H' F1 hl' g1 ⟨ads, hu.loc e1 fun _ _ => rfl⟩ k'
/-! ### an update of a part, as a statement -/
theorem owners_PF {as : List (PV × Option Nat)} {r : Res Fl} (hlt : lentOk σ as vs) (hd : disj (lentsM as) a = true) (h : PF K T W B O L σ a D (ownersR as r)) : PF K T W B O (L ++ zc K T (as.map (·.1)) vs) σ a D r := by
  have stay : ∀ σ', Agr a σ σ' → lentOk σ' as vs := fun σ' q => by
    have gen : ∀ {as : List (PV × Option Nat)} {vs : List V}, disj (lentsM as) a = true → lentOk σ as vs → lentOk σ' as vs := by
      intro as
      induction as with
      | nil => intro vs _ h; cases vs with
        | nil => trivial
        | cons _ _ => exact h.elim
      | cons p as ih =>
        obtain ⟨x, o⟩ := p
        intro vs hd h
        cases vs with
        | nil => cases o <;> exact h.elim
        | cons v vs =>
          cases o with
          | none => exact ih hd h
          | some i =>
            have hd' : i ∉ a ∧ disj (lentsM as) a = true := by
              simp only [disj, lentsM, List.filterMap_cons, List.all_cons, Bool.and_eq_true, decide_eq_true_eq] at hd
              exact hd
            exact ⟨by rw [q.2 i hd'.1]; exact h.1, ih hd'.2 h.2⟩
    exact gen hd hlt
  cases r with
  | stuck => exact h
  | exc n e =>
    intro hl σ' H F q g
    have g1 : Good B O ((ze K T e σ' ++ L) ++ (zc K T (as.map (·.1)) vs ++ [])) H F := by rw [List.append_nil, List.append_assoc]; exact g
    obtain ⟨F2, g2⟩ := owners_good (by rw [q.1]; exact hl.symm) (stay σ' q) g1
    rw [List.append_nil] at g2
    exact h (by rw [ownersM_len]; exact hl) σ' H F2 q g2
  | ok f e =>
    cases f with
    | nxt =>
      intro hl σ' H F q g
      have g1 : Good B O ((ze K T e σ' ++ L) ++ (zc K T (as.map (·.1)) vs ++ [])) H F := by rw [List.append_nil, List.append_assoc]; exact g
      obtain ⟨F2, g2⟩ := owners_good (by rw [q.1]; exact hl.symm) (stay σ' q) g1
      rw [List.append_nil] at g2
      exact h (by rw [ownersM_len]; exact hl) σ' H F2 q g2
    | ret y =>
      intro hl σ' v H F q g
      have g1 : Good B O ((ze K T e σ' ++ L) ++ (zc K T (as.map (·.1)) vs ++ [cv K T y v])) H F := by
        simp only [List.append_assoc] at g ⊢
        exact g
      obtain ⟨F2, g2⟩ := owners_good (by rw [q.1]; exact hl.symm) (stay σ' q) g1
      exact h (by rw [ownersM_len]; exact hl) σ' v H F2 q g2
theorem sb_nil : SBp K T [] := fun W B O F H L e σ D _ hl g k => k hl.symm σ H F .refl g
theorem sb_cons {c : CS} {r : List CS} (s1 : SSp K T c) (s2 : SBp K T r) : SBp K T (c :: r) := fun W B O F H L e σ D hw hl g k => by
  have k0 : PF K T W B O L σ (asgS c ++ asgB r) D (seqM (evS c e) (evB r)) := k
  cases r with
  | nil =>
    show semS K T c W D σ H
    refine s1 W B O F H L e σ D hw.1 hl g (PF_seq k0 rfl fun e1 σ1 H1 F1 hl1 q g1 k1 => ?_)
    exact k1 (hl1.trans q.1.symm) σ1 H1 F1 .refl g1
  | cons d r =>
    show tSeq (semS K T c W) (semB K T (d :: r) W) D σ H
    refine s1 W B O F H L e σ _ hw.1 hl g (PF_seq k0 rfl fun e1 σ1 H1 F1 hl1 q g1 k1 => ?_)
    exact s2 W B O F1 H1 L e1 σ1 D hw.2 (by rw [q.1, hl1]) g1 k1
theorem kills {kl : List Nat} (hl : σ.length = e.length) (g : Good B O (ze K T e σ ++ L) H F) : ∃ F', Good B O (ze K T (killM kl e) σ ++ L) H F' := by
  obtain ⟨F1, g1, _⟩ := kill_good (kl := kl) hl g
  exact ⟨F1, g1⟩
theorem ss_for (kt : KT K T) {kl tg : List Nat} {k : IK} {es : List CE} {body : List CS} (sb : SBp K T body) : SSp K T (.forr kl tg k es body) := fun W B O F H L e σ D hw hl g h => by
  obtain ⟨hlen, wes, wb⟩ := hw
  have h0 : PF K T W B O L σ (tg ++ asgB body) D ((evXa es e).bind fun as e => match iterQ k (as.map (·.1)) with
    | none => .stuck
    | some items => if disj (lentsM as) (tg ++ asgB body) = true then ownersR as (forL kl tg (evB body) items e) else .stuck) := h
  show iterI K k (sems K T es W).1 σ H _
  refine iterI_of hlen (sxa kt es W B O F H L e σ _ wes hl g ((PF_bind h0).imp fun as e1 k1 hl1 vs H1 F1 hlt g1 => ?_))
  cases hit : iterQ k (as.map (·.1)) with
  | none => rw [hit] at k1; exact k1.elim
  | some items =>
    rw [hit] at k1
    dsimp only at k1
    split at k1
    · rename_i hd
      have hn : vs.length = (as.map (·.1)).length := by rw [List.length_map]; exact hlt.len
      obtain ⟨J, wk, toV⟩ := walk_ok hit g1.exH (rls_at (X := []) hn (by rw [List.append_nil]; exact g1))
      refine toV _ ?_
      have k2 := owners_PF hlt hd k1
      rw [List.append_assoc] at g1
      let L1 : List Rs := L ++ zc K T (as.map (·.1)) vs
      let A : List Nat := tg ++ asgB body
      let Iv : Nat → L2.St → Hp → Prop := fun i σ' H => i ≤ items.length ∧ ∃ (e2 : Slots) (F : Hp), e2.length = σ'.length ∧ Good B O (ze K T e2 σ' ++ L1) H F ∧ PF K T W B O L1 σ' A D (forL kl tg (evB body) (items.drop i) e2)
      refine ⟨fun i m σ' H => m = items.length - i ∧ Iv i σ' H, ⟨items.length, by simp, Nat.zero_le _, e1, F1, hl1, g1, by rw [List.drop_zero]; exact k2⟩, ?_⟩
      rintro i m σ' H2 ⟨rfl, hi, e2, F2, hl2, g4, k3⟩
      have hr : rls K T F2 H2 (as.map (·.1)) vs := rls_at (ps := ze K T e2 σ' ++ L) (X := []) hn (by rw [List.append_nil, List.append_assoc]; exact g4)
      have hl2' : σ'.length = e2.length := hl2.symm
      by_cases hlt' : i < items.length
      · refine .inr ⟨wk.go F2 H2 i g4.exH hr hlt', fun σ3 H3 => Iv (i + 1) σ3 H3, fun σ3 H3 h3 => ⟨items.length - (i + 1), by omega, rfl, h3⟩, fun v H3 hy => ?_⟩
        obtain ⟨F3, g5⟩ := kills (kl := kl) hl2' g4
        have hr3 : rls K T F3 H2 (as.map (·.1)) vs := rls_at (ps := ze K T (killM kl e2) σ' ++ L) (X := []) hn (by rw [List.append_nil, List.append_assoc]; exact g5)
        obtain ⟨x, hx, F4, g6, e6⟩ := wk.yld B O _ F3 H2 i v H3 g5 hr3 hlt' hy
        rw [List.drop_eq_getElem_cons hlt'] at k3
        have ex : items[i] = x := by rw [List.getElem?_eq_getElem hlt'] at hx; exact Option.some.inj hx
        rw [ex] at k3
        have k4 : PF K T W B O L1 σ' A D (match takeM tg x (killM kl e2) with
          | none => .stuck
          | some e => seqM (evB body e) (forL kl tg (evB body) (items.drop (i + 1)))) := k3
        cases ht : takeM tg x (killM kl e2) with
        | none => rw [ht] at k4; exact k4.elim
        | some e3 =>
          rw [ht] at k4
          dsimp only at k4
          refine take_ok ht (by rw [killM_len]; exact hl2') g6 fun σ3 F5 hl3 hk3 he3 g7 => ?_
          rw [killM_len] at he3
          have hAA : ∀ j ∈ tg ++ (asgB body ++ A), j ∈ A := fun j hj => by
            rcases List.mem_append.mp hj with hj | hj
            · exact List.mem_append_left _ hj
            · rcases List.mem_append.mp hj with hj | hj
              · exact List.mem_append_right _ hj
              · exact hj
          have k5 : PF K T W B O L1 σ3 (asgB body ++ A) D (seqM (evB body e3) (forL kl tg (evB body) (items.drop (i + 1)))) := PF_shift (a := tg) (PF_mono k4 hAA) ⟨hl3, hk3⟩
          refine sb W B O F5 H3 L1 e3 σ3 _ wb (by rw [hl3, he3]; exact hl2') g7 (PF_seq (D' := { D with nx := fun σ3 H3 => Iv (i + 1) σ3 H3, ct := fun σ3 H3 => Iv (i + 1) σ3 H3, bk := D.nx }) k5 rfl fun e4 σ4 H4 F6 hl4 ag4 g8 k6 => ?_)
          exact ⟨hlt', e4, F6, by rw [hl4, ag4.1], g8, k6⟩
      · have ei : i = items.length := by omega
        refine .inl ⟨wk.stop F2 H2 i g4.exH hr (by omega), ?_⟩
        rw [ei, List.drop_length] at k3
        obtain ⟨F3, g5⟩ := kills (kl := kl) hl2' g4
        have k4 : PF K T W B O L1 σ' A D (.ok .nxt (killM kl e2)) := k3
        have stay := k4 (by rw [killM_len]; exact hl2) σ' H2 F3 .refl g5
        exact stay
    · exact k1.elim
/-! ### a walk over a list of one's own -/
/-- a thing but for one part -/
def rst (K : PySem.W.Frag) (T : Tab) (l : List Stp) (root : PV) (rv u : V) : Co where
  p := fun F H v ads => v = rv ∧ (∀ a ∈ ads, (H a).isSome = true) ∧ ∀ F' H' y' r', Ex F F' → (∀ a ∈ ads, H' a = H a) → rep K T.adr F' H' y' u r' → ∃ ads', ads'.Perm (r' ++ ads) ∧ rep K T.adr F' H' (putS l root y') rv ads'
  loc := fun ⟨h1, h2, h3⟩ e k => ⟨h1, fun a ha => by rw [k a ha]; exact h2 a ha, by
    intro F2 H2 y2 r2 e2 k2 r
    exact h3 F2 H2 y2 r2 (e.trans e2) (fun a ha => by rw [k2 a ha, k a ha]) r⟩
  there := fun h => h.2.1
theorem open_path {ps : List Rs} (g : Good B O (ps ++ [cv K T root rv]) H F) (h : getS l root = some sub) : ∃ u, Leads T.adr H rv l u ∧ Good B O (ps ++ ([(.own (rst K T l root rv u), some rv)] ++ [cv K T sub u])) H F := by
  obtain ⟨ads, h1, nd, k⟩ := g.view'
  have r0 := okL_one.mp h1
  obtain ⟨u, r, c, q1, q2, q3, q4⟩ := focus r0 h
  refine ⟨u, q3 H fun _ _ => rfl, k _ (c ++ r) (List.perm_append_comm.trans q1.symm) (OkL.append ?_ (okL_one.mpr q2))⟩
  have := OkL.cons (F := F) (H := H) (x := (.own (rst K T l root rv u), some rv)) (a := c) (b := []) ⟨rv, rfl, rfl, fun a ha => r0.there a (q1.mem_iff.mpr (List.mem_append_right _ ha)), q4⟩ .nil
  rw [List.append_nil] at this
  exact this
theorem close_path {ps : List Rs} (g : Good B O (ps ++ ([(.own (rst K T l root rv u), some rv)] ++ [cv K T y u])) H F) : Good B O (ps ++ [cv K T (putS l root y) rv]) H F := by
  obtain ⟨ads, h1, nd, k⟩ := g.view'
  obtain ⟨a, b, rfl, k1, k2⟩ := h1.cut
  cases k1 with
  | cons m1 m2 =>
    cases m2
    obtain ⟨v, e1, m3, m4, m5⟩ := m1
    obtain ⟨ads', p1, p2⟩ := m5 F H y b (.refl _) (fun _ _ => rfl) (okL_one.mp k2)
    refine k _ ads' ?_ (okL_one.mpr p2)
    rw [List.append_nil]
    exact p1.trans List.perm_append_comm
theorem forOL_cons {kl : List Nat} {n : Nat} {body : Slots → Res Fl} {y : PV} {ys : List PV} {k : List PV → Slots → Res Fl} (h : PF K T W B O L σ a D ((forOL kl n body (y :: ys) e).bind k)) :
    ∃ e4 z, body ((killM kl e).set n (some y)) = .ok .nxt e4 ∧ slot e4 n = some z ∧ PF K T W B O L σ a D ((forOL kl n body ys (e4.set n none)).bind fun zs e => k (z :: zs) e) := by
  have h0 : PF K T W B O L σ a D ((match body ((killM kl e).set n (some y)) with
    | .ok .nxt e => (match slot e n with
      | some z => (forOL kl n body ys (e.set n none)).bind fun zs e => .ok (z :: zs) e
      | none => .stuck)
    | _ => .stuck : Res (List PV)).bind k) := h
  cases q : body ((killM kl e).set n (some y)) with
  | stuck => rw [q] at h0; exact h0.elim
  | exc x e4 => rw [q] at h0; exact h0.elim
  | ok f e4 =>
    cases f with
    | ret v => rw [q] at h0; exact h0.elim
    | nxt =>
      rw [q] at h0
      dsimp only at h0
      cases q2 : slot e4 n with
      | none => rw [q2] at h0; exact h0.elim
      | some z =>
        rw [q2] at h0
        refine ⟨e4, z, rfl, q2, ?_⟩
        cases q3 : forOL kl n body ys (e4.set n none) with
        | stuck => rw [q3] at h0; exact h0
        | exc x e5 => rw [q3] at h0; exact h0
        | ok zs e5 => rw [q3] at h0; exact h0
theorem ss_forO (kt : KT K T) {kl : List Nat} {n : Nat} {o : CE} {body : List CS} (sb : SBp K T body) : SSp K T (.forO kl n o body) := fun W B O F H L e σ D hw hl g h => by
  obtain ⟨wo, wb⟩ := hw
  have h0 : PF K T W B O L σ (n :: asgB body) D (forOM kl n (asgB body) (evB body) (pathS e o) e) := h
  unfold forOM at h0
  cases hq : pathS e o with
  | none => rw [hq] at h0; exact h0.elim
  | some q =>
    obtain ⟨i, l⟩ := q
    rw [hq] at h0
    dsimp only at h0
    cases hr : slot e i with
    | none => rw [hr] at h0; exact h0.elim
    | some root =>
      rw [hr] at h0
      dsimp only at h0
      split at h0
      · rename_i xs hs
        split at h0
        · rename_i hc
          obtain ⟨hin, hia, hna⟩ := hc
          obtain ⟨rv, h1, g1⟩ := slot_take hl g hr
          obtain ⟨u, hL, g2⟩ := open_path g1 hs
          rw [← List.append_assoc] at g2
          obtain ⟨p, vs, rfl, hn, hp, g3⟩ := open_cell g2
          have es : semS K T (.forO kl n o body) W = tFor (iterI K .lst (sems K T [o] W).1) (tgG K [n]) (semB K T body W) := rfl
          rw [es]
          unfold tFor
          refine iterI_of rfl (path_ok kt o wo hq hl g hr hs h1 hL ⟨p, rfl, ⟨vs, .inl (.inl hp)⟩, ?_⟩)
          let R : List Rs := L ++ [(.own (rst K T l root rv (.ref p)), some rv)]
          let A : List Nat := n :: asgB body
          have hiA : i ∉ A := fun z => by
            rcases List.mem_cons.mp z with z | z
            · exact hin z
            · exact hia z
          let Iv : Nat → L2.St → Hp → Prop := fun j σ' H => j ≤ xs.length ∧ ∃ (e2 : Slots) (F : Hp) (zs : List PV), zs.length = j ∧ e2.length = σ'.length ∧ σ'[i]? = some (some rv) ∧
            Good B O ((ze K T e2 σ' ++ R) ++ ((.own (cel p (.lst vs)), some (.ref p)) :: zc K T (zs ++ xs.drop j) vs)) H F ∧ PF K T W B O L σ' A D ((forOL kl n (evB body) (xs.drop j) e2).bind fun ws e => .ok .nxt (e.set i (some (putS l root (.lst true (zs ++ ws))))))
          refine ⟨fun j m σ' H => m = xs.length - j ∧ Iv j σ' H, ⟨xs.length, by simp, Nat.zero_le _, e.set i none, F, [], rfl, by simpa using hl.symm, h1, ?_, ?_⟩, ?_⟩
          · rw [List.drop_zero, List.nil_append]
            simp only [R, List.append_assoc] at g3 ⊢
            exact g3
          · rw [List.drop_zero]; exact h0
          rintro j m σ' H2 ⟨rfl, hj, e2, F2, zs, hz, hl2, hi2, g4, k3⟩
          have hl2' : σ'.length = e2.length := hl2.symm
          have hp2 : H2 p = some (.lst vs) := cell_at g4
          have hlen : (zs ++ xs.drop j).length = xs.length := by rw [List.length_append, List.length_drop, hz]; omega
          by_cases hlt' : j < xs.length
          · have hjv : j < vs.length := by rw [hn]; exact hlt'
            refine .inr ⟨⟨vs, vs[j], .inl (.inl hp2), List.getElem?_eq_getElem hjv⟩, fun σ3 H3 => Iv (j + 1) σ3 H3, fun σ3 H3 h3 => ⟨xs.length - (j + 1), by omega, rfl, h3⟩, fun v H3 hy => ?_⟩
            obtain ⟨rfl, hy⟩ := hy
            have hv : vs[j]? = some v := hy vs (.inl (.inl hp2))
            obtain ⟨F3, g5⟩ := kills (kl := kl) (L := R ++ ((.own (cel p (.lst vs)), some (.ref p)) :: zc K T (zs ++ xs.drop j) vs)) hl2' (by rw [← List.append_assoc]; exact g4)
            rw [List.drop_eq_getElem_cons hlt'] at g5 k3
            obtain ⟨e5, z, b1, b2, k4⟩ := forOL_cons k3
            have hxj : (zs ++ xs[j] :: xs.drop (j + 1))[j]? = some xs[j] := by rw [List.getElem?_append_right (by omega)]; simp [hz]
            have hlen2 : vs.length = (zs ++ xs[j] :: xs.drop (j + 1)).length := by
              rw [← List.drop_eq_getElem_cons hlt', hlen, hn]
            have g6 : Good B O ((ze K T (killM kl e2) σ' ++ (R ++ [(.own (cel p (.lst vs)), some (.ref p))])) ++ zc K T (zs ++ xs[j] :: xs.drop (j + 1)) vs) H3 F3 := by
              simp only [List.append_assoc, List.singleton_append, List.cons_append, List.nil_append] at g5 ⊢
              exact g5
            obtain ⟨v', hv', g7⟩ := zc_take hlen2 g6 hxj
            rw [hv] at hv'
            cases hv'
            have eset : ∀ w y, (zs ++ w :: xs.drop (j + 1)).set j y = zs ++ y :: xs.drop (j + 1) := fun w y => by
              rw [List.set_append_right _ _ (by omega)]
              simp [hz]
            rw [eset] at g7
            let L1 : List Rs := (R ++ [(.own (cel p (.lst vs)), some (.ref p))]) ++ zc K T (zs ++ hole :: xs.drop (j + 1)) vs
            have g8 : Good B O (ze K T (killM kl e2) σ' ++ L1 ++ [cv K T xs[j] v]) H3 F3 := by
              simp only [L1, List.append_assoc] at g7 ⊢
              exact g7
            have hlk : σ'.length = (killM kl e2).length := by rw [killM_len]; exact hl2'
            obtain ⟨F5, g9⟩ := set_good (i := n) hlk g8
            have hAA : ∀ j ∈ [n] ++ (asgB body ++ A), j ∈ A := fun j hj => by
              rcases List.mem_append.mp hj with hj | hj
              · exact List.mem_cons.mpr (.inl (by simpa using hj))
              · rcases List.mem_append.mp hj with hj | hj
                · exact List.mem_cons_of_mem _ hj
                · exact hj
            have k5 := PF_shift (a := [n]) (σ1 := σ'.set n (some v)) (PF_mono k4 hAA) ⟨by simp, fun j hj => List.getElem?_set_ne fun z => hj (by simp [z])⟩
            refine sb W B O F5 H3 L1 _ (σ'.set n (some v)) _ wb (by rw [List.length_set, List.length_set]; exact hlk) g9 ?_
            rw [b1]
            intro hl5 σ4 H4 F6 ag4 g10
            rw [List.length_set] at hl5
            have ag1 : σ4.length = σ'.length := by rw [ag4.1, List.length_set]
            obtain ⟨v5, hv5, g11⟩ := slot_take (by rw [ag1]; exact hl5.symm) g10 b2
            have hnl : n < σ'.length := by rw [← hl5]; exact slot_lt b2
            rw [ag4.2 n hna, List.getElem?_set_self hnl] at hv5
            cases hv5
            have g12 : Good B O ((ze K T (e5.set n none) σ4 ++ (R ++ [(.own (cel p (.lst vs)), some (.ref p))])) ++ (zc K T (zs ++ hole :: xs.drop (j + 1)) vs ++ [cv K T z v])) H4 F6 := by
              simp only [L1, List.append_assoc] at g11 ⊢
              exact g11
            obtain ⟨F7, g13⟩ := zc_put (by rw [hlen2, List.length_append, List.length_append, List.length_cons, List.length_cons]) hv g12
            rw [eset] at g13
            refine ⟨hlt', e5.set n none, F7, zs ++ [z], by simp [hz], by rw [List.length_set, hl5, ag1], ?_, ?_, ?_⟩
            · rw [ag4.2 i hia, List.getElem?_set_ne (Ne.symm hin)]; exact hi2
            · have e9 : zs ++ [z] ++ xs.drop (j + 1) = zs ++ z :: xs.drop (j + 1) := by simp
              rw [e9]
              simp only [List.append_assoc, List.singleton_append, List.cons_append, List.nil_append] at g13 ⊢
              exact g13
            · have e9 : ∀ ws : List PV, zs ++ [z] ++ ws = zs ++ z :: ws := fun ws => by simp
              simp only [e9]
              exact PF_shift (a := asgB body) k5 ag4
          · have ej : j = xs.length := by omega
            refine .inl ⟨⟨vs, .inl (.inl hp2), by omega⟩, ?_⟩
            rw [ej, List.drop_length] at k3 g4
            rw [List.append_nil] at g4
            have k4 : PF K T W B O L σ' A D (.ok .nxt ((killM kl e2).set i (some (putS l root (.lst true zs))))) := by
              have : PF K T W B O L σ' A D (.ok .nxt ((killM kl e2).set i (some (putS l root (.lst true (zs ++ [])))))) := k3
              rw [List.append_nil] at this; exact this
            have g5 := close_cell (by rw [hn, hz, ej]) g4
            have g6 : Good B O ((ze K T e2 σ' ++ L) ++ ([(.own (rst K T l root rv (.ref p)), some rv)] ++ [cv K T (.lst true zs) (.ref p)])) H2 F2 := by
              simp only [R, List.append_assoc] at g5 ⊢
              exact g5
            have g7 := close_path g6
            rw [List.append_assoc] at g7
            obtain ⟨F3, g8⟩ := kills (kl := kl) hl2' g7
            rw [← List.append_assoc] at g8
            obtain ⟨F4, g9, _⟩ := slot_back (s := some (putS l root (.lst true zs))) (by rw [killM_len]; exact hl2') hi2 g8
            exact k4 (by rw [List.length_set, killM_len]; exact hl2) σ' H2 F4 .refl g9
        · exact h0.elim
      · exact h0.elim
theorem forZL_cons {kl : List Nat} {n m : Nat} {body : Slots → Res Fl} {y w : PV} {ys ws : List PV} {k : List PV → Slots → Res Fl} (h : PF K T W B O L σ a D ((forZL kl n m body (y :: ys) (w :: ws) e).bind k)) :
    ∃ e4 z, body (((killM kl e).set n (some y)).set m (some w)) = .ok .nxt e4 ∧ slot e4 n = some z ∧ PF K T W B O L σ a D ((forZL kl n m body ys ws (e4.set n none)).bind fun zs e => k (z :: zs) e) := by
  have h0 : PF K T W B O L σ a D ((match body (((killM kl e).set n (some y)).set m (some w)) with
    | .ok .nxt e => (match slot e n with
      | some z => (forZL kl n m body ys ws (e.set n none)).bind fun zs e => .ok (z :: zs) e
      | none => .stuck)
    | _ => .stuck : Res (List PV)).bind k) := h
  cases q : body (((killM kl e).set n (some y)).set m (some w)) with
  | stuck => rw [q] at h0; exact h0.elim
  | exc x e4 => rw [q] at h0; exact h0.elim
  | ok f e4 =>
    cases f with
    | ret v => rw [q] at h0; exact h0.elim
    | nxt =>
      rw [q] at h0
      dsimp only at h0
      cases q2 : slot e4 n with
      | none => rw [q2] at h0; exact h0.elim
      | some z =>
        rw [q2] at h0
        refine ⟨e4, z, rfl, q2, ?_⟩
        cases q3 : forZL kl n m body ys ws (e4.set n none) with
        | stuck => rw [q3] at h0; exact h0
        | exc x e5 => rw [q3] at h0; exact h0
        | ok zs e5 => rw [q3] at h0; exact h0
theorem forZL_end {kl : List Nat} {n m : Nat} {body : Slots → Res Fl} {ys ws : List PV} (h : ys = [] ∨ ws = []) : forZL kl n m body ys ws e = .ok ys (killM kl e) := by
  cases ys with
  | nil => cases ws <;> rfl
  | cons y ys =>
    cases ws with
    | nil => rfl
    | cons w ws => rcases h with h | h <;> cases h
theorem ss_forZ (kt : KT K T) {kl : List Nat} {n m : Nat} {o b : CE} {body : List CS} (sb : SBp K T body) : SSp K T (.forZ kl n m o b body) := fun W B O F H L e σ D hw hl g h => by
  obtain ⟨wo, wbb, wb⟩ := hw
  have h0 : PF K T W B O L σ ([n, m] ++ asgB body) D (forZM kl n m (asgB body) (evB body) (pathS e o) ((evQ e b).bind frzQ) e) := h
  unfold forZM at h0
  cases hq : pathS e o with
  | none => rw [hq] at h0; exact h0.elim
  | some q =>
    obtain ⟨i, l⟩ := q
    cases hbq : (evQ e b).bind frzQ with
    | none => rw [hq, hbq] at h0; exact h0.elim
    | some bs =>
    obtain ⟨wp, hb1, hb2⟩ := bind1 hbq
    rw [hq, hbq] at h0
    dsimp only at h0
    cases hr : slot e i with
    | none => rw [hr] at h0; exact h0.elim
    | some root =>
      rw [hr] at h0
      dsimp only at h0
      split at h0
      · rename_i xs hs
        split at h0
        · rename_i hc
          obtain ⟨hin, him, hnm, hia, hna⟩ := hc
          have hb2 : (if isF wp = true then seqQ wp else none) = some bs := hb2
          have hwf : isF wp = true := by
            by_cases q : isF wp = true
            · exact q
            · rw [if_neg q] at hb2; cases hb2
          rw [if_pos hwf] at hb2
          obtain ⟨rv, h1, g1⟩ := slot_take hl g hr
          obtain ⟨u, hL, g2⟩ := open_path g1 hs
          rw [← List.append_assoc] at g2
          obtain ⟨p, vs, rfl, hn, hp, g3⟩ := open_cell g2
          have es : semS K T (.forZ kl n m o b body) W = tFor (iterI K .zip (sems K T [o, b] W).1) (tgG K [n, m]) (semB K T body W) := rfl
          rw [es]
          unfold tFor
          refine iterI_of rfl (path_ok kt o wo hq hl g hr hs h1 hL (pq kt b W wbb hb1 hl g fun wv ⟨_, hwv⟩ => ?_))
          have hw0 := rep_dup hwf hwv
          obtain ⟨pb, us, rfl, hb3, hb4⟩ := seq_ok hb2 g.exH ⟨_, hw0⟩
          refine ⟨p, pb, vs, us, rfl, .inl (.inl hp), hb3, ?_⟩
          let R : List Rs := L ++ [(.own (rst K T l root rv (.ref p)), some rv)] ++ [cv K T wp (.ref pb)]
          let A : List Nat := [n, m] ++ asgB body
          have key : ∀ {E X : List Rs} {H F : Hp}, Good B O ((E ++ R) ++ X) H F → ∃ us, SqL K H pb us ∧ reps K T.adr F H bs us [] := fun {E X H F} g => by
            have g1 : Good B O ((E ++ (L ++ [(.own (rst K T l root rv (.ref p)), some rv)]) ++ X) ++ [cv K T wp (.ref pb)]) H F := g.perm (by
              show (E ++ ((L ++ [_]) ++ [cv K T wp (.ref pb)]) ++ X).Perm _
              rw [← List.append_assoc, List.append_assoc (E ++ (L ++ _)), List.append_assoc (E ++ (L ++ _))]
              exact List.perm_append_comm.append_left _)
            obtain ⟨_, r, _⟩ := rep_of g1
            obtain ⟨a', us, e1, k1, k2⟩ := seq_ok hb2 g1.exH ⟨_, r⟩
            cases e1
            exact ⟨us, k1, k2⟩
          let Iv : Nat → L2.St → Hp → Prop := fun j σ' H => j ≤ xs.length ∧ ∃ (e2 : Slots) (F : Hp) (zs : List PV), zs.length = j ∧ e2.length = σ'.length ∧ σ'[i]? = some (some rv) ∧
            Good B O ((ze K T e2 σ' ++ R) ++ ((.own (cel p (.lst vs)), some (.ref p)) :: zc K T (zs ++ xs.drop j) vs)) H F ∧ PF K T W B O L σ' A D ((forZL kl n m (evB body) (xs.drop j) (bs.drop j) e2).bind fun ws e => .ok .nxt (e.set i (some (putS l root (.lst true (zs ++ ws))))))
          refine ⟨fun j q σ' H => q = xs.length - j ∧ Iv j σ' H, ⟨xs.length, by simp, Nat.zero_le _, e.set i none, F, [], rfl, by simpa using hl.symm, h1, ?_, ?_⟩, ?_⟩
          · rw [List.drop_zero, List.nil_append]
            have g4 := g3.app (okL_one.mpr hw0)
            refine g4.perm ?_
            simp only [R, List.append_assoc]
            refine List.Perm.append_left _ (List.Perm.append_left _ (List.Perm.append_left _ ?_))
            exact List.perm_append_comm
          · rw [List.drop_zero, List.drop_zero]; exact h0
          rintro j q σ' H2 ⟨rfl, hj, e2, F2, zs, hz, hl2, hi2, g4, k3⟩
          have hl2' : σ'.length = e2.length := hl2.symm
          have hp2 : H2 p = some (.lst vs) := cell_at g4
          have hlen : (zs ++ xs.drop j).length = xs.length := by rw [List.length_append, List.length_drop, hz]; omega
          obtain ⟨us2, hq1, hq2⟩ := key g4
          have hus := hq2.length
          by_cases hlt : j < xs.length ∧ j < bs.length
          · obtain ⟨hlt', hltb⟩ := hlt
            have hjv : j < vs.length := by rw [hn]; exact hlt'
            refine .inr ⟨⟨vs, us2, vs[j], us2[j]'(by rw [hus]; exact hltb), .inl (.inl hp2), hq1, List.getElem?_eq_getElem hjv, List.getElem?_eq_getElem _⟩, fun σ3 H3 => Iv (j + 1) σ3 H3, fun σ3 H3 h3 => ⟨xs.length - (j + 1), by omega, rfl, h3⟩, fun v H3 hy => ?_⟩
            obtain ⟨t, v, yv, rfl, ht, rfl, hy1, hy2⟩ := hy
            have hv : vs[j]? = some v := hy1 vs (.inl (.inl hp2))
            obtain ⟨F3, g5⟩ := kills (kl := kl) (L := R ++ ((.own (cel p (.lst vs)), some (.ref p)) :: zc K T (zs ++ xs.drop j) vs)) hl2' (by rw [← List.append_assoc]; exact g4)
            obtain ⟨us3, hq3, hq4⟩ := key (E := ze K T (killM kl e2) σ') (by rw [← List.append_assoc] at g5; exact g5)
            obtain ⟨w, hw1, hw2⟩ := reps0_ix hq4 (hy2 us3 hq3)
            rw [List.drop_eq_getElem_cons hlt'] at g5 k3
            rw [List.drop_eq_getElem_cons hltb] at k3
            obtain rfl : bs[j] = w := by rw [List.getElem?_eq_getElem hltb] at hw1; exact Option.some.inj hw1
            obtain ⟨e5, z, b1, b2, k4⟩ := forZL_cons k3
            have hxj : (zs ++ xs[j] :: xs.drop (j + 1))[j]? = some xs[j] := by rw [List.getElem?_append_right (by omega)]; simp [hz]
            have hlen2 : vs.length = (zs ++ xs[j] :: xs.drop (j + 1)).length := by
              rw [← List.drop_eq_getElem_cons hlt', hlen, hn]
            have g6 : Good B O ((ze K T (killM kl e2) σ' ++ (R ++ [(.own (cel p (.lst vs)), some (.ref p))])) ++ zc K T (zs ++ xs[j] :: xs.drop (j + 1)) vs) H2 F3 := by
              simp only [List.append_assoc, List.singleton_append, List.cons_append, List.nil_append] at g5 ⊢
              exact g5
            obtain ⟨v', hv', g7⟩ := zc_take hlen2 g6 hxj
            rw [hv] at hv'
            cases hv'
            have eset : ∀ w y, (zs ++ w :: xs.drop (j + 1)).set j y = zs ++ y :: xs.drop (j + 1) := fun w y => by
              rw [List.set_append_right _ _ (by omega)]
              simp [hz]
            rw [eset] at g7
            let L1 : List Rs := (R ++ [(.own (cel p (.lst vs)), some (.ref p))]) ++ zc K T (zs ++ hole :: xs.drop (j + 1)) vs
            obtain ⟨g8, hF3⟩ := Good.new (o := .tup [v, yv]) g7 ht
            have g8b := g8.app (okL_one.mpr (hw2.loc (H' := upd H2 t (.tup [v, yv])) (Ex.new (o := .tup [v, yv]) hF3) fun _ hb => by cases hb))
            have g8c : Good B O (ze K T (killM kl e2) σ' ++ (L1 ++ [cv K T bs[j] yv]) ++ [cv K T xs[j] v]) (upd H2 t (.tup [v, yv])) (upd F3 t (.tup [v, yv])) := g8b.perm (by
              simp only [L1, List.append_assoc]
              exact List.Perm.append_left _ (List.Perm.append_left _ (List.Perm.append_left _ (List.Perm.append_left _ List.perm_append_comm))))
            have hlk : σ'.length = (killM kl e2).length := by rw [killM_len]; exact hl2'
            obtain ⟨F5, g9⟩ := set_good (i := n) hlk g8c
            rw [← List.append_assoc] at g9
            obtain ⟨F5b, g9b⟩ := set_good (i := m) (by rw [List.length_set, List.length_set]; exact hlk) g9
            have hAA : ∀ j ∈ [n, m] ++ (asgB body ++ A), j ∈ A := fun j hj => by
              rcases List.mem_append.mp hj with hj | hj
              · exact List.mem_append_left _ hj
              · rcases List.mem_append.mp hj with hj | hj
                · exact List.mem_append_right _ hj
                · exact hj
            have k5 := PF_shift (a := [n, m]) (σ1 := (σ'.set n (some v)).set m (some yv)) (PF_mono k4 hAA) ⟨by simp, fun j hj => by
              rw [List.getElem?_set_ne fun z => hj (by simp [z]), List.getElem?_set_ne fun z => hj (by simp [z])]⟩
            refine ⟨t, [v, yv], rfl, .inl (.inl upd_same), rfl, v, [yv], rfl, yv, [], rfl, rfl, ?_⟩
            refine sb W B O F5b (upd H2 t (.tup [v, yv])) L1 _ ((σ'.set n (some v)).set m (some yv)) _ wb (by rw [List.length_set, List.length_set, List.length_set, List.length_set]; exact hlk) g9b ?_
            rw [b1]
            intro hl5 σ4 H4 F6 ag4 g10
            rw [List.length_set, List.length_set] at hl5
            have ag1 : σ4.length = σ'.length := by rw [ag4.1, List.length_set, List.length_set]
            obtain ⟨v5, hv5, g11⟩ := slot_take (by rw [ag1]; exact hl5.symm) g10 b2
            have hnl : n < σ'.length := by rw [← hl5]; exact slot_lt b2
            rw [ag4.2 n hna, List.getElem?_set_ne (Ne.symm hnm), List.getElem?_set_self hnl] at hv5
            cases hv5
            have g12 : Good B O ((ze K T (e5.set n none) σ4 ++ (R ++ [(.own (cel p (.lst vs)), some (.ref p))])) ++ (zc K T (zs ++ hole :: xs.drop (j + 1)) vs ++ [cv K T z v])) H4 F6 := by
              simp only [L1, List.append_assoc] at g11 ⊢
              exact g11
            obtain ⟨F7, g13⟩ := zc_put (by rw [hlen2, List.length_append, List.length_append, List.length_cons, List.length_cons]) hv g12
            rw [eset] at g13
            refine ⟨hlt', e5.set n none, F7, zs ++ [z], by simp [hz], by rw [List.length_set, hl5, ag1], ?_, ?_, ?_⟩
            · rw [ag4.2 i hia, List.getElem?_set_ne (Ne.symm him), List.getElem?_set_ne (Ne.symm hin)]; exact hi2
            · have e9 : zs ++ [z] ++ xs.drop (j + 1) = zs ++ z :: xs.drop (j + 1) := by simp
              rw [e9]
              simp only [List.append_assoc, List.singleton_append, List.cons_append, List.nil_append] at g13 ⊢
              exact g13
            · have e9 : ∀ ws : List PV, zs ++ [z] ++ ws = zs ++ z :: ws := fun ws => by simp
              simp only [e9]
              exact PF_shift (a := asgB body) k5 ag4
          · refine .inl ⟨⟨vs, us2, .inl (.inl hp2), hq1, by rw [hn, hus]; omega⟩, ?_⟩
            rw [forZL_end (by
              rcases Nat.lt_or_ge j xs.length with q | q
              · exact .inr (List.drop_eq_nil_of_le (by omega))
              · exact .inl (List.drop_eq_nil_of_le q))] at k3
            have k4 : PF K T W B O L σ' A D (.ok .nxt ((killM kl e2).set i (some (putS l root (.lst true (zs ++ xs.drop j)))))) := k3
            have g5 := close_cell (by rw [hn, hlen]) g4
            have g6 : Good B O (((ze K T e2 σ' ++ L) ++ ([(.own (rst K T l root rv (.ref p)), some rv)] ++ [cv K T (.lst true (zs ++ xs.drop j)) (.ref p)])) ++ [cv K T wp (.ref pb)]) H2 F2 := g5.perm (by
              simp only [R, List.append_assoc]
              exact List.Perm.append_left _ (List.Perm.append_left _ (List.Perm.append_left _ List.perm_append_comm)))
            obtain ⟨F2b, g6b, _⟩ := drop1 g6
            have g7 := close_path g6b
            rw [List.append_assoc] at g7
            obtain ⟨F3, g8⟩ := kills (kl := kl) hl2' g7
            rw [← List.append_assoc] at g8
            obtain ⟨F4, g9, _⟩ := slot_back (s := some (putS l root (.lst true (zs ++ xs.drop j)))) (by rw [killM_len]; exact hl2') hi2 g8
            exact k4 (by rw [List.length_set, killM_len]; exact hl2) σ' H2 F4 .refl g9
        · exact h0.elim
      · exact h0.elim
theorem ss_while (kt : KT K T) {kl : List Nat} {n : Nat} {c : CE} {body : List CS} (sb : SBp K T body) : SSp K T (.whil kl n c body) := fun W B O F H L e σ D hw hl g h => by
  have h0 : PF K T W B O L σ (asgB body) D (whilL kl (tstM c) (evB body) n e) := h
  refine ⟨fun n σ' H => ∃ (e2 : Slots) (F : Hp), e2.length = σ'.length ∧ Good B O (ze K T e2 σ' ++ L) H F ∧ PF K T W B O L σ' (asgB body) D (whilL kl (tstM c) (evB body) n e2), ⟨n, e, F, hl.symm, g, h0⟩, ?_⟩
  rintro n σ' H2 ⟨e2, F2, hl2, g2, k2⟩
  cases n with
  | zero => exact k2.elim
  | succ n =>
    obtain ⟨F3, g3⟩ := kills (kl := kl) hl2.symm g2
    have k3 : PF K T W B O L σ' (asgB body) D ((tstM c (killM kl e2)).bind fun t e => match t with
      | .bl true => seqM (evB body e) (whilL kl (tstM c) (evB body) n)
      | .bl false => .ok .nxt e
      | _ => .stuck) := k2
    refine tst_ok kt hw.1 (by rw [killM_len]; exact hl2.symm) g3 k3 fun b e4 H4 F4 hl4 g4 k4 => ?_
    cases b with
    | true =>
      rw [if_pos rfl]
      refine ⟨_, fun _ _ z => ⟨n, Nat.lt_succ_self n, z⟩, ?_⟩
      have hAA : ∀ j ∈ asgB body ++ asgB body, j ∈ asgB body := fun j hj => by
        rcases List.mem_append.mp hj with hj | hj <;> exact hj
      have k5 : PF K T W B O L σ' (asgB body ++ asgB body) D (seqM (evB body e4) (whilL kl (tstM c) (evB body) n)) := PF_mono k4 hAA
      refine sb W B O F4 H4 L e4 σ' _ hw.2 hl4.symm g4 (PF_seq (D' := { D with nx := _, ct := _, bk := D.nx }) k5 rfl fun e5 σ5 H5 F5 hl5 ag5 g5 k6 => ?_)
      exact ⟨e5, F5, by rw [hl5, ag5.1], g5, k6⟩
    | false =>
      rw [if_neg Bool.false_ne_true]
      exact k4 hl4 σ' H4 F4 .refl g4
theorem ss_unp (kt : KT K T) {is : List Nat} {c : CE} : SSp K T (.unp is c) := fun W B O F H L e σ D hw hl g h => by
  have h0 : PF K T W B O L σ is D ((valM c (evX c) e).bind fun x e => match x with
    | .tup xs => (match setsM is xs e with
      | none => .stuck
      | some e => .ok .nxt e)
    | _ => .stuck) := h
  show (sem K T c W).1 σ H fun x H1 => gTup K is.length (gNames is) x σ H1 D.nx
  refine val_ok kt (sx kt c) hw hl g ((PF_bind h0).imp fun x e1 k1 hl1 v H1 F1 g1 => ?_)
  cases x <;> first | exact k1.elim | skip
  rename_i xs
  dsimp only at k1
  obtain ⟨a, vs, rfl, h2, h3, g2⟩ := tup_open g1
  cases hs : setsM is xs e1 with
  | none => rw [hs] at k1; exact k1.elim
  | some e2 =>
    rw [hs] at k1
    exact ⟨a, vs, rfl, g2.exH.sqT h2, by rw [h3, (setsM_lt hs).1], sets_ok hs hl1.symm h3 g2 fun σ' F' hl' hk he g3 => k1 (he.trans hl1) σ' H1 F' ⟨hl', hk⟩ g3⟩
theorem lst_open {ps : List Rs} {xs : List PV} {v : V} (g : Good B O (ps ++ [cv K T (.lst true xs) v]) H F) : ∃ a vs F', v = .ref a ∧ SqL K H a vs ∧ vs.length = xs.length ∧ Good B O (ps ++ zc K T xs vs) H F' := by
  obtain ⟨ads, h, nd, k⟩ := g.view
  obtain ⟨a, vs, r, h1, h2, h3, h4⟩ := okL_one.mp h
  obtain ⟨F', g2, _⟩ := g.less (Y := zc K T xs vs) fun ads2 ok nd2 => by
    obtain ⟨a', vs', r', q1, q2, q3, q4⟩ := okL_one.mp ok
    rw [h1] at q1
    cases q1
    rw [h3] at q3
    cases q3
    exact ⟨r', by rw [q2]; exact List.sublist_cons_self _ _, fun F' e _ => okL_zc (q4.loc e fun _ _ => rfl)⟩
  exact ⟨a, vs, F', h1, .inl (.inl h3), h4.length, g2⟩
theorem ss_unpL (kt : KT K T) {is : List Nat} {c : CE} : SSp K T (.unpL is c) := fun W B O F H L e σ D hw hl g h => by
  have h0 : PF K T W B O L σ is D ((valM c (evX c) e).bind fun x e => match x with
    | .lst true xs => (match setsM is xs e with
      | none => .stuck
      | some e => .ok .nxt e)
    | _ => .stuck) := h
  show (sem K T c W).1 σ H fun x H1 => gLst K is.length (gNames is) x σ H1 D.nx
  refine val_ok kt (sx kt c) hw hl g ((PF_bind h0).imp fun x e1 k1 hl1 v H1 F1 g1 => ?_)
  cases x <;> first | exact k1.elim | skip
  rename_i o xs
  cases o
  · exact k1.elim
  dsimp only at k1
  obtain ⟨a, vs, F2, rfl, h2, h3, g2⟩ := lst_open g1
  cases hs : setsM is xs e1 with
  | none => rw [hs] at k1; exact k1.elim
  | some e2 =>
    rw [hs] at k1
    exact ⟨a, vs, rfl, h2, by rw [h3, (setsM_lt hs).1], sets_ok hs hl1.symm h3 g2 fun σ' F' hl' hk he g3 => k1 (he.trans hl1) σ' H1 F' ⟨hl', hk⟩ g3⟩
theorem ss_asg (kt : KT K T) {i : Nat} {c : CE} : SSp K T (.asg i c) := fun W B O F H L e σ D hw hl g h => by
  have h0 : PF K T W B O L σ [i] D ((valM c (evX c) e).bind fun x e => .ok .nxt (e.set i (some x))) := h
  show (sem K T c W).1 σ H fun x H1 => D.nx (σ.set i (some x)) H1
  refine val_ok kt (sx kt c) hw hl g ((PF_bind h0).imp fun x e1 k1 hl1 v H1 F1 g1 => ?_)
  obtain ⟨F2, g2⟩ := set_good (i := i) hl1.symm g1
  exact k1 (by simpa using hl1) _ H1 F2 ⟨by simp, fun j hj => List.getElem?_set_ne fun z => hj (by simp [z])⟩ g2
/-- the value is at hand: a part of a path is changed by it -/
theorem part_run (kt : KT K T) {o : CE} {x : PV} {v : V} {q : Nat × List Stp} {gx : PV → Option (PV × PV)} {R : V → Hp → Prop} (hl : σ.length = e.length) (g : Good B O (ze K T e σ ++ (L ++ [cv K T x v])) H F) (wo : wf K T o) (hq : pathS e o = some q) (k : PG K T W B O L σ (okV K T B O L σ Q) (updM q gx e))
    (hk : ∀ sub u r sub', Ex F H → rp K T F H sub u → gx sub = some (r, sub') → (∀ vr H', Upd K T F H H' sub u [x] [v] sub' r vr → Q vr H') → R u H) : (sem K T o W).1 σ H R := by
  obtain ⟨root, sub, r, sub', rv, u, t1, t2, t3, t4, t5, t6, t7⟩ := upd_run (ys := [x]) (vs := [v]) hl g rfl k
  exact path_ok kt o wo hq hl g t1 t2 t4 t5 (hk sub u r sub' g.exH t6 t3 t7)
theorem setLX_non {j : Int} {y sub r sub' : PV} (h : setLX j y sub = some (r, sub')) : r = .non := by
  unfold setLX at h
  split at h
  · obtain ⟨_, _, h2⟩ := map1 h
    cases h2; rfl
  · cases h
theorem ss_setIx (kt : KT K T) {o i c : CE} : SSp K T (.setIx o i c) := fun W B O F H L e σ D hw hl g h => by
  obtain ⟨wo, wi, wc⟩ := hw
  have h0 : PF K T W B O L σ [] D ((valM c (evX c) e).bind fun x e => if pu i = true then (match pathS e o, evQ e i with
    | some p, some (.int j) => (updM p (setLX j x) e).bind fun _ e => .ok .nxt e
    | _, _ => .stuck) else .stuck) := h
  show (sem K T c W).1 σ H fun x H1 => (sem K T o W).1 σ H1 fun ov H2 => (sem K T i W).1 σ H2 fun iv H3 => rSetL ov iv x H3 fun H4 => D.nx σ H4
  refine val_ok kt (sx kt c) wc hl g ((PF_bind h0).imp fun x e1 k1 hl1 v H1 F1 g1 => ?_)
  rw [List.append_assoc] at g1
  split at k1
  · split at k1
    · rename_i p j hp hi
      refine part_run kt hl1.symm g1 wo hp (PG_nx k1) fun sub u r sub' ex hs hg kk => ?_
      refine pq kt i W wi hi hl1.symm g1 fun iv ⟨_, hiv⟩ => ?_
      rw [rep_int hiv]
      have : r = .non := setLX_non hg
      subst this
      exact setLX_ok hs hg fun H' up => kk .non H' up
    · exact k1.elim
  · exact k1.elim
theorem set_run (kt : KT K T) {o i : CE} {x : PV} {v : V} {p : Nat × List Stp} {j : Int} {N : Hp → Prop} (hl : σ.length = e.length) (g : Good B O (ze K T e σ ++ (L ++ [cv K T x v])) H F) (wo : wf K T o) (wi : wf K T i) (hp : pathS e o = some p) (hi : evQ e i = some (.int j)) (k : PG K T W B O L σ (okV K T B O L σ fun _ H => N H) (updM p (setLX j x) e)) :
    (sem K T o W).1 σ H fun ov H2 => (sem K T i W).1 σ H2 fun iv H3 => rSetL ov iv v H3 N := by
  refine part_run kt hl g wo hp k fun sub u r sub' ex hs hg kk => ?_
  refine pq kt i W wi hi hl g fun iv ⟨_, hiv⟩ => ?_
  rw [rep_int hiv]
  have : r = .non := setLX_non hg
  subst this
  exact setLX_ok hs hg fun H' up => kk .non H' up
theorem ss_swp (kt : KT K T) {o i j c d : CE} : SSp K T (.swp o i j c d) := fun W B O F H L e σ D hw hl g h => by
  obtain ⟨wo, wi, wj, wc, wd⟩ := hw
  have h0 : PF K T W B O L σ [] D (if pu i = true ∧ pu j = true ∧ pu c = true ∧ pu d = true then (match pathS e o, evQ e i, evQ e c, evQ e d with
    | some p, some (.int k), some x, some y => if isF x = true ∧ isF y = true then (updM p (setLX k x) e).bind fun _ e => (match pathS e o, evQ e j with
      | some q, some (.int m) => (updM q (setLX m y) e).bind fun _ e => .ok .nxt e
      | _, _ => .stuck) else .stuck
    | _, _, _, _ => .stuck) else .stuck) := h
  split at h0
  · split at h0
    · rename_i p k x y hp hi hx hy
      split at h0
      · rename_i hf
        show (tTup (taOf (sems K T [c, d] W).1)) σ H fun v H1 => (gTup K 2 (gCons (gSub (sem K T o W).1 (sem K T i W).1 rSetL) (gCons (gSub (sem K T o W).1 (sem K T j W).1 rSetL) gNil))) v σ H1 D.nx
        refine pq kt c W wc hx hl g fun v1 ⟨_, hv1⟩ => pq kt d W wd hy hl g fun v2 ⟨_, hv2⟩ => ?_
        have r1 := rep_dup hf.1 hv1
        have r2 := rep_dup hf.2 hv2
        refine ⟨(show 2 ≤ sizeLine by decide), fun t ht => ?_⟩
        obtain ⟨g1, hF⟩ := Good.new (o := .tup [v1, v2]) g ht
        have e1 : Ex F (upd F t (.tup [v1, v2])) := Ex.new hF
        have g2 := g1.app (okL_one.mpr (r2.loc (H' := upd H t (.tup [v1, v2])) e1 fun _ hb => by cases hb))
        have g3 := g2.app (okL_one.mpr (r1.loc (H' := upd H t (.tup [v1, v2])) e1 fun _ hb => by cases hb))
        have g4 : Good B O (ze K T e σ ++ ((L ++ [cv K T y v2]) ++ [cv K T x v1])) (upd H t (.tup [v1, v2])) (upd F t (.tup [v1, v2])) := by
          simp only [List.append_assoc] at g3 ⊢
          exact g3
        refine ⟨t, [v1, v2], rfl, .inl (.inl upd_same), rfl, v1, [v2], rfl, ?_⟩
        refine set_run kt hl g4 wo wi hp hi (PG.imp (PG.more (PF_bind h0)) fun z e2 k2 hl2 vz H2 F2 g5 => ?_)
        obtain ⟨F3, g6, _⟩ := drop1 g5
        refine ⟨v2, [], rfl, ?_⟩
        split at k2
        · rename_i q m hq hj
          refine set_run kt hl2.symm (L := L) g6 wo wj hq hj (PG.imp (PF_bind k2) fun z e3 k3 hl3 vz H3 F4 g7 => ?_)
          obtain ⟨F5, g8, _⟩ := drop1 g7
          exact ⟨rfl, k3 hl3 σ H3 F5 .refl g8⟩
        · exact k2.elim
      · exact h0.elim
    · exact h0.elim
  · exact h0.elim
theorem ss_setD (kt : KT K T) {o i c : CE} : SSp K T (.setD o i c) := fun W B O F H L e σ D hw hl g h => by
  obtain ⟨wo, wi, wc⟩ := hw
  have h0 : PF K T W B O L σ [] D ((valM c (evX c) e).bind fun x e => if pu i = true then (match pathS e o, evQ e i with
    | some p, some k => (updM p (setDX k x) e).bind fun _ e => .ok .nxt e
    | _, _ => .stuck) else .stuck) := h
  show (sem K T c W).1 σ H fun v H1 => (sem K T o W).1 σ H1 fun x H2 => (sem K T i W).1 σ H2 fun y H3 => ∃ a H4, x = .ref a ∧ DPut H3 a y v H4 ∧ D.nx σ H4
  refine val_ok kt (sx kt c) wc hl g ((PF_bind h0).imp fun x e1 k1 hl1 v H1 F1 g1 => ?_)
  rw [List.append_assoc] at g1
  split at k1
  · split at k1
    · rename_i p j hp hi
      refine part_run kt hl1.symm g1 wo hp (PG_nx k1) fun sub u r sub' ex hs hg kk => ?_
      refine pq kt i W wi hi hl1.symm g1 fun iv hiv => ?_
      have : r = .non := by
        unfold setDX at hg
        split at hg
        · split at hg
          · cases hg; rfl
          · cases hg
        · cases hg
      subst this
      exact setDX_ok (N := fun H4 => D.nx σ H4) hs hiv hg ex fun H' up => kk .non H' up
    · exact k1.elim
  · exact k1.elim
theorem ss_fldA (kt : KT K T) {o : CE} {f : Str} {c : CE} : SSp K T (.fldA o f c) := fun W B O F H L e σ D hw hl g h => by
  obtain ⟨hf, wo, wc⟩ := hw
  have h0 : PF K T W B O L σ [] D ((valM c (evX c) e).bind fun x e => match pathS e o with
    | some p => (updM p (fldX f x) e).bind fun _ e => .ok .nxt e
    | none => .stuck) := h
  show (sem K T c W).1 σ H fun y H1 => (sem K T o W).1 σ H1 fun x H2 => ∃ a C dx fs, x = .ref a ∧ H2 a = some (.ins C dx fs) ∧ Cls K C ∧ NoAttr K C f ∧ fs.length < 1000 ∧ D.nx σ (upd H2 a (.ins C dx (putF f y fs)))
  refine val_ok kt (sx kt c) wc hl g ((PF_bind h0).imp fun x e1 k1 hl1 v H1 F1 g1 => ?_)
  rw [List.append_assoc] at g1
  split at k1
  · rename_i p hp
    refine part_run kt hl1.symm g1 wo hp (PG_nx k1) fun sub u r sub' ex hs hg kk => ?_
    have : r = .non := by
      unfold fldX at hg
      split at hg
      · split at hg
        · cases hg; rfl
        · cases hg
      · cases hg
    subst this
    exact fldX_ok (N := fun H4 => D.nx σ H4) kt hf hs hg fun H' up => kk .non H' up
  · exact k1.elim
theorem ss_aug (kt : KT K T) {i : Nat} {c : CE} : SSp K T (.aug i c) := fun W B O F H L e σ D hw hl g h => by
  have h0 : PF K T W B O L σ [i] D (match slot e i with
    | some (.int n) => (opM c e).bind fun x e => match x with
      | .int m => .ok .nxt (e.set i (some (.int (n + m))))
      | _ => .stuck
    | _ => .stuck) := h
  split at h0
  · rename_i n hs
    obtain ⟨v, ads, h1, h2, _⟩ := slot_get hl g hs
    refine ⟨v, h1, op_ok kt hw hl g h0 fun x e1 u H1 F1 hl1 g1 hu k1 => ?_⟩
    cases x <;> first | exact k1.elim | skip
    rename_i m
    obtain ⟨_, hu⟩ := hu
    obtain ⟨F2, g2⟩ := set_good (i := i) (x := .int (n + m)) (v := .int (n + m)) hl1.symm (dup g1 ⟨rfl, rfl⟩)
    exact ⟨n, m, rep_int h2, rep_int hu, k1 (by simpa using hl1) _ H1 F2 ⟨by simp, fun j hj => List.getElem?_set_ne fun z => hj (by simp [z])⟩ g2⟩
  · exact h0.elim
theorem ss_augIx (kt : KT K T) {o i c : CE} : SSp K T (.augIx o i c) := fun W B O F H L e σ D hw hl g h => by
  obtain ⟨wo, wi, wc⟩ := hw
  have h0 : PF K T W B O L σ [] D (if pu i = true ∧ pu c = true then (match pathS e o, evQ e i, evQ e c with
    | some p, some (.int j), some (.int m) => if 0 ≤ j then (match (slot e p.1).bind (getS p.2) with
      | some x => (match ixQ x (.int j) with
        | some (.int n) => (updM p (setLX j (.int (n + m))) e).bind fun _ e => .ok .nxt e
        | _ => .stuck)
      | none => .stuck) else .stuck
    | _, _, _ => .stuck) else .stuck) := h
  split at h0
  · split at h0
    · rename_i p j m hp hi hc
      split at h0
      · rename_i hj
        split at h0
        · rename_i x hx
          split at h0
          · rename_i n hn
            have g1 : Good B O (ze K T e σ ++ (L ++ [cv K T (.int (n + m)) (.int (n + m))])) H F := by
              rw [← List.append_assoc]
              exact dup g ⟨rfl, rfl⟩
            show (sem K T o W).1 σ H fun ov H1 => (sem K T i W).1 σ H1 fun iv H2 => rGetL K ov iv H2 fun x H3 => (sem K T c W).1 σ H3 fun y H4 => ipAdd x y H4 fun z H5 => rSetL ov iv z H5 fun H6 => D.nx σ H6
            obtain ⟨root, sub, r, sub', rv, u, t1, t2, t3, t4, t5, t6, t7⟩ := upd_run (ys := [.int (n + m)]) (vs := [.int (n + m)]) hl g1 rfl (PG_nx h0)
            refine path_ok kt o wo hp hl g1 t1 t2 t4 t5 (pq kt i W wi hi hl g1 fun iv ⟨_, hiv⟩ => ?_)
            rw [rep_int hiv]
            rw [t1, Option.bind_some, t2] at hx
            have hx' : sub = x := Option.some.inj hx
            obtain ⟨_, t6'⟩ := t6
            have hsub : ∃ xs, sub = .lst true xs := by
              unfold setLX at t3
              split at t3
              · exact ⟨_, rfl⟩
              · cases t3
            obtain ⟨xs, rfl⟩ := hsub
            rw [← hx'] at hn
            obtain ⟨q, us, rr, rfl, hH, h4⟩ := rep_lst g1.exH t6'
            have hn' : atI xs j = some (.int n) := hn
            obtain ⟨vn, e1, _, e2⟩ := reps_atI h4 hn'
            rw [rep_int e2] at e1
            refine ⟨q, us, j, .int n, rfl, rfl, .inl (.inl hH), hj, e1, pq kt c W wc hc hl g1 fun cvv ⟨_, hcv⟩ => ⟨n, m, rfl, rep_int hcv, ?_⟩⟩
            have : r = .non := setLX_non t3
            subst this
            exact setLX_ok ⟨_, t6'⟩ t3 fun H' up => t7 .non H' up
          · exact h0.elim
        · exact h0.elim
      · exact h0.elim
    · exact h0.elim
  · exact h0.elim
theorem any_swap : ∀ {e1 : Slots} {σ1 σ2 : L2.St} {F : Hp} {R : List Rs}, σ1.length = e1.length → σ2.length = e1.length → (∀ (j : Nat) (x : PV), e1[j]? = some (some x) → σ1[j]? = σ2[j]?) → Good B O (ze K T e1 σ1 ++ R) H F → Good B O (ze K T e1 σ2 ++ R) H F
  | [], [], [], F, R, _, _, _, g => g
  | s :: e1, o :: σ1, o' :: σ2, F, R, h1, h2, hk, g => by
    have g1 : Good B O (ze K T e1 σ1 ++ (R ++ [(sdo K T s, o)])) H F := g.perm (by
      show ((sdo K T s, o) :: (ze K T e1 σ1 ++ R)).Perm _
      rw [← List.append_assoc]
      exact (List.perm_append_singleton _ _).symm)
    have g2 := any_swap (by simpa using h1) (by simpa using h2) (fun j x hx => by simpa using hk (j + 1) x (by simpa using hx)) g1
    have g3 : Good B O ((ze K T e1 σ2 ++ R) ++ [(sdo K T s, o)]) H F := by rw [List.append_assoc]; exact g2
    have g4 : Good B O ((ze K T e1 σ2 ++ R) ++ [(sdo K T s, o')]) H F := by
      cases s with
      | none =>
        obtain ⟨ads, hX, _, bk⟩ := g3.view
        have : ads = [] := by
          cases hX with
          | cons q1 q2 => cases q2; simp; exact q1
        subst this
        exact bk _ (.cons (show okSd F H [] (.any, o') from rfl) .nil)
      | some x =>
        have := hk 0 x (by simp)
        simp at this
        rw [← this]; exact g3
    exact g4.perm (List.perm_append_singleton _ _)
/-- the suite -/
theorem su_ok (kt : KT K T) {y : Str} : ∀ {su : List (Nat × CE)} {B O F H : Hp} {L : List Rs} {e : Slots} {σ : L2.St} {D : Ends}, wfSu K T su → σ.length = e.length → Good B O (ze K T e σ ++ L) H F → PF K T W0 B O L σ (su.map (·.1)) D (suM y su e) → suS K T y su D σ H
  | [], B, O, F, H, L, e, σ, D, _, hl, g, k => k hl.symm σ H F .refl g
  | (j, c) :: r, B, O, F, H, L, e, σ, D, hw, hl, g, k => by
    have k0 : PF K T W0 B O L σ ([j] ++ r.map (·.1)) D (seqM (evS (.asg j (subE y c)) e) (suM y r)) := k
    cases r with
    | nil =>
      show semS K T (.asg j (subE y c)) W0 D σ H
      refine ss_asg kt W0 B O F H L e σ D (hw.1 y) hl g (PF_seq k0 rfl fun e1 σ1 H1 F1 hl1 q g1 k1 => ?_)
      exact k1 (hl1.trans q.1.symm) σ1 H1 F1 .refl g1
    | cons d r =>
      show tSeq (semS K T (.asg j (subE y c)) W0) (suS K T y (d :: r)) D σ H
      refine ss_asg kt W0 B O F H L e σ _ (hw.1 y) hl g (PF_seq k0 rfl fun e1 σ1 H1 F1 hl1 q g1 k1 => ?_)
      exact su_ok kt hw.2 (by rw [q.1, hl1]) g1 k1
theorem ss_try (kt : KT K T) {x : Str} {i : Nat} {body : List CS} {su : List (Nat × CE)} (sb : SBp K T body) : SSp K T (.tryE x i body su) := fun W B O F H L e σ D hw hl g h => by
  obtain ⟨⟨C, hC⟩, hok, hwb, hws⟩ := hw
  have htr : T.tr = true := by
    rw [Bool.and_eq_true] at hok; exact hok.1
  have h0 : PF K T W B O L σ (asgB body ++ (i :: su.map (·.1))) D (tryM x i su (evB body e)) := h
  simp only [semS, hC]
  refine ⟨hok, sb _ B O F H L e σ D hwb hl g ?_⟩
  cases hr : evB body e with
  | stuck => rw [hr] at h0; exact h0
  | ok f e1 =>
    rw [hr] at h0
    cases f with
    | nxt => exact fun hl' σ' H F q g => h0 hl' σ' H F (q.mono fun j hj => List.mem_append_left _ hj) g
    | ret v => exact fun hl' σ' v H F q g => h0 hl' σ' v H F (q.mono fun j hj => List.mem_append_left _ hj) g
  | exc y e1 =>
    rw [hr] at h0
    intro hl1 σ1 H1 F1 q1 g1 Cy hCy
    refine ⟨isE y x, kt.exm htr y Cy x C hCy hC, fun hb a ha => ?_, fun hb => ?_⟩
    · have h1 : PF K T W B O L σ (asgB body ++ (i :: su.map (·.1))) D (if i < e1.length then tryN i (suM y su (e1.set i none)) else .stuck) := by
        have : tryM x i su (.exc y e1) = (if i < e1.length then tryN i (suM y su (e1.set i none)) else .stuck) := by
          show (if isE y x = true then _ else _) = _
          rw [if_pos hb]
        rw [this] at h0; exact h0
      by_cases hi : i < e1.length
      · rw [if_pos hi] at h1
        have hi1 : i < σ1.length := by rw [q1.1, ← hl1]; exact hi
        refine ⟨y, Cy, hCy, rfl, rfl, List.getElem?_set_self hi1, ?_⟩
        obtain ⟨F2, g2, _⟩ := slot_kill (i := i) (q1.1.trans hl1.symm) g1
        have g3 := any_swap (σ2 := σ1.set i (some (.ref a))) (by simpa using q1.1.trans hl1.symm) (by simpa using q1.1.trans hl1.symm) (fun j z hz => by
          by_cases hj : j = i
          · subst hj
            rw [List.getElem?_set_self hi] at hz; cases hz
          · rw [List.getElem?_set_ne (Ne.symm hj)]) g2
        -- what is left of the end
        have back : ∀ (e3 : Slots) (σ3 : L2.St) (R : List Rs) (H3 F3 : Hp), e3.length = (σ1.set i (some (V.ref a))).length → Agr (su.map (·.1)) (σ1.set i (some (.ref a))) σ3 → Good B O (ze K T e3 σ3 ++ R) H3 F3 →
            (e3.set i none).length = σ.length ∧ Agr (asgB body ++ (i :: su.map (·.1))) σ (σ3.set i none) ∧ ∃ F4, Good B O (ze K T (e3.set i none) (σ3.set i none) ++ R) H3 F4 := fun e3 σ3 R H3 F3 hl3 q3 g4 => by
          have l1 : σ1.length = σ.length := q1.1
          have l3 : σ3.length = σ1.length := by rw [q3.1]; simp
          have le : e3.length = σ1.length := by rw [hl3]; simp
          refine ⟨by simp [le, l1], ⟨by simp [l3, l1], fun j hj => ?_⟩, ?_⟩
          · have hji : i ≠ j := fun z => hj (List.mem_append_right _ (by simp [z]))
            rw [List.getElem?_set_ne hji, q3.2 j (fun z => hj (List.mem_append_right _ (List.mem_cons_of_mem _ z))), List.getElem?_set_ne hji]
            exact q1.2 j fun z => hj (List.mem_append_left _ z)
          · obtain ⟨F5, g5, _⟩ := slot_kill (i := i) (l3.trans le.symm) g4
            exact ⟨F5, any_swap (σ2 := σ3.set i none) (by simp [l3, le]) (by simp [l3, le]) (fun j z hz => by
              by_cases hj : j = i
              · subst hj
                rw [List.getElem?_set_self (by rw [le, ← q1.1.trans hl1.symm |>.symm]; omega)] at hz; cases hz
              · rw [List.getElem?_set_ne (Ne.symm hj)]) g5⟩
        refine su_ok kt hws (by simpa using q1.1.trans hl1.symm) g3 ?_
        cases hs : suM y su (e1.set i none) with
        | stuck => rw [hs] at h1; exact h1
        | exc _ _ => rw [hs] at h1; exact h1.elim
        | ok f e3 =>
          rw [hs] at h1
          cases f with
          | nxt =>
            intro hl3 σ3 H3 F3 q3 g4
            obtain ⟨b1, b2, F4, b3⟩ := back e3 σ3 L H3 F3 hl3 q3 g4
            exact h1 b1 _ H3 F4 b2 b3
          | ret v =>
            intro hl3 σ3 w H3 F3 q3 g4
            rw [List.append_assoc] at g4
            obtain ⟨b1, b2, F4, b3⟩ := back e3 σ3 _ H3 F3 hl3 q3 g4
            rw [← List.append_assoc] at b3
            exact h1 b1 _ w H3 F4 b2 b3
      · rw [if_neg hi] at h1; exact h1.elim
    · have h1 : PF K T W B O L σ (asgB body ++ (i :: su.map (·.1))) D (.exc y e1) := by
        have : tryM x i su (.exc y e1) = .exc y e1 := by
          show (if isE y x = true then _ else _) = _
          rw [if_neg (by rw [hb]; exact Bool.false_ne_true)]
        rw [this] at h0; exact h0
      exact h1 hl1 σ1 H1 F1 (q1.mono fun j hj => List.mem_append_left _ hj) g1 Cy hCy
mutual
theorem ss (kt : KT K T) : ∀ c : CS, SSp K T c
  | .pass => fun W B O F H L e σ D _ hl g h => (show PF K T W B O L σ [] D (.ok .nxt e) from h) hl.symm σ H F .refl g
  | .asg i c => ss_asg kt
  | .unp is c => ss_unp kt
  | .unpL is c => ss_unpL kt
  | .par _ _ _ _ => fun W B O F H L e σ D _ hl g h => (show False from h).elim
  | .setIx o i c => ss_setIx kt
  | .setD o i c => ss_setD kt
  | .swp o i j c d => ss_swp kt
  | .fldA o f c => ss_fldA kt
  | .aug i c => ss_aug kt
  | .augIx o i c => ss_augIx kt
  | .expr c => fun W B O F H L e σ D hw hl g h => by
    have h0 : PF K T W B O L σ [] D ((opM c e).bind fun _ e => .ok .nxt e) := h
    show (sem K T c W).1 σ H fun _ H1 => D.nx σ H1
    exact op_ok kt hw hl g h0 fun x e1 u H1 F1 hl1 g1 _ k1 => k1 hl1 σ H1 F1 .refl g1
  | .ite c a b => fun W B O F H L e σ D hw hl g h => by
    have h0 : PF K T W B O L σ (asgB a ++ asgB b) D ((tstM c e).bind fun t e => match t with
      | .bl true => evB a e
      | .bl false => evB b e
      | _ => .stuck) := h
    show (sem K T c W).2 σ H fun t H1 => if t = true then semB K T a W D σ H1 else semB K T b W D σ H1
    refine tst_ok kt hw.1 hl g h0 fun t e1 H1 F1 hl1 g1 k1 => ?_
    cases t with
    | true => rw [if_pos rfl]; exact sb kt a W B O F1 H1 L e1 σ D hw.2.1 hl1.symm g1 (PF_mono k1 fun j hj => List.mem_append_left _ hj)
    | false => rw [if_neg Bool.false_ne_true]; exact sb kt b W B O F1 H1 L e1 σ D hw.2.2 hl1.symm g1 (PF_mono k1 fun j hj => List.mem_append_right _ hj)
  | .forr kl tg k es body => ss_for kt (sb kt body)
  | .forO kl x o body => ss_forO kt (sb kt body)
  | .forZ kl x y o b body => ss_forZ kt (sb kt body)
  | .whil kl n c body => ss_while kt (sb kt body)
  | .ret c => fun W B O F H L e σ D hw hl g h => by
    have h0 : PF K T W B O L σ [] D ((valM c (evX c) e).bind fun x e => .ok (.ret x) e) := h
    show (sem K T c W).1 σ H D.rt
    exact val_ok kt (sx kt c) hw hl g ((PF_bind h0).imp fun x e1 k1 hl1 v H1 F1 g1 => k1 hl1 σ v H1 F1 .refl g1)
  | .retN => fun W B O F H L e σ D _ hl g h => by
    have h0 : PF K T W B O L σ [] D (.ok (.ret .non) e) := h
    exact h0 hl.symm σ .non H F .refl (dup g ⟨rfl, rfl⟩)
  | .raise x => fun W B O F H L e σ D hw hl g h => by
    have h0 : PF K T W B O L σ [] D (.exc x e) := h
    obtain ⟨C, hC⟩ := hw
    simp only [semS, hC]
    exact h0 hl.symm σ H F .refl g C hC
  | .tryE x i body su => ss_try kt (sb kt body)
theorem sb (kt : KT K T) : ∀ cs : List CS, SBp K T cs
  | [] => sb_nil
  | c :: r => sb_cons (ss kt c) (sb kt r)
end
/-! ### a def -/
theorem ze_split : ∀ {n : Nat} {e : Slots} {σ : L2.St}, ze K T e σ = ze K T (e.take n) (σ.take n) ++ ze K T (e.drop n) (σ.drop n)
  | 0, e, σ => by simp [ze_nil]
  | n + 1, [], σ => by cases σ <;> rfl
  | n + 1, x :: e, [] => by
    have z : ∀ e : Slots, ze K T e ([] : L2.St) = [] := fun e => by cases e <;> rfl
    rw [List.take_nil, List.drop_nil, z, z, z]; rfl
  | n + 1, x :: e, o :: σ => by
    show (sdo K T x, o) :: ze K T e σ = (sdo K T x, o) :: (ze K T (e.take n) (σ.take n) ++ ze K T (e.drop n) (σ.drop n))
    rw [← ze_split]
theorem ze_app {e1 e2 : Slots} {σ1 σ2 : L2.St} (h : e1.length = σ1.length) : ze K T (e1 ++ e2) (σ1 ++ σ2) = ze K T e1 σ1 ++ ze K T e2 σ2 := by
  show ((e1 ++ e2).map (sdo K T)).zip (σ1 ++ σ2) = _
  rw [List.map_append, List.zip_append (by simpa using h)]
theorem none_good : ∀ (n : Nat) {ps : List Rs}, Good B O ps H F → Good B O (ps ++ ze K T (List.replicate n none) (List.replicate n none)) H F
  | 0, ps, g => by show Good B O (ps ++ []) H F; rw [List.append_nil]; exact g
  | n + 1, ps, g => by
    have g1 := none_good n (knowAny' (o := none) g)
    rw [List.append_assoc] at g1
    exact g1
/-- THE SOUNDNESS OF A DEF -/
theorem keeps (kt : KT K T) {N : List Str} {np : Nat} {code : List CS} (hw : wfB K T code) (hnp : np ≤ N.length) : Keeps K T N code (spF K T.adr T.exc (fnM np N.length code)) := by
  rintro vs H Q E ⟨xs, F, O, hlen, g, h⟩
  unfold fnM at h
  by_cases hxs : xs.length = np
  · rw [if_pos hxs] at h
    have hvs : vs.length = np := by rw [hlen, hxs]
    let e0 : Slots := xs.map some ++ List.replicate (N.length - np) none
    have hst : start N vs = vs.map some ++ List.replicate (N.length - np) none := by unfold L2.start; rw [hvs]
    have hl0 : (start N vs).length = e0.length := by rw [hst]; simp [e0, hlen]
    have g0 : Good F O (ze K T e0 (start N vs) ++ []) H F := by
      rw [List.append_nil, hst, ze_app (by simp [hlen])]
      exact none_good _ g
    -- what stands in the parameters' slots at the end
    have outs : ∀ (e : Slots) (σ' : L2.St) (H : Hp) (F' : Hp) (R : List Rs), e.length = (start N vs).length → Agr (asgB code) (start N vs) σ' → Good F O (ze K T e σ' ++ R) H F' → ∃ F2, Good F O (ze K T (outM np (asgB code) e) (vs.map some) ++ R) H F2 ∧ (outM np (asgB code) e).length = vs.length := fun e σ' H F' R he ag g => by
      obtain ⟨F1, g1⟩ := kills (kl := asgB code) (by rw [ag.1, he]) g
      rw [ze_split (n := np)] at g1
      have g2 : Good F O (ze K T ((killM (asgB code) e).take np) (σ'.take np) ++ (R ++ ze K T ((killM (asgB code) e).drop np) (σ'.drop np))) H F1 := g1.perm (by
        rw [List.append_assoc]
        exact (List.perm_append_comm).append_left _)
      have hstl : (start N vs).length = N.length := by rw [hst]; simp [hvs]; omega
      have l1 : ((killM (asgB code) e).take np).length = np := by rw [List.length_take, killM_len, he, hstl]; omega
      have g3 := any_swap (σ2 := vs.map some) (by rw [List.length_take, ag.1, l1, hstl]; omega) (by rw [l1]; simp [hvs]) (fun j x hx => ?_) g2
      · rw [← List.append_assoc] at g3
        obtain ⟨F2, g4, _⟩ := g3.dropR'
        exact ⟨F2, g4, by unfold outM; rw [l1, hvs]⟩
      · have hj : j < np := by
          have := (List.getElem?_eq_some_iff.mp hx).1
          omega
        have hna : j ∉ asgB code := fun hm => by
          rw [List.getElem?_take_of_lt hj] at hx
          have kn : ∀ {l : List Nat} {e : Slots}, j ∈ l → (killM l e)[j]? = none ∨ (killM l e)[j]? = some none := by
            intro l
            induction l with
            | nil => intro e h; cases h
            | cons i is ih =>
              intro e h
              rw [show killM (i :: is) e = (killM is e).set i none from killM_comm]
              by_cases q : i = j
              · subst q
                by_cases b : i < (killM is e).length
                · right; rw [List.getElem?_set_self b]
                · left; rw [List.getElem?_eq_none (by rw [List.length_set]; omega)]
              · rw [List.getElem?_set_ne q]
                exact ih ((List.mem_cons.mp h).resolve_left fun z => q z.symm)
          rcases kn (e := e) hm with z | z <;> rw [z] at hx <;> cases hx
        rw [List.getElem?_take_of_lt hj, ag.2 j hna, hst, List.getElem?_append_left (by simp [hvs]; exact hj)]
    refine sb kt code _ F O F H [] e0 (start N vs) _ hw hl0 g0 ?_
    cases hr : evB code (xs.map some ++ List.replicate (N.length - np) none) with
    | stuck => rw [hr] at h; exact h.elim
    | exc n e =>
      rw [hr] at h
      intro he σ' H' F' ag g' C hC
      obtain ⟨F2, g2, l2⟩ := outs e σ' H' F' [] he ag g'
      rw [List.append_nil] at g2
      exact h C hC H' F2 l2 g2
    | ok f e =>
      rw [hr] at h
      cases f with
      | nxt =>
        intro he σ' H' F' ag g'
        obtain ⟨F2, g2, l2⟩ := outs e σ' H' F' [] he ag g'
        rw [List.append_nil] at g2
        exact h .non H' F2 l2 (dup g2 ⟨rfl, rfl⟩)
      | ret y =>
        intro he σ' v H' F' ag g'
        rw [List.append_nil] at g'
        obtain ⟨F2, g2, l2⟩ := outs e σ' H' F' _ he ag g'
        exact h v H' F2 l2 g2
  · rw [if_neg hxs] at h
    exact h.elim
end
end Rk

set_option Elab.async false
set_option linter.all false
set_option maxRecDepth 100000
set_option maxHeartbeats 1000000
namespace Rk
open PySem PySem.Spec PyProof.Rows L2
/-! ### a text as data: its defs, constants, classes, errors, fields -/
structure Df where
  at_ : Str × Option Str
  qual : Str
  N : List Str
  ps : List Str
  code : List CS
  st : Stmt
  f : Fn
def Df.nm (d : Df) : Str := match d.at_.2 with
  | some m => m
  | none => d.at_.1
def Df.dd (d : Df) : He.DefD := ⟨d.at_, d.nm, d.qual, defArgs d.st, defBody d.st, defScope d.st, [], []⟩
structure Df.Ok (d : Df) : Prop where
  sc : FnScope d.N d.ps (defScope d.st)
  chk : chkF d.N d.ps d.code d.st = true
  eq : d.f = fnM d.ps.length d.N.length d.code
  len : d.ps.length ≤ d.N.length
  bind : ∀ (kV doc pm : Value) (an : Option Addr) (cdv ct : Value) (us : List Value), us.length = d.ps.length → bindArgs (PySem.W.fnOf d.nm d.qual (defArgs d.st) (defBody d.st) (defScope d.st) .none kV doc pm an cdv ct) ⟨us, []⟩ = pure (d.ps.zip us)
inductive Cv where
  | int (i : Int) | str (s : Str) | tup (l : List Str)
structure Txt where
  cs : List (Str × Cv)
  cl : List Str
  ex : List Str
  fl : List Str
  tr : Bool
def Txt.adr (D : Txt) (K : PySem.W.Frag) (c : Str) : Option Addr := if D.cl.contains c = true then some (He.ga K c) else none
def Txt.exc (D : Txt) (K : PySem.W.Frag) (c : Str) : Option Addr := if D.ex.contains c = true then some (He.ga K c) else none
def Cv.v (K : PySem.W.Frag) (x : Str) : Cv → V
  | .int i => .int i
  | .str s => .str s
  | .tup _ => .ref (He.ga K x)
def Cv.p : Cv → PV
  | .int i => .int i
  | .str s => .str s
  | .tup l => .tup (l.map .str)
def fnd (x : Str) (m : Option Str) : List Df → Option Df
  | [] => none
  | d :: r => if d.at_ = (x, m) then some d else fnd x m r
def Txt.tab (D : Txt) (K : PySem.W.Frag) (ds : List Df) : Tab where
  fn x := (fnd x none ds).map fun d => spF K (D.adr K) (D.exc K) d.f
  con x := (D.cs.lookup x).map (Cv.v K x)
  cls c := match D.adr K c with
    | some C => (fnd c (some "__init__") ds).map fun d => (C, spF K (D.adr K) (D.exc K) d.f)
    | none => none
  mth c m := match D.adr K c with
    | some C => (fnd c (some m) ds).map fun d => (C, spF K (D.adr K) (D.exc K) d.f)
    | none => none
  exc := D.exc K
  tr := D.tr
  adr := D.adr K
  flds := D.fl
theorem fnd_mem {x : Str} {m : Option Str} {d : Df} : ∀ {ds : List Df}, fnd x m ds = some d → d ∈ ds ∧ d.at_ = (x, m)
  | [], h => by cases h
  | e :: r, h => by
    unfold fnd at h
    split at h
    · cases h; rename_i q; exact ⟨List.mem_cons_self .., q⟩
    · obtain ⟨a, b⟩ := fnd_mem h; exact ⟨List.mem_cons_of_mem _ a, b⟩
/-! ### the facts that are asked of the top -/
def seqB (K : PySem.W.Frag) (x : Str) (l : List Str) : Bool := match PySem.W.nsIn K mainGlobals x with
  | some (some (.ref a)) => (match K.lookup a with
    | some ⟨.type c, none, .seq its _, _⟩ => decide (c = "tuple") && (decide (its.size ≤ 1000) && He.relAll (l.map V.str) its.toList)
    | _ => false)
  | _ => false
def excCB (K : PySem.W.Frag) (D : Addr) : Bool :=
  He.eqO (PySem.W.findIn K (.ref D) "__getattribute__") (some (some (.builtin "BaseException.__getattribute__"))) && (He.eqO (PySem.W.findIn K (.ref D) "__getattr__") (some none) && (decide (PySem.W.subIn K (.ref D) (.type "BaseException") = some true) &&
  (PySem.W.hasDictIn K D && (He.eqO (PySem.W.findIn K (.ref D) "__class__") (some (some (.builtin "object.__class__"))) && (He.eqO (PySem.W.specialIn K (.builtin "object.__class__") "__get__") (some (some (.builtin "getset_descriptor.__get__"))) &&
  (decide (PySem.W.takesIn K (.builtin "object.__class__") = some true) && decide (PySem.W.mroIn K D (.type "object") = some true)))))))
theorem excCB_ok {K : PySem.W.Frag} {D : Addr} (h : excCB K D = true) : ExcC K D := by
  obtain ⟨h1, h⟩ := He.ba h
  obtain ⟨h2, h⟩ := He.ba h
  obtain ⟨h3, h⟩ := He.ba h
  obtain ⟨h4, h⟩ := He.ba h
  obtain ⟨h5, h⟩ := He.ba h
  obtain ⟨h6, h⟩ := He.ba h
  obtain ⟨h7, h8⟩ := He.ba h
  exact ⟨He.eqO_ok h1, He.eqO_ok h2, of_decide_eq_true h3, h4, He.eqO_ok h5, He.eqO_ok h6, of_decide_eq_true h7, of_decide_eq_true h8⟩
def pairB (K : PySem.W.Frag) (x y : Str) : Bool := decide (PySem.W.kitOne K (.ref (He.ga K x)) (.ref (He.ga K y)) = some (isE x y)) && decide (PySem.W.exmOne K (.ref (He.ga K x)) (.ref (He.ga K y)) = some (isE x y))
def trB (K : PySem.W.Frag) (ex : List Str) : Bool := (He.Fa.free "ValueError").ok K && ex.all fun x => excCB K (He.ga K x) && (decide (PySem.W.kitOne K (.ref (He.ga K x)) (.type "ValueError") = some true) && ex.all (pairB K x))
def seqsB (K : PySem.W.Frag) (cs : List (Str × Cv)) : Bool := cs.all fun p => match p.2 with
  | .tup l => seqB K p.1 l
  | _ => true
def Txt.more (D : Txt) (K : PySem.W.Frag) : Bool := seqsB K D.cs && (!D.tr || trB K D.ex)
def Txt.facts (D : Txt) (ds : List Df) : List He.Fa :=
  bltNames.map .free ++ (ds.map fun d => match d.at_.2 with
    | none => .glo d.at_.1
    | some m => .meth d.at_.1 m) ++
  D.cl.flatMap (fun c => [.glo c, .cls c, .mkr c] ++ D.fl.map (.noat c)) ++ D.ex.flatMap (fun x => [.glo x, .exc x]) ++
  D.cs.filterMap fun p => match p.2 with
    | .int i => some (.int p.1 i)
    | .str s => some (.str p.1 s)
    | .tup _ => none
abbrev Txt.hk (D : Txt) (n : Nat) (ds : List Df) : PySem.W.Hook := He.hookX n (D.facts ds) (ds.map Df.dd) [] [] D.more
/-- what the head leaves -/
structure Txt.Has (D : Txt) (ds : List Df) (K : PySem.W.Frag) : Prop where
  fa : ∀ f ∈ D.facts ds, f.ok K = true
  fn : ∀ d ∈ ds, ∃ fd, FunD K d.nm d.qual (defArgs d.st) (defBody d.st) (defScope d.st) [] [] (He.fAd K d.at_) fd
  mo : D.more K = true
theorem Txt.has_of {D : Txt} {ds : List Df} {K : PySem.W.Frag} {w : World} {h : Heap} (c : He.SaysX (D.facts ds) (ds.map Df.dd) [] [] D.more w h K) : D.Has ds K :=
  ⟨fun f hf => c.t.d.facts hf, fun d hd => c.t.d.defs (List.mem_map_of_mem hd), c.more⟩
section
variable {D : Txt} {ds : List Df} {K : PySem.W.Frag} {h : Heap} {mg : Str → Option Value} {x c : Str}
theorem seqB_ok {l : List Str} (X : K.In h) (G : h.Ns mainGlobals mg) (q : seqB K x l = true) : mg x = some (.ref (He.ga K x)) ∧ ∀ H, SqT K H (He.ga K x) (l.map V.str) := by
  unfold seqB at q
  cases e : PySem.W.nsIn K mainGlobals x with
  | none => rw [e] at q; cases q
  | some o =>
    cases o with
    | none => rw [e] at q; cases q
    | some v =>
      cases v with
      | ref a =>
        rw [e] at q
        have ea : He.ga K x = a := by unfold He.ga; rw [e]
        rw [ea]
        refine ⟨PySem.W.mg_of X G e, fun H => ?_⟩
        have q1 : (match K.lookup a with
          | some ⟨.type c, none, .seq its _, _⟩ => decide (c = "tuple") && (decide (its.size ≤ 1000) && He.relAll (l.map V.str) its.toList)
          | _ => false) = true := q
        cases q2 : K.lookup a with
        | none => rw [q2] at q1; cases q1
        | some o =>
          obtain ⟨oc, od, dt, osl⟩ := o
          rw [q2] at q1
          cases oc with
          | type c =>
            cases od with
            | none =>
              cases dt with
              | seq its n =>
                have q3 : (decide (c = "tuple") && (decide (its.size ≤ 1000) && He.relAll (l.map V.str) its.toList)) = true := q1
                obtain ⟨h1, h2⟩ := He.ba q3
                obtain ⟨h3, h4⟩ := He.ba h2
                exact .inr ⟨_, its, n, q2, congrArg Value.type (of_decide_eq_true h1), rfl, Nat.le_trans (of_decide_eq_true h3) (by decide), He.relAll_ok h4⟩
              | _ => cases q1
            | some d => cases dt <;> cases q1
          | _ => cases od <;> cases dt <;> cases q1
      | _ => rw [e] at q; cases q
theorem Txt.Has.blt (c : D.Has ds K) (X : K.In h) (G : h.Ns mainGlobals mg) : ∀ x ∈ bltNames, mg x = none := fun x hx =>
  He.free_ok X G (c.fa (.free x) (by unfold Txt.facts; simp only [List.mem_append, List.mem_map]; exact .inl (.inl (.inl (.inl ⟨x, hx, rfl⟩)))))
theorem Txt.Has.fnG (c : D.Has ds K) (X : K.In h) (G : h.Ns mainGlobals mg) {d : Df} (hd : d ∈ ds) (e : d.at_ = (x, none)) : mg x = some (.ref (He.fAd K d.at_)) := by
  have q := c.fa (.glo x) (by
    unfold Txt.facts; simp only [List.mem_append, List.mem_map]
    exact .inl (.inl (.inl (.inr ⟨d, hd, by rw [e]⟩))))
  rw [He.glo_ok X G q, e]; rfl
theorem Txt.Has.meth (c : D.Has ds K) {m : Str} {d : Df} (hd : d ∈ ds) (e : d.at_ = (x, some m)) : Meth K (He.ga K x) m (He.fAd K d.at_) := by
  have q := c.fa (.meth x m) (by
    unfold Txt.facts; simp only [List.mem_append, List.mem_map]
    exact .inl (.inl (.inl (.inr ⟨d, hd, by rw [e]⟩))))
  rw [e]; exact He.meth_ok q
theorem Txt.Has.clsF (c : D.Has ds K) {C : Addr} (e : D.adr K x = some C) {f : He.Fa} (hf : f ∈ ([.glo x, .cls x, .mkr x] ++ D.fl.map (.noat x) : List He.Fa)) : C = He.ga K x ∧ f.ok K = true := by
  unfold Txt.adr at e
  split at e
  · rename_i q
    refine ⟨(Option.some.inj e).symm, c.fa f ?_⟩
    unfold Txt.facts; simp only [List.mem_append, List.mem_flatMap]
    exact .inl (.inl (.inr ⟨x, by simpa using q, List.mem_append.mp hf⟩))
  · cases e
theorem Txt.Has.excF (c : D.Has ds K) {C : Addr} (e : D.exc K x = some C) {f : He.Fa} (hf : f ∈ ([.glo x, .exc x] : List He.Fa)) : C = He.ga K x ∧ f.ok K = true := by
  unfold Txt.exc at e
  split at e
  · rename_i q
    refine ⟨(Option.some.inj e).symm, c.fa f ?_⟩
    unfold Txt.facts; simp only [List.mem_append, List.mem_flatMap]
    exact .inl (.inr ⟨x, by simpa using q, hf⟩)
  · cases e
theorem Txt.Has.con (c : D.Has ds K) (X : K.In h) (G : h.Ns mainGlobals mg) {v : Cv} (e : D.cs.lookup x = some v) : ∃ u, mg x = some u ∧ RelV (v.v K x) u := by
  have hm : (x, v) ∈ D.cs := by
    clear c
    generalize D.cs = l at e
    induction l with
    | nil => cases e
    | cons p r ih =>
      obtain ⟨y, u⟩ := p
      rw [List.lookup_cons] at e
      split at e
      · rename_i q; cases e; rw [beq_iff_eq.mp q]; exact List.mem_cons_self ..
      · exact List.mem_cons_of_mem _ (ih e)
  cases v with
  | int i =>
    obtain ⟨t, q⟩ := He.int_ok X G (c.fa (.int x i) (by
      unfold Txt.facts; simp only [List.mem_append, List.mem_filterMap]
      exact .inr ⟨(x, .int i), hm, rfl⟩))
    exact ⟨_, q, t, rfl⟩
  | str s =>
    obtain ⟨t, q⟩ := He.str_ok X G (c.fa (.str x s) (by
      unfold Txt.facts; simp only [List.mem_append, List.mem_filterMap]
      exact .inr ⟨(x, .str s), hm, rfl⟩))
    exact ⟨_, q, t, rfl⟩
  | tup l =>
    have q := List.all_eq_true.mp (He.ba c.mo).1 (x, .tup l) hm
    obtain ⟨a, _⟩ := seqB_ok X G q
    exact ⟨_, a, rfl⟩
theorem Txt.Has.conT (c : D.Has ds K) (X : K.In h) (G : h.Ns mainGlobals mg) {l : List Str} (hm : (x, .tup l) ∈ D.cs) (H : Hp) : SqT K H (He.ga K x) (l.map V.str) :=
  (seqB_ok X G (List.all_eq_true.mp (He.ba c.mo).1 (x, .tup l) hm)).2 H
theorem Txt.Has.trF (c : D.Has ds K) (h : D.tr = true) : trB K D.ex = true := by
  have q := (He.ba c.mo).2
  rw [h] at q
  exact q
theorem Txt.Has.excG (c : D.Has ds K) {C : Addr} (e : D.exc K x = some C) : C = He.ga K x ∧ x ∈ D.ex := by
  unfold Txt.exc at e
  split at e
  · rename_i q
    exact ⟨(Option.some.inj e).symm, by simpa using q⟩
  · cases e
theorem Txt.Has.pair (c : D.Has ds K) (h : D.tr = true) {y : Str} {C E : Addr} (e : D.exc K x = some C) (e2 : D.exc K y = some E) : ExcC K C ∧ PySem.W.kitOne K (.ref C) (.type "ValueError") = some true ∧ PySem.W.kitOne K (.ref C) (.ref E) = some (isE x y) ∧ PySem.W.exmOne K (.ref C) (.ref E) = some (isE x y) := by
  obtain ⟨rfl, m1⟩ := c.excG e
  obtain ⟨rfl, m2⟩ := c.excG e2
  have q := List.all_eq_true.mp (He.ba (c.trF h)).2 x m1
  obtain ⟨q1, q⟩ := He.ba q
  obtain ⟨q2, q3⟩ := He.ba q
  obtain ⟨q4, q5⟩ := He.ba (List.all_eq_true.mp q3 y m2)
  exact ⟨excCB_ok q1, of_decide_eq_true q2, of_decide_eq_true q4, of_decide_eq_true q5⟩
theorem Txt.Has.kt (c : D.Has ds K) (es : List Df) : KT K (D.tab K es) where
  cls := fun x C e => by
    obtain ⟨rfl, q⟩ := c.clsF (f := .cls x) e (by simp)
    exact He.cls_ok q
  fld := fun x C f e hf => by
    obtain ⟨rfl, q⟩ := c.clsF (f := .noat x f) e (by have : f ∈ D.fl := hf; simp [this])
    exact He.noat_ok q
  exm := fun h x C y E e e2 => (c.pair h e e2).2.2.2
end
theorem len_spF {K : PySem.W.Frag} {adr exs : Str → Option Addr} {np ns : Nat} {code : List CS} {vs : List V} {H : Hp} {Q : VK} {E : XK} (h : spF K adr exs (fnM np ns code) vs H Q E) : vs.length = np := by
  obtain ⟨xs, F, O, h1, h2, h3⟩ := h
  unfold fnM at h3
  by_cases q : xs.length = np
  · rw [h1, q]
  · rw [if_neg q] at h3; exact h3.elim
theorem fun_of {K : PySem.W.Frag} {x qual : Str} {st : Stmt} {f : Addr} {fd : FuncData} (F : FunD K x qual (defArgs st) (defBody st) (defScope st) [] [] f fd) : Fun K x qual st f fd := by
  obtain ⟨⟨oc, od, dV, kV, doc, pm, an, cdv, ct, osl, h1, h2, h3, h4, h5⟩, kp⟩ := F
  rcases h4 with ⟨_, rfl⟩ | ⟨e, _⟩
  · exact ⟨⟨oc, od, kV, doc, pm, an, cdv, ct, osl, h1, h2, h3⟩, kp⟩
  · exact absurd rfl e
/-- each code's names mean what the defs ahead of it are -/
def wfAll (D : Txt) (K : PySem.W.Frag) : List Df → Prop
  | [] => True
  | d :: r => wfB K (D.tab K r) d.code ∧ wfAll D K r
section
variable {P : Program} {w : World} {K : PySem.W.Frag} {mg : Str → Option Value} {base h : Heap} {D : Txt} {all : List Df}
theorem dfSound (c : D.Has all K) {d : Df} {r : List Df} (hd : d ∈ all) (o : d.Ok) (wf : wfB K (D.tab K r) d.code) {n : Nat} (t : TabL P w K mg base n (D.tab K r)) :
    ∃ fd, FnOk P w K mg base (L2.CX P w) (n + 1) (He.fAd K d.at_) fd d.ps (spF K (D.adr K) (D.exc K) d.f) ∧ PySem.W.keepIn K (.ref (He.fAd K d.at_)) = true ∧ Binds K fd d.ps [] := by
  obtain ⟨fd, F⟩ := c.fn d hd
  refine ⟨fd, ?_, F.kp, F.bindsN o.bind⟩
  have k := keeps (np := d.ps.length) (N := d.N) (c.kt r) wf o.len
  rw [o.eq]
  exact fn_sound (fun_of F) o.sc o.chk t (fun _ _ _ _ z => len_spF z) k
abbrev Look (P : Program) (w : World) (K : PySem.W.Frag) (mg : Str → Option Value) (base : Heap) (D : Txt) (n : Nat) (d : Df) : Prop :=
  ∃ fd k, FnOk P w K mg base (L2.CX P w) k (He.fAd K d.at_) fd d.ps (spF K (D.adr K) (D.exc K) d.f) ∧ PySem.W.keepIn K (.ref (He.fAd K d.at_)) = true ∧ Binds K fd d.ps [] ∧ k + 1 ≤ n
theorem tabOf (c : D.Has all K) (X : K.In h) (G : h.Ns mainGlobals mg) (n : Nat) (ds : List Df) (hall : ∀ d ∈ ds, d ∈ all) (look : ∀ d ∈ ds, Look P w K mg base D n d) : TabL P w K mg base n (D.tab K ds) := by
    refine ⟨fun x sp e => ?_, fun x v e => ?_, fun x C sp e => ?_, fun x m C sp e => ?_, fun x C e => ?_, c.blt X G, fun h => ⟨He.free_ok X G (He.ba (c.trF h)).1, fun x C e => ⟨(c.pair h e e).1, (c.pair h e e).2.1, fun y E e2 => (c.pair h e e2).2.2.1⟩⟩⟩
    · cases q : fnd x none ds with
      | none => rw [show (D.tab K ds).fn x = (fnd x none ds).map _ from rfl, q] at e; cases e
      | some d =>
        rw [show (D.tab K ds).fn x = (fnd x none ds).map _ from rfl, q] at e; cases e
        obtain ⟨hm, ha⟩ := fnd_mem q
        obtain ⟨fd, k, h1, h2, h3, h4⟩ := look d hm
        exact ⟨_, fd, _, k, c.fnG X G (hall d hm) ha, h1, h2, h3, by omega⟩
    · cases q : D.cs.lookup x with
      | none => rw [show (D.tab K ds).con x = (D.cs.lookup x).map _ from rfl, q] at e; cases e
      | some z =>
        rw [show (D.tab K ds).con x = (D.cs.lookup x).map _ from rfl, q] at e; cases e
        exact c.con X G q
    · have e0 : (match D.adr K x with
        | some C => (fnd x (some "__init__") ds).map fun d => (C, spF K (D.adr K) (D.exc K) d.f)
        | none => none) = some (C, sp) := e
      cases qa : D.adr K x with
      | none => rw [qa] at e0; cases e0
      | some C0 =>
        rw [qa] at e0
        cases q : fnd x (some "__init__") ds with
        | none => rw [q] at e0; cases e0
        | some d =>
          rw [q] at e0; cases e0
          obtain ⟨hm, ha⟩ := fnd_mem q
          obtain ⟨fd, k, h1, h2, h3, h4⟩ := look d hm
          obtain ⟨rfl, g1⟩ := c.clsF (f := .glo x) qa (by simp)
          obtain ⟨_, g2⟩ := c.clsF (f := .mkr x) qa (by simp)
          rw [ha] at h1 h2
          exact ⟨_, fd, _, k, He.glo_ok X G g1, He.mkr_ok g2, h1, h3, h4⟩
    · have e0 : (match D.adr K x with
        | some C => (fnd x (some m) ds).map fun d => (C, spF K (D.adr K) (D.exc K) d.f)
        | none => none) = some (C, sp) := e
      cases qa : D.adr K x with
      | none => rw [qa] at e0; cases e0
      | some C0 =>
        rw [qa] at e0
        cases q : fnd x (some m) ds with
        | none => rw [q] at e0; cases e0
        | some d =>
          rw [q] at e0; cases e0
          obtain ⟨hm, ha⟩ := fnd_mem q
          obtain ⟨fd, k, h1, h2, h3, h4⟩ := look d hm
          obtain ⟨rfl, g1⟩ := c.clsF (f := .cls x) qa (by simp)
          exact ⟨_, fd, _, k, He.cls_ok g1, c.meth (hall d hm) ha, h1, h3, by omega⟩
    · obtain ⟨rfl, g1⟩ := c.excF (f := .glo x) e (by simp)
      obtain ⟨_, g2⟩ := c.excF (f := .exc x) e (by simp)
      obtain ⟨a, b, d, f⟩ := He.exc_ok g2
      exact ⟨He.glo_ok X G g1, a, b, d, f⟩
theorem looks (c : D.Has all K) (X : K.In h) (G : h.Ns mainGlobals mg) : ∀ ds : List Df, (∀ d ∈ ds, d ∈ all) → (∀ d ∈ ds, d.Ok) → wfAll D K ds → ∀ d ∈ ds, Look P w K mg base D (2 * ds.length) d
  | [], _, _, _, d, hd => by cases hd
  | e :: r, ha, ho, ⟨hw, hr⟩, d, hd => by
    have ih := looks c X G r (fun d hd => ha d (List.mem_cons_of_mem _ hd)) (fun d hd => ho d (List.mem_cons_of_mem _ hd)) hr
    rcases List.mem_cons.mp hd with rfl | hd
    · obtain ⟨fd, h1, h2, h3⟩ := dfSound c (ha d (List.mem_cons_self ..)) (ho d (List.mem_cons_self ..)) hw (tabOf c X G (2 * r.length) r (fun d hd => ha d (List.mem_cons_of_mem _ hd)) ih)
      exact ⟨fd, _, h1, h2, h3, by simp only [List.length_cons]; omega⟩
    · obtain ⟨fd, k, h1, h2, h3, h4⟩ := ih d hd
      exact ⟨fd, k, h1, h2, h3, by simp only [List.length_cons]; omega⟩
theorem tabs (c : D.Has all K) (X : K.In h) (G : h.Ns mainGlobals mg) (ds : List Df) (ha : ∀ d ∈ ds, d ∈ all) (ho : ∀ d ∈ ds, d.Ok) (hw : wfAll D K ds) : TabL P w K mg base (2 * ds.length) (D.tab K ds) :=
  tabOf c X G _ ds ha (looks c X G ds ha ho hw)
/-! ### the law's def -/
/-- the law's promise -/
def spLw (K : PySem.W.Frag) (adr exs : Str → Option Addr) (f : Fn) : Sp := fun vs H Q _ => spF K adr exs f vs H Q fun _ _ _ => False
theorem law_sound {n : Nat} {T : Tab} {x qual : Str} {st : Stmt} {f : Addr} {fd : FuncData} {N ps : List Str} {code : List CS} {fn : Fn}
    (F : Fun K x qual st f fd) (S : FnScope N ps (defScope st)) (hc : chkF N ps code st = true) (tab : TabL P w K mg base n T) (len : ∀ vs H Q E, spF K T.adr T.exc fn vs H Q E → vs.length = ps.length) (h : Keeps K T N code (spF K T.adr T.exc fn)) :
    FnOk P w K mg base CX0 (n + 1) f fd ps (spLw K T.adr T.exc fn) := by
  refine F.ok S (fun vs H Q E z => len vs H Q _ z) (fun cdv A outer s H vs Q E hr hsp => ?_)
  refine ⟨_, sndB T code (cxOf CX0 P w K mg base N qual (defScope st) f cdv A outer s H E).nox W0 (defScope st) (defBody st) ?_ ⟨PassesOwn.never, rfl, rfl⟩ hc, h vs H Q (fun _ _ _ => False) hsp⟩
  exact ⟨tab.ok hr, ⟨fun _ h => h, fun _ h => ⟨h, rfl⟩, fun _ h => .inl h, fun _ h => h⟩, S.nd, rfl, takes0, hr.mono (Nat.zero_le _)⟩
/-- the law's promise is kept, if its meaning says True -/
theorem spLw_of {fn : Fn} {adr exs : Str → Option Addr} {H : Hp} {a : Addr} {ns : List Int} (hS : SqL K H a (ns.map V.int)) (h : ∃ os, fn [.scr ns] = .ok (.bl true) os) : spLw K adr exs fn [.ref a] H (fun v _ => v = .bl true) fun _ _ _ => False := by
  obtain ⟨os, e⟩ := h
  refine ⟨[.scr ns], H, fun _ => none, rfl, ⟨[], ?_, List.nodup_nil, ?_, fun _ _ z => z, (by intro a o z; cases z), (by intro b _; rfl)⟩, ?_⟩
  · exact OkL.cons (a := []) (b := []) ⟨_, rfl, rfl, a, rfl, hS⟩ .nil
  · funext b; unfold delO; simp
  · rw [e]
    intro v H' F' _ g
    obtain ⟨F2, g2, _⟩ := g.dropL
    obtain ⟨v', ads, e1, e2⟩ := g2.own'
    cases e1
    exact e2.1
end
/-- the end: what a law's text has to bring -/
theorem law_any {l : PySem.W.OpenLaw} {D : Txt} {ds : List Df} {law : Df} {w : World} {mg : Str → Option Value} {h : Heap} {K : PySem.W.Frag} {fa : Addr}
    (X : K.In h) (G : h.Ns mainGlobals mg) (c : D.Has (law :: ds) K) (hat : law.at_ = (("law" : Str), (none : Option Str))) (hmg : mg "law" = some (.ref fa)) {x : Str} (hps : law.ps = [x])
    (ho : ∀ d ∈ law :: ds, d.Ok) (hw : wfAll D K (law :: ds)) (n : Nat) (ht : ∀ ns : List Int, ns.length ≤ n → ∃ os, law.f [.scr ns] = .ok (.bl true) os) :
    ∃ (fd : FuncData) (sp : Sp), (∀ (s : Shared) (u : Value), BindsTo s fd ⟨[u], []⟩ [(x, u)]) ∧
      (∀ (H : Hp) (a : Addr) (ns : List Int), ns.length ≤ n → Only H → SqL K H a (ns.map V.int) → sp [.ref a] H (fun v _ => v = .bl true) fun _ _ _ => False) ∧
      ∀ base : Heap, K.In base → base.Ns mainGlobals mg → FnOk l.prog w K mg base CX0 (2 * ds.length + 1) fa fd [x] sp := by
  obtain ⟨fd, F⟩ := c.fn law (List.mem_cons_self ..)
  have e := hmg.symm.trans (c.fnG X G (List.mem_cons_self ..) hat)
  cases e
  have o := ho law (List.mem_cons_self ..)
  have b := FunD.bindsA (ps := law.ps) F o.bind
  refine ⟨fd, spLw K (D.adr K) (D.exc K) law.f, fun s u => ?_, fun H a ns hn _ hS => spLw_of hS (ht ns hn), fun base _ _ => ?_⟩
  · have := b s [u] (by rw [hps]; rfl)
    rw [hps] at this
    exact this
  · have k := keeps (np := law.ps.length) (N := law.N) (c.kt ds) hw.1 o.len
    rw [← hps, o.eq]
    exact law_sound (fun_of F) o.sc o.chk (tabs c X G ds (fun d hd => List.mem_cons_of_mem _ hd) (fun d hd => ho d (List.mem_cons_of_mem _ hd)) hw.2) (fun _ _ _ _ z => len_spF z) k
theorem con_tup {K : PySem.W.Frag} {adr : Str → Option Addr} {F H : Hp} {a : Addr} {l : List Str} (h : SqT K F a (l.map V.str)) : rep K adr F H (.tup (l.map .str)) (.ref a) [] :=
  ⟨a, _, rfl, h, by
    clear h
    induction l with
    | nil => rfl
    | cons x r ih => exact ⟨[], [], rfl, ⟨rfl, rfl⟩, ih⟩⟩
theorem memD {D : Txt} {K : PySem.W.Frag} {r : List Df} {f : Str} (h : D.fl.contains f = true) : f ∈ (D.tab K r).flds := by simpa [Txt.tab] using h
end Rk

set_option Elab.async false
set_option linter.all false
set_option maxRecDepth 100000
set_option maxHeartbeats 1000000
namespace Rk
open PySem PySem.Spec PyProof.Rows L2
/-! ### rules for reckoning by simp -/
@[simp] theorem ofString_inj {a b : String} : (Str.ofString a = Str.ofString b) = (a = b) := by
  refine propext ⟨fun h => ?_, fun h => by rw [h]⟩
  rw [Str.ofString_eq_toList, Str.ofString_eq_toList] at h
  have h1 : a.toList.map Char.toNat = b.toList.map Char.toNat := by
    have := congrArg Str.cps h
    simpa using this
  have inj : ∀ c d : Char, c.toNat = d.toNat → c = d := fun c d e => by
    have e2 : c.val.toNat = d.val.toNat := e
    exact Char.ext (UInt32.toNat_inj.mp e2)
  have h2 : ∀ l m : List Char, l.map Char.toNat = m.map Char.toNat → l = m := by
    intro l
    induction l with
    | nil => intro m h; cases m with
      | nil => rfl
      | cons _ _ => simp at h
    | cons c l ih => intro m h; cases m with
      | nil => simp at h
      | cons d m => simp only [List.map_cons, List.cons.injEq] at h; rw [inj c d h.1, ih m h.2]
  exact String.toList_inj.mp (h2 _ _ h1)
@[simp] theorem lim_eq : lim = 1000000 := (rfl)
@[simp] theorem ok_ite {α : Type} {x y : α} {e : Slots} {P : Prop} [Decidable P] : (Res.ok (if P then x else y) e) = if P then Res.ok x e else Res.ok y e := by split <;> rfl
theorem strOk_lit {s : String} (h : s.toList.all (fun c => decide (c.toNat < 1114112)) = true) : PyData.strOk (Str.ofString s) = true := by
  rw [Str.ofString_eq_toList]
  unfold PyData.strOk
  simp only [List.all_toArray', List.all_map]
  exact h
/-- the items of enumerate -/
def enumF {α : Type} : Int → List α → List (α × Int)
  | _, [] => []
  | k, x :: l => (x, k) :: enumF (k + 1) l
section
variable {e : Slots} {i j n np : Nat} {x y z v : PV} {xs ys : List PV} {c a b d : CE} {cs es : List CE} {k : PV → Slots → Res PV}
@[simp] theorem slot_0 {x : Option PV} : slot (x :: e) 0 = x := by simp [slot]
@[simp] theorem slot_s {x : Option PV} : slot (x :: e) (n + 1) = slot e n := by simp [slot]
variable {m : Int} {s s2 : Str} {t : Bool} {bb : Blt} {bm1 : Bm} {ss : String} {f : Fn} {tg kl : List Nat} {kk : IK}
@[simp] theorem pu_var  : pu (.var i) = true := (rfl)
@[simp] theorem pu_int  : pu (.int m) = true := (rfl)
@[simp] theorem pu_str  : pu (.str s) = true := (rfl)
@[simp] theorem pu_non  : pu (.non) = true := (rfl)
@[simp] theorem pu_bl  : pu (.bl t) = true := (rfl)
@[simp] theorem pu_con  : pu (.con s x) = true := (rfl)
@[simp] theorem pu_bin {op : Operator} : pu (.bin op a b) = (pu a && pu b) := (rfl)
@[simp] theorem pu_neg  : pu (.neg a) = pu a := (rfl)
@[simp] theorem pu_cmp {op : CmpOp} : pu (.cmp op a b) = (pu a && pu b) := (rfl)
@[simp] theorem pu_chn {op : CmpOp} {op2 : CmpOp} : pu (.chn op op2 a b c) = (pu a && pu b && pu c) := (rfl)
@[simp] theorem pu_and  : pu (.and cs) = pus cs := (rfl)
@[simp] theorem pu_or  : pu (.or cs) = pus cs := (rfl)
@[simp] theorem pu_not  : pu (.not a) = pu a := (rfl)
@[simp] theorem pu_ix  : pu (.ix a b) = (pu a && pu b) := (rfl)
@[simp] theorem pu_dix  : pu (.dix a b) = (pu a && pu b) := (rfl)
@[simp] theorem pu_din  : pu (.din t a b) = (pu a && pu b) := (rfl)
@[simp] theorem pu_fld  : pu (.fld a s) = pu a := (rfl)
@[simp] theorem pu_blt  : pu (.blt bb cs) = (bltPu bb && pus cs) := (rfl)
@[simp] theorem pu_isi  : pu (.isi a ss) = pu a := (rfl)
@[simp] theorem pu_dget1  : pu (.dget1 a b) = (pu a && pu b) := (rfl)
@[simp] theorem pu_dget2  : pu (.dget2 a b c) = (pu a && pu b && pu c) := (rfl)
@[simp] theorem pu_mov  : pu (.mov i) = false := (rfl)
@[simp] theorem pu_frz  : pu (.frz n a) = false := (rfl)
@[simp] theorem pu_nop  : pu (.nop) = false := (rfl)
@[simp] theorem pu_cat {op : Operator} : pu (.cat op a b) = false := (rfl)
@[simp] theorem pu_tup  : pu (.tup cs) = false := (rfl)
@[simp] theorem pu_lst  : pu (.lst cs) = false := (rfl)
@[simp] theorem pu_dct  : pu (.dct t) = false := (rfl)
@[simp] theorem pu_sl  : pu (.sl a b c) = false := (rfl)
@[simp] theorem pu_call  : pu (.call s f cs) = false := (rfl)
@[simp] theorem pu_make  : pu (.make s f cs) = false := (rfl)
@[simp] theorem pu_callP  : pu (.callP n s f cs) = false := (rfl)
@[simp] theorem pu_makeP  : pu (.makeP n s f cs) = false := (rfl)
@[simp] theorem pu_meth  : pu (.meth s a s2 f cs) = false := (rfl)
@[simp] theorem pu_bm  : pu (.bm bm1 a cs) = false := by simp [pu, bmPu]
@[simp] theorem pu_dpop1  : pu (.dpop1 a b) = false := (rfl)
@[simp] theorem pu_lrg  : pu (.lrg a) = false := (rfl)
@[simp] theorem pu_lrv  : pu (.lrv a) = false := (rfl)
@[simp] theorem pu_lc  : pu (.lc a tg kk cs es) = false := (rfl)
@[simp] theorem pus_nil : pus [] = true := (rfl)
@[simp] theorem pus_cons : pus (c :: cs) = (pu c && pus cs) := (rfl)
@[simp] theorem bltPu_len : bltPu .len = true := (rfl)
@[simp] theorem bltPu_lstOf : bltPu .lstOf = false := (rfl)
@[simp] theorem bltPu_tupOf : bltPu .tupOf = false := (rfl)
@[simp] theorem bltPu_intOf : bltPu .intOf = true := (rfl)
@[simp] theorem bltPu_strI : bltPu .strI = true := (rfl)
@[simp] theorem bltPu_sum : bltPu .sum = true := (rfl)
@[simp] theorem bltPu_max2 : bltPu .max2 = true := (rfl)
@[simp] theorem bltPu_min2 : bltPu .min2 = true := (rfl)
@[simp] theorem bltPu_all : bltPu .all = true := (rfl)
@[simp] theorem bltPu_any : bltPu .any = true := (rfl)
@[simp] theorem bltPu_sortI : bltPu .sortI = false := (rfl)
@[simp] theorem bltPu_sortD : bltPu .sortD = false := (rfl)
@[simp] theorem tOk_var  : tOk (.var i) = true := (rfl)
@[simp] theorem tOk_int  : tOk (.int m) = true := (rfl)
@[simp] theorem tOk_str  : tOk (.str s) = true := (rfl)
@[simp] theorem tOk_non  : tOk (.non) = true := (rfl)
@[simp] theorem tOk_bl  : tOk (.bl t) = true := (rfl)
@[simp] theorem tOk_con  : tOk (.con s x) = true := (rfl)
@[simp] theorem tOk_bin {op : Operator} : tOk (.bin op a b) = true := (rfl)
@[simp] theorem tOk_neg  : tOk (.neg a) = false := (rfl)
@[simp] theorem tOk_cmp {op : CmpOp} : tOk (.cmp op a b) = true := (rfl)
@[simp] theorem tOk_chn {op : CmpOp} {op2 : CmpOp} : tOk (.chn op op2 a b c) = true := (rfl)
@[simp] theorem tOk_and  : tOk (.and cs) = tOks cs := (rfl)
@[simp] theorem tOk_or  : tOk (.or cs) = tOks cs := (rfl)
@[simp] theorem tOk_not  : tOk (.not a) = tOk a := (rfl)
@[simp] theorem tOk_ix  : tOk (.ix a b) = true := (rfl)
@[simp] theorem tOk_dix  : tOk (.dix a b) = true := (rfl)
@[simp] theorem tOk_din  : tOk (.din t a b) = true := (rfl)
@[simp] theorem tOk_fld  : tOk (.fld a s) = true := (rfl)
@[simp] theorem tOk_blt  : tOk (.blt bb cs) = true := (rfl)
@[simp] theorem tOk_isi  : tOk (.isi a ss) = true := (rfl)
@[simp] theorem tOk_dget1  : tOk (.dget1 a b) = true := (rfl)
@[simp] theorem tOk_dget2  : tOk (.dget2 a b c) = true := (rfl)
@[simp] theorem tOk_mov  : tOk (.mov i) = true := (rfl)
@[simp] theorem tOk_frz  : tOk (.frz n a) = false := (rfl)
@[simp] theorem tOk_nop  : tOk (.nop) = false := (rfl)
@[simp] theorem tOk_cat {op : Operator} : tOk (.cat op a b) = true := (rfl)
@[simp] theorem tOk_tup  : tOk (.tup cs) = true := (rfl)
@[simp] theorem tOk_lst  : tOk (.lst cs) = true := (rfl)
@[simp] theorem tOk_dct  : tOk (.dct t) = false := (rfl)
@[simp] theorem tOk_sl  : tOk (.sl a b c) = true := (rfl)
@[simp] theorem tOk_call  : tOk (.call s f cs) = true := (rfl)
@[simp] theorem tOk_make  : tOk (.make s f cs) = false := (rfl)
@[simp] theorem tOk_callP  : tOk (.callP n s f cs) = true := (rfl)
@[simp] theorem tOk_makeP  : tOk (.makeP n s f cs) = false := (rfl)
@[simp] theorem tOk_meth  : tOk (.meth s a s2 f cs) = true := (rfl)
@[simp] theorem tOk_bm  : tOk (.bm bm1 a cs) = true := (rfl)
@[simp] theorem tOk_dpop1  : tOk (.dpop1 a b) = true := (rfl)
@[simp] theorem tOk_lrg  : tOk (.lrg a) = true := (rfl)
@[simp] theorem tOk_lrv  : tOk (.lrv a) = true := (rfl)
@[simp] theorem tOk_lc  : tOk (.lc a tg kk cs es) = true := (rfl)
@[simp] theorem tOks_nil : tOks [] = true := (rfl)
@[simp] theorem tOks_cons : tOks (c :: cs) = (tOk c && tOks cs) := (rfl)
def isVarC : CE → Bool
  | .var _ => true
  | _ => false
@[simp] theorem isVarC_var  : isVarC (.var i) = true := (rfl)
@[simp] theorem isVarC_int  : isVarC (.int m) = false := (rfl)
@[simp] theorem isVarC_str  : isVarC (.str s) = false := (rfl)
@[simp] theorem isVarC_non  : isVarC (.non) = false := (rfl)
@[simp] theorem isVarC_bl  : isVarC (.bl t) = false := (rfl)
@[simp] theorem isVarC_con  : isVarC (.con s x) = false := (rfl)
@[simp] theorem isVarC_bin {op : Operator} : isVarC (.bin op a b) = false := (rfl)
@[simp] theorem isVarC_neg  : isVarC (.neg a) = false := (rfl)
@[simp] theorem isVarC_cmp {op : CmpOp} : isVarC (.cmp op a b) = false := (rfl)
@[simp] theorem isVarC_chn {op : CmpOp} {op2 : CmpOp} : isVarC (.chn op op2 a b c) = false := (rfl)
@[simp] theorem isVarC_and  : isVarC (.and cs) = false := (rfl)
@[simp] theorem isVarC_or  : isVarC (.or cs) = false := (rfl)
@[simp] theorem isVarC_not  : isVarC (.not a) = false := (rfl)
@[simp] theorem isVarC_ix  : isVarC (.ix a b) = false := (rfl)
@[simp] theorem isVarC_dix  : isVarC (.dix a b) = false := (rfl)
@[simp] theorem isVarC_din  : isVarC (.din t a b) = false := (rfl)
@[simp] theorem isVarC_fld  : isVarC (.fld a s) = false := (rfl)
@[simp] theorem isVarC_blt  : isVarC (.blt bb cs) = false := (rfl)
@[simp] theorem isVarC_isi  : isVarC (.isi a ss) = false := (rfl)
@[simp] theorem isVarC_dget1  : isVarC (.dget1 a b) = false := (rfl)
@[simp] theorem isVarC_dget2  : isVarC (.dget2 a b c) = false := (rfl)
@[simp] theorem isVarC_mov  : isVarC (.mov i) = false := (rfl)
@[simp] theorem isVarC_frz  : isVarC (.frz n a) = false := (rfl)
@[simp] theorem isVarC_nop  : isVarC (.nop) = false := (rfl)
@[simp] theorem isVarC_cat {op : Operator} : isVarC (.cat op a b) = false := (rfl)
@[simp] theorem isVarC_tup  : isVarC (.tup cs) = false := (rfl)
@[simp] theorem isVarC_lst  : isVarC (.lst cs) = false := (rfl)
@[simp] theorem isVarC_dct  : isVarC (.dct t) = false := (rfl)
@[simp] theorem isVarC_sl  : isVarC (.sl a b c) = false := (rfl)
@[simp] theorem isVarC_call  : isVarC (.call s f cs) = false := (rfl)
@[simp] theorem isVarC_make  : isVarC (.make s f cs) = false := (rfl)
@[simp] theorem isVarC_callP  : isVarC (.callP n s f cs) = false := (rfl)
@[simp] theorem isVarC_makeP  : isVarC (.makeP n s f cs) = false := (rfl)
@[simp] theorem isVarC_meth  : isVarC (.meth s a s2 f cs) = false := (rfl)
@[simp] theorem isVarC_bm  : isVarC (.bm bm1 a cs) = false := (rfl)
@[simp] theorem isVarC_dpop1  : isVarC (.dpop1 a b) = false := (rfl)
@[simp] theorem isVarC_lrg  : isVarC (.lrg a) = false := (rfl)
@[simp] theorem isVarC_lrv  : isVarC (.lrv a) = false := (rfl)
@[simp] theorem isVarC_lc  : isVarC (.lc a tg kk cs es) = false := (rfl)
/-! pure -/
@[simp] theorem evQ_var : evQ e (.var i) = slot e i := (rfl)
@[simp] theorem evQ_int : evQ e (.int m) = some (.int m) := (rfl)
@[simp] theorem evQ_str : evQ e (.str s) = some (.str s) := (rfl)
@[simp] theorem evQ_non : evQ e .non = some .non := (rfl)
@[simp] theorem evQ_bl : evQ e (.bl t) = some (.bl t) := (rfl)
@[simp] theorem evQ_con : evQ e (.con s v) = some v := (rfl)
@[simp] theorem evQ_bin {op : Operator} : evQ e (.bin op a b) = (evQ e a).bind fun x => (evQ e b).bind fun y => binQ op x y := (rfl)
@[simp] theorem evQ_neg : evQ e (.neg a) = (evQ e a).bind negQ := (rfl)
@[simp] theorem evQ_cmp {op : CmpOp} : evQ e (.cmp op a b) = (evQ e a).bind fun x => (evQ e b).bind fun y => (cmpQ op x y).map .bl := (rfl)
def chnA (t : Option Bool) (u : Option Bool) : Option PV := t.bind fun t => if t = true then u.map .bl else some (.bl false)
@[simp] theorem chnA_s {t u : Bool} : chnA (some t) (some u) = some (.bl (t && u)) := by cases t <;> rfl
@[simp] theorem evQ_chn {op op2 : CmpOp} : evQ e (.chn op op2 a b c) = (evQ e a).bind fun x => (evQ e b).bind fun y => chnA (cmpQ op x y) ((evQ e c).bind fun z => cmpQ op2 y z) := by
  show ((evQ e a).bind fun x => (evQ e b).bind fun y => (cmpQ op x y).bind fun t => if t = true then (evQ e c).bind fun z => (cmpQ op2 y z).map PV.bl else some (PV.bl false)) = _
  refine congrArg _ (funext fun x => congrArg _ (funext fun y => ?_))
  unfold chnA
  refine congrArg _ (funext fun t => ?_)
  cases evQ e c <;> rfl
@[simp] theorem evQ_and : evQ e (.and cs) = evAnd e cs := (rfl)
@[simp] theorem evQ_or : evQ e (.or cs) = evOr e cs := (rfl)
@[simp] theorem evAnd_1 : evAnd e [c] = ((evQ e c).bind boolQ).map .bl := (rfl)
@[simp] theorem evAnd_2 : evAnd e (c :: d :: cs) = andO (evQ e c) (evAnd e (d :: cs)) := (rfl)
@[simp] theorem evOr_1 : evOr e [c] = ((evQ e c).bind boolQ).map .bl := (rfl)
@[simp] theorem evOr_2 : evOr e (c :: d :: cs) = orO (evQ e c) (evOr e (d :: cs)) := (rfl)
@[simp] theorem andO_ss {t u : Bool} : andO (some (.bl t)) (some (.bl u)) = some (.bl (t && u)) := by cases t <;> rfl
@[simp] theorem andO_t {o : Option PV} : andO (some (.bl true)) o = o := (rfl)
@[simp] theorem andO_f {o : Option PV} : andO (some (.bl false)) o = some (.bl false) := (rfl)
@[simp] theorem orO_ss {t u : Bool} : orO (some (.bl t)) (some (.bl u)) = some (.bl (t || u)) := by cases t <;> rfl
@[simp] theorem orO_t {o : Option PV} : orO (some (.bl true)) o = some (.bl true) := (rfl)
@[simp] theorem orO_f {o : Option PV} : orO (some (.bl false)) o = o := (rfl)
@[simp] theorem evQ_not : evQ e (.not a) = (evQ e a).bind notQ := (rfl)
@[simp] theorem evQ_ix : evQ e (.ix a b) = (evQ e a).bind fun x => (evQ e b).bind fun y => ixQ x y := (rfl)
@[simp] theorem evQ_dix : evQ e (.dix a b) = (evQ e a).bind fun x => (evQ e b).bind fun y => dixQ x y := (rfl)
@[simp] theorem evQ_dinT : evQ e (.din true a b) = (evQ e a).bind fun x => (evQ e b).bind fun y => (dinQ y x).map fun t => .bl (!t) := (rfl)
@[simp] theorem evQ_dinF : evQ e (.din false a b) = (evQ e a).bind fun x => (evQ e b).bind fun y => (dinQ y x).map .bl := (rfl)
@[simp] theorem evQ_fld : evQ e (.fld a s) = (evQ e a).bind fun x => fldQ x s := (rfl)
@[simp] theorem evQ_blt (h : bltPu bb = true) : evQ e (.blt bb cs) = (evQs e cs).bind (bltQ bb) := by
  show (if bltPu bb = true then _ else _) = _
  rw [if_pos h]
@[simp] theorem evQ_isi : evQ e (.isi a ss) = (evQ e a).bind fun x => (isiQ ss x).map .bl := (rfl)
@[simp] theorem evQ_dget1 : evQ e (.dget1 a b) = (evQ e a).bind fun x => (evQ e b).bind fun y => dgetQ x y .non := (rfl)
@[simp] theorem evQ_dget2 : evQ e (.dget2 a b c) = (evQ e a).bind fun x => (evQ e b).bind fun y => (evQ e c).bind fun u => dgetQ x y u := (rfl)
@[simp] theorem evQs_nil : evQs e [] = some [] := (rfl)
@[simp] theorem evQs_cons : evQs e (c :: cs) = (evQ e c).bind fun x => (evQs e cs).bind fun xs => some (x :: xs) := (rfl)
/-! operators -/
@[simp] theorem boolQ_bl : boolQ (.bl t) = some t := (rfl)
@[simp] theorem notQ_bl : notQ (.bl t) = some (.bl (!t)) := (rfl)
@[simp] theorem negQ_int : negQ (.int m) = some (.int (-m)) := (rfl)
variable {p q : Int}
@[simp] theorem binQ_add : binQ .Add (.int p) (.int q) = some (.int (p + q)) := (rfl)
@[simp] theorem binQ_sub : binQ .Sub (.int p) (.int q) = some (.int (p - q)) := (rfl)
@[simp] theorem binQ_mulr (h1 : -18446744073709551616 < q) (h2 : q < 18446744073709551616) : binQ .Mult (.int p) (.int q) = some (.int (p * q)) := by
  show (if CMul p q then _ else _) = _
  rw [if_pos (.inr ⟨h1, h2⟩)]
@[simp] theorem binQ_mull (h1 : -18446744073709551616 < p) (h2 : p < 18446744073709551616) : binQ .Mult (.int p) (.int q) = some (.int (p * q)) := by
  show (if CMul p q then _ else _) = _
  rw [if_pos (.inl ⟨h1, h2⟩)]
@[simp] theorem binQ_div (h1 : q ≠ 0) (h2 : q.natAbs < 1073741824) : binQ .FloorDiv (.int p) (.int q) = some (.int (p.fdiv q)) := by
  show (if CDivN p q then _ else _) = _
  rw [if_pos ⟨h1, h2⟩]
@[simp] theorem binQ_mod (h1 : q ≠ 0) : binQ .Mod (.int p) (.int q) = some (.int (p.fmod q)) := by
  show (if q ≠ 0 then _ else _) = _
  rw [if_pos h1]
theorem binQ_pow (h : CPow p q) : binQ .Pow (.int p) (.int q) = some (.int (p ^ q.toNat)) := by
  show (if CPow p q then _ else _) = _
  rw [if_pos h]
@[simp] theorem eqQ_ok' (h1 : okD 64 x = true) (h2 : okD 64 y = true) : eqQ x y = some (pvEq x y) := by
  unfold eqQ; rw [if_pos ⟨h1, h2⟩]
@[simp] theorem cmpQ_eq : cmpQ .Eq x y = eqQ x y := (rfl)
@[simp] theorem cmpQ_ne : cmpQ .NotEq x y = (eqQ x y).map (!·) := (rfl)
@[simp] theorem cmpQ_lt : cmpQ .Lt (.int p) (.int q) = some (decide (p < q)) := (rfl)
@[simp] theorem cmpQ_le : cmpQ .LtE (.int p) (.int q) = some (decide (p ≤ q)) := (rfl)
@[simp] theorem cmpQ_gt : cmpQ .Gt (.int p) (.int q) = some (decide (q < p)) := (rfl)
@[simp] theorem cmpQ_ge : cmpQ .GtE (.int p) (.int q) = some (decide (q ≤ p)) := (rfl)
@[simp] theorem cmpQ_is : cmpQ .Is x .non = isNonQ x := by cases x <;> rfl
@[simp] theorem cmpQ_isb {t2 : Bool} : cmpQ .Is (.bl t) (.bl t2) = some (decide (t = t2)) := (rfl)
@[simp] theorem cmpQ_isnotb {t2 : Bool} : cmpQ .IsNot (.bl t) (.bl t2) = some (!decide (t = t2)) := (rfl)
@[simp] theorem cmpQ_isnot : cmpQ .IsNot x .non = (isNonQ x).map (!·) := by cases x <;> rfl
@[simp] theorem cmpQ_in : cmpQ .In x y = inQ x y := by cases x <;> cases y <;> rfl
@[simp] theorem cmpQ_notin : cmpQ .NotIn x y = (inQ x y).map (!·) := by cases x <;> cases y <;> rfl
variable {o o2 : Bool} {ks : List PV} {fs : List Str} {ns : List Int}
mutual
theorem pvEq_comm : ∀ x y : PV, pvEq x y = pvEq y x
  | .tup xs, .tup ys => pvEqs_comm xs ys
  | .lst _ xs, .lst _ ys => pvEqs_comm xs ys
  | .non, y => by cases y <;> rfl
  | .bl a, y => by cases y <;> first | rfl | exact Bool.beq_comm | (show ((if a = true then (1 : Int) else 0) == _) = (_ == (if a = true then (1 : Int) else 0)); exact BEq.comm)
  | .int i, y => by cases y <;> first | rfl | exact BEq.comm
  | .str s, y => by cases y <;> first | rfl | exact BEq.comm
  | .scr _, y => by cases y <;> rfl
  | .dic _ _ _, y => by cases y <;> rfl
  | .ins _ _ _ _, y => by cases y <;> rfl
  | .exn _, y => by cases y <;> rfl
  | .tup _, .non => rfl
  | .tup _, .bl _ => rfl
  | .tup _, .int _ => rfl
  | .tup _, .str _ => rfl
  | .tup _, .scr _ => rfl
  | .tup _, .lst _ _ => rfl
  | .tup _, .dic _ _ _ => rfl
  | .tup _, .ins _ _ _ _ => rfl
  | .tup _, .exn _ => rfl
  | .lst _ _, .non => rfl
  | .lst _ _, .bl _ => rfl
  | .lst _ _, .int _ => rfl
  | .lst _ _, .str _ => rfl
  | .lst _ _, .scr _ => rfl
  | .lst _ _, .tup _ => rfl
  | .lst _ _, .dic _ _ _ => rfl
  | .lst _ _, .ins _ _ _ _ => rfl
  | .lst _ _, .exn _ => rfl
theorem pvEqs_comm : ∀ xs ys : List PV, pvEqs xs ys = pvEqs ys xs
  | [], [] => rfl
  | [], _ :: _ => rfl
  | _ :: _, [] => rfl
  | x :: xs, y :: ys => by show (pvEq x y && pvEqs xs ys) = (pvEq y x && pvEqs ys xs); rw [pvEq_comm x y, pvEqs_comm xs ys]
end
@[simp] theorem inQ_lst (h1 : okD 64 x = true) (h2 : okDs 63 ys = true) : inQ x (.lst o ys) = some (ys.any fun y => pvEq x y) := by
  show (if _ then _ else _) = _
  rw [if_pos ⟨h1, h2⟩]
  simp only [pvEq_comm x]
@[simp] theorem inQ_tup (h1 : flatP x = true) (h2 : ys.all flatP = true) : inQ x (.tup ys) = some (ys.any fun y => pvEq x y) := by
  show (if _ then _ else _) = _
  rw [if_pos ⟨h1, h2⟩]
  simp only [pvEq_comm x]
@[simp] theorem isNonQ_non : isNonQ (.non) = some true := (rfl)
@[simp] theorem isNonQ_bl : isNonQ (.bl t) = some false := (rfl)
@[simp] theorem isNonQ_int : isNonQ (.int p) = some false := (rfl)
@[simp] theorem isNonQ_str : isNonQ (.str s) = some false := (rfl)
@[simp] theorem isNonQ_scr : isNonQ (.scr ns) = some false := (rfl)
@[simp] theorem isNonQ_tup : isNonQ (.tup xs) = some false := (rfl)
@[simp] theorem isNonQ_lst : isNonQ (.lst o xs) = some false := (rfl)
@[simp] theorem isNonQ_dic : isNonQ (.dic o ks xs) = some false := (rfl)
@[simp] theorem isNonQ_ins : isNonQ (.ins o s fs xs) = some false := (rfl)
@[simp] theorem flatP_non : flatP (.non) = true := (rfl)
@[simp] theorem flatP_bl : flatP (.bl t) = true := (rfl)
@[simp] theorem flatP_int : flatP (.int p) = true := (rfl)
@[simp] theorem flatP_str : flatP (.str s) = true := (rfl)
@[simp] theorem flatP_scr : flatP (.scr ns) = false := (rfl)
@[simp] theorem flatP_tup : flatP (.tup xs) = false := (rfl)
@[simp] theorem flatP_lst : flatP (.lst o xs) = false := (rfl)
@[simp] theorem flatP_dic : flatP (.dic o ks xs) = false := (rfl)
@[simp] theorem flatP_ins : flatP (.ins o s fs xs) = false := (rfl)
variable {u : Bool}
@[simp] theorem pvEq_non_non : pvEq (.non) (.non) = true := (rfl)
@[simp] theorem pvEq_non_bl : pvEq (.non) (.bl u) = false := (rfl)
@[simp] theorem pvEq_non_int : pvEq (.non) (.int q) = false := (rfl)
@[simp] theorem pvEq_non_str : pvEq (.non) (.str s2) = false := (rfl)
@[simp] theorem pvEq_non_tup : pvEq (.non) (.tup ys) = false := (rfl)
@[simp] theorem pvEq_non_lst : pvEq (.non) (.lst o2 ys) = false := (rfl)
@[simp] theorem pvEq_bl_non : pvEq (.bl t) (.non) = false := (rfl)
@[simp] theorem pvEq_bl_bl : pvEq (.bl t) (.bl u) = (t == u) := (rfl)
@[simp] theorem pvEq_bl_int : pvEq (.bl t) (.int q) = ((if t then (1 : Int) else 0) == q) := (rfl)
@[simp] theorem pvEq_bl_str : pvEq (.bl t) (.str s2) = false := (rfl)
@[simp] theorem pvEq_bl_tup : pvEq (.bl t) (.tup ys) = false := (rfl)
@[simp] theorem pvEq_bl_lst : pvEq (.bl t) (.lst o2 ys) = false := (rfl)
@[simp] theorem pvEq_int_non : pvEq (.int p) (.non) = false := (rfl)
@[simp] theorem pvEq_int_bl : pvEq (.int p) (.bl u) = (p == (if u then (1 : Int) else 0)) := (rfl)
@[simp] theorem pvEq_int_int : pvEq (.int p) (.int q) = decide (p = q) := by show (p == q) = _; simp [BEq.beq]
@[simp] theorem pvEq_int_str : pvEq (.int p) (.str s2) = false := (rfl)
@[simp] theorem pvEq_int_tup : pvEq (.int p) (.tup ys) = false := (rfl)
@[simp] theorem pvEq_int_lst : pvEq (.int p) (.lst o2 ys) = false := (rfl)
@[simp] theorem pvEq_str_non : pvEq (.str s) (.non) = false := (rfl)
@[simp] theorem pvEq_str_bl : pvEq (.str s) (.bl u) = false := (rfl)
@[simp] theorem pvEq_str_int : pvEq (.str s) (.int q) = false := (rfl)
@[simp] theorem pvEq_str_str : pvEq (.str s) (.str s2) = decide (s = s2) := by show (s == s2) = _; simp [BEq.beq]
@[simp] theorem pvEq_str_tup : pvEq (.str s) (.tup ys) = false := (rfl)
@[simp] theorem pvEq_str_lst : pvEq (.str s) (.lst o2 ys) = false := (rfl)
@[simp] theorem pvEq_tup_non : pvEq (.tup xs) (.non) = false := (rfl)
@[simp] theorem pvEq_tup_bl : pvEq (.tup xs) (.bl u) = false := (rfl)
@[simp] theorem pvEq_tup_int : pvEq (.tup xs) (.int q) = false := (rfl)
@[simp] theorem pvEq_tup_str : pvEq (.tup xs) (.str s2) = false := (rfl)
@[simp] theorem pvEq_tup_tup : pvEq (.tup xs) (.tup ys) = pvEqs xs ys := (rfl)
@[simp] theorem pvEq_tup_lst : pvEq (.tup xs) (.lst o2 ys) = false := (rfl)
@[simp] theorem pvEq_lst_non : pvEq (.lst o xs) (.non) = false := (rfl)
@[simp] theorem pvEq_lst_bl : pvEq (.lst o xs) (.bl u) = false := (rfl)
@[simp] theorem pvEq_lst_int : pvEq (.lst o xs) (.int q) = false := (rfl)
@[simp] theorem pvEq_lst_str : pvEq (.lst o xs) (.str s2) = false := (rfl)
@[simp] theorem pvEq_lst_tup : pvEq (.lst o xs) (.tup ys) = false := (rfl)
@[simp] theorem pvEq_lst_lst : pvEq (.lst o xs) (.lst o2 ys) = pvEqs xs ys := (rfl)
@[simp] theorem pvEqs_nn : pvEqs [] [] = true := (rfl)
@[simp] theorem pvEqs_nc : pvEqs [] (y :: ys) = false := (rfl)
@[simp] theorem pvEqs_cn : pvEqs (x :: xs) [] = false := (rfl)
@[simp] theorem pvEqs_cc : pvEqs (x :: xs) (y :: ys) = (pvEq x y && pvEqs xs ys) := (rfl)
@[simp] theorem okD_non : okD n .non = true := by cases n <;> rfl
@[simp] theorem okD_bl : okD n (.bl t) = true := by cases n <;> rfl
@[simp] theorem okD_int : okD n (.int p) = true := by cases n <;> rfl
@[simp] theorem okD_str : okD n (.str s) = PyData.strOk s := by cases n <;> rfl
@[simp] theorem okD_tup : okD (n + 1) (.tup xs) = okDs n xs := (rfl)
@[simp] theorem okD_lst : okD (n + 1) (.lst o xs) = okDs n xs := (rfl)
@[simp] theorem okDs_nil : okDs n [] = true := by cases n <;> rfl
@[simp] theorem okDs_cons : okDs n (x :: xs) = (okD n x && okDs n xs) := by cases n <;> rfl
theorem okDs_all : okDs n xs = xs.all (okD n) := by induction xs <;> simp [*]
@[simp] theorem okDs_map {α : Type} {g : α → PV} {l : List α} (h : ∀ x ∈ l, okD n (g x) = true) : okDs n (l.map g) = true := by
  rw [okDs_all, List.all_eq_true]
  intro y hy
  obtain ⟨x, hx, rfl⟩ := List.mem_map.mp hy
  exact h x hx
theorem okDs_app : okDs n (xs ++ ys) = (okDs n xs && okDs n ys) := by simp [okDs_all]
@[simp high] theorem inQ_ints {α : Type} {g : α → Int} {l : List α} : inQ (.int p) (.lst o (l.map fun x => .int (g x))) = some (decide (p ∈ l.map g)) := by
  rw [inQ_lst okD_int (okDs_map fun _ _ => okD_int), List.any_map]
  congr 1
  rw [Bool.eq_iff_iff]
  simp only [List.any_eq_true, Function.comp_def, pvEq_int_int, decide_eq_true_eq, List.mem_map]
  exact ⟨fun ⟨x, hx, h⟩ => ⟨x, hx, h.symm⟩, fun ⟨x, hx, h⟩ => ⟨x, hx, h.symm⟩⟩
@[simp high] theorem inQ_intsc {α : Type} {g : α → Int} {l : List α} {r : Int} : inQ (.int p) (.lst o (.int r :: l.map fun x => .int (g x))) = some (decide (p ∈ r :: l.map g)) := by
  have := inQ_ints (p := p) (o := o) (g := fun x : Int => x) (l := r :: l.map g)
  simp only [List.map_cons, List.map_map, List.map_id'] at this
  exact this
@[simp high] theorem inQ_ints' {l : List Int} : inQ (.int p) (.lst o (l.map .int)) = some (decide (p ∈ l)) := by
  have := inQ_ints (p := p) (o := o) (g := fun x : Int => x) (l := l)
  simpa using this
@[simp] theorem okDs_app' (h1 : okDs n xs = true) (h2 : okDs n ys = true) : okDs n (xs ++ ys) = true := by rw [okDs_app, h1, h2]; rfl
@[simp] theorem pvEqs_mapn {α : Type} {g : α → PV} {l : List α} : pvEqs (l.map g) [] = l.isEmpty := by cases l <;> rfl
@[simp] theorem pvEqs_nmap {α : Type} {g : α → PV} {l : List α} : pvEqs [] (l.map g) = l.isEmpty := by cases l <;> rfl
theorem pvEqs_map {α : Type} [DecidableEq α] {g : α → PV} {l m : List α} (h : ∀ x y, pvEq (g x) (g y) = decide (x = y)) : pvEqs (l.map g) (m.map g) = decide (l = m) := by
  induction l generalizing m with
  | nil => cases m <;> simp
  | cons x l ih => cases m with
    | nil => simp
    | cons y m => simp [h, ih]
/-! frozen -/
@[simp] theorem isF_non : isF (.non) = true := (rfl)
@[simp] theorem isF_bl : isF (.bl t) = true := (rfl)
@[simp] theorem isF_int : isF (.int p) = true := (rfl)
@[simp] theorem isF_str : isF (.str s) = true := (rfl)
@[simp] theorem isF_scr : isF (.scr ns) = true := (rfl)
@[simp] theorem isF_tup : isF (.tup xs) = isFs xs := (rfl)
@[simp] theorem isF_lst : isF (.lst o xs) = (!o && isFs xs) := (rfl)
@[simp] theorem isF_dic : isF (.dic o ks xs) = (!o && isFs xs) := (rfl)
@[simp] theorem isF_ins : isF (.ins o s fs xs) = (!o && isFs xs) := (rfl)
@[simp] theorem isFs_nil : isFs [] = true := (rfl)
@[simp] theorem isFs_cons : isFs (x :: xs) = (isF x && isFs xs) := (rfl)
theorem isFs_all : isFs xs = xs.all isF := by induction xs <;> simp [*]
@[simp] theorem isFs_map {α : Type} {g : α → PV} {l : List α} (h : ∀ x ∈ l, isF (g x) = true) : isFs (l.map g) = true := by
  rw [isFs_all, List.all_eq_true]
  intro y hy
  obtain ⟨x, hx, rfl⟩ := List.mem_map.mp hy
  exact h x hx
@[simp] theorem isFs_app : isFs (xs ++ ys) = (isFs xs && isFs ys) := by simp [isFs_all]
@[simp] theorem isFs_rep (h : isF x = true) : isFs (List.replicate n x) = true := by rw [isFs_all]; simp [h]
mutual
theorem frz_id : ∀ {n : Nat} {x : PV}, isF x = true → frz n x = x
  | n, .non, _ => by cases n <;> rfl
  | n, .bl _, _ => by cases n <;> rfl
  | n, .int _, _ => by cases n <;> rfl
  | n, .str _, _ => by cases n <;> rfl
  | n, .scr _, _ => by cases n <;> rfl
  | n, .exn _, _ => by cases n <;> rfl
  | n, .tup xs, h => by
    have : frz n (.tup xs) = .tup (frzs n xs) := by cases n <;> rfl
    rw [this, frzs_id (show isFs xs = true from h)]
  | 0, .lst o xs, h => by
    simp only [isF_lst, Bool.and_eq_true, Bool.not_eq_true'] at h
    show PV.lst false (frzs 0 xs) = _
    rw [frzs_id h.2, h.1]
  | n + 1, .lst o xs, h => by
    simp only [isF_lst, Bool.and_eq_true, Bool.not_eq_true'] at h
    show PV.lst o (frzs n xs) = _
    rw [frzs_id h.2]
  | 0, .dic o ks xs, h => by
    simp only [isF_dic, Bool.and_eq_true, Bool.not_eq_true'] at h
    show PV.dic false ks (frzs 0 xs) = _
    rw [frzs_id h.2, h.1]
  | n + 1, .dic o ks xs, h => by
    simp only [isF_dic, Bool.and_eq_true, Bool.not_eq_true'] at h
    show PV.dic o ks (frzs 0 xs) = _
    rw [frzs_id h.2]
  | 0, .ins o c fs xs, h => by
    simp only [isF_ins, Bool.and_eq_true, Bool.not_eq_true'] at h
    show PV.ins false c fs (frzs 0 xs) = _
    rw [frzs_id h.2, h.1]
  | n + 1, .ins o c fs xs, h => by
    simp only [isF_ins, Bool.and_eq_true, Bool.not_eq_true'] at h
    show PV.ins o c fs (frzs n xs) = _
    rw [frzs_id h.2]
theorem frzs_id : ∀ {n : Nat} {xs : List PV}, isFs xs = true → frzs n xs = xs
  | n, [], _ => by cases n <;> rfl
  | n, x :: xs, h => by
    simp only [isFs_cons, Bool.and_eq_true] at h
    have : frzs n (x :: xs) = frz n x :: frzs n xs := by cases n <;> rfl
    rw [this, frz_id h.1, frzs_id h.2]
end
@[simp] theorem frz_lst0 (h : isFs xs = true) : frz 0 (.lst o xs) = .lst false xs := by show PV.lst false (frzs 0 xs) = _; rw [frzs_id h]
@[simp] theorem frz_lst1 (h : isFs xs = true) : frz (n + 1) (.lst o xs) = .lst o xs := by show PV.lst o (frzs n xs) = _; rw [frzs_id h]
@[simp] theorem frz_tup : frz n (.tup xs) = .tup (frzs n xs) := by cases n <;> rfl
@[simp] theorem frzs_nil : frzs n [] = [] := by cases n <;> rfl
@[simp] theorem frzs_cons : frzs n (x :: xs) = frz n x :: frzs n xs := by cases n <;> rfl
@[simp] theorem frz_sc1 : frz n .non = .non := by cases n <;> rfl
@[simp] theorem frz_sc2 : frz n (.bl t) = .bl t := by cases n <;> rfl
@[simp] theorem frz_sc3 : frz n (.int p) = .int p := by cases n <;> rfl
@[simp] theorem frz_sc4 : frz n (.str s) = .str s := by cases n <;> rfl
@[simp] theorem frz_sc5 : frz n (.scr ns) = .scr ns := by cases n <;> rfl
@[simp] theorem frz_ins0 : frz 0 (.ins o s fs xs) = .ins false s fs (frzs 0 xs) := (rfl)
@[simp] theorem frz_insS : frz (n + 1) (.ins o s fs xs) = .ins o s fs (frzs n xs) := (rfl)
@[simp] theorem frz_dic0 (h : isFs xs = true) : frz 0 (.dic o ks xs) = .dic false ks xs := by show PV.dic false ks (frzs 0 xs) = _; rw [frzs_id h]
@[simp] theorem frz_dicS (h : isFs xs = true) : frz (n + 1) (.dic o ks xs) = .dic o ks xs := by show PV.dic o ks (frzs 0 xs) = _; rw [frzs_id h]
/-! indices, fields, builtins -/
@[simp] theorem ixQ_lst : ixQ (.lst o xs) (.int p) = atI xs p := (rfl)
@[simp] theorem ixQ_tup : ixQ (.tup xs) (.int p) = atI xs p := (rfl)
@[simp] theorem ixQ_scr : ixQ (.scr ns) (.int p) = (atI ns p).map .int := (rfl)
theorem ixN_nn {n : Nat} (h : 0 ≤ p) (h2 : p < n) : ixN n p = some p.toNat := by unfold ixN; rw [if_pos h, if_pos h2]
theorem atI_nn {α : Type} {l : List α} (h : 0 ≤ p) : atI l p = l[p.toNat]? := by
  unfold atI
  by_cases h2 : p < l.length
  · rw [ixN_nn h h2]; rfl
  · unfold ixN; rw [if_pos h, if_neg h2, List.getElem?_eq_none (by omega)]; rfl
@[simp] theorem atI_0 {α : Type} {x : α} {l : List α} : atI (x :: l) 0 = some x := by rw [atI_nn (by omega)]; rfl
@[simp] theorem atI_1 {α : Type} {x y : α} {l : List α} : atI (x :: y :: l) 1 = some y := by rw [atI_nn (by omega)]; rfl
@[simp] theorem atI_2 {α : Type} {x y z : α} {l : List α} : atI (x :: y :: z :: l) 2 = some z := by rw [atI_nn (by omega)]; rfl
@[simp] theorem atI_3 {α : Type} {x y z w : α} {l : List α} : atI (x :: y :: z :: w :: l) 3 = some w := by rw [atI_nn (by omega)]; rfl
@[simp] theorem atI_4 {α : Type} {x y z w v : α} {l : List α} : atI (x :: y :: z :: w :: v :: l) 4 = some v := by rw [atI_nn (by omega)]; rfl
theorem atI_map {α β : Type} {g : α → β} {l : List α} : atI (l.map g) p = (atI l p).map g := by
  unfold atI
  rw [List.length_map]
  cases ixN l.length p with
  | none => rfl
  | some j => simp
@[simp] theorem atI_m1 {α : Type} {l : List α} : atI l (-1) = l.getLast? := by
  unfold atI ixN
  rw [if_neg (by decide)]
  by_cases h : -(l.length : Int) ≤ -1
  · rw [if_pos h, List.getLast?_eq_getElem?]
    show l[((-1 : Int) + (l.length : Int)).toNat]? = _
    congr 1
    omega
  · rw [if_neg h]
    have : l = [] := by cases l with
      | nil => rfl
      | cons => simp at h; omega
    subst this; rfl
@[simp] theorem fldQ_ins : fldQ (.ins o s fs xs) s2 = lookF fs xs s2 := (rfl)
@[simp] theorem lookF_cons {g : Str} : lookF (s :: fs) (x :: xs) g = if g = s then some x else lookF fs xs g := (rfl)
@[simp] theorem lookF_nil {g : Str} : lookF [] xs g = none := (rfl)
@[simp] theorem setF_cons {g : Str} : setF (s :: fs) (x :: xs) g y = if g = s then y :: xs else x :: setF fs xs g y := (rfl)
@[simp] theorem lenQ_lst : lenQ (.lst o xs) = some (.int xs.length) := (rfl)
@[simp] theorem lenQ_tup : lenQ (.tup xs) = some (.int xs.length) := (rfl)
@[simp] theorem lenQ_scr : lenQ (.scr ns) = some (.int ns.length) := (rfl)
@[simp] theorem lenQ_dic : lenQ (.dic o ks xs) = some (.int ks.length) := (rfl)
@[simp] theorem bltQ_len : bltQ .len [x] = lenQ x := (rfl)
@[simp] theorem bltQ_int : bltQ .intOf [.int p] = some (.int p) := (rfl)
@[simp] theorem bltQ_intb : bltQ .intOf [.bl t] = some (.int (if t then 1 else 0)) := (rfl)
@[simp] theorem bltQ_max : bltQ .max2 [.int p, .int q] = some (.int (if q > p then q else p)) := (rfl)
@[simp] theorem bltQ_min : bltQ .min2 [.int p, .int q] = some (.int (if q < p then q else p)) := (rfl)
@[simp] theorem bltQ_all : bltQ .all [.lst o xs] = (boolsP xs).map fun bs => .bl (bs.all id) := (rfl)
@[simp] theorem bltQ_any : bltQ .any [.lst o xs] = (boolsP xs).map fun bs => .bl (bs.any id) := (rfl)
@[simp] theorem bltQ_sum : bltQ .sum [x] = sumQ x := (rfl)
@[simp] theorem boolsP_map {α : Type} {g : α → Bool} {l : List α} : boolsP (l.map fun x => .bl (g x)) = some (l.map g) := by
  induction l with
  | nil => rfl
  | cons x l ih => simp only [List.map_cons]; show (boolsP _).map _ = _; rw [ih]; rfl
@[simp] theorem intsP_map {α : Type} {g : α → Int} {l : List α} : intsP (l.map fun x => .int (g x)) = some (l.map g) := by
  induction l with
  | nil => rfl
  | cons x l ih => simp only [List.map_cons]; show (intsP _).map _ = _; rw [ih]; rfl
@[simp] theorem sumQ_lst : sumQ (.lst o xs) = (intsP xs).map fun ns => .int ns.sum := (rfl)
@[simp] theorem sumQ_scr : sumQ (.scr ns) = some (.int ns.sum) := (rfl)
@[simp] theorem isi_non_int : isiQ "int" (.non) = some false := (rfl)
@[simp] theorem isi_non_bool : isiQ "bool" (.non) = some false := (rfl)
@[simp] theorem isi_non_str : isiQ "str" (.non) = some false := (rfl)
@[simp] theorem isi_non_tuple : isiQ "tuple" (.non) = some false := (rfl)
@[simp] theorem isi_non_list : isiQ "list" (.non) = some false := (rfl)
@[simp] theorem isi_bl_int : isiQ "int" (.bl t) = some true := (rfl)
@[simp] theorem isi_bl_bool : isiQ "bool" (.bl t) = some true := (rfl)
@[simp] theorem isi_bl_str : isiQ "str" (.bl t) = some false := (rfl)
@[simp] theorem isi_bl_tuple : isiQ "tuple" (.bl t) = some false := (rfl)
@[simp] theorem isi_bl_list : isiQ "list" (.bl t) = some false := (rfl)
@[simp] theorem isi_int_int : isiQ "int" (.int p) = some true := (rfl)
@[simp] theorem isi_int_bool : isiQ "bool" (.int p) = some false := (rfl)
@[simp] theorem isi_int_str : isiQ "str" (.int p) = some false := (rfl)
@[simp] theorem isi_int_tuple : isiQ "tuple" (.int p) = some false := (rfl)
@[simp] theorem isi_int_list : isiQ "list" (.int p) = some false := (rfl)
@[simp] theorem isi_str_int : isiQ "int" (.str s) = some false := (rfl)
@[simp] theorem isi_str_bool : isiQ "bool" (.str s) = some false := (rfl)
@[simp] theorem isi_str_str : isiQ "str" (.str s) = some true := (rfl)
@[simp] theorem isi_str_tuple : isiQ "tuple" (.str s) = some false := (rfl)
@[simp] theorem isi_str_list : isiQ "list" (.str s) = some false := (rfl)
@[simp] theorem isi_tup_int : isiQ "int" (.tup xs) = some false := (rfl)
@[simp] theorem isi_tup_bool : isiQ "bool" (.tup xs) = some false := (rfl)
@[simp] theorem isi_tup_str : isiQ "str" (.tup xs) = some false := (rfl)
@[simp] theorem isi_tup_tuple : isiQ "tuple" (.tup xs) = some true := (rfl)
@[simp] theorem isi_tup_list : isiQ "list" (.tup xs) = some false := (rfl)
@[simp] theorem isi_lst_int : isiQ "int" (.lst o xs) = some false := (rfl)
@[simp] theorem isi_lst_bool : isiQ "bool" (.lst o xs) = some false := (rfl)
@[simp] theorem isi_lst_str : isiQ "str" (.lst o xs) = some false := (rfl)
@[simp] theorem isi_lst_tuple : isiQ "tuple" (.lst o xs) = some false := (rfl)
@[simp] theorem isi_lst_list : isiQ "list" (.lst o xs) = some true := (rfl)
/-! runs -/
section
variable {α β : Type} {r r2 : Res α} {g : α → Slots → Res β} {x : α} {P : Prop} [Decidable P]
@[simp] theorem bind_ok : (Res.ok x e).bind g = g x e := (rfl)
@[simp] theorem bind_exc : (Res.exc s e : Res α).bind g = .exc s e := (rfl)
@[simp] theorem bind_stuck : (Res.stuck : Res α).bind g = .stuck := (rfl)
@[simp] theorem bind_ite : (if P then r else r2).bind g = if P then r.bind g else r2.bind g := by split <;> rfl
end
section
variable {r r2 : Res Fl} {g : Slots → Res Fl} {P : Prop} [Decidable P]
@[simp] theorem seqM_nxt : seqM (.ok .nxt e) g = g e := (rfl)
@[simp] theorem seqM_ret : seqM (.ok (.ret v) e) g = .ok (.ret v) e := (rfl)
@[simp] theorem seqM_exc : seqM (.exc s e) g = .exc s e := (rfl)
@[simp] theorem seqM_ite : seqM (if P then r else r2) g = if P then seqM r g else seqM r2 g := by split <;> rfl
end
@[simp] theorem ofO_some : ofO (some x) e = .ok x e := (rfl)
@[simp] theorem ofF_some (h : isF x = true) : ofF (some x) e = .ok x e := by unfold ofF; simp [h]
def o1 {β : Type} (a : Option PV) (k : PV → Res β) : Res β := match a with
  | none => .stuck
  | some x => k x
def oo2 {β : Type} (a b : Option PV) (k : PV → PV → Res β) : Res β := match a with
  | none => .stuck
  | some x => match b with
    | none => .stuck
    | some y => k x y
@[simp] theorem o1_s {β : Type} {k : PV → Res β} : o1 (some x) k = k x := (rfl)
@[simp] theorem oo2_s {β : Type} {k : PV → PV → Res β} : oo2 (some x) (some y) k = k x y := (rfl)
variable {xa xb : Slots → Res PV}
@[simp] theorem one_p {β : Type} {k : PV → Slots → Res β} (h : pu a = true) : one a xa e k = o1 (evQ e a) fun x => k x e := by unfold one; rw [if_pos h]; rfl
@[simp] theorem one_n {β : Type} {k : PV → Slots → Res β} (h : pu a = false) : one a xa e k = (xa e).bind k := by unfold one; rw [h]; rfl
variable {k2 : PV → PV → Slots → Res PV}
@[simp] theorem two_pp (h : pu a = true) (h2 : pu b = true) : two a b xa xb e k2 = oo2 (evQ e a) (evQ e b) fun x y => k2 x y e := by
  unfold two
  rw [if_pos h]
  cases evQ e a with
  | none => rfl
  | some x =>
    simp only []
    rw [if_pos h2]
    cases evQ e b <;> rfl
@[simp] theorem itsE_nil : itsE e [] = some [] := (rfl)
@[simp] theorem itsE_cons : itsE e (c :: cs) = (itE e c).bind fun x => (itsE e cs).map (x :: ·) := (rfl)
@[simp] theorem itE_tup (h : pus cs = true) : itE e (.tup cs) = (evQs e cs).bind fun ys => if isFs ys = true ∧ ys.length ≤ lim then some (.tup ys) else none := by unfold itE; simp only [h, if_true]
@[simp] theorem itE_pu (h : pu c = true) : itE e c = (evQ e c).bind fun x => if isF x = true then some x else none := by
  unfold itE
  cases c <;> first | (cases h; done) | (simp only [h, if_true])
@[simp] theorem dspE_lst : dspE e (.lst cs) = (itsE e cs).bind fun ys => if ys.length ≤ lim then some (.lst true ys) else none := (rfl)
@[simp] theorem dspE_mul {a : CE} (h2 : pu a = true) : dspE e (.cat .Mult (.lst cs) a) = (itsE e cs).bind fun ys => (evQ e a).bind fun m => dspM ys m := by
  unfold dspE
  simp only [h2, if_true]
@[simp] theorem dspM_int {ys : List PV} {m : Int} : dspM ys (.int m) = if ys.length ≤ lim ∧ -(2 ^ 62) < m ∧ m < 2 ^ 62 ∧ ys.length * m.toNat ≤ lim then some (.lst true (List.replicate m.toNat ys).flatten) else none := (rfl)
@[simp] theorem two_pn (h : pu a = true) (h2 : pu b = false) : two a b xa xb e k2 = o1 (evQ e a) fun x => if isF x = true then (xb e).bind fun y e => k2 x y e else o1 (dspE e b) fun y => k2 x y e := by
  unfold two; rw [if_pos h, h2]
  cases evQ e a with
  | none => rfl
  | some x =>
    show (if isF x = true then _ else _) = _
    by_cases q : isF x = true
    · rw [if_pos q]; show _ = (if isF x = true then _ else _); rw [if_pos q]
    · rw [if_neg q]; show _ = (if isF x = true then _ else _); rw [if_neg q]; cases dspE e b <;> rfl
@[simp] theorem two_np (h : pu a = false) (h2 : pu b = true) : two a b xa xb e k2 = (xa e).bind fun x e => o1 (evQ e b) fun y => k2 x y e := by
  unfold two
  rw [h, if_neg Bool.false_ne_true]
  congr 1
  funext x e
  rw [if_pos h2]
  cases evQ e b <;> rfl
@[simp] theorem two_nn (h : pu a = false) (h2 : pu b = false) : two a b xa xb e k2 = (xa e).bind fun x e => (xb e).bind fun y e => k2 x y e := by
  unfold two
  rw [h, if_neg Bool.false_ne_true]
  congr 1
  funext x e
  rw [h2]; rfl
def valB (c : CE) (e : Slots) (v : PV) : Bool → Res PV
  | true => .ok v e
  | false => match c with
    | .var i => .ok (frz 0 v) (e.set i (some (frz 0 v)))
    | _ => .stuck
@[simp] theorem valB_t : valB c e v true = .ok v e := (rfl)
@[simp] theorem valB_f : valB (.var i) e v false = .ok (frz 0 v) (e.set i (some (frz 0 v))) := (rfl)
@[simp] theorem val_p (h : pu c = true) : valM c xa e = o1 (evQ e c) fun v => valB c e v (isF v) := by
  unfold valM
  rw [if_pos h]
  cases evQ e c with
  | none => rfl
  | some v => show (if isF v = true then _ else _) = valB c e v (isF v); cases isF v <;> rfl
@[simp] theorem val_n (h : pu c = false) : valM c xa e = xa e := by unfold valM; rw [h]; rfl
def argB (i : Nat) (v : PV) (e : Slots) : Bool → Res (PV × Option Nat)
  | true => .ok (v, none) e
  | false => .ok (v, some i) (e.set i none)
@[simp] theorem argB_t : argB i v e true = .ok (v, none) e := (rfl)
@[simp] theorem argB_f : argB i v e false = .ok (v, some i) (e.set i none) := (rfl)
@[simp] theorem arg_v : argM (.var i) xa e = o1 (slot e i) fun v => argB i v e (isF v) := by
  show (match slot e i with | none => _ | some v => _) = _
  cases slot e i with
  | none => rfl
  | some v => show (if isF v = true then _ else _) = argB i v e (isF v); cases isF v <;> rfl
@[simp] theorem arg_n (h : isVarC c = false) : argM c xa e = (valM c xa e).bind fun v e => .ok (v, none) e := by
  cases c <;> first | rfl | cases h
def callA (as : List (PV × Option Nat)) (e : Slots) : Res PV → Res PV
  | .stuck => .stuck
  | .exc x os => .exc x (backM as os e)
  | .ok v os => .ok v (backM as os e)
variable {as : List (PV × Option Nat)} {os : Slots}
@[simp] theorem callM_eq : callM f as e = callA as e (f (as.map (·.1))) := by unfold callM callA; rfl
@[simp] theorem callA_ok : callA as e (.ok v os) = .ok v (backM as os e) := (rfl)
@[simp] theorem callA_exc : callA as e (.exc s os) = .exc s (backM as os e) := (rfl)
@[simp] theorem callA_ite {r r2 : Res PV} {P : Prop} [Decidable P] : callA as e (if P then r else r2) = if P then callA as e r else callA as e r2 := by split <;> rfl
@[simp] theorem backM_nil {os : Slots} : backM [] os e = e := by cases os <;> rfl
@[simp] theorem backM_n {w : Option PV} : backM ((x, none) :: as) (w :: os) e = backM as os e := (rfl)
@[simp] theorem backM_s {w : Option PV} : backM ((x, some i) :: as) (w :: os) e = backM as os (e.set i w) := (rfl)
def makeA (as : List (PV × Option Nat)) (e : Slots) : Res PV → Res PV
  | .exc x (_ :: os) => .exc x (backM as os e)
  | .ok .non (some s :: os) => .ok s (backM as os e)
  | _ => .stuck
@[simp] theorem makeM_eq : makeM s f as e = makeA as e (f (.ins true s [] [] :: as.map (·.1))) := by unfold makeM makeA; rfl
@[simp] theorem makeA_ok : makeA as e (.ok .non (some v :: os)) = .ok v (backM as os e) := (rfl)
@[simp] theorem makeA_exc {w : Option PV} : makeA as e (.exc s (w :: os)) = .exc s (backM as os e) := (rfl)
@[simp] theorem okR_ins : okR s s2 (.ins o s fs xs) = (lookF fs xs s2).isNone := by unfold okR; simp
/-! expressions -/
@[simp] theorem evX_mov : evX (.mov i) e = o1 (slot e i) fun x => .ok x (e.set i none) := (rfl)
@[simp] theorem evX_frz : evX (.frz n a) e = (valM a (evX a) e).bind fun x e => .ok (frz n x) e := (rfl)
@[simp] theorem evX_bin {op : Operator} : evX (.bin op a b) e = two a b (evX a) (evX b) e fun x y e => ofO (binQ op x y) e := (rfl)
@[simp] theorem evX_cat {op : Operator} : evX (.cat op a b) e = two a b (evX a) (evX b) e fun x y e => ofO (catQ op x y) e := (rfl)
@[simp] theorem evX_neg : evX (.neg a) e = one a (evX a) e fun x e => ofO (negQ x) e := (rfl)
@[simp] theorem evX_cmp {op : CmpOp} : evX (.cmp op a b) e = two a b (evX a) (evX b) e fun x y e => ofO ((cmpQ op x y).map .bl) e := (rfl)
@[simp] theorem evX_not : evX (.not a) e = one a (evX a) e fun x e => ofO (notQ x) e := (rfl)
@[simp] theorem evX_and : evX (.and cs) e = evXand cs e := (rfl)
@[simp] theorem evX_or : evX (.or cs) e = evXor cs e := (rfl)
@[simp] theorem evX_tup : evX (.tup cs) e = (evXs cs e).bind fun xs e => if xs.length ≤ lim then .ok (.tup xs) e else .stuck := (rfl)
@[simp] theorem evX_lst : evX (.lst cs) e = (evXs cs e).bind fun xs e => if xs.length ≤ lim then .ok (.lst true xs) e else .stuck := (rfl)
@[simp] theorem evX_dct : evX (.dct false) e = .ok (.dic true [] []) e := (rfl)
theorem evX_ixP (h : pu a = true) : evX (.ix a b) e = two a b (evX a) (evX b) e fun x y e => ofF (ixQ x y) e := by
  show (if pu a = true then _ else _) = _
  rw [if_pos h]
@[simp] theorem evX_ixN (h : pu a = false) (h2 : pu b = true) : evX (.ix a b) e = (evX a e).bind fun x e => o1 (evQ e b) fun y => ofO (ixQ x y) e := by
  show (if pu a = true then _ else _) = _
  rw [h, if_neg Bool.false_ne_true, if_pos h2]
  congr 1
  funext x e
  cases evQ e b <;> rfl
@[simp] theorem evX_ixNN (h : pu a = false) (h2 : pu b = false) : evX (.ix a b) e = (evX a e).bind fun x e => (evX b e).bind fun y e => ofF (ixQ x y) e := by
  show (if pu a = true then _ else _) = _
  rw [h, if_neg Bool.false_ne_true, h2, if_neg Bool.false_ne_true, two_nn h h2]
@[simp] theorem evX_ixPN (h : pu a = true) (h2 : pu b = false) : evX (.ix a b) e = o1 (evQ e a) fun x => if isF x = true then (evX b e).bind fun y e => ofF (ixQ x y) e else o1 (dspE e b) fun y => ofF (ixQ x y) e := by
  rw [evX_ixP h, two_pn h h2]
@[simp] theorem evX_dix : evX (.dix a b) e = two a b (evX a) (evX b) e fun x y e => ofF (dixQ x y) e := (rfl)
@[simp] theorem evX_dinT : evX (.din true a b) e = two a b (evX a) (evX b) e fun x y e => ofO ((dinQ y x).map fun t => .bl (!t)) e := (rfl)
@[simp] theorem evX_dinF : evX (.din false a b) e = two a b (evX a) (evX b) e fun x y e => ofO ((dinQ y x).map .bl) e := (rfl)
@[simp] theorem evX_fld : evX (.fld a s) e = one a (evX a) e fun x e => ofF (fldQ x s) e := (rfl)
def slA (x : PV) (e : Slots) (lo hi : Option (Option Int)) : Res PV := match lo, hi with
  | some l, some h => ofO (slQ x l h) e
  | _, _ => .stuck
@[simp] theorem slA_s {l h : Option Int} : slA x e (some l) (some h) = ofO (slQ x l h) e := (rfl)
@[simp] theorem evX_slc : evX (.sl a b c) e = one a (evX a) e fun x e => slA x e (partQ e b) (partQ e c) := (rfl)
def intO : Option PV → Option (Option Int)
  | some (.int i) => some (some i)
  | _ => none
@[simp] theorem intO_s : intO (some (.int p)) = some (some p) := (rfl)
@[simp] theorem partQ_nop : partQ e .nop = some none := (rfl)
@[simp] theorem partQ_p (h : pu c = true) : partQ e c = intO (evQ e c) := by
  cases c <;> first | (cases h; done) | rfl | (show (if pu _ = true then (match evQ e _ with | some (PV.int i) => some (some i) | _ => none) else none) = _; rw [if_pos h]; unfold intO; rfl)
@[simp] theorem slQ_lst {l h : Option Int} (q : isFs xs = true) : slQ (.lst o xs) l h = some (.lst true (cutL xs l h)) := by show (if _ then _ else _) = _; rw [if_pos q]
@[simp] theorem slQ_tup {l h : Option Int} (q : isFs xs = true) : slQ (.tup xs) l h = some (.tup (cutL xs l h)) := by show (if _ then _ else _) = _; rw [if_pos q]
@[simp] theorem slQ_scr {l h : Option Int} : slQ (.scr ns) l h = some (.lst true ((cutL ns l h).map .int)) := (rfl)
@[simp] theorem evX_call : evX (.call s f cs) e = (evXa cs e).bind fun as e => callM f as e := (rfl)
@[simp] theorem evX_callP : evX (.callP n s f cs) e = partM n cs (evXd n cs) (callPM f) e := (rfl)
@[simp] theorem evX_makeP : evX (.makeP n s f cs) e = partM n cs (evXd n cs) (makePM s f) e := (rfl)
@[simp] theorem evXd_0n : evXd 0 [] e = .ok [] e := (rfl)
@[simp] theorem evXd_0c : evXd 0 (c :: cs) e = (argM c (evX c) e).bind fun x e => (evXd 0 cs e).bind fun xs e => .ok (x :: xs) e := (rfl)
@[simp] theorem evXd_s : evXd (n + 1) (c :: cs) e = evXd n cs e := (rfl)
section
variable {o2 m2 : Nat} {ks : List Nat} {xd : Slots → Res (List (PV × Option Nat))} {kk2 : Nat → List PV → List Nat → List (PV × Option Nat) → Slots → Res PV}
@[simp] theorem rootE_s : rootE (.ix (.var o2) c :: cs) = o2 := (rfl)
def ixsA (m : Nat) (r : Option (List Nat)) : Option PV → Option (List Nat)
  | some (.int k) => (ixN m k).bind fun a => r.map (a :: ·)
  | _ => none
@[simp] theorem ixsA_s {r : Option (List Nat)} : ixsA m2 r (some (.int p)) = (ixN m2 p).bind fun a => r.map (a :: ·) := (rfl)
@[simp] theorem ixsE_0 : ixsE e o2 m2 0 cs = some [] := by cases cs <;> rfl
@[simp] theorem ixsE_s : ixsE e o2 m2 (n + 1) (.ix (.var o2) c :: cs) = ixsA m2 (ixsE e o2 m2 n cs) (evQ e c) := by
  rw [ixsE, if_pos rfl]
  unfold ixsA
  rfl
def parB (n : Nat) (es : List CE) (xa : Slots → Res (List (PV × Option Nat))) (k : Nat → List PV → List Nat → List (PV × Option Nat) → Slots → Res PV) (e : Slots) (xs : List PV) : Option (List Nat) → Res PV
  | some ks => if nodupB ks = true then (xa (e.set (rootE es) none)).bind fun as e => k (rootE es) xs ks as e else .stuck
  | none => .stuck
def parA (n : Nat) (es : List CE) (xa : Slots → Res (List (PV × Option Nat))) (k : Nat → List PV → List Nat → List (PV × Option Nat) → Slots → Res PV) (e : Slots) : Option PV → Res PV
  | some (.lst true xs) => parB n es xa k e xs (ixsE e (rootE es) xs.length n es)
  | _ => .stuck
@[simp] theorem partM_eq : partM n cs xd kk2 e = parA n cs xd kk2 e (slot e (rootE cs)) := by unfold partM parA parB; rfl
@[simp] theorem parA_s : parA n cs xd kk2 e (some (.lst true xs)) = parB n cs xd kk2 e xs (ixsE e (rootE cs) xs.length n cs) := (rfl)
@[simp] theorem parB_s : parB n cs xd kk2 e xs (some ks) = if nodupB ks = true then (xd (e.set (rootE cs) none)).bind fun as e => kk2 (rootE cs) xs ks as e else .stuck := (rfl)
@[simp] theorem partA_nil : partA xs [] = [] := (rfl)
@[simp] theorem partA_cons {k3 : Nat} : partA xs (k3 :: ks) = (xs[k3]?).getD .non :: partA xs ks := (rfl)
@[simp] theorem holes_nil : holes xs [] = xs := (rfl)
@[simp] theorem holes_cons {k3 : Nat} : holes xs (k3 :: ks) = holes (xs.set k3 hole) ks := (rfl)
@[simp] theorem putL_nil : putL xs [] os = some (xs, os) := by cases os <;> rfl
@[simp] theorem putL_cons {k3 : Nat} : putL xs (k3 :: ks) (some y :: os) = putL (xs.set k3 y) ks os := (rfl)
@[simp] theorem backP_eq : backP o2 xs ks as os e = (putL (holes xs ks) ks os).map fun r => (backM as r.2 e).set o2 (some (.lst true r.1)) := (rfl)
def cpB (v : PV) : Option Slots → Res PV
  | some e => .ok v e
  | none => .stuck
def cpX (x : Str) : Option Slots → Res PV
  | some e => .exc x e
  | none => .stuck
@[simp] theorem cpB_s : cpB v (some e) = .ok v e := (rfl)
@[simp] theorem cpX_s : cpX s (some e) = .exc s e := (rfl)
def cpA (o : Nat) (xs : List PV) (ks : List Nat) (as : List (PV × Option Nat)) (e : Slots) : Res PV → Res PV
  | .stuck => .stuck
  | .exc x os => cpX x (backP o xs ks as os e)
  | .ok v os => cpB v (backP o xs ks as os e)
def mpA (o : Nat) (xs : List PV) (ks : List Nat) (as : List (PV × Option Nat)) (e : Slots) : Res PV → Res PV
  | .exc x (_ :: os) => cpX x (backP o xs ks as os e)
  | .ok .non (some s :: os) => cpB s (backP o xs ks as os e)
  | _ => .stuck
@[simp] theorem callPM_eq : callPM f o2 xs ks as e = cpA o2 xs ks as e (f (partA xs ks ++ as.map (·.1))) := by unfold callPM cpA cpB cpX; rfl
@[simp] theorem makePM_eq : makePM s f o2 xs ks as e = mpA o2 xs ks as e (f (.ins true s [] [] :: (partA xs ks ++ as.map (·.1)))) := by unfold makePM mpA cpB cpX; rfl
@[simp] theorem cpA_ok : cpA o2 xs ks as e (.ok v os) = cpB v (backP o2 xs ks as os e) := (rfl)
@[simp] theorem cpA_exc : cpA o2 xs ks as e (.exc s os) = cpX s (backP o2 xs ks as os e) := (rfl)
@[simp] theorem mpA_ok : mpA o2 xs ks as e (.ok .non (some v :: os)) = cpB v (backP o2 xs ks as os e) := (rfl)
@[simp] theorem mpA_exc {w : Option PV} : mpA o2 xs ks as e (.exc s (w :: os)) = cpX s (backP o2 xs ks as os e) := (rfl)
end
@[simp] theorem evX_make : evX (.make s f cs) e = (evXa cs e).bind fun as e => makeM s f as e := (rfl)
@[simp] theorem evX_meth : evX (.meth s a s2 f cs) e = (argM a (evX a) e).bind fun r e => if okR s s2 r.1 = true then (evXa cs e).bind fun as e => callM f (r :: as) e else .stuck := (rfl)
@[simp] theorem evX_blt : evX (.blt bb cs) e = evXb bb cs e := (rfl)
@[simp] theorem evX_lrg : evX (.lrg a) e = one a (evX a) e fun x e => ofO (lrgQ x) e := (rfl)
@[simp] theorem evX_lrv : evX (.lrv a) e = one a (evX a) e fun x e => ofO (lrvQ x) e := (rfl)
@[simp] theorem lrgQ_int : lrgQ (.int p) = if 0 ≤ p ∧ p ≤ 1000000 then some (.lst true ((rangeL 0 p).map .int)) else none := (rfl)
@[simp] theorem lrvQ_eq : lrvQ x = (seqQ x).map fun xs => .lst true xs.reverse := (rfl)
@[simp] theorem evX_isi : evX (.isi a ss) e = one a (evX a) e fun x e => ofO ((isiQ ss x).map .bl) e := (rfl)
@[simp] theorem evX_bm : evX (.bm bm1 a cs) e = if bmList bm1 = true ∧ bmZero bm1 = cs.isEmpty then (if frB a = true then freshM isLst cs (evXs cs) (evX a) (fun ys x => bmX bm1 x ys) e else if tpB e a = true then tupM isLst a cs (fun ys x => bmX bm1 x ys) e else mutM isLst a cs (evXs cs) (fun ys x => bmX bm1 x ys) e) else .stuck := (rfl)
@[simp] theorem frB_var : frB (.var i) = false := (rfl)
@[simp] theorem frB_fld : frB (.fld a s) = false := (rfl)
@[simp] theorem frB_ix : frB (.ix a b) = false := (rfl)
@[simp] theorem frB_call : frB (.call s f cs) = true := (rfl)
@[simp] theorem frB_meth : frB (.meth s a s2 f cs) = true := (rfl)
def isTupO : Option PV → Bool
  | some (.tup _) => true
  | _ => false
@[simp] theorem isTup_t : isTupO (some (.tup xs)) = true := (rfl)
@[simp] theorem isTup_l : isTupO (some (.lst o xs)) = false := (rfl)
@[simp] theorem isTup_d : isTupO (some (.dic o ks xs)) = false := (rfl)
@[simp] theorem isTup_i : isTupO (some (.ins o s fs xs)) = false := (rfl)
@[simp] theorem tpB_var : tpB e (.var i) = false := (rfl)
@[simp] theorem tpB_fld : tpB e (.fld a s) = false := (rfl)
@[simp] theorem tpB_ixv : tpB e (.ix (.var i) b) = isTupO (slot e i) := by unfold tpB isTupO; rfl
@[simp] theorem tpB_ixf : tpB e (.ix (.fld a s) b) = false := (rfl)
@[simp] theorem tpB_ixx : tpB e (.ix (.ix a c) b) = false := (rfl)
@[simp] theorem evX_dpop (h : pu b = true) : evX (.dpop1 a b) e = mutM isDic a [b] (fun _ => .stuck) (fun ys x => match ys with
      | [y] => popDX y x
      | _ => none) e := by
  show (if pu b = true then _ else _) = _
  rw [if_pos h]
  all_goals (congr 1 <;> (funext ys x; rcases ys with _ | ⟨y, _ | _⟩ <;> rfl))
def lcA (elt : CE) (tg : List Nat) (cond : List CE) (as : List (PV × Option Nat)) (e : Slots) : Option (List PV) → Res PV
  | none => .stuck
  | some items => if items.length ≤ lim ∧ nodupB tg = true ∧ disj (lentsM as) tg = true then
        (compL tg (evXc cond) (fun e => valM elt (evX elt) e) items (killM tg e)).bind fun ys e' => .ok (.lst true ys) (ownersM as (keepM tg e e'))
      else .stuck
@[simp] theorem evX_lc : evX (.lc a tg kk cs es) e = (evXa cs e).bind fun as e => lcA a tg es as e (iterQ kk (as.map (·.1))) := by
  show ((evXa cs e).bind fun as e => _) = _
  congr 1 <;> (funext as e; unfold lcA; try rfl)
@[simp] theorem lcA_s (h1 : xs.length ≤ lim) (h2 : nodupB tg = true) (h3 : disj (lentsM as) tg = true) : lcA a tg es as e (some xs) =
    (compL tg (evXc es) (fun e => valM a (evX a) e) xs (killM tg e)).bind fun ys e' => .ok (.lst true ys) (ownersM as (keepM tg e e')) := by
  show (if _ then _ else _) = _
  rw [if_pos ⟨h1, h2, h3⟩]
@[simp] theorem catQ_add (h1 : isFs xs = true) (h2 : isFs ys = true) : catQ .Add (.lst o xs) (.lst o2 ys) = if xs.length + ys.length ≤ 1000000 then some (.lst true (xs ++ ys)) else none := by
  show (if _ then _ else _) = _
  simp only [h1, h2, true_and, lim_eq]
@[simp] theorem catQ_tup (h1 : isFs xs = true) (h2 : isFs ys = true) : catQ .Add (.tup xs) (.tup ys) = if xs.length + ys.length ≤ 1000000 then some (.tup (xs ++ ys)) else none := by
  show (if _ then _ else _) = _
  simp only [h1, h2, true_and, lim_eq]
theorem catQ_rep (h1 : isFs xs = true) (h2 : -4611686018427387904 < p) (h3 : p < 4611686018427387904) (h4 : xs.length * p.toNat ≤ 1000000) : catQ .Mult (.lst o xs) (.int p) = some (.lst true (List.replicate p.toNat xs).flatten) := by
  show (if _ then _ else _) = _
  rw [if_pos ⟨h1, h2, h3, h4⟩]
@[simp] theorem ofO_ite {a b : Option PV} {P : Prop} [Decidable P] : ofO (if P then a else b) e = if P then ofO a e else ofO b e := by split <;> rfl
@[simp] theorem ofO_none : ofO none e = .stuck := (rfl)
@[simp] theorem evXs_nil : evXs [] e = .ok [] e := (rfl)
@[simp] theorem evXs_cons : evXs (c :: cs) e = (valM c (evX c) e).bind fun x e => (evXs cs e).bind fun xs e => .ok (x :: xs) e := (rfl)
@[simp] theorem evXa_nil : evXa [] e = .ok [] e := (rfl)
@[simp] theorem evXa_cons : evXa (c :: cs) e = (argM c (evX c) e).bind fun x e => (evXa cs e).bind fun xs e => .ok (x :: xs) e := (rfl)
@[simp] theorem evXb_1 : evXb bb [a] e = one a (evX a) e fun x e => ofO (bltX bb x) e := (rfl)
@[simp] theorem evXb_2 : evXb bb [a, c] e = two a c (evX a) (evX c) e fun x y e => ofO (bltQ bb [x, y]) e := (rfl)
@[simp] theorem bltX_l1 (h : isFs xs = true) : bltX .lstOf (.lst o xs) = some (.lst true xs) := by show (if _ then _ else _) = _; rw [if_pos h]
@[simp] theorem bltX_l2 (h : isFs xs = true) : bltX .lstOf (.tup xs) = some (.lst true xs) := by show (if _ then _ else _) = _; rw [if_pos h]
@[simp] theorem bltX_l3 : bltX .lstOf (.scr ns) = some (.lst true (ns.map .int)) := (rfl)
@[simp] theorem bltX_t1 (h : isFs xs = true) : bltX .tupOf (.lst o xs) = some (.tup xs) := by show (if _ then _ else _) = _; rw [if_pos h]
@[simp] theorem bltX_t2 (h : isFs xs = true) : bltX .tupOf (.tup xs) = some (.tup xs) := by show (if _ then _ else _) = _; rw [if_pos h]
@[simp] theorem bltX_sd : bltX .sortD (.dic o ks xs) = (intsP ks).map fun ns => .lst true ((sortIL ns).map .int) := (rfl)
@[simp] theorem bltX_s : bltX .sortI (.lst o xs) = (intsP xs).map fun ns => .lst true ((sortIL ns).map .int) := (rfl)
@[simp] theorem bltX_len : bltX .len x = bltQ .len [x] := by cases x <;> rfl
@[simp] theorem bltX_intOf : bltX .intOf x = bltQ .intOf [x] := by cases x <;> rfl
@[simp] theorem bltX_strI : bltX .strI x = bltQ .strI [x] := by cases x <;> rfl
@[simp] theorem bltX_sum : bltX .sum x = bltQ .sum [x] := by cases x <;> rfl
@[simp] theorem bltX_max2 : bltX .max2 x = bltQ .max2 [x] := by cases x <;> rfl
@[simp] theorem bltX_min2 : bltX .min2 x = bltQ .min2 [x] := by cases x <;> rfl
@[simp] theorem bltX_all : bltX .all x = bltQ .all [x] := by cases x <;> rfl
@[simp] theorem bltX_any : bltX .any x = bltQ .any [x] := by cases x <;> rfl
@[simp] theorem evXc_nil : evXc [] e = .ok (.bl true) e := (rfl)
@[simp] theorem evXc_one (h : tOk c = true) : evXc [c] e = one c (evX c) e fun x e => ofO ((boolQ x).map .bl) e := by show (if _ then _ else _) = _; rw [if_pos h]
def contA (x : PV) (e : Slots) (k : Slots → Res PV) : Res PV := match x with
  | .bl true => k e
  | .bl false => .ok (.bl false) e
  | _ => .stuck
def contO (x : PV) (e : Slots) (k : Slots → Res PV) : Res PV := match x with
  | .bl false => k e
  | .bl true => .ok (.bl true) e
  | _ => .stuck
@[simp] theorem contA_bl {k : Slots → Res PV} : contA (.bl t) e k = if t = true then k e else .ok (.bl false) e := by cases t <;> rfl
@[simp] theorem contO_bl {k : Slots → Res PV} : contO (.bl t) e k = if t = true then .ok (.bl true) e else k e := by cases t <;> rfl
@[simp] theorem evXand_1 : evXand [c] e = one c (evX c) e fun x e => ofO ((boolQ x).map .bl) e := (rfl)
@[simp] theorem evXand_2 : evXand (c :: d :: cs) e = one c (evX c) e fun x e => contA x e (evXand (d :: cs)) := (rfl)
@[simp] theorem evXor_1 : evXor [c] e = one c (evX c) e fun x e => ofO ((boolQ x).map .bl) e := (rfl)
@[simp] theorem evXor_2 : evXor (c :: d :: cs) e = one c (evX c) e fun x e => contO x e (evXor (d :: cs)) := (rfl)
/-! paths -/
@[simp] theorem pathS_var : pathS e (.var i) = some (i, []) := (rfl)
@[simp] theorem pathS_fld : pathS e (.fld a s) = (pathS e a).map fun z => (z.1, z.2 ++ [.f s]) := (rfl)
def pixA (z : Nat × List Stp) : Option PV → Option PV → Option (Nat × List Stp)
  | some (.int j), some (.lst true xs) => (ixN xs.length j).map fun n => (z.1, z.2 ++ [.i n])
  | _, _ => none
@[simp] theorem pixA_s {z : Nat × List Stp} : pixA z (some (.int p)) (some (.lst true xs)) = (ixN xs.length p).map fun n => (z.1, z.2 ++ [.i n]) := (rfl)
@[simp] theorem pathS_ix : pathS e (.ix a b) = (pathS e a).bind fun z => pixA z (evQ e b) ((slot e z.1).bind (getS z.2)) := (rfl)
@[simp] theorem getS_nil : getS [] x = some x := (rfl)
variable {l : List Stp}
@[simp] theorem getS_f' : getS (.f s :: l) (.ins true s2 fs xs) = (lookF fs xs s).bind (getS l) := (rfl)
@[simp] theorem getS_i' : getS (.i j :: l) (.lst true xs) = (xs[j]?).bind (getS l) := (rfl)
@[simp] theorem putS_nil : putS [] x y = y := (rfl)
@[simp] theorem putS_f' : putS (.f s :: l) (.ins o s2 fs xs) y = .ins o s2 fs (setF fs xs s (putS l ((lookF fs xs s).getD .non) y)) := (rfl)
@[simp] theorem putS_i' : putS (.i j :: l) (.lst o xs) y = .lst o (xs.set j (putS l ((xs[j]?).getD .non) y)) := (rfl)
def updA (i : Nat) (e : Slots) : Option (PV × PV) → Res PV
  | none => .stuck
  | some (v, r) => .ok v (e.set i (some r))
@[simp] theorem updA_s : updA i e (some (v, x)) = .ok v (e.set i (some x)) := (rfl)
variable {g : PV → Option (PV × PV)}
@[simp] theorem updM_eq : updM (i, l) g e = updA i e ((slot e i).bind fun r => (getS l r).bind fun x => (g x).map fun z => (z.1, putS l r z.2)) := by
  unfold updM updA
  rfl
@[simp] theorem bmX_app (h : xs.length < lim) : bmX .append (.lst true xs) [y] = some (.non, .lst true (xs ++ [y])) := by show (if _ then _ else _) = _; rw [if_pos h]
@[simp] theorem bmX_clear : bmX .clear (.lst true xs) [] = some (.non, .lst true []) := (rfl)
@[simp] theorem bmX_pop0 : bmX .pop0 (.lst true xs) [] = (xs[xs.length - 1]?).map fun y => (y, .lst true xs.dropLast) := (rfl)
@[simp] theorem bmX_pop1 (h : xs.length ≤ lim) : bmX .pop1 (.lst true xs) [.int p] = (ixN xs.length p).bind fun k => (xs[k]?).map fun y => (y, .lst true (xs.eraseIdx k)) := by show (if _ then _ else _) = _; rw [if_pos h]
@[simp] theorem bmX_rev : bmX .reverse (.lst true xs) [] = some (.non, .lst true xs.reverse) := (rfl)
@[simp] theorem bmX_rem : bmX .removeI (.lst true xs) [.int p] = (intsP xs).bind fun ns => (idxI ns p).map fun j => (.non, .lst true (xs.eraseIdx j)) := (rfl)
@[simp] theorem bmX_ins (h : xs.length < lim) (h1 : 0 ≤ p) (h2 : p < 4611686018427387904) : bmX .insert (.lst true xs) [.int p, y] = some (.non, .lst true (xs.take p.toNat ++ y :: xs.drop p.toNat)) := by
  show (if _ then _ else _) = _; rw [if_pos ⟨h, h1, h2⟩]
@[simp] theorem bmX_ext (h : xs.length + ys.length ≤ lim) (h2 : isFs ys = true) : bmX .extend (.lst true xs) [.lst o ys] = some (.non, .lst true (xs ++ ys)) := by show (if _ then _ else _) = _; rw [if_pos ⟨h, h2⟩]
@[simp] theorem setLX_eq : setLX p y (.lst true xs) = (ixN xs.length p).map fun j => (.non, .lst true (xs.set j y)) := (rfl)
@[simp] theorem setDX_eq (h1 : (keyP x).isSome = true) (h2 : isF y = true) (h3 : ks.length < lim) : setDX x y (.dic true ks xs) = some (.non, .dic true (putD ks xs x y).1 (putD ks xs x y).2) := by
  show (if _ then _ else _) = _; rw [if_pos ⟨h1, h2, h3⟩]
@[simp] theorem popDX_eq (h1 : (keyP x).isSome = true) : popDX x (.dic true ks xs) = (lookD ks xs x).map fun v => (v, .dic true (dropDk ks x) (dropDx ks xs x)) := by
  show (if _ then _ else _) = _; rw [if_pos h1]
@[simp] theorem fldX_eq (h : fs.length < 900) : fldX s y (.ins true s2 fs xs) = some (.non, if s ∈ fs then .ins true s2 fs (setF fs xs s y) else .ins true s2 (fs ++ [s]) (xs ++ [y])) := by
  show (if _ then _ else _) = _; rw [if_pos h]
@[simp] theorem keyP_int : keyP (.int p) = some (.inl p) := (rfl)
@[simp] theorem keyP_str : keyP (.str s) = some (.inr s) := (rfl)
@[simp] theorem isLst_t : isLst (.lst true xs) = true := (rfl)
@[simp] theorem isDic_t : isDic (.dic true ks xs) = true := (rfl)
@[simp] theorem dixQ_eq (h : (keyP y).isSome = true) : dixQ (.dic o ks xs) y = lookD ks xs y := by show (if _ then _ else _) = _; rw [if_pos h]
@[simp] theorem dinQ_eq (h : (keyP y).isSome = true) : dinQ (.dic o ks xs) y = some (lookD ks xs y).isSome := by show (if _ then _ else _) = _; rw [if_pos h]
@[simp] theorem dgetQ_eq (h : (keyP y).isSome = true) : dgetQ (.dic o ks xs) y z = some ((lookD ks xs y).getD z) := by show (if _ then _ else _) = _; rw [if_pos h]
def lockA (i : Nat) (l : List Stp) (x : Slots → Res (List PV)) (k : List PV → Slots → Res PV) (e : Slots) : Res PV := lockM (i, l) x k e
@[simp] theorem lockM_nil {x : Slots → Res (List PV)} {k : List PV → Slots → Res PV} : lockM (i, []) x k e = (x e).bind k := (rfl)
def lockB (i : Nat) (x : Slots → Res (List PV)) (k : List PV → Slots → Res PV) (e : Slots) : Option PV → Res PV
  | none => .stuck
  | some r => (x (e.set i none)).bind fun ys e => k ys (e.set i (some r))
@[simp] theorem lockM_cons {st : Stp} {x : Slots → Res (List PV)} {k : List PV → Slots → Res PV} : lockM (i, st :: l) x k e = lockB i x k e (slot e i) := by
  unfold lockM lockB; rfl
@[simp] theorem lockB_s {x : Slots → Res (List PV)} {k : List PV → Slots → Res PV} : lockB i x k e (some v) = (x (e.set i none)).bind fun ys e => k ys (e.set i (some v)) := (rfl)
def mutB (p : Nat × List Stp) (x : Slots → Res (List PV)) (g : List PV → PV → Option (PV × PV)) (e : Slots) : Option (List PV) → Res PV
  | some ys => updM p (g ys) e
  | none => lockM p x (fun ys e => updM p (g ys) e) e
def frzO (o : Option (List PV)) : Option (List PV) := o.bind fun xs => if isFs xs = true then some xs else none
@[simp] theorem frzO_t (h : isFs xs = true) : frzO (some xs) = some xs := by simp [frzO, h]
@[simp] theorem frzO_f (h : isFs xs = false) : frzO (some xs) = none := by simp [frzO, h]
@[simp] theorem argsP_p (h : pus cs = true) : argsP e cs = frzO (evQs e cs) := by unfold argsP; rw [if_pos h]; rfl
@[simp] theorem argsP_n (h : pus cs = false) : argsP e cs = none := by unfold argsP; rw [h]; rfl
variable {kd : PV → Bool} {gx : List PV → PV → Option (PV × PV)} {ex : Slots → Res (List PV)}
@[simp] theorem mutB_s {p : Nat × List Stp} : mutB p ex gx e (some xs) = updM p (gx xs) e := (rfl)
@[simp] theorem mutB_n {p : Nat × List Stp} : mutB p ex gx e none = lockM p ex (fun ys e => updM p (gx ys) e) e := (rfl)
def mutA (kd : PV → Bool) (cs : List CE) (x : Slots → Res (List PV)) (g : List PV → PV → Option (PV × PV)) (e : Slots) : Option (Nat × List Stp) → Res PV
  | none => .stuck
  | some q => if kindM q kd e = true then mutB q x g e (argsP e cs) else .stuck
@[simp] theorem mutM_eq : mutM kd a cs ex gx e = mutA kd cs ex gx e (pathS e a) := by
  unfold mutM mutA
  cases pathS e a with
  | none => rfl
  | some q =>
    show (if _ then _ else _) = (if _ then _ else _)
    unfold mutB
    cases argsP e cs <;> rfl
@[simp] theorem mutA_s {q : Nat × List Stp} : mutA kd cs ex gx e (some q) = if kindM q kd e = true then mutB q ex gx e (argsP e cs) else .stuck := (rfl)
@[simp] theorem freshM_eq {xp : Slots → Res PV} {xa : Slots → Res (List PV)} : freshM kd cs xa xp gx e = (xp e).bind fun x e => if kd x = true then frE2 xa gx x e (argsP e cs) else .stuck := (rfl)
@[simp] theorem frE2_s {xa : Slots → Res (List PV)} : frE2 xa gx x e (some ys) = frE gx x e (some ys) := (rfl)
@[simp] theorem frE2_n {xa : Slots → Res (List PV)} : frE2 xa gx x e none = (xa e).bind fun ys e => ofO ((gx ys x).map (·.1)) e := (rfl)
@[simp] theorem frE_s : frE gx x e (some xs) = ofO ((gx xs x).map (·.1)) e := (rfl)
@[simp] theorem tupM_ix : tupM kd (.ix (.var i) b) cs gx e = tpI i kd gx e (argsP e cs) (slot e i) (evQ e b) := (rfl)
@[simp] theorem tpI_s {o : Option (List PV)} : tpI i kd gx e o (some (.tup xs)) (some (.int p)) = tpN i xs kd gx e o (ixN xs.length p) := (rfl)
def tpX (i : Nat) (xs : List PV) (kd : PV → Bool) (g : List PV → PV → Option (PV × PV)) (e : Slots) (a : Option (List PV)) (n : Nat) : Option PV → Res PV
  | some x => match a with
    | some ys => if kd x = true then tpU i n xs e (g ys x) else .stuck
    | none => .stuck
  | none => .stuck
@[simp] theorem tpN_s {o : Option (List PV)} {n : Nat} : tpN i xs kd gx e o (some n) = tpX i xs kd gx e o n xs[n]? := by
  unfold tpN tpX
  dsimp only
  cases xs[n]? <;> cases o <;> rfl
@[simp] theorem tpX_s {n : Nat} : tpX i xs kd gx e (some ys) n (some x) = if kd x = true then tpU i n xs e (gx ys x) else .stuck := (rfl)
@[simp] theorem tpU_s {n : Nat} : tpU i n xs e (some (x, y)) = .ok x (e.set i (some (.tup (xs.set n y)))) := (rfl)
def kindA (kd : PV → Bool) : Option PV → Bool
  | some x => kd x
  | none => false
@[simp] theorem kindA_s : kindA kd (some x) = kd x := (rfl)
@[simp] theorem kindM_eq : kindM (i, l) kd e = kindA kd ((slot e i).bind (getS l)) := by unfold kindM kindA; rfl
@[simp] theorem bmList_append : bmList .append = true := (rfl)
@[simp] theorem bmZero_append : bmZero .append = false := (rfl)
@[simp] theorem bmList_clear : bmList .clear = true := (rfl)
@[simp] theorem bmZero_clear : bmZero .clear = true := (rfl)
@[simp] theorem bmList_pop0 : bmList .pop0 = true := (rfl)
@[simp] theorem bmZero_pop0 : bmZero .pop0 = true := (rfl)
@[simp] theorem bmList_pop1 : bmList .pop1 = true := (rfl)
@[simp] theorem bmZero_pop1 : bmZero .pop1 = false := (rfl)
@[simp] theorem bmList_insert : bmList .insert = true := (rfl)
@[simp] theorem bmZero_insert : bmZero .insert = false := (rfl)
@[simp] theorem bmList_removeI : bmList .removeI = true := (rfl)
@[simp] theorem bmZero_removeI : bmZero .removeI = false := (rfl)
@[simp] theorem bmList_reverse : bmList .reverse = true := (rfl)
@[simp] theorem bmZero_reverse : bmZero .reverse = true := (rfl)
@[simp] theorem bmList_extend : bmList .extend = true := (rfl)
@[simp] theorem bmZero_extend : bmZero .extend = false := (rfl)
/-! targets, walks -/
@[simp] theorem setsM_nil : setsM [] [] e = some e := (rfl)
variable {is : List Nat}
@[simp] theorem setsM_cons : setsM (i :: is) (x :: xs) e = setsM is xs (e.set i (some x)) := (rfl)
@[simp] theorem takeM_1 : takeM [i] x e = some (e.set i (some x)) := (rfl)
@[simp] theorem takeM_2 : takeM (i :: j :: is) (.tup xs) e = setsM (i :: j :: is) xs e := (rfl)
@[simp] theorem killM_nil : killM [] e = e := (rfl)
@[simp] theorem killM_cons : killM (i :: is) e = killM is (e.set i none) := (rfl)
variable {e0 : Slots}
@[simp] theorem keepM_nil : keepM [] e0 e = e := (rfl)
@[simp] theorem keepM_cons : keepM (i :: is) e0 e = keepM is e0 (e.set i (slot e0 i)) := (rfl)
@[simp] theorem disj_eq {a b : List Nat} : disj a b = a.all fun i => decide (i ∉ b) := (rfl)
@[simp] theorem nodupB_nil : nodupB [] = true := (rfl)
@[simp] theorem nodupB_cons : nodupB (i :: is) = (decide (i ∉ is) && nodupB is) := (rfl)
@[simp] theorem lentsM_nil : lentsM [] = [] := (rfl)
@[simp] theorem lentsM_n : lentsM ((x, none) :: as) = lentsM as := (rfl)
@[simp] theorem lentsM_s : lentsM ((x, some i) :: as) = i :: lentsM as := (rfl)
@[simp] theorem ownersM_nil : ownersM [] e = e := by unfold ownersM; simp
@[simp] theorem ownersM_n : ownersM ((x, none) :: as) e = ownersM as e := (rfl)
@[simp] theorem ownersM_s : ownersM ((x, some i) :: as) e = ownersM as (e.set i (some x)) := (rfl)
@[simp] theorem ownersR_ok {fl : Fl} : ownersR as (.ok fl e) = .ok fl (ownersM as e) := (rfl)
@[simp] theorem ownersR_exc : ownersR as (.exc s e) = .exc s (ownersM as e) := (rfl)
@[simp] theorem ownersR_nil {r : Res Fl} : ownersR [] r = r := by cases r <;> simp [ownersR]
@[simp] theorem ownersR_n {r : Res Fl} : ownersR ((x, none) :: as) r = ownersR as r := by cases r <;> rfl
@[simp] theorem ownersR_ite {r r2 : Res Fl} {P : Prop} [Decidable P] : ownersR as (if P then r else r2) = if P then ownersR as r else ownersR as r2 := by split <;> rfl
@[simp] theorem seqQ_lst (h : isFs xs = true) : seqQ (.lst o xs) = some xs := by show (if _ then _ else _) = _; rw [if_pos h]
@[simp] theorem seqQ_scr : seqQ (.scr ns) = some (ns.map .int) := (rfl)
@[simp] theorem iterQ_lst : iterQ .lst [x] = seqQ x := (rfl)
@[simp] theorem iterQ_tup (h : isFs xs = true) : iterQ .tup [.tup xs] = some xs := by show (if _ then _ else _) = _; rw [if_pos h]
@[simp] theorem iterQ_rng1 : iterQ .rng1 [.int p] = rngQ 0 p := (rfl)
@[simp] theorem iterQ_rng2 : iterQ .rng2 [.int p, .int q] = rngQ p q := (rfl)
@[simp] theorem iterQ_enum : iterQ .enum [x] = (seqQ x).map enumL := (rfl)
@[simp] theorem iterQ_zip : iterQ .zip [x, y] = (seqQ x).bind fun xs => (seqQ y).map fun ys => zipL xs ys := (rfl)
@[simp] theorem iterQ_rrg : iterQ .rrg [.int p] = (rngQ 0 p).map List.reverse := (rfl)
@[simp] theorem iterQ_rev : iterQ .rev [x] = (seqQ x).map List.reverse := (rfl)
@[simp] theorem rngQ_ok (h1 : -4611686018427387904 ≤ p) (h2 : p < 4611686018427387904) (h3 : -4611686018427387904 ≤ q) (h4 : q < 4611686018427387904) : rngQ p q = some ((rangeL p q).map .int) := by
  unfold rngQ; rw [if_pos ⟨h1, h2, h3, h4⟩]
theorem enumL_go {α : Type} {g : α → PV} : ∀ {l : List α} {n : Nat}, ((l.map g).zipIdx n).map (fun p => PV.tup [.int p.2, p.1]) = (enumF (n : Int) l).map fun p => .tup [.int p.2, g p.1]
  | [], _ => rfl
  | x :: l, n => by
    have ih := enumL_go (g := g) (l := l) (n := n + 1)
    simp only [List.map_cons, List.zipIdx_cons, enumF, ih]
    rfl
@[simp] theorem enumL_map {α : Type} {g : α → PV} {l : List α} : enumL (l.map g) = (enumF 0 l).map fun p => .tup [.int p.2, g p.1] := enumL_go (n := 0)
theorem enumF_mem {α : Type} : ∀ {l : List α} {k : Int} {p : α × Int}, p ∈ enumF k l → k ≤ p.2 ∧ p.2 < k + l.length ∧ p.1 ∈ l
  | [], _, _, h => by cases h
  | x :: l, k, p, h => by
    rcases List.mem_cons.mp h with rfl | h
    · refine ⟨Int.le_refl _, ?_, List.mem_cons_self ..⟩
      simp only [List.length_cons]; omega
    · obtain ⟨h1, h2, h3⟩ := enumF_mem h
      refine ⟨by omega, ?_, List.mem_cons_of_mem _ h3⟩
      simp only [List.length_cons]; omega
@[simp] theorem enumF_nil {α : Type} {k : Int} : enumF k ([] : List α) = [] := (rfl)
@[simp] theorem enumF_cons {α : Type} {k : Int} {x : α} {l : List α} : enumF k (x :: l) = (x, k) :: enumF (k + 1) l := (rfl)
@[simp] theorem enumF_len {α : Type} : ∀ {l : List α} {k : Int}, (enumF k l).length = l.length
  | [], _ => rfl
  | _ :: _, _ => congrArg (· + 1) enumF_len
@[simp] theorem zipL_map {α β : Type} {g : α → PV} {g2 : β → PV} {l : List α} {l2 : List β} : zipL (l.map g) (l2.map g2) = (l.zip l2).map fun p => .tup [g p.1, g2 p.2] := by
  unfold zipL
  rw [List.zip_map, List.map_map]
  rfl
/-! statements -/
@[simp] theorem tst_ok' (h : tOk c = true) : tstM c e = one c (evX c) e fun x e => ofO ((boolQ x).map .bl) e := by unfold tstM; rw [if_pos h]
@[simp] theorem opM_eq : opM c e = one c (evX c) e fun x e => .ok x e := (rfl)
variable {body b1 b2 rest : List CS} {st : CS}
@[simp] theorem evB_nil : evB [] e = .ok .nxt e := (rfl)
@[simp] theorem evB_cons : evB (st :: rest) e = seqM (evS st e) (evB rest) := (rfl)
@[simp] theorem evS_pass : evS .pass e = .ok .nxt e := (rfl)
@[simp] theorem evS_asg : evS (.asg i c) e = (valM c (evX c) e).bind fun x e => .ok .nxt (e.set i (some x)) := (rfl)
def setO : Option Slots → Res Fl
  | none => .stuck
  | some e => .ok .nxt e
@[simp] theorem setO_s : setO (some e) = .ok .nxt e := (rfl)
def unpA (is : List Nat) (x : PV) (e : Slots) : Res Fl := match x with
  | .tup xs => setO (setsM is xs e)
  | _ => .stuck
@[simp] theorem unpA_tup : unpA is (.tup xs) e = setO (setsM is xs e) := (rfl)
def unpB (is : List Nat) (x : PV) (e : Slots) : Res Fl := match x with
  | .lst true xs => setO (setsM is xs e)
  | _ => .stuck
@[simp] theorem unpB_lst : unpB is (.lst true xs) e = setO (setsM is xs e) := (rfl)
@[simp] theorem evS_unpL : evS (.unpL is c) e = (valM c (evX c) e).bind fun x e => unpB is x e := by
  show ((valM c (evX c) e).bind fun x e => _) = _
  congr 1 <;> (funext x e; unfold unpB setO; cases x <;> first | rfl | (rename_i o _; cases o <;> rfl))
@[simp] theorem evS_unp : evS (.unp is c) e = (valM c (evX c) e).bind fun x e => unpA is x e := by
  show ((valM c (evX c) e).bind fun x e => _) = _
  congr 1 <;> (funext x e; unfold unpA setO; cases x <;> try rfl)
def sixA (x : PV) (e : Slots) : Option (Nat × List Stp) → Option PV → Res Fl
  | some p, some (.int j) => (updM p (setLX j x) e).bind fun _ e => .ok .nxt e
  | _, _ => .stuck
variable {pp : Nat × List Stp}
@[simp] theorem sixA_s : sixA x e (some pp) (some (.int p)) = (updM pp (setLX p x) e).bind fun _ e => .ok .nxt e := (rfl)
@[simp] theorem evS_setIx (h : pu b = true) : evS (.setIx a b c) e = (valM c (evX c) e).bind fun x e => sixA x e (pathS e a) (evQ e b) := by
  show ((valM c (evX c) e).bind fun x e => if pu b = true then _ else _) = _
  congr 1
  funext x e
  rw [if_pos h]
  try rfl
def sdA (x : PV) (e : Slots) : Option (Nat × List Stp) → Option PV → Res Fl
  | some p, some k => (updM p (setDX k x) e).bind fun _ e => .ok .nxt e
  | _, _ => .stuck
@[simp] theorem sdA_s : sdA x e (some pp) (some y) = (updM pp (setDX y x) e).bind fun _ e => .ok .nxt e := (rfl)
@[simp] theorem evS_setD (h : pu b = true) : evS (.setD a b c) e = (valM c (evX c) e).bind fun x e => sdA x e (pathS e a) (evQ e b) := by
  show ((valM c (evX c) e).bind fun x e => if pu b = true then _ else _) = _
  congr 1
  funext x e
  rw [if_pos h]
  try rfl
def fldAA (s : Str) (x : PV) (e : Slots) : Option (Nat × List Stp) → Res Fl
  | some p => (updM p (fldX s x) e).bind fun _ e => .ok .nxt e
  | none => .stuck
@[simp] theorem fldAA_s : fldAA s x e (some pp) = (updM pp (fldX s x) e).bind fun _ e => .ok .nxt e := (rfl)
@[simp] theorem evS_fldA : evS (.fldA a s c) e = (valM c (evX c) e).bind fun x e => fldAA s x e (pathS e a) := by
  show ((valM c (evX c) e).bind fun x e => _) = _
  congr 1 <;> (funext x e; unfold fldAA; try rfl)
def augB (i : Nat) (n : Int) (x : PV) (e : Slots) : Res Fl := match x with
  | .int m => .ok .nxt (e.set i (some (.int (n + m))))
  | _ => .stuck
@[simp] theorem augB_i : augB i p (.int q) e = .ok .nxt (e.set i (some (.int (p + q)))) := (rfl)
def augA (i : Nat) (c : CE) (e : Slots) : Option PV → Res Fl
  | some (.int n) => (opM c e).bind fun x e => augB i n x e
  | _ => .stuck
@[simp] theorem augA_s : augA i c e (some (.int p)) = (opM c e).bind fun x e => augB i p x e := (rfl)
@[simp] theorem evS_aug : evS (.aug i c) e = augA i c e (slot e i) := by
  show (match slot e i with | some (.int n) => _ | _ => _) = _
  unfold augA augB
  cases slot e i with
  | none => rfl
  | some v => cases v <;> rfl
def aixB (pp : Nat × List Stp) (j m : Int) (e : Slots) : Option PV → Res Fl
  | some (.int n) => (updM pp (setLX j (.int (n + m))) e).bind fun _ e => .ok .nxt e
  | _ => .stuck
@[simp] theorem aixB_s {m : Int} : aixB pp p m e (some (.int q)) = (updM pp (setLX p (.int (q + m))) e).bind fun _ e => .ok .nxt e := (rfl)
def aixA (e : Slots) : Option (Nat × List Stp) → Option PV → Option PV → Res Fl
  | some pp, some (.int j), some (.int m) => if 0 ≤ j then aixB pp j m e (((slot e pp.1).bind (getS pp.2)).bind fun x => ixQ x (.int j)) else .stuck
  | _, _, _ => .stuck
@[simp] theorem aixA_s : aixA e (some pp) (some (.int p)) (some (.int q)) = if 0 ≤ p then aixB pp p q e (((slot e pp.1).bind (getS pp.2)).bind fun x => ixQ x (.int p)) else .stuck := (rfl)
@[simp] theorem evS_augIx (h1 : pu b = true) (h2 : pu c = true) : evS (.augIx a b c) e = aixA e (pathS e a) (evQ e b) (evQ e c) := by
  show (if pu b = true ∧ pu c = true then _ else _) = _
  rw [if_pos ⟨h1, h2⟩]
  unfold aixA aixB
  cases pathS e a with
  | none => rfl
  | some pp => cases evQ e b with
    | none => rfl
    | some x => cases evQ e c with
      | none => cases x <;> rfl
      | some y =>
        cases x <;> cases y <;> first | rfl | skip
        simp only []
        split
        · cases (slot e pp.1).bind (getS pp.2) with
          | none => rfl
          | some z =>
            simp only [Option.bind_some]
            all_goals (cases ixQ z (.int _) <;> first | rfl | (rename_i w; cases w <;> rfl))
        · rfl
@[simp] theorem evS_expr : evS (.expr c) e = (opM c e).bind fun _ e => .ok .nxt e := (rfl)
def iteM (r : Res PV) (f g : Slots → Res Fl) : Res Fl := match r with
  | .ok (.bl true) e => f e
  | .ok (.bl false) e => g e
  | .exc x e => .exc x e
  | _ => .stuck
variable {f1 g1 : Slots → Res Fl}
@[simp] theorem iteM_ok : iteM (.ok (.bl t) e) f1 g1 = if t = true then f1 e else g1 e := by cases t <;> rfl
@[simp] theorem iteM_ite {r r2 : Res PV} {P : Prop} [Decidable P] : iteM (if P then r else r2) f1 g1 = if P then iteM r f1 g1 else iteM r2 f1 g1 := by split <;> rfl
@[simp] theorem evS_ite : evS (.ite c b1 b2) e = iteM (tstM c e) (evB b1) (evB b2) := by
  show ((tstM c e).bind fun t e => _) = _
  cases tstM c e with
  | stuck => rfl
  | exc => rfl
  | ok v e => cases v <;> first | rfl | (rename_i q; cases q <;> rfl)
def forA (kl tg : List Nat) (as : List (PV × Option Nat)) (body : List CS) (e : Slots) : Option (List PV) → Res Fl
  | none => .stuck
  | some items => if disj (lentsM as) (tg ++ asgB body) = true then ownersR as (forL kl tg (evB body) items e) else .stuck
@[simp] theorem forA_s (h : disj (lentsM as) (tg ++ asgB body) = true) : forA kl tg as body e (some xs) = ownersR as (forL kl tg (evB body) xs e) := by
  show (if _ then _ else _) = _; rw [if_pos h]
@[simp] theorem evS_forr : evS (.forr kl tg kk cs body) e = (evXa cs e).bind fun as e => forA kl tg as body e (iterQ kk (as.map (·.1))) := by
  show ((evXa cs e).bind fun as e => _) = _
  congr 1 <;> (funext as e; unfold forA; try rfl)
def swB (o j : CE) (y : PV) (e : Slots) : Option (Nat × List Stp) → Option PV → Res Fl
  | some q, some (.int m) => (updM q (setLX m y) e).bind fun _ e => .ok .nxt e
  | _, _ => .stuck
def swA (o j : CE) (e : Slots) : Option (Nat × List Stp) → Option PV → Option PV → Option PV → Res Fl
  | some p, some (.int k), some x, some y => if isF x = true ∧ isF y = true then (updM p (setLX k x) e).bind fun _ e => swB o j y e (pathS e o) (evQ e j) else .stuck
  | _, _, _, _ => .stuck
@[simp] theorem swA_s {o2 j2 : CE} {q : Nat × List Stp} {y : PV} : swA o2 j2 e (some q) (some (.int p)) (some x) (some y) = if isF x = true ∧ isF y = true then (updM q (setLX p x) e).bind fun _ e => swB o2 j2 y e (pathS e o2) (evQ e j2) else .stuck := (rfl)
@[simp] theorem swB_s {o2 j2 : CE} {q : Nat × List Stp} {y : PV} : swB o2 j2 y e (some q) (some (.int p)) = (updM q (setLX p y) e).bind fun _ e => .ok .nxt e := (rfl)
@[simp] theorem evS_swp {o2 i2 j2 c2 d2 : CE} (h : pu i2 = true) (h2 : pu j2 = true) (h3 : pu c2 = true) (h4 : pu d2 = true) : evS (.swp o2 i2 j2 c2 d2) e = swA o2 j2 e (pathS e o2) (evQ e i2) (evQ e c2) (evQ e d2) := by
  show (if _ then _ else _) = _
  rw [if_pos ⟨h, h2, h3, h4⟩]
  unfold swA swB
  rfl
def fOB (kl : List Nat) (x : Nat) (a : List Nat) (body : Slots → Res Fl) (i : Nat) (l : List Stp) (e : Slots) (root : PV) : Option PV → Res Fl
  | some (.lst true xs) => if i ≠ x ∧ i ∉ a ∧ x ∉ a then
          (forOL kl x body xs (e.set i none)).bind fun zs e => .ok .nxt (e.set i (some (putS l root (.lst true zs)))) else .stuck
  | _ => .stuck
def fOA (kl : List Nat) (x : Nat) (a : List Nat) (body : Slots → Res Fl) (i : Nat) (l : List Stp) (e : Slots) : Option PV → Res Fl
  | none => .stuck
  | some root => fOB kl x a body i l e root (getS l root)
section
variable {x2 : Nat} {al : List Nat} {bd : Slots → Res Fl} {r2 : PV}
@[simp] theorem forOM_s {q : Nat × List Stp} : forOM kl x2 al bd (some q) e = fOA kl x2 al bd q.1 q.2 e (slot e q.1) := by obtain ⟨i, l⟩ := q; unfold forOM fOA fOB; rfl
@[simp] theorem fOA_s : fOA kl x2 al bd i l e (some r2) = fOB kl x2 al bd i l e r2 (getS l r2) := (rfl)
@[simp] theorem fOB_s : fOB kl x2 al bd i l e r2 (some (.lst true xs)) = if i ≠ x2 ∧ i ∉ al ∧ x2 ∉ al then (forOL kl x2 bd xs (e.set i none)).bind fun zs e => .ok .nxt (e.set i (some (putS l r2 (.lst true zs)))) else .stuck := (rfl)
@[simp] theorem evS_forO {o2 : CE} : evS (.forO kl x2 o2 body) e = forOM kl x2 (asgB body) (evB body) (pathS e o2) e := (rfl)
@[simp] theorem asgS_forO {o2 : CE} : asgS (.forO kl x2 o2 body) = x2 :: asgB body := (rfl)
def fZB (kl : List Nat) (x y : Nat) (a : List Nat) (body : Slots → Res Fl) (i : Nat) (l : List Stp) (bs : List PV) (e : Slots) (root : PV) : Option PV → Res Fl
  | some (.lst true xs) => if i ≠ x ∧ i ≠ y ∧ x ≠ y ∧ i ∉ a ∧ x ∉ a then
          (forZL kl x y body xs bs (e.set i none)).bind fun zs e => .ok .nxt (e.set i (some (putS l root (.lst true zs)))) else .stuck
  | _ => .stuck
def fZA (kl : List Nat) (x y : Nat) (a : List Nat) (body : Slots → Res Fl) (i : Nat) (l : List Stp) (bs : List PV) (e : Slots) : Option PV → Res Fl
  | none => .stuck
  | some root => fZB kl x y a body i l bs e root (getS l root)
variable {y2 : Nat} {bs : List PV}
@[simp] theorem forZM_s {q : Nat × List Stp} : forZM kl x2 y2 al bd (some q) (some bs) e = fZA kl x2 y2 al bd q.1 q.2 bs e (slot e q.1) := by obtain ⟨i, l⟩ := q; unfold forZM fZA fZB; rfl
@[simp] theorem fZA_s : fZA kl x2 y2 al bd i l bs e (some r2) = fZB kl x2 y2 al bd i l bs e r2 (getS l r2) := (rfl)
@[simp] theorem fZB_s : fZB kl x2 y2 al bd i l bs e r2 (some (.lst true xs)) = if i ≠ x2 ∧ i ≠ y2 ∧ x2 ≠ y2 ∧ i ∉ al ∧ x2 ∉ al then (forZL kl x2 y2 bd xs bs (e.set i none)).bind fun zs e => .ok .nxt (e.set i (some (putS l r2 (.lst true zs)))) else .stuck := (rfl)
@[simp] theorem frzQ_eq {w : PV} : frzQ w = if isF w = true then seqQ w else none := (rfl)
@[simp] theorem evS_forZ {o2 b2 : CE} : evS (.forZ kl x2 y2 o2 b2 body) e = forZM kl x2 y2 (asgB body) (evB body) (pathS e o2) ((evQ e b2).bind frzQ) e := (rfl)
@[simp] theorem asgS_forZ {o2 b2 : CE} : asgS (.forZ kl x2 y2 o2 b2 body) = x2 :: y2 :: asgB body := (rfl)
/-- a walk that changes nothing -/
theorem forZL_same {E : Slots} {W : Option PV → Slots} (hx : ∀ w, x2 < (W w).length) (hs : ∀ w u, slot ((W w).set x2 (some u)) x2 = some u) (hE : killM kl E = E) (hW : ∀ u w, ((E.set x2 (some u)).set y2 (some w)) = (W (some w)).set x2 (some u)) (hk : ∀ w z, killM kl (((W w).set x2 z).set x2 none) = E) :
    ∀ {ys ws : List PV} {e : Slots}, (∀ p ∈ ys.zip ws, bd ((W (some p.2)).set x2 (some p.1)) = .ok .nxt ((W (some p.2)).set x2 (some p.1))) → killM kl e = E → forZL kl x2 y2 bd ys ws e = .ok ys E
  | [], ws, e, _, h0 => by cases ws <;> (show Res.ok [] (killM kl e) = _; rw [h0])
  | y :: ys, [], e, _, h0 => by show Res.ok _ (killM kl e) = _; rw [h0]
  | y :: ys, w :: ws, e, hb, h0 => by
    show (match bd (((killM kl e).set x2 (some y)).set y2 (some w)) with
      | .ok .nxt e => (match slot e x2 with
        | some z => (forZL kl x2 y2 bd ys ws (e.set x2 none)).bind fun zs e => .ok (z :: zs) e
        | none => .stuck)
      | _ => .stuck) = _
    rw [h0, hW, hb (y, w) (by simp)]
    dsimp only
    rw [hs]
    dsimp only
    rw [forZL_same hx hs hE hW hk (fun p hp => hb p (by simp only [List.zip_cons_cons, List.mem_cons]; exact .inr hp)) (hk _ _)]
    rfl
theorem forOL_map {E : Slots} (step : PV → PV) (hx : x2 < E.length) (hE : ∀ z, killM kl ((E.set x2 z).set x2 none) = E) : ∀ {ys : List PV} {e : Slots}, (∀ y ∈ ys, bd (E.set x2 (some y)) = .ok .nxt (E.set x2 (some (step y)))) → killM kl e = E → forOL kl x2 bd ys e = .ok (ys.map step) E
  | [], e, _, h0 => by show Res.ok [] (killM kl e) = _; rw [h0]; rfl
  | y :: ys, e, hb, h0 => by
    show (match bd ((killM kl e).set x2 (some y)) with
      | .ok .nxt e => (match slot e x2 with
        | some z => (forOL kl x2 bd ys (e.set x2 none)).bind fun zs e => .ok (z :: zs) e
        | none => .stuck)
      | _ => .stuck) = _
    rw [h0, hb y (by simp)]
    have : slot (E.set x2 (some (step y))) x2 = some (step y) := by unfold slot; rw [List.getElem?_set_self hx]; rfl
    dsimp only
    rw [this]
    dsimp only
    rw [forOL_map step hx hE (fun z hz => hb z (by simp [hz])) (hE _)]
    rfl
end
@[simp] theorem evS_whil : evS (.whil kl n c body) e = whilL kl (tstM c) (evB body) n e := (rfl)
@[simp] theorem evS_ret : evS (.ret c) e = (valM c (evX c) e).bind fun x e => .ok (.ret x) e := (rfl)
@[simp] theorem evS_retN : evS .retN e = .ok (.ret .non) e := (rfl)
@[simp] theorem evS_raise : evS (.raise s) e = .exc s e := (rfl)
variable {su : List (Nat × CE)} {s2 : Str} {fl1 : Fl}
@[simp] theorem evS_tryE : evS (.tryE s i b1 su) e = tryM s i su (evB b1 e) := (rfl)
@[simp] theorem tryM_ok : tryM s i su (.ok fl1 e) = .ok fl1 e := (rfl)
@[simp] theorem tryM_exc : tryM s i su (.exc s2 e) = if isE s2 s = true then (if i < e.length then tryN i (suM s2 su (e.set i none)) else .stuck) else .exc s2 e := (rfl)
@[simp] theorem tryN_ok : tryN i (.ok fl1 e) = .ok fl1 (e.set i none) := (rfl)
@[simp] theorem suM_nil : suM s [] e = .ok .nxt e := (rfl)
@[simp] theorem suM_cons : suM s ((i, c) :: su) e = seqM ((valM (subE s c) (evX (subE s c)) e).bind fun x e => .ok .nxt (e.set i (some x))) (suM s su) := (rfl)
@[simp] theorem subE_isi {ty : String} : subE s (.isi a ty) = .bl (isE s (Str.ofString ty)) := (rfl)
@[simp] theorem subE_or : subE s (.or cs) = .or (subEs s cs) := (rfl)
@[simp] theorem subE_tup : subE s (.tup cs) = .tup (subEs s cs) := (rfl)
@[simp] theorem subE_lst : subE s (.lst cs) = .lst (subEs s cs) := (rfl)
@[simp] theorem subE_cat {op : Operator} : subE s (.cat op a b) = .cat op (subE s a) (subE s b) := (rfl)
@[simp] theorem subE_cmp {op : CmpOp} : subE s (.cmp op a b) = .cmp op (subE s a) (subE s b) := (rfl)
@[simp] theorem subE_frz {n : Nat} : subE s (.frz n a) = .frz n (subE s a) := (rfl)
@[simp] theorem subE_var : subE s (.var i) = .var i := (rfl)
@[simp] theorem subE_bl : subE s (.bl t) = .bl t := (rfl)
@[simp] theorem subEs_nil : subEs s [] = [] := (rfl)
@[simp] theorem subEs_cons : subEs s (c :: cs) = subE s c :: subEs s cs := (rfl)
@[simp] theorem asgS_tryE : asgS (.tryE s i b1 su) = asgB b1 ++ (i :: su.map (·.1)) := (rfl)
@[simp] theorem asgB_nil : asgB [] = [] := (rfl)
@[simp] theorem asgB_cons : asgB (st :: rest) = asgS st ++ asgB rest := (rfl)
@[simp] theorem asgS_asg : asgS (.asg i c) = [i] := (rfl)
@[simp] theorem asgS_unp : asgS (.unp is c) = is := (rfl)
@[simp] theorem asgS_unpL : asgS (.unpL is c) = is := (rfl)
@[simp] theorem asgS_aug : asgS (.aug i c) = [i] := (rfl)
@[simp] theorem asgS_ite : asgS (.ite c b1 b2) = asgB b1 ++ asgB b2 := (rfl)
@[simp] theorem asgS_forr : asgS (.forr kl tg kk cs body) = tg ++ asgB body := (rfl)
@[simp] theorem asgS_whil : asgS (.whil kl n c body) = asgB body := (rfl)
@[simp] theorem asgS_pass : asgS .pass = [] := (rfl)
@[simp] theorem asgS_setIx : asgS (.setIx a b c) = [] := (rfl)
@[simp] theorem asgS_swp {a2 a3 : CE} : asgS (.swp a b c a2 a3) = [] := (rfl)
@[simp] theorem asgS_setD : asgS (.setD a b c) = [] := (rfl)
@[simp] theorem asgS_fldA : asgS (.fldA a s c) = [] := (rfl)
@[simp] theorem asgS_augIx : asgS (.augIx a b c) = [] := (rfl)
@[simp] theorem asgS_expr : asgS (.expr c) = [] := (rfl)
@[simp] theorem asgS_ret : asgS (.ret c) = [] := (rfl)
@[simp] theorem asgS_retN : asgS .retN = [] := (rfl)
@[simp] theorem asgS_raise : asgS (.raise s) = [] := (rfl)
def finM (np : Nat) (lost : List Nat) : Res Fl → Res PV
  | .stuck => .stuck
  | .exc x e => .exc x (outM np lost e)
  | .ok .nxt e => .ok .non (outM np lost e)
  | .ok (.ret v) e => .ok v (outM np lost e)
variable {lost : List Nat}
@[simp] theorem finM_exc : finM np lost (.exc s e) = .exc s (outM np lost e) := (rfl)
@[simp] theorem finM_nxt : finM np lost (.ok .nxt e) = .ok .non (outM np lost e) := (rfl)
@[simp] theorem finM_ret : finM np lost (.ok (.ret v) e) = .ok v (outM np lost e) := (rfl)
@[simp] theorem finM_ite {r r2 : Res Fl} {P : Prop} [Decidable P] : finM np lost (if P then r else r2) = if P then finM np lost r else finM np lost r2 := by split <;> rfl
@[simp] theorem outM_eq : outM np lost e = (killM lost e).take np := (rfl)
theorem fnM_eq {ns : Nat} {code : List CS} {as : List PV} (h : as.length = np) : fnM np ns code as = finM np (asgB code) (evB code (as.map some ++ List.replicate (ns - np) none)) := by
  unfold fnM
  rw [if_pos h]
  unfold finM
  rfl
end
/-! ### walks -/
theorem compL_map {α : Type} {tg : List Nat} {cond elt : Slots → Res PV} {item : α → PV} {e : Slots} (p : α → Bool) (g : α → PV) : ∀ {l : List α},
    (∀ x ∈ l, ∃ e1, takeM tg (item x) e = some e1 ∧ cond e1 = .ok (.bl (p x)) e1 ∧ killM tg e1 = e ∧ (p x = true → ∃ e2, elt e1 = .ok (g x) e2 ∧ killM tg e2 = e)) →
    compL tg cond elt (l.map item) e = .ok ((l.filter p).map g) e
  | [], _ => rfl
  | x :: l, h => by
    obtain ⟨e1, h1, h2, h3, h4⟩ := h x (List.mem_cons_self ..)
    have ih := compL_map p g (l := l) fun y hy => h y (List.mem_cons_of_mem _ hy)
    rw [List.map_cons]
    unfold compL
    rw [h1]
    show (match cond e1 with | .ok (.bl true) e => _ | .ok (.bl false) e => _ | _ => _) = _
    rw [h2]
    cases hp : p x with
    | true =>
      obtain ⟨e2, h5, h6⟩ := h4 hp
      show (match elt e1 with | .ok y e => _ | _ => _) = _
      rw [h5]
      show (compL tg cond elt (l.map item) (killM tg e2)).bind _ = _
      rw [h6, ih, List.filter_cons_of_pos hp]
      rfl
    | false =>
      show compL tg cond elt (l.map item) (killM tg e1) = _
      rw [h3, ih, List.filter_cons_of_neg (by rw [hp]; exact Bool.false_ne_true)]
/-- a walk as a fold that may end early -/
def foldE {α σ ρ : Type} (step : α → σ → Except ρ σ) : List α → σ → Except ρ σ
  | [], s => .ok s
  | x :: l, s => match step x s with
    | .error r => .error r
    | .ok s => foldE step l s
theorem forL_fold {α σ ρ : Type} {kl tg : List Nat} {body : Slots → Res Fl} {item : α → PV} (enc : σ → Slots) (step : α → σ → Except ρ σ) (out : ρ → Res Fl) (Inv : List α → σ → Prop)
    (hs : ∀ x l s, Inv (x :: l) s → ∃ e1, takeM tg (item x) (enc s) = some e1 ∧ match step x s with
      | .ok s' => Inv l s' ∧ ∃ e2, body e1 = .ok .nxt e2 ∧ killM kl e2 = enc s'
      | .error r => body e1 = out r ∧ ∀ k, seqM (out r) k = out r) : ∀ {l : List α} {s : σ} {e : Slots}, Inv l s → killM kl e = enc s →
    forL kl tg body (l.map item) e = match foldE step l s with
      | .ok s' => .ok .nxt (enc s')
      | .error r => out r
  | [], s, e, _, h => by show Res.ok Fl.nxt (killM kl e) = _; rw [h]; rfl
  | x :: l, s, e, hi, h => by
    obtain ⟨e1, h1, h2⟩ := hs x l s hi
    rw [List.map_cons]
    unfold forL foldE
    rw [h, h1]
    cases q : step x s with
    | ok s' =>
      rw [q] at h2
      obtain ⟨hi', e2, h3, h4⟩ := h2
      show seqM (body e1) _ = _
      rw [h3, seqM_nxt]
      exact forL_fold enc step out Inv hs hi' h4
    | error r =>
      rw [q] at h2
      show seqM (body e1) _ = _
      rw [h2.1]; exact h2.2 _
/-- a walk that does not end early -/
theorem forL_foldl {α σ : Type} {kl tg : List Nat} {body : Slots → Res Fl} {item : α → PV} (enc : σ → Slots) (step : σ → α → σ) (Inv : List α → σ → Prop)
    (hs : ∀ x l s, Inv (x :: l) s → ∃ e1, takeM tg (item x) (enc s) = some e1 ∧ Inv l (step s x) ∧ ∃ e2, body e1 = .ok .nxt e2 ∧ killM kl e2 = enc (step s x)) : ∀ {l : List α} {s : σ} {e : Slots}, Inv l s → killM kl e = enc s →
    forL kl tg body (l.map item) e = .ok .nxt (enc (l.foldl step s))
  | [], s, e, _, h => by show Res.ok Fl.nxt (killM kl e) = _; rw [h]; rfl
  | x :: l, s, e, hi, h => by
    obtain ⟨e1, h1, hi', e2, h3, h4⟩ := hs x l s hi
    rw [List.map_cons]
    unfold forL
    rw [h, h1]
    show seqM (body e1) _ = _
    rw [h3, seqM_nxt]
    exact forL_foldl enc step Inv hs hi' h4
end Rk

set_option Elab.async false
set_option linter.all false
set_option maxRecDepth 100000
set_option maxHeartbeats 1000000
namespace Rk
open PySem PySem.Spec PyProof.Rows L2
/-! ### walks by a relation -/
theorem forL_rel {α : Type} {kl tg : List Nat} {body : Slots → Res Fl} {item : α → PV} (P : List α → Slots → Prop) (Q : PV → Slots → Prop)
    (hs : ∀ x l e, P (x :: l) e → ∃ e1, takeM tg (item x) e = some e1 ∧ ((∃ e2, body e1 = .ok .nxt e2 ∧ P l (killM kl e2)) ∨ ∃ v e2, body e1 = .ok (.ret v) e2 ∧ Q v e2)) :
    ∀ {l : List α} {e : Slots}, P l (killM kl e) → (∃ e', forL kl tg body (l.map item) e = .ok .nxt e' ∧ P [] e') ∨ ∃ v e', forL kl tg body (l.map item) e = .ok (.ret v) e' ∧ Q v e'
  | [], e, h => .inl ⟨_, rfl, h⟩
  | x :: l, e, h => by
    obtain ⟨e1, h1, h2⟩ := hs x l _ h
    rw [List.map_cons]
    unfold forL
    rw [h1]
    show (∃ e', seqM (body e1) _ = _ ∧ _) ∨ ∃ v e', seqM (body e1) _ = _ ∧ _
    rcases h2 with ⟨e2, h3, h4⟩ | ⟨v, e2, h3, h4⟩
    · rw [h3, seqM_nxt]
      exact forL_rel P Q hs h4
    · rw [h3, seqM_ret]
      exact .inr ⟨v, e2, rfl, h4⟩
/-- that does not end early -/
theorem forL_inv {α : Type} {kl tg : List Nat} {body : Slots → Res Fl} {item : α → PV} (P : List α → Slots → Prop)
    (hs : ∀ x l e, P (x :: l) e → ∃ e1, takeM tg (item x) e = some e1 ∧ ∃ e2, body e1 = .ok .nxt e2 ∧ P l (killM kl e2)) {l : List α} {e : Slots} (h : P l (killM kl e)) :
    ∃ e', forL kl tg body (l.map item) e = .ok .nxt e' ∧ P [] e' := by
  rcases forL_rel P (fun _ _ => False) (fun x l e h => let ⟨e1, h1, e2, h2, h3⟩ := hs x l e h; ⟨e1, h1, .inl ⟨e2, h2, h3⟩⟩) h with h | ⟨_, _, _, h⟩
  · exact h
  · exact h.elim
theorem forL_elim {α : Type} {kl tg : List Nat} {body : Slots → Res Fl} {item : α → PV} {X : Res Fl → Prop} (P : List α → Slots → Prop) (Q : PV → Slots → Prop) {l : List α} {e : Slots}
    (hs : ∀ x l e, P (x :: l) e → ∃ e1, takeM tg (item x) e = some e1 ∧ ((∃ e2, body e1 = .ok .nxt e2 ∧ P l (killM kl e2)) ∨ ∃ v e2, body e1 = .ok (.ret v) e2 ∧ Q v e2))
    (h0 : P l (killM kl e)) (h1 : ∀ e', P [] e' → X (.ok .nxt e')) (h2 : ∀ v e', Q v e' → X (.ok (.ret v) e')) : X (forL kl tg body (l.map item) e) := by
  rcases forL_rel P Q hs h0 with ⟨e', h, hp⟩ | ⟨v, e', h, hq⟩
  · rw [h]; exact h1 e' hp
  · rw [h]; exact h2 v e' hq
theorem forL_elim1 {α : Type} {kl tg : List Nat} {body : Slots → Res Fl} {item : α → PV} {X : Res Fl → Prop} (P : List α → Slots → Prop) {l : List α} {e : Slots}
    (hs : ∀ x l e, P (x :: l) e → ∃ e1, takeM tg (item x) e = some e1 ∧ ∃ e2, body e1 = .ok .nxt e2 ∧ P l (killM kl e2))
    (h0 : P l (killM kl e)) (h1 : ∀ e', P [] e' → X (.ok .nxt e')) : X (forL kl tg body (l.map item) e) := by
  obtain ⟨e', h, hp⟩ := forL_inv P hs h0
  rw [h]; exact h1 e' hp
/-- a run comes to its end, and there Q -/
def exNxt (r : Res Fl) (Q : Slots → Prop) : Prop := ∃ e, r = .ok .nxt e ∧ Q e
@[simp] theorem exNxt_ok {e : Slots} {Q : Slots → Prop} : exNxt (.ok .nxt e) Q = Q e := propext ⟨fun ⟨_, h, q⟩ => by cases h; exact q, fun q => ⟨_, rfl, q⟩⟩
@[simp] theorem exNxt_ite {r r2 : Res Fl} {Q : Slots → Prop} {C : Prop} [Decidable C] : exNxt (if C then r else r2) Q = if C then exNxt r Q else exNxt r2 Q := by split <;> rfl
theorem forL_nxt {α : Type} {kl tg : List Nat} {body : Slots → Res Fl} {item : α → PV} {K : Slots → Res Fl} {R : Slots → Prop} (P : List α → Slots → Prop) {l : List α} {e : Slots}
    (hs : ∀ x l e, P (x :: l) e → ∃ e1, takeM tg (item x) e = some e1 ∧ exNxt (body e1) fun e2 => P l (killM kl e2))
    (h0 : P l (killM kl e)) (h1 : ∀ e', P [] e' → exNxt (K e') R) : exNxt (seqM (forL kl tg body (l.map item) e) K) R := by
  obtain ⟨e', h, hp⟩ := forL_inv P hs h0
  rw [h]; exact h1 e' hp
theorem forL_fin {α : Type} {kl tg : List Nat} {body : Slots → Res Fl} {item : α → PV} {K : Slots → Res Fl} {np : Nat} {lost : List Nat} {R : Res PV} (P : List α → Slots → Prop) {l : List α} {e : Slots}
    (hs : ∀ x l e, P (x :: l) e → ∃ e1, takeM tg (item x) e = some e1 ∧ exNxt (body e1) fun e2 => P l (killM kl e2))
    (h0 : P l (killM kl e)) (h1 : ∀ e', P [] e' → finM np lost (K e') = R) : finM np lost (seqM (forL kl tg body (l.map item) e) K) = R := by
  obtain ⟨e', h, hp⟩ := forL_inv P hs h0
  rw [h]; exact h1 e' hp
theorem forL_ex {α : Type} {kl tg : List Nat} {body : Slots → Res Fl} {item : α → PV} {K : Slots → Res Fl} {np : Nat} {lost : List Nat} {v : PV} (P : List α → Slots → Prop) {l : List α} {e : Slots}
    (hs : ∀ x l e, P (x :: l) e → ∃ e1, takeM tg (item x) e = some e1 ∧ exNxt (body e1) fun e2 => P l (killM kl e2))
    (h0 : P l (killM kl e)) (h1 : ∀ e', P [] e' → ∃ os, finM np lost (K e') = .ok v os) : ∃ os, finM np lost (seqM (forL kl tg body (l.map item) e) K) = .ok v os := by
  obtain ⟨e', h, hp⟩ := forL_inv P hs h0
  rw [h]; exact h1 e' hp
/-! ### over lists that are spelt out -/
section
variable {tg kl : List Nat} {cond elt : Slots → Res PV} {x y : PV} {xs : List PV} {e : Slots} {t : Bool} {body : Slots → Res Fl}
def cmp2 (tg : List Nat) (cond elt : Slots → Res PV) (xs : List PV) : Res PV → Res (List PV)
  | .ok y e => (compL tg cond elt xs (killM tg e)).bind fun ys e => .ok (y :: ys) e
  | _ => .stuck
def cmp1 (tg : List Nat) (cond elt : Slots → Res PV) (xs : List PV) : Res PV → Res (List PV)
  | .ok (.bl true) e => cmp2 tg cond elt xs (elt e)
  | .ok (.bl false) e => compL tg cond elt xs (killM tg e)
  | _ => .stuck
def cmp0 (tg : List Nat) (cond elt : Slots → Res PV) (xs : List PV) : Option Slots → Res (List PV)
  | some e => cmp1 tg cond elt xs (cond e)
  | none => .stuck
@[simp] theorem compL_nil : compL tg cond elt [] e = .ok [] e := (rfl)
@[simp] theorem compL_cons : compL tg cond elt (x :: xs) e = cmp0 tg cond elt xs (takeM tg x e) := by
  rw [compL]
  unfold cmp0
  cases takeM tg x e with
  | none => rfl
  | some e =>
    dsimp only
    rcases hc : cond e with _ | ⟨_, _⟩ | ⟨v, e1⟩
    · rfl
    · rfl
    · cases v <;> rfl
@[simp] theorem cmp0_s : cmp0 tg cond elt xs (some e) = cmp1 tg cond elt xs (cond e) := (rfl)
@[simp] theorem cmp1_t : cmp1 tg cond elt xs (.ok (.bl true) e) = cmp2 tg cond elt xs (elt e) := (rfl)
@[simp] theorem cmp1_f : cmp1 tg cond elt xs (.ok (.bl false) e) = compL tg cond elt xs (killM tg e) := (rfl)
@[simp] theorem cmp2_s : cmp2 tg cond elt xs (.ok y e) = (compL tg cond elt xs (killM tg e)).bind fun ys e => .ok (y :: ys) e := (rfl)
def fr0 (kl tg : List Nat) (body : Slots → Res Fl) (xs : List PV) : Option Slots → Res Fl
  | some e => seqM (body e) (forL kl tg body xs)
  | none => .stuck
@[simp] theorem forL_nl : forL kl tg body [] e = .ok .nxt (killM kl e) := (rfl)
@[simp] theorem forL_cs : forL kl tg body (x :: xs) e = fr0 kl tg body xs (takeM tg x (killM kl e)) := by
  rw [forL]
  unfold fr0
  cases takeM tg x (killM kl e) <;> rfl
@[simp] theorem fr0_s : fr0 kl tg body xs (some e) = seqM (body e) (forL kl tg body xs) := (rfl)
end
@[simp] theorem boolsP_nil : boolsP [] = some [] := (rfl)
@[simp] theorem boolsP_cons {b : Bool} {xs : List PV} : boolsP (.bl b :: xs) = (boolsP xs).map (b :: ·) := (rfl)
/-! ### cuts -/
theorem cutL_to {α : Type} {l : List α} {k : Int} (h : 0 ≤ k) : cutL l none (some k) = l.take k.toNat := by
  obtain ⟨n, rfl⟩ := Int.eq_ofNat_of_zero_le h
  unfold cutL
  rw [HT.sIx_none, HT.sIx_nat]
  simp only [List.drop_zero, Nat.sub_zero, Int.toNat_natCast]
  rcases Nat.le_total n l.length with q | q
  · rw [Nat.min_eq_left q]
  · rw [Nat.min_eq_right q, List.take_of_length_le q, List.take_of_length_le (Nat.le_refl _)]
theorem cutL_from {α : Type} {l : List α} {k : Int} (h : 0 ≤ k) : cutL l (some k) none = l.drop k.toNat := by
  obtain ⟨n, rfl⟩ := Int.eq_ofNat_of_zero_le h
  unfold cutL
  rw [HT.sIx_none, HT.sIx_nat]
  simp only [Int.toNat_natCast]
  rcases Nat.le_total n l.length with q | q
  · rw [Nat.min_eq_left q, List.take_of_length_le (by rw [List.length_drop]; omega)]
  · rw [Nat.min_eq_right q, List.drop_of_length_le q, List.drop_of_length_le (Nat.le_refl _)]; simp
theorem cutL_mid {α : Type} {l : List α} {a b : Int} (h : 0 ≤ a) (h2 : a ≤ b) : cutL l (some a) (some b) = (l.take b.toNat).drop a.toNat := by
  obtain ⟨n, rfl⟩ := Int.eq_ofNat_of_zero_le h
  obtain ⟨m, rfl⟩ := Int.eq_ofNat_of_zero_le (Int.le_trans h h2)
  unfold cutL
  rw [HT.sIx_nat, HT.sIx_nat]
  simp only [Int.toNat_natCast]
  rw [List.drop_take]
  rcases Nat.le_total m l.length with q | q
  · rw [Nat.min_eq_left q, Nat.min_eq_left (by omega)]
  · rcases Nat.le_total n l.length with q2 | q2
    · rw [Nat.min_eq_right q, Nat.min_eq_left q2, List.take_of_length_le (by rw [List.length_drop]; omega), List.take_of_length_le (by rw [List.length_drop]; omega)]
    · rw [Nat.min_eq_right q2, List.drop_of_length_le q2, List.drop_of_length_le (Nat.le_refl _)]; simp
theorem cutL_map2 {α β : Type} {g : α → β} {l : List α} {a b : Option Int} : cutL (l.map g) a b = (cutL l a b).map g := by
  unfold cutL
  rw [List.length_map, List.map_take, List.map_drop]
theorem cutL_len {α : Type} {l : List α} {a b : Option Int} : (cutL l a b).length ≤ l.length := by
  unfold cutL
  rw [List.length_take, List.length_drop]
  omega
theorem cutL_sub {α : Type} {l : List α} {a b : Option Int} {x : α} (h : x ∈ cutL l a b) : x ∈ l := List.mem_of_mem_drop (List.mem_of_mem_take h)
/-! ### dicts -/
section
variable {k g y : PV} {a b : Key}
theorem keyIs_self (h : (keyP k).isSome = true) : keyIsP k k = true := by
  obtain ⟨a, h⟩ := Option.isSome_iff_exists.mp h
  unfold keyIsP; rw [h]; simp
theorem keyIs_trans {k1 k2 k3 : PV} (h : keyIsP k1 k2 = true) : keyIsP k1 k3 = keyIsP k2 k3 := by
  unfold keyIsP at h ⊢
  cases e1 : keyP k1 with
  | none => rw [e1] at h; cases h
  | some a =>
    cases e2 : keyP k2 with
    | none => rw [e1, e2] at h; cases h
    | some b =>
      rw [e1, e2] at h
      have : a = b := of_decide_eq_true h
      rw [this]
@[simp] theorem keyIs_int {i j : Int} : keyIsP (.int i) (.int j) = decide (i = j) := by unfold keyIsP; simp
@[simp] theorem keyIs_str {i j : Str} : keyIsP (.str i) (.str j) = decide (i = j) := by unfold keyIsP; simp
@[simp] theorem lookD_nil {xs : List PV} : lookD [] xs g = none := by unfold lookD; rfl
theorem lookD_cons {ks xs : List PV} {x : PV} : lookD (k :: ks) (x :: xs) g = if keyIsP k g = true then some x else lookD ks xs g := (rfl)
theorem setD_len : ∀ {ks xs : List PV}, ks.length = xs.length → (setD' ks xs k y).length = xs.length
  | [], [], _ => rfl
  | c :: ks, x :: xs, h => by
    have ih := setD_len (ks := ks) (xs := xs) (by simpa using h)
    show (if keyIsP c k = true then y :: setD' ks xs k y else x :: setD' ks xs k y).length = _
    split <;> simp [ih]
theorem lookD_set : ∀ {ks xs : List PV}, ks.length = xs.length → lookD ks (setD' ks xs k y) g = if keyIsP k g = true ∧ (lookD ks xs k).isSome = true then some y else lookD ks xs g
  | [], [], _ => by simp [lookD]
  | c :: ks, x :: xs, h => by
    have ih := lookD_set (ks := ks) (xs := xs) (by simpa using h)
    show lookD (c :: ks) (if keyIsP c k = true then y :: setD' ks xs k y else x :: setD' ks xs k y) g = _
    by_cases q : keyIsP c k = true
    · rw [if_pos q, lookD_cons, lookD_cons, lookD_cons, if_pos q, ih, keyIs_trans q]
      by_cases q2 : keyIsP k g = true
      · simp [q2]
      · simp [q2]
    · rw [if_neg q, lookD_cons, lookD_cons, lookD_cons, if_neg q, ih]
      by_cases q2 : keyIsP c g = true
      · by_cases q3 : keyIsP k g = true
        · exfalso
          apply q
          rw [keyIs_trans q2]
          unfold keyIsP at q3 ⊢
          cases e1 : keyP k <;> cases e2 : keyP g <;> simp_all
        · simp [q2, q3]
      · simp [q2]
theorem lookD_app : ∀ {ks xs : List PV}, ks.length = xs.length → lookD (ks ++ [k]) (xs ++ [y]) g = match lookD ks xs g with | some z => some z | none => if keyIsP k g = true then some y else none
  | [], [], _ => by simp [lookD]
  | c :: ks, x :: xs, h => by
    have ih := lookD_app (ks := ks) (xs := xs) (by simpa using h)
    rw [List.cons_append, List.cons_append, lookD_cons, lookD_cons, ih]
    split <;> rfl
/-- what a dict tells after a change -/
theorem lookD_put {ks xs : List PV} (hl : ks.length = xs.length) (hk : (keyP k).isSome = true) : lookD (putD ks xs k y).1 (putD ks xs k y).2 g = if keyIsP k g = true then some y else lookD ks xs g := by
  unfold putD
  split
  · rename_i q
    rw [lookD_set hl]
    simp [q]
  · rename_i q
    show lookD (ks ++ [k]) (xs ++ [y]) g = _
    rw [lookD_app hl]
    by_cases q2 : keyIsP k g = true
    · have : lookD ks xs g = none := by
        have hc : ∀ {ks xs : List PV}, lookD ks xs k = lookD ks xs g := by
          intro ks
          induction ks with
          | nil => intro xs; simp
          | cons c ks ih =>
            intro xs
            cases xs with
            | nil => rfl
            | cons x xs =>
              rw [lookD_cons, lookD_cons, ih]
              have : keyIsP c k = keyIsP c g := by
                unfold keyIsP at q2 ⊢
                cases e1 : keyP k <;> cases e2 : keyP g <;> cases e3 : keyP c <;> simp_all
              rw [this]
        rw [← hc]
        simpa using q
      rw [this]
    · cases lookD ks xs g <;> simp [q2]
theorem putD_len {ks xs : List PV} (hl : ks.length = xs.length) : (putD ks xs k y).1.length = (putD ks xs k y).2.length := by
  unfold putD
  split
  · show ks.length = (setD' ks xs k y).length; rw [setD_len hl, hl]
  · simp [hl]
theorem putD_le {ks xs : List PV} : (putD ks xs k y).1.length ≤ ks.length + 1 := by
  unfold putD
  split <;> simp
theorem putD_some {ks xs : List PV} (h : (lookD ks xs k).isSome = true) : putD ks xs k y = (ks, setD' ks xs k y) := by unfold putD; rw [if_pos h]
theorem putD_none {ks xs : List PV} (h : lookD ks xs k = none) : putD ks xs k y = (ks ++ [k], xs ++ [y]) := by unfold putD; rw [h]; rfl
theorem setD_isFs : ∀ {ks xs : List PV}, isF y = true → isFs xs = true → isFs (setD' ks xs k y) = true
  | [], [], _, _ => rfl
  | [], _ :: _, _, _ => rfl
  | _ :: _, [], _, _ => rfl
  | c :: ks, x :: xs, hy, h => by
    simp only [isFs_cons, Bool.and_eq_true] at h
    have ih := setD_isFs (ks := ks) hy h.2
    show isFs (if keyIsP c k = true then y :: setD' ks xs k y else x :: setD' ks xs k y) = true
    split <;> simp [hy, h.1, ih]
theorem putD_isFs {ks xs : List PV} (hy : isF y = true) (h : isFs xs = true) : isFs (putD ks xs k y).2 = true := by
  unfold putD
  split
  · exact setD_isFs hy h
  · simp [h, hy]
theorem lookD_drop : ∀ {ks xs : List PV}, ks.length = xs.length → lookD (dropDk ks k) (dropDx ks xs k) g = if keyIsP k g = true then none else lookD ks xs g
  | [], [], _ => by simp [dropDk, dropDx]
  | c :: ks, x :: xs, h => by
    have ih := lookD_drop (ks := ks) (xs := xs) (by simpa using h)
    show lookD (if keyIsP c k = true then dropDk ks k else c :: dropDk ks k) (if keyIsP c k = true then dropDx ks xs k else x :: dropDx ks xs k) g = _
    by_cases q : keyIsP c k = true
    · rw [if_pos q, if_pos q, ih, lookD_cons, keyIs_trans q]
      by_cases q2 : keyIsP k g = true <;> simp [q2]
    · rw [if_neg q, if_neg q, lookD_cons, lookD_cons, ih]
      by_cases q2 : keyIsP c g = true
      · have : ¬ keyIsP k g = true := fun q3 => q (by
          rw [keyIs_trans q2]
          unfold keyIsP at q3 ⊢
          cases e1 : keyP k <;> cases e2 : keyP g <;> simp_all)
        simp [q2, this]
      · simp [q2]
theorem dropD_len : ∀ {ks xs : List PV}, ks.length = xs.length → (dropDk ks k).length = (dropDx ks xs k).length
  | [], [], _ => rfl
  | c :: ks, x :: xs, h => by
    have ih := dropD_len (ks := ks) (xs := xs) (by simpa using h)
    show (if keyIsP c k = true then dropDk ks k else c :: dropDk ks k).length = (if keyIsP c k = true then dropDx ks xs k else x :: dropDx ks xs k).length
    split <;> simp [ih]
theorem dropD_le : ∀ {ks : List PV}, (dropDk ks k).length ≤ ks.length
  | [] => Nat.le_refl _
  | c :: ks => by
    have ih := dropD_le (ks := ks)
    show (if keyIsP c k = true then dropDk ks k else c :: dropDk ks k).length ≤ _
    split
    · simp only [List.length_cons]; omega
    · simp only [List.length_cons]; omega
theorem dropDx_isFs : ∀ {ks xs : List PV}, isFs xs = true → isFs (dropDx ks xs k) = true
  | [], [], _ => rfl
  | [], _ :: _, _ => rfl
  | _ :: _, [], _ => rfl
  | c :: ks, x :: xs, h => by
    simp only [isFs_cons, Bool.and_eq_true] at h
    have ih := dropDx_isFs (ks := ks) h.2
    show isFs (if keyIsP c k = true then dropDx ks xs k else x :: dropDx ks xs k) = true
    split <;> simp [h.1, ih]
theorem setD_all {C : PV → Prop} (hy : C y) : ∀ {ks xs : List PV}, (∀ x ∈ xs, C x) → ∀ x ∈ setD' ks xs k y, C x
  | [], [], _, _, h => by cases h
  | [], _ :: _, _, _, h => by cases h
  | _ :: _, [], _, _, h => by cases h
  | c :: ks, x :: xs, hx, z, h => by
    have h' : z ∈ (if keyIsP c k = true then y :: setD' ks xs k y else x :: setD' ks xs k y) := h
    split at h'
    · rcases List.mem_cons.mp h' with rfl | h'
      · exact hy
      · exact setD_all hy (fun x hm => hx x (List.mem_cons_of_mem _ hm)) z h'
    · rcases List.mem_cons.mp h' with rfl | h'
      · exact hx _ (List.mem_cons_self ..)
      · exact setD_all hy (fun x hm => hx x (List.mem_cons_of_mem _ hm)) z h'
theorem putD_all {C : PV → Prop} {ks xs : List PV} (hy : C y) (h : ∀ x ∈ xs, C x) : ∀ x ∈ (putD ks xs k y).2, C x := by
  unfold putD
  split
  · exact setD_all hy h
  · intro x hx
    rcases List.mem_append.mp hx with hx | hx
    · exact h x hx
    · rw [List.mem_singleton.mp hx]; exact hy
theorem dropD_all {C : PV → Prop} : ∀ {ks xs : List PV}, (∀ x ∈ xs, C x) → ∀ x ∈ dropDx ks xs k, C x
  | [], [], _, _, h => by cases h
  | [], _ :: _, _, _, h => by cases h
  | _ :: _, [], _, _, h => by cases h
  | c :: ks, x :: xs, hx, z, h => by
    have h' : z ∈ (if keyIsP c k = true then dropDx ks xs k else x :: dropDx ks xs k) := h
    split at h'
    · exact dropD_all (fun x hm => hx x (List.mem_cons_of_mem _ hm)) z h'
    · rcases List.mem_cons.mp h' with rfl | h'
      · exact hx _ (List.mem_cons_self ..)
      · exact dropD_all (fun x hm => hx x (List.mem_cons_of_mem _ hm)) z h'
theorem lookD_mem : ∀ {ks xs : List PV}, lookD ks xs g = some y → y ∈ xs
  | [], xs, h => by simp at h
  | _ :: _, [], h => by simp [lookD] at h
  | c :: ks, x :: xs, h => by
    rw [lookD_cons] at h
    split at h
    · cases h; exact List.mem_cons_self ..
    · exact List.mem_cons_of_mem _ (lookD_mem h)
end
@[simp] theorem filtT {α : Type} {l : List α} : l.filter (fun _ => true) = l := by rw [List.filter_eq_self]; exact fun _ _ => rfl
@[simp] theorem pvEqs_ints {l m : List Int} : pvEqs (l.map PV.int) (m.map PV.int) = decide (l = m) := pvEqs_map fun _ _ => pvEq_int_int
@[simp] theorem pvEqs_bls {l m : List Bool} : pvEqs (l.map PV.bl) (m.map PV.bl) = decide (l = m) := pvEqs_map fun _ _ => by cases ‹Bool› <;> cases ‹Bool› <;> rfl
/-! ### ranges, tables -/
theorem rangeL_len {a b : Int} : (rangeL a b).length = (b - a).toNat := by simp [rangeL]
theorem rangeL_get {a b : Int} {j : Nat} (h : j < (b - a).toNat) : (rangeL a b)[j]? = some (a + j) := by
  unfold rangeL
  rw [List.getElem?_map, List.getElem?_range h]; rfl
theorem mem_rangeL {a b i : Int} : i ∈ rangeL a b ↔ a ≤ i ∧ i < b := by
  unfold rangeL
  rw [List.mem_map]
  constructor
  · rintro ⟨j, hj, rfl⟩
    have := List.mem_range.mp hj
    omega
  · intro h
    exact ⟨(i - a).toNat, List.mem_range.mpr (by omega), by omega⟩
/-- a list that tells by the place -/
def tabL {α : Type} (n : Int) (g : Int → α) : List α := (rangeL 0 n).map g
theorem tabL_len {α : Type} {n : Int} {g : Int → α} : (tabL n g).length = n.toNat := by simp [tabL, rangeL_len]
theorem tabL_at {α : Type} {n i : Int} {g : Int → α} (h : 0 ≤ i) (h2 : i < n) : atI (tabL n g) i = some (g i) := by
  rw [atI_nn h]
  unfold tabL
  rw [List.getElem?_map, rangeL_get (by omega)]
  simp only [Option.map_some, Int.zero_add, Int.toNat_of_nonneg h]
theorem tabL_set {α : Type} {n i : Int} {g : Int → α} {y : α} (h : 0 ≤ i) (h2 : i < n) : (tabL n g).set i.toNat y = tabL n fun j => if j = i then y else g j := by
  apply List.ext_getElem?
  intro j
  rw [List.getElem?_set]
  unfold tabL
  by_cases hj : j < n.toNat
  · rw [List.getElem?_map, List.getElem?_map, rangeL_get (by omega)]
    simp only [Option.map_some, Int.zero_add]
    by_cases q : i.toNat = j
    · rw [if_pos q, if_pos (by simp [rangeL_len]; omega), if_pos (by omega)]
    · rw [if_neg q, if_neg (by omega)]
  · have e1 : ∀ f : Int → α, ((rangeL 0 n).map f)[j]? = none := fun f => List.getElem?_eq_none (by simp [rangeL_len]; omega)
    rw [e1, e1, if_neg (by omega)]
theorem tabL_rep {α : Type} {n : Int} {x : α} : (List.replicate n.toNat [x]).flatten = tabL n fun _ => x := by
  unfold tabL rangeL
  rw [List.map_map]
  have : ∀ m : Nat, (List.replicate m [x]).flatten = List.replicate m x := by
    intro m
    induction m with
    | zero => rfl
    | succ m ih => rw [List.replicate_succ, List.flatten_cons, ih, List.replicate_succ]; rfl
  rw [this]
  simp [Function.comp_def, List.map_const']
theorem ixN_tab {n : Nat} {i : Int} (h : 0 ≤ i) (h2 : i < n) : ixN n i = some i.toNat := ixN_nn h h2
theorem atI_some {α : Type} {l : List α} {i : Int} (h : 0 ≤ i) (h2 : i < l.length) : ∃ x, atI l i = some x ∧ x ∈ l := by
  rw [atI_nn h]
  have : i.toNat < l.length := by omega
  exact ⟨l[i.toNat], List.getElem?_eq_getElem this, List.getElem_mem this⟩
end Rk

set_option Elab.async false
set_option linter.all false
set_option maxRecDepth 100000
namespace Sh
open PySem PySem.Spec PyProof.Rows L2 Rk
-- ask_so 0:truth
def c_ask_so : List CS := [
  .ite (.not (.var 0))
    [.raise "NoProgram"]
    []]
def f_ask_so : Fn := fnM 1 1 c_ask_so
-- ask_value 0:value
def c_ask_value : List CS := [
  .expr (.call "ask_so" f_ask_so [(.and [(.cmp .Eq (.blt .len [(.var 0)]) (.int 2)), (.cmp .In (.ix (.var 0) (.int 0)) (.tup [(.str "own"), (.str "number")]))])]),
  .ite (.cmp .Eq (.ix (.var 0) (.int 0)) (.str "own"))
    [.expr (.call "ask_so" f_ask_so [(.chn .LtE .Lt (.int 0) (.ix (.var 0) (.int 1)) (.con "OWNS" (.int 3)))])]
    []]
def f_ask_value : Fn := fnM 1 1 c_ask_value
-- ask_line 0:line 1:many 2:names 3:word
def c_ask_line : List CS := [
  .expr (.call "ask_so" f_ask_so [(.cmp .Gt (.blt .len [(.var 0)]) (.int 0))]),
  .asg 3 (.ix (.var 0) (.int 0)),
  .ite (.cmp .Eq (.var 3) (.str "read"))
    [.expr (.call "ask_so" f_ask_so [(.and [(.cmp .Eq (.blt .len [(.var 0)]) (.int 3)), (.chn .LtE .Lt (.int 0) (.ix (.var 0) (.int 1)) (.con "OWNS" (.int 3))), (.chn .LtE .Lt (.int 0) (.ix (.var 0) (.int 2)) (.var 2))])])]
    [.ite (.cmp .Eq (.var 3) (.str "write"))
        [.expr (.call "ask_so" f_ask_so [(.and [(.cmp .Eq (.blt .len [(.var 0)]) (.int 3)), (.chn .LtE .Lt (.int 0) (.ix (.var 0) (.int 1)) (.var 2))])]),
          .expr (.call "ask_value" f_ask_value [(.ix (.var 0) (.int 2))])]
        [.ite (.cmp .Eq (.var 3) (.str "set"))
            [.expr (.call "ask_so" f_ask_so [(.and [(.cmp .Eq (.blt .len [(.var 0)]) (.int 5)), (.chn .LtE .Lt (.int 0) (.ix (.var 0) (.int 1)) (.con "OWNS" (.int 3))), (.cmp .In (.ix (.var 0) (.int 3)) (.tup [(.str "+"), (.str "-")]))])]),
              .expr (.call "ask_value" f_ask_value [(.ix (.var 0) (.int 2))]),
              .expr (.call "ask_value" f_ask_value [(.ix (.var 0) (.int 4))])]
            [.ite (.cmp .Eq (.var 3) (.str "skip"))
                [.expr (.call "ask_so" f_ask_so [(.and [(.cmp .Eq (.blt .len [(.var 0)]) (.int 5)), (.cmp .In (.ix (.var 0) (.int 2)) (.tup [(.str "=="), (.str "<")])), (.chn .LtE .LtE (.int 0) (.ix (.var 0) (.int 4)) (.con "MOST_LINES" (.int 8)))])]),
                  .expr (.call "ask_value" f_ask_value [(.ix (.var 0) (.int 1))]),
                  .expr (.call "ask_value" f_ask_value [(.ix (.var 0) (.int 3))])]
                [.ite (.cmp .In (.var 3) (.tup [(.str "take"), (.str "give")]))
                    [.expr (.call "ask_so" f_ask_so [(.and [(.cmp .Eq (.blt .len [(.var 0)]) (.int 2)), (.chn .LtE .Lt (.int 0) (.ix (.var 0) (.int 1)) (.con "LOCKS" (.int 3)))])])]
                    [.expr (.call "ask_so" f_ask_so [(.and [(.cmp .In (.var 3) (.tup [(.str "fork"), (.str "wait")])), (.cmp .Eq (.blt .len [(.var 0)]) (.int 2)), (.chn .LtE .Lt (.int 0) (.ix (.var 0) (.int 1)) (.var 1))])])]]]]]]
def f_ask_line : Fn := fnM 3 4 c_ask_line
-- Program_init 0:self 1:values 2:codes 3:lines 4:line
def c_Program_init : List CS := [
  .expr (.call "ask_so" f_ask_so [(.and [(.chn .LtE .LtE (.int 1) (.blt .len [(.var 1)]) (.con "MOST_NAMES" (.int 4))), (.chn .LtE .LtE (.int 1) (.blt .len [(.var 2)]) (.con "MOST_THREADS" (.int 3)))])]),
  .forr [3, 4] [3] .lst [(.var 2)]
    [.expr (.call "ask_so" f_ask_so [(.cmp .LtE (.blt .len [(.var 3)]) (.con "MOST_LINES" (.int 8)))]),
      .forr [4] [4] .lst [(.var 3)]
        [.expr (.call "ask_line" f_ask_line [(.var 4), (.blt .len [(.var 2)]), (.blt .len [(.var 1)])])]],
  .fldA (.var 0) "many" (.blt .len [(.var 2)]),
  .fldA (.var 0) "names" (.blt .len [(.var 1)]),
  .fldA (.var 0) "firsts" (.frz 0 (.blt .lstOf [(.var 1)])),
  .fldA (.var 0) "codes" (.frz 0 (.lc (.blt .lstOf [(.var 3)]) [3] .lst [(.var 2)] []))]
def f_Program_init : Fn := fnM 3 5 c_Program_init
-- Program_first_values 0:self
def c_Program_first_values : List CS := [
  .ret (.blt .lstOf [(.fld (.var 0) "firsts")])]
def f_Program_first_values : Fn := fnM 1 1 c_Program_first_values
-- begin 0:program 1:lines 2:owns 3:awake 4:thread
def c_begin : List CS := [
  .asg 1 (.blt .tupOf [(.cat .Mult (.lst [(.int 0)]) (.fld (.var 0) "many"))]),
  .asg 2 (.blt .tupOf [(.cat .Mult (.lst [(.tup [(.int 0), (.int 0), (.int 0)])]) (.fld (.var 0) "many"))]),
  .asg 3 (.blt .tupOf [(.lc (.cmp .Eq (.var 4) (.int 0)) [4] .rng1 [(.fld (.var 0) "many")] [])]),
  .ret (.tup [(.var 1), (.var 2), (.blt .tupOf [(.meth "Program" (.var 0) "first_values" f_Program_first_values [])]), (.tup [.non, .non, .non]), (.var 3)])]
def f_begin : Fn := fnM 1 5 c_begin
-- Program_line 0:self 1:thread 2:number
def c_Program_line : List CS := [
  .ite (.chn .LtE .Lt (.int 0) (.var 2) (.blt .len [(.ix (.fld (.var 0) "codes") (.var 1))]))
    [.ret (.ix (.ix (.fld (.var 0) "codes") (.var 1)) (.var 2))]
    [],
  .ret .non]
def f_Program_line : Fn := fnM 3 3 c_Program_line
-- next_line 0:program 1:state 2:thread
def c_next_line : List CS := [
  .ret (.meth "Program" (.var 0) "line" f_Program_line [(.var 2), (.ix (.ix (.var 1) (.int 0)) (.var 2))])]
def f_next_line : Fn := fnM 3 3 c_next_line
-- put 0:row 1:at 2:thing
def c_put : List CS := [
  .ret (.cat .Add (.cat .Add (.sl (.var 0) .nop (.var 1)) (.tup [(.var 2)])) (.sl (.var 0) (.bin .Add (.var 1) (.int 1)) .nop))]
def f_put : Fn := fnM 3 3 c_put
-- with_own 0:state 1:thread 2:own 3:number 4:owns
def c_with_own : List CS := [
  .asg 4 (.call "put" f_put [(.ix (.var 0) (.int 1)), (.var 1), (.call "put" f_put [(.ix (.ix (.var 0) (.int 1)) (.var 1)), (.var 2), (.var 3)])]),
  .ret (.tup [(.ix (.var 0) (.int 0)), (.var 4), (.ix (.var 0) (.int 2)), (.ix (.var 0) (.int 3)), (.ix (.var 0) (.int 4))])]
def f_with_own : Fn := fnM 4 5 c_with_own
-- with_value 0:state 1:name 2:number
def c_with_value : List CS := [
  .ret (.tup [(.ix (.var 0) (.int 0)), (.ix (.var 0) (.int 1)), (.call "put" f_put [(.ix (.var 0) (.int 2)), (.var 1), (.var 2)]), (.ix (.var 0) (.int 3)), (.ix (.var 0) (.int 4))])]
def f_with_value : Fn := fnM 3 3 c_with_value
-- value_of 0:state 1:thread 2:value
def c_value_of : List CS := [
  .ite (.cmp .Eq (.ix (.var 2) (.int 0)) (.str "own"))
    [.ret (.ix (.ix (.ix (.var 0) (.int 1)) (.var 1)) (.ix (.var 2) (.int 1)))]
    [],
  .ret (.ix (.var 2) (.int 1))]
def f_value_of : Fn := fnM 3 3 c_value_of
-- summed 0:state 1:thread 2:line 3:one 4:other
def c_summed : List CS := [
  .asg 3 (.call "value_of" f_value_of [(.var 0), (.var 1), (.ix (.var 2) (.int 2))]),
  .asg 4 (.call "value_of" f_value_of [(.var 0), (.var 1), (.ix (.var 2) (.int 4))]),
  .ite (.cmp .Eq (.ix (.var 2) (.int 3)) (.str "+"))
    [.ret (.bin .Add (.var 3) (.var 4))]
    [],
  .ret (.bin .Sub (.var 3) (.var 4))]
def f_summed : Fn := fnM 3 5 c_summed
-- line_done 0:state 1:thread 2:line 3:word 4:lines 5:owns 6:values 7:holders 8:awake
def c_line_done : List CS := [
  .asg 3 (.ix (.var 2) (.int 0)),
  .unp [4, 5, 6, 7, 8] (.var 0),
  .ite (.cmp .Eq (.var 3) (.str "read"))
    [.ret (.call "with_own" f_with_own [(.var 0), (.var 1), (.ix (.var 2) (.int 1)), (.ix (.var 6) (.ix (.var 2) (.int 2)))])]
    [],
  .ite (.cmp .Eq (.var 3) (.str "write"))
    [.ret (.call "with_value" f_with_value [(.var 0), (.ix (.var 2) (.int 1)), (.call "value_of" f_value_of [(.var 0), (.var 1), (.ix (.var 2) (.int 2))])])]
    [],
  .ite (.cmp .Eq (.var 3) (.str "set"))
    [.ret (.call "with_own" f_with_own [(.var 0), (.var 1), (.ix (.var 2) (.int 1)), (.call "summed" f_summed [(.var 0), (.var 1), (.var 2)])])]
    [],
  .ite (.cmp .Eq (.var 3) (.str "take"))
    [.ret (.tup [(.var 4), (.var 5), (.var 6), (.call "put" f_put [(.var 7), (.ix (.var 2) (.int 1)), (.var 1)]), (.var 8)])]
    [],
  .ite (.cmp .Eq (.var 3) (.str "give"))
    [.ret (.tup [(.var 4), (.var 5), (.var 6), (.call "put" f_put [(.var 7), (.ix (.var 2) (.int 1)), .non]), (.var 8)])]
    [],
  .ite (.cmp .Eq (.var 3) (.str "fork"))
    [.ret (.tup [(.var 4), (.var 5), (.var 6), (.var 7), (.call "put" f_put [(.var 8), (.ix (.var 2) (.int 1)), (.bl true)])])]
    [],
  .ret (.var 0)]
def f_line_done : Fn := fnM 3 9 c_line_done
-- left_out 0:state 1:thread 2:line 3:one 4:other
def c_left_out : List CS := [
  .asg 3 (.call "value_of" f_value_of [(.var 0), (.var 1), (.ix (.var 2) (.int 1))]),
  .asg 4 (.call "value_of" f_value_of [(.var 0), (.var 1), (.ix (.var 2) (.int 3))]),
  .ite (.or [(.and [(.cmp .Eq (.ix (.var 2) (.int 2)) (.str "==")), (.cmp .Eq (.var 3) (.var 4))]), (.and [(.cmp .Eq (.ix (.var 2) (.int 2)) (.str "<")), (.cmp .Lt (.var 3) (.var 4))])])
    [.ret (.ix (.var 2) (.int 4))]
    [],
  .ret (.int 0)]
def f_left_out : Fn := fnM 3 5 c_left_out
-- stepped 0:state 1:thread 2:line 3:number
def c_stepped : List CS := [
  .asg 3 (.bin .Add (.ix (.ix (.var 0) (.int 0)) (.var 1)) (.int 1)),
  .ite (.cmp .Eq (.ix (.var 2) (.int 0)) (.str "skip"))
    [.aug 3 (.call "left_out" f_left_out [(.var 0), (.var 1), (.var 2)])]
    [],
  .ret (.tup [(.call "put" f_put [(.ix (.var 0) (.int 0)), (.var 1), (.var 3)]), (.ix (.var 0) (.int 1)), (.ix (.var 0) (.int 2)), (.ix (.var 0) (.int 3)), (.ix (.var 0) (.int 4))])]
def f_stepped : Fn := fnM 3 4 c_stepped
-- ended 0:program 1:state 2:thread
def c_ended : List CS := [
  .ret (.cmp .Is (.call "next_line" f_next_line [(.var 0), (.var 1), (.var 2)]) .non)]
def f_ended : Fn := fnM 3 3 c_ended
-- may_move 0:program 1:state 2:thread 3:line
def c_may_move : List CS := [
  .asg 3 (.call "next_line" f_next_line [(.var 0), (.var 1), (.var 2)]),
  .ite (.or [(.cmp .Is (.var 3) .non), (.not (.ix (.ix (.var 1) (.int 4)) (.var 2)))])
    [.ret (.bl false)]
    [],
  .ite (.cmp .Eq (.ix (.var 3) (.int 0)) (.str "take"))
    [.ret (.cmp .Is (.ix (.ix (.var 1) (.int 3)) (.ix (.var 3) (.int 1))) .non)]
    [],
  .ite (.cmp .Eq (.ix (.var 3) (.int 0)) (.str "give"))
    [.ret (.cmp .Eq (.ix (.ix (.var 1) (.int 3)) (.ix (.var 3) (.int 1))) (.var 2))]
    [],
  .ite (.cmp .Eq (.ix (.var 3) (.int 0)) (.str "fork"))
    [.ret (.not (.ix (.ix (.var 1) (.int 4)) (.ix (.var 3) (.int 1))))]
    [],
  .ite (.cmp .Eq (.ix (.var 3) (.int 0)) (.str "wait"))
    [.ret (.and [(.ix (.ix (.var 1) (.int 4)) (.ix (.var 3) (.int 1))), (.call "ended" f_ended [(.var 0), (.var 1), (.ix (.var 3) (.int 1))])])]
    [],
  .ret (.bl true)]
def f_may_move : Fn := fnM 3 4 c_may_move
-- moved 0:program 1:state 2:thread 3:line
def c_moved : List CS := [
  .ite (.or [(.not (.chn .LtE .Lt (.int 0) (.var 2) (.fld (.var 0) "many"))), (.not (.call "may_move" f_may_move [(.var 0), (.var 1), (.var 2)]))])
    [.raise "NoMove"]
    [],
  .asg 3 (.call "next_line" f_next_line [(.var 0), (.var 1), (.var 2)]),
  .ret (.call "line_done" f_line_done [(.call "stepped" f_stepped [(.var 1), (.var 2), (.var 3)]), (.var 2), (.var 3)])]
def f_moved : Fn := fnM 3 4 c_moved
-- deed_of 0:program 1:state 2:thread 3:line
def c_deed_of : List CS := [
  .asg 3 (.call "next_line" f_next_line [(.var 0), (.var 1), (.var 2)]),
  .ite (.cmp .Eq (.ix (.var 3) (.int 0)) (.str "read"))
    [.ret (.tup [(.var 2), (.str "read"), (.ix (.var 3) (.int 2))])]
    [],
  .ite (.cmp .In (.ix (.var 3) (.int 0)) (.tup [(.str "write"), (.str "take"), (.str "give"), (.str "fork"), (.str "wait")]))
    [.ret (.tup [(.var 2), (.ix (.var 3) (.int 0)), (.ix (.var 3) (.int 1))])]
    [],
  .ret .non]
def f_deed_of : Fn := fnM 3 4 c_deed_of
-- run 0:program 1:schedule 2:state 3:deeds 4:thread 5:behind 6:deed
def c_run : List CS := [
  .asg 2 (.call "begin" f_begin [(.var 0)]),
  .asg 3 (.lst []),
  .forr [4, 5, 6] [4] .lst [(.var 1)]
    [.asg 5 (.call "moved" f_moved [(.var 0), (.var 2), (.var 4)]),
      .asg 6 (.call "deed_of" f_deed_of [(.var 0), (.var 2), (.var 4)]),
      .ite (.cmp .IsNot (.var 6) .non)
        [.expr (.bm .append (.var 3) [(.var 6)])]
        [],
      .asg 2 (.var 5)],
  .ret (.tup [(.var 2), (.mov 3)])]
def f_run : Fn := fnM 2 7 c_run
-- movers 0:program 1:state 2:thread
def c_movers : List CS := [
  .ret (.lc (.var 2) [2] .rng1 [(.fld (.var 0) "many")] [(.call "may_move" Sh.f_may_move [(.var 0), (.var 1), (.var 2)])])]
def f_movers : Fn := fnM 2 3 c_movers
-- Program_code 0:self 1:thread
def c_Program_code : List CS := [
  .ret (.blt .lstOf [(.ix (.fld (.var 0) "codes") (.var 1))])]
def f_Program_code : Fn := fnM 2 2 c_Program_code
end Sh

set_option Elab.async false
set_option linter.all false
set_option maxRecDepth 100000
namespace Sh
open PySem PySem.Spec PyProof.Rows L2 Rk
-- l_cell_at 0:_law_script 1:_law_k
def c_l_cell_at : List CS := [
  .ite (.cmp .Lt (.var 1) (.blt .len [(.var 0)]))
    [.ret (.ix (.var 0) (.var 1))]
    [],
  .ret (.int 0)]
def f_l_cell_at : Fn := fnM 2 2 c_l_cell_at
-- l_value 0:_law_number
def c_l_value : List CS := [
  .ite (.cmp .Eq (.bin .Mod (.var 0) (.int 3)) (.int 0))
    [.ret (.tup [(.str "own"), (.bin .Mod (.bin .FloorDiv (.var 0) (.int 3)) (.int 3))])]
    [],
  .ite (.cmp .Eq (.bin .Mod (.var 0) (.int 3)) (.int 1))
    [.ret (.tup [(.str "number"), (.bin .Sub (.bin .Mod (.bin .FloorDiv (.var 0) (.int 3)) (.int 5)) (.int 1))])]
    [],
  .ret (.tup [(.str "number"), (.bin .Sub (.bin .Mod (.bin .FloorDiv (.var 0) (.int 3)) (.bin .Sub (.bin .Mult (.int 2) (.bin .Pow (.int 10) (.int 60))) (.int 1))) (.bin .Sub (.bin .Pow (.int 10) (.int 60)) (.int 1)))])]
def f_l_value : Fn := fnM 1 1 c_l_value
-- l_line 0:_law_cell 1:_law_many 2:_law_size 3:_law_kind 4:_law_number 5:_law_sign 6:_law_test
def c_l_line : List CS := [
  .asg 3 (.bin .Mod (.var 0) (.int 10)),
  .asg 4 (.bin .FloorDiv (.var 0) (.int 10)),
  .ite (.cmp .Lt (.var 3) (.int 2))
    [.ret (.tup [(.str "read"), (.bin .Mod (.var 4) (.int 3)), (.bin .Mod (.bin .FloorDiv (.var 4) (.int 3)) (.var 2))])]
    [],
  .ite (.cmp .Lt (.var 3) (.int 4))
    [.ret (.tup [(.str "write"), (.bin .Mod (.var 4) (.var 2)), (.call "_law_value" f_l_value [(.bin .FloorDiv (.var 4) (.var 2))])])]
    [],
  .ite (.cmp .Eq (.var 3) (.int 4))
    [.asg 5 (.ix (.lst [(.str "+"), (.str "-")]) (.bin .Mod (.var 4) (.int 2))),
      .ret (.tup [(.str "set"), (.bin .Mod (.bin .FloorDiv (.var 4) (.int 2)) (.int 3)), (.call "_law_value" f_l_value [(.bin .FloorDiv (.var 4) (.int 6))]), (.var 5), (.call "_law_value" f_l_value [(.bin .FloorDiv (.var 4) (.int 97))])])]
    [],
  .ite (.cmp .Eq (.var 3) (.int 5))
    [.asg 6 (.ix (.lst [(.str "=="), (.str "<")]) (.bin .Mod (.var 4) (.int 2))),
      .ret (.tup [(.str "skip"), (.call "_law_value" f_l_value [(.bin .FloorDiv (.var 4) (.int 18))]), (.var 6), (.call "_law_value" f_l_value [(.bin .FloorDiv (.var 4) (.int 211))]), (.bin .Mod (.bin .FloorDiv (.var 4) (.int 2)) (.int 9))])]
    [],
  .ite (.cmp .Lt (.var 3) (.int 8))
    [.ret (.tup [(.ix (.lst [(.str "take"), (.str "give")]) (.bin .Sub (.var 3) (.int 6))), (.bin .Mod (.var 4) (.int 3))])]
    [],
  .ret (.tup [(.ix (.lst [(.str "fork"), (.str "wait")]) (.bin .Sub (.var 3) (.int 8))), (.bin .Mod (.var 4) (.var 1))])]
def f_l_line : Fn := fnM 3 7 c_l_line
-- l_codes 0:_law_script 1:_law_many 2:_law_size 3:_law_codes_here 4:_law_at 5:_law_thread 6:_law_lines 7:_law_k 8:_law_other
def c_l_codes : List CS := [
  .asg 3 (.lst []),
  .asg 4 (.int 8),
  .forr [5, 6, 8, 7] [5] .rng1 [(.var 1)]
    [.asg 6 (.lst []),
      .ite (.and [(.cmp .Eq (.var 5) (.int 0)), (.cmp .Gt (.bin .Mod (.call "_law_cell_at" f_l_cell_at [(.var 0), (.int 1)]) (.int 4)) (.int 0))])
        [.asg 6 (.lc (.tup [(.str "fork"), (.var 8)]) [8] .rng2 [(.int 1), (.var 1)] [])]
        [],
      .forr [7] [7] .rng1 [(.bin .Mod (.call "_law_cell_at" f_l_cell_at [(.var 0), (.bin .Add (.int 2) (.var 5))]) (.int 9))]
        [.expr (.bm .append (.var 6) [(.call "_law_line" f_l_line [(.call "_law_cell_at" f_l_cell_at [(.var 0), (.var 4)]), (.var 1), (.var 2)])]),
          .aug 4 (.int 1)],
      .expr (.bm .append (.var 3) [(.frz 0 (.sl (.var 6) .nop (.int 8)))])],
  .ret (.mov 3)]
def f_l_codes : Fn := fnM 3 9 c_l_codes
-- l_firsts 0:_law_script 1:_law_size 2:_law_k
def c_l_firsts : List CS := [
  .ret (.lc (.ix (.call "_law_value" f_l_value [(.bin .Add (.bin .Add (.bin .Mult (.int 3) (.call "_law_cell_at" f_l_cell_at [(.var 0), (.bin .Add (.int 4) (.var 2))])) (.int 1)) (.bin .Mod (.var 2) (.int 2)))]) (.int 1)) [2] .rng1 [(.var 1)] [])]
def f_l_firsts : Fn := fnM 2 3 c_l_firsts
-- l_may 0:_law_codes_here 1:_law_state 2:_law_thread 3:_law_row 4:_law_lines 5:_law_owns 6:_law_values 7:_law_holders 8:_law_awake
def c_l_may : List CS := [
  .unp [4, 5, 6, 7, 8] (.var 1),
  .ite (.or [(.not (.ix (.var 8) (.var 2))), (.cmp .GtE (.ix (.var 4) (.var 2)) (.blt .len [(.ix (.var 0) (.var 2))]))])
    [.ret (.bl false)]
    [],
  .asg 3 (.ix (.ix (.var 0) (.var 2)) (.ix (.var 4) (.var 2))),
  .ite (.cmp .Eq (.ix (.var 3) (.int 0)) (.str "take"))
    [.ret (.cmp .Is (.ix (.var 7) (.ix (.var 3) (.int 1))) .non)]
    [],
  .ite (.cmp .Eq (.ix (.var 3) (.int 0)) (.str "give"))
    [.ret (.cmp .Eq (.ix (.var 7) (.ix (.var 3) (.int 1))) (.var 2))]
    [],
  .ite (.cmp .Eq (.ix (.var 3) (.int 0)) (.str "fork"))
    [.ret (.not (.ix (.var 8) (.ix (.var 3) (.int 1))))]
    [],
  .ite (.cmp .Eq (.ix (.var 3) (.int 0)) (.str "wait"))
    [.ret (.and [(.ix (.var 8) (.ix (.var 3) (.int 1))), (.cmp .GtE (.ix (.var 4) (.ix (.var 3) (.int 1))) (.blt .len [(.ix (.var 0) (.ix (.var 3) (.int 1)))]))])]
    [],
  .ret (.bl true)]
def f_l_may : Fn := fnM 3 9 c_l_may
-- l_whole 0:_law_found
def c_l_whole : List CS := [
  .ret (.and [(.isi (.var 0) "int"), (.not (.isi (.var 0) "bool"))])]
def f_l_whole : Fn := fnM 1 1 c_l_whole
end Sh

set_option Elab.async false
set_option linter.all false
set_option maxRecDepth 100000
namespace Sr
open PySem PySem.Spec PyProof.Rows L2 Rk
-- Watch_init 0:self 1:many 2:thread
def c_Watch_init : List CS := [
  .fldA (.var 0) "awake" (.lc (.cmp .Eq (.var 2) (.int 0)) [2] .rng1 [(.var 1)] []),
  .fldA (.var 0) "past" (.cat .Mult (.lst [(.bl false)]) (.var 1)),
  .fldA (.var 0) "holders" (.dct false)]
def f_Watch_init : Fn := fnM 2 3 c_Watch_init
-- form_fault 0:many 1:deed 2:thread 3:word 4:thing
def c_form_fault : List CS := [
  .unp [2, 3, 4] (.var 1),
  .ite (.not (.chn .LtE .Lt (.int 0) (.var 2) (.var 0)))
    [.ret (.str "thread")]
    [],
  .ite (.cmp .NotIn (.var 3) (.con "WORDS" (.tup [.str "read", .str "write", .str "take", .str "give", .str "fork", .str "wait"])))
    [.ret (.str "word")]
    [],
  .ite (.or [(.cmp .Lt (.var 4) (.int 0)), (.and [(.cmp .In (.var 3) (.tup [(.str "fork"), (.str "wait")])), (.cmp .GtE (.var 4) (.var 0))])])
    [.ret (.str "thing")]
    [],
  .ret .non]
def f_form_fault : Fn := fnM 2 5 c_form_fault
-- Watch_add 0:self 1:deed 2:thread 3:word 4:thing
def c_Watch_add : List CS := [
  .unp [2, 3, 4] (.var 1),
  .ite (.cmp .Eq (.var 3) (.str "take"))
    [.setD (.fld (.var 0) "holders") (.var 4) (.var 2)]
    [],
  .ite (.cmp .Eq (.var 3) (.str "give"))
    [.expr (.dpop1 (.fld (.var 0) "holders") (.var 4))]
    [],
  .ite (.cmp .Eq (.var 3) (.str "fork"))
    [.setIx (.fld (.var 0) "awake") (.var 4) (.bl true)]
    [],
  .ite (.cmp .Eq (.var 3) (.str "wait"))
    [.setIx (.fld (.var 0) "past") (.var 4) (.bl true)]
    []]
def f_Watch_add : Fn := fnM 2 5 c_Watch_add
-- Watch_lock_fault 0:self 1:deed 2:thread 3:word 4:thing
def c_Watch_lock_fault : List CS := [
  .unp [2, 3, 4] (.var 1),
  .ite (.and [(.cmp .Eq (.var 3) (.str "take")), (.din false (.var 4) (.fld (.var 0) "holders"))])
    [.ret (.str "held")]
    [],
  .ite (.and [(.cmp .Eq (.var 3) (.str "give")), (.cmp .NotEq (.dget1 (.fld (.var 0) "holders") (.var 4)) (.var 2))])
    [.ret (.str "loose")]
    [],
  .ret .non]
def f_Watch_lock_fault : Fn := fnM 2 5 c_Watch_lock_fault
-- Watch_place_fault 0:self 1:deed 2:thread 3:word 4:thing
def c_Watch_place_fault : List CS := [
  .unp [2, 3, 4] (.var 1),
  .ite (.not (.ix (.fld (.var 0) "awake") (.var 2)))
    [.ret (.str "asleep")]
    [],
  .ite (.ix (.fld (.var 0) "past") (.var 2))
    [.ret (.str "gone")]
    [],
  .ite (.and [(.cmp .Eq (.var 3) (.str "fork")), (.ix (.fld (.var 0) "awake") (.var 4))])
    [.ret (.str "twice")]
    [],
  .ite (.and [(.cmp .Eq (.var 3) (.str "wait")), (.not (.ix (.fld (.var 0) "awake") (.var 4)))])
    [.ret (.str "unborn")]
    [],
  .ite (.and [(.cmp .Eq (.var 3) (.str "wait")), (.cmp .Eq (.var 4) (.var 2))])
    [.ret (.str "self")]
    [],
  .ret (.meth "Watch" (.var 0) "lock_fault" f_Watch_lock_fault [(.var 1)])]
def f_Watch_place_fault : Fn := fnM 2 5 c_Watch_place_fault
-- fault 0:many 1:deeds 2:watch 3:place 4:deed 5:word
def c_fault : List CS := [
  .asg 2 (.make "Watch" f_Watch_init [(.var 0)]),
  .forr [3, 4, 5] [3, 4] .enum [(.var 1)]
    [.asg 5 (.call "form_fault" f_form_fault [(.var 0), (.var 4)]),
      .ite (.cmp .Is (.var 5) .non)
        [.asg 5 (.meth "Watch" (.var 2) "place_fault" f_Watch_place_fault [(.var 4)])]
        [],
      .ite (.cmp .IsNot (.var 5) .non)
        [.ret (.tup [(.var 3), (.var 5)])]
        [],
      .expr (.meth "Watch" (.var 2) "add" f_Watch_add [(.var 4)])],
  .ret .non]
def f_fault : Fn := fnM 2 6 c_fault
-- Row_init 0:self 1:many 2:deeds
def c_Row_init : List CS := [
  .ite (.or [(.not (.chn .LtE .LtE (.int 1) (.var 1) (.con "MOST_THREADS" (.int 6)))), (.cmp .Gt (.blt .len [(.var 2)]) (.con "MOST_DEEDS" (.int 60)))])
    [.raise "NoRow"]
    [],
  .ite (.cmp .IsNot (.call "fault" f_fault [(.var 1), (.var 2)]) .non)
    [.raise "NoRow"]
    [],
  .fldA (.var 0) "many" (.var 1),
  .fldA (.var 0) "size" (.blt .len [(.var 2)]),
  .fldA (.var 0) "kept" (.frz 0 (.blt .lstOf [(.var 2)]))]
def f_Row_init : Fn := fnM 3 3 c_Row_init
-- Row_deeds 0:self
def c_Row_deeds : List CS := [
  .ret (.blt .lstOf [(.fld (.var 0) "kept")])]
def f_Row_deeds : Fn := fnM 1 1 c_Row_deeds
-- joined 0:one 1:other 2:here 3:there
def c_joined : List CS := [
  .ret (.lc (.blt .max2 [(.var 2), (.var 3)]) [2, 3] .zip [(.var 0), (.var 1)] [])]
def f_joined : Fn := fnM 2 4 c_joined
-- clocks 0:row 1:last 2:given 3:told 4:thread 5:word 6:thing 7:clock
def c_clocks : List CS := [
  .asg 1 (.frz 1 (.lc (.cat .Mult (.lst [(.int 0)]) (.fld (.var 0) "many")) [4] .rng1 [(.fld (.var 0) "many")] [])),
  .asg 2 (.dct false),
  .asg 3 (.lst []),
  .forr [4, 5, 6, 7] [4, 5, 6] .lst [(.meth "Row" (.var 0) "deeds" f_Row_deeds [])]
    [.asg 7 (.blt .lstOf [(.ix (.var 1) (.var 4))]),
      .ite (.and [(.cmp .Eq (.var 5) (.str "take")), (.din false (.var 6) (.var 2))])
        [.asg 7 (.call "joined" f_joined [(.var 7), (.dix (.var 2) (.var 6))])]
        [],
      .ite (.cmp .Eq (.var 5) (.str "wait"))
        [.asg 7 (.call "joined" f_joined [(.var 7), (.ix (.var 1) (.var 6))])]
        [],
      .augIx (.var 7) (.var 4) (.int 1),
      .setIx (.var 1) (.var 4) (.var 7),
      .ite (.cmp .Eq (.var 5) (.str "give"))
        [.setD (.var 2) (.var 6) (.var 7)]
        [],
      .ite (.cmp .Eq (.var 5) (.str "fork"))
        [.setIx (.var 1) (.var 6) (.var 7)]
        [],
      .expr (.bm .append (.var 3) [(.frz 0 (.blt .lstOf [(.var 7)]))])],
  .ret (.mov 3)]
def f_clocks : Fn := fnM 1 8 c_clocks
-- at_odds 0:one 1:other 2:words
def c_at_odds : List CS := [
  .asg 2 (.tup [(.ix (.var 0) (.int 1)), (.ix (.var 1) (.int 1))]),
  .ite (.or [(.cmp .Eq (.ix (.var 0) (.int 0)) (.ix (.var 1) (.int 0))), (.cmp .NotEq (.ix (.var 0) (.int 2)) (.ix (.var 1) (.int 2))), (.cmp .NotIn (.str "write") (.var 2))])
    [.ret (.bl false)]
    [],
  .ret (.and [(.cmp .In (.ix (.var 0) (.int 1)) (.tup [(.str "read"), (.str "write")])), (.cmp .In (.ix (.var 1) (.int 1)) (.tup [(.str "read"), (.str "write")]))])]
def f_at_odds : Fn := fnM 2 3 c_at_odds
-- Row_deed 0:self 1:place
def c_Row_deed : List CS := [
  .ret (.ix (.fld (.var 0) "kept") (.var 1))]
def f_Row_deed : Fn := fnM 2 2 c_Row_deed
-- goes_ahead 0:row 1:told 2:one 3:other 4:thread
def c_goes_ahead : List CS := [
  .asg 4 (.ix (.meth "Row" (.var 0) "deed" f_Row_deed [(.var 2)]) (.int 0)),
  .ret (.and [(.cmp .NotEq (.var 2) (.var 3)), (.cmp .GtE (.ix (.ix (.var 1) (.var 3)) (.var 4)) (.ix (.ix (.var 1) (.var 2)) (.var 4)))])]
def f_goes_ahead : Fn := fnM 4 5 c_goes_ahead
-- races 0:row 1:told 2:found 3:one 4:other
def c_races : List CS := [
  .asg 1 (.frz 0 (.call "clocks" f_clocks [(.var 0)])),
  .asg 2 (.lst []),
  .forr [3, 4] [3] .rng1 [(.fld (.var 0) "size")]
    [.forr [4] [4] .rng2 [(.bin .Add (.var 3) (.int 1)), (.fld (.var 0) "size")]
        [.ite (.and [(.call "at_odds" f_at_odds [(.meth "Row" (.var 0) "deed" f_Row_deed [(.var 3)]), (.meth "Row" (.var 0) "deed" f_Row_deed [(.var 4)])]), (.not (.call "goes_ahead" f_goes_ahead [(.var 0), (.var 1), (.var 3), (.var 4)]))])
            [.expr (.bm .append (.var 2) [(.tup [(.var 3), (.var 4)])])]
            []]],
  .ret (.mov 2)]
def f_races : Fn := fnM 1 5 c_races
-- ahead 0:row 1:one 2:other
def c_ahead : List CS := [
  .ret (.call "goes_ahead" Sr.f_goes_ahead [(.var 0), (.frz 0 (.call "clocks" Sr.f_clocks [(.var 0)])), (.var 1), (.var 2)])]
def f_ahead : Fn := fnM 3 3 c_ahead
end Sr

set_option Elab.async false
set_option linter.all false
set_option maxRecDepth 100000
namespace Sd
open PySem PySem.Spec PyProof.Rows L2 Rk
-- l_numbers 0:_law_cells 1:_law_found 2:_law_k 3:_law_cell 4:_law_number
def c_l_numbers : List CS := [
  .asg 1 (.lst []),
  .forr [2, 3, 4] [2, 3] .enum [(.var 0)]
    [.asg 4 (.bin .Mod (.var 3) (.int 1000000007)),
      .expr (.bm .append (.var 1) [(.bin .Mod (.bin .Add (.bin .Add (.bin .Add (.bin .Mult (.var 4) (.var 4)) (.bin .Mult (.bin .Add (.int 30011) (.bin .Mult (.int 2) (.var 2))) (.var 4))) (.bin .Mult (.bin .Mult (.int 7919) (.var 2)) (.var 2))) (.int 5)) (.int 999999937))])],
  .ret (.mov 1)]
def f_l_numbers : Fn := fnM 1 5 c_l_numbers
-- l_by_lock 0:_law_holders 1:_law_thread 2:_law_pick 3:_law_base 4:_law_locks 5:_law_lock
def c_l_by_lock : List CS := [
  .asg 5 (.bin .Add (.var 3) (.bin .Mod (.var 2) (.var 4))),
  .ite (.din true (.var 5) (.var 0))
    [.setD (.var 0) (.var 5) (.var 1),
      .ret (.tup [(.var 1), (.str "take"), (.var 5)])]
    [],
  .ite (.cmp .Eq (.dix (.var 0) (.var 5)) (.var 1))
    [.expr (.dpop1 (.var 0) (.var 5)),
      .ret (.tup [(.var 1), (.str "give"), (.var 5)])]
    [],
  .ret (.tup [(.var 1), (.str "write"), (.bin .Add (.var 3) (.bin .Mod (.bin .FloorDiv (.var 2) (.int 2)) (.int 2)))])]
def f_l_by_lock : Fn := fnM 5 6 c_l_by_lock
-- l_deeds 0:_law_cells 1:_law_many 2:_law_base 3:_law_awake 4:_law_past 5:_law_holders 6:_law_deeds_here 7:_law_number 8:_law_names 9:_law_locks 10:_law_alive 11:_law_thread 12:_law_kind 13:_law_pick 14:_law_asleep 15:_law_others 16:_law_one
def c_l_deeds : List CS := [
  .unp [8, 9] (.ix (.lst [(.tup [(.int 3), (.int 2)]), (.tup [(.int 9), (.int 7)])]) (.blt .intOf [(.cmp .Eq (.bin .Mod (.blt .sum [(.var 0)]) (.int 3)) (.int 0))])),
  .asg 3 (.lst [(.int 0)]),
  .asg 4 (.lst []),
  .asg 5 (.dct false),
  .asg 6 (.lst []),
  .forr [7, 10, 11, 12, 13, 14, 16, 15] [7] .lst [(.call "_law_numbers" f_l_numbers [(.var 0)])]
    [.asg 10 (.frz 0 (.lc (.var 11) [11] .lst [(.var 3)] [(.cmp .NotIn (.var 11) (.var 4))])),
      .asg 11 (.ix (.var 10) (.bin .Mod (.var 7) (.blt .len [(.var 10)]))),
      .asg 12 (.bin .Mod (.bin .FloorDiv (.var 7) (.int 8)) (.int 12)),
      .asg 13 (.bin .FloorDiv (.var 7) (.int 96)),
      .asg 14 (.frz 0 (.lc (.var 16) [16] .rng1 [(.var 1)] [(.cmp .NotIn (.var 16) (.var 3))])),
      .asg 15 (.frz 0 (.lc (.var 16) [16] .lst [(.var 3)] [(.cmp .NotEq (.var 16) (.var 11))])),
      .ite (.and [(.cmp .NotEq (.var 14) (.lst [])), (.or [(.and [(.cmp .Eq (.blt .len [(.var 10)]) (.int 1)), (.cmp .Eq (.bin .Mod (.var 13) (.int 2)) (.int 0))]), (.cmp .Eq (.var 12) (.int 10))])])
        [.expr (.bm .append (.var 3) [(.ix (.var 14) (.bin .Mod (.bin .FloorDiv (.var 13) (.int 2)) (.blt .len [(.var 14)])))]),
          .expr (.bm .append (.var 6) [(.tup [(.var 11), (.str "fork"), (.ix (.var 3) (.neg (.int 1)))])])]
        [.ite (.and [(.cmp .Eq (.var 12) (.int 11)), (.cmp .NotEq (.var 15) (.lst [])), (.cmp .Eq (.bin .Mod (.var 13) (.int 3)) (.int 0))])
            [.expr (.bm .append (.var 4) [(.ix (.var 15) (.bin .Mod (.bin .FloorDiv (.var 13) (.int 3)) (.blt .len [(.var 15)])))]),
              .expr (.bm .append (.var 6) [(.tup [(.var 11), (.str "wait"), (.ix (.var 4) (.neg (.int 1)))])])]
            [.ite (.cmp .Gt (.var 12) (.int 6))
                [.expr (.bm .append (.var 6) [(.call "_law_by_lock" f_l_by_lock [(.var 5), (.var 11), (.var 13), (.var 2), (.var 9)])])]
                [.expr (.bm .append (.var 6) [(.tup [(.var 11), (.ix (.lst [(.str "read"), (.str "read"), (.str "write")]) (.bin .Mod (.var 12) (.int 3))), (.bin .Add (.var 2) (.bin .Mod (.var 13) (.var 8)))])])]]]],
  .ret (.mov 6)]
def f_l_deeds : Fn := fnM 3 17 c_l_deeds
-- l_edge 0:_law_one 1:_law_other
def c_l_edge : List CS := [
  .ite (.cmp .Eq (.ix (.var 0) (.int 0)) (.ix (.var 1) (.int 0)))
    [.ret (.bl true)]
    [],
  .ite (.and [(.cmp .Eq (.ix (.var 0) (.int 1)) (.str "fork")), (.or [(.cmp .Eq (.ix (.var 1) (.int 0)) (.ix (.var 0) (.int 2))), (.and [(.cmp .Eq (.ix (.var 1) (.int 1)) (.str "wait")), (.cmp .Eq (.ix (.var 1) (.int 2)) (.ix (.var 0) (.int 2)))])])])
    [.ret (.bl true)]
    [],
  .ite (.and [(.cmp .Eq (.ix (.var 1) (.int 1)) (.str "wait")), (.cmp .Eq (.ix (.var 1) (.int 2)) (.ix (.var 0) (.int 0)))])
    [.ret (.bl true)]
    [],
  .ret (.and [(.cmp .Eq (.ix (.var 0) (.int 1)) (.str "give")), (.cmp .Eq (.ix (.var 1) (.int 1)) (.str "take")), (.cmp .Eq (.ix (.var 0) (.int 2)) (.ix (.var 1) (.int 2)))])]
def f_l_edge : Fn := fnM 2 2 c_l_edge
-- l_before 0:_law_deeds_here 1:_law_table 2:_law_k 3:_law_some 4:_law_j 5:_law_i
def c_l_before : List CS := [
  .asg 1 (.lst []),
  .forr [2, 3, 4, 5] [2] .rng1 [(.blt .len [(.var 0)])]
    [.asg 3 (.cat .Mult (.lst [(.bl false)]) (.blt .len [(.var 0)])),
      .forr [4, 5] [4] .rng1 [(.var 2)]
        [.ite (.call "_law_edge" f_l_edge [(.ix (.var 0) (.var 4)), (.ix (.var 0) (.var 2))])
            [.setIx (.var 3) (.var 4) (.bl true),
              .asg 3 (.lc (.or [(.ix (.var 3) (.var 5)), (.and [(.cmp .Lt (.var 5) (.var 4)), (.ix (.ix (.var 1) (.var 4)) (.var 5))])]) [5] .rng1 [(.blt .len [(.var 0)])] [])]
            []],
      .expr (.bm .append (.var 1) [(.var 3)])],
  .ret (.mov 1)]
def f_l_before : Fn := fnM 1 6 c_l_before
end Sd

set_option Elab.async false
set_option linter.all false
set_option maxRecDepth 100000
namespace Se
open PySem PySem.Spec PyProof.Rows L2 Rk
-- l_by_lock 0:_law_holders 1:_law_thread 2:_law_pick 3:_law_base 4:_law_lock
def c_l_by_lock : List CS := [
  .asg 4 (.bin .Add (.var 3) (.bin .Mod (.var 2) (.int 2))),
  .ite (.din true (.var 4) (.var 0))
    [.setD (.var 0) (.var 4) (.var 1),
      .ret (.tup [(.var 1), (.str "take"), (.var 4)])]
    [],
  .ite (.cmp .Eq (.dix (.var 0) (.var 4)) (.var 1))
    [.expr (.dpop1 (.var 0) (.var 4)),
      .ret (.tup [(.var 1), (.str "give"), (.var 4)])]
    [],
  .ret (.tup [(.var 1), (.str "write"), (.bin .Add (.var 3) (.bin .Mod (.bin .FloorDiv (.var 2) (.int 2)) (.int 2)))])]
def f_l_by_lock : Fn := fnM 4 5 c_l_by_lock
-- l_deeds 0:_law_cells 1:_law_many 2:_law_base 3:_law_awake 4:_law_past 5:_law_holders 6:_law_deeds_here 7:_law_number 8:_law_alive 9:_law_thread 10:_law_kind 11:_law_pick 12:_law_others 13:_law_one
def c_l_deeds : List CS := [
  .asg 3 (.lst [(.int 0)]),
  .asg 4 (.lst []),
  .asg 5 (.dct false),
  .asg 6 (.lst []),
  .forr [7, 8, 9, 10, 11, 12, 13] [7] .lst [(.call "_law_numbers" Sd.f_l_numbers [(.var 0)])]
    [.asg 8 (.frz 0 (.lc (.var 9) [9] .lst [(.var 3)] [(.cmp .NotIn (.var 9) (.var 4))])),
      .asg 9 (.ix (.var 8) (.bin .Mod (.var 7) (.blt .len [(.var 8)]))),
      .asg 10 (.bin .Mod (.bin .FloorDiv (.var 7) (.int 8)) (.int 12)),
      .asg 11 (.bin .FloorDiv (.var 7) (.int 96)),
      .asg 12 (.frz 0 (.lc (.var 13) [13] .lst [(.var 8)] [(.cmp .NotEq (.var 13) (.var 9))])),
      .ite (.and [(.cmp .Lt (.blt .len [(.var 3)]) (.var 1)), (.or [(.and [(.cmp .Eq (.blt .len [(.var 8)]) (.int 1)), (.cmp .Eq (.bin .Mod (.var 11) (.int 2)) (.int 0))]), (.cmp .Eq (.var 10) (.int 10))])])
        [.expr (.bm .append (.var 3) [(.blt .len [(.var 3)])]),
          .expr (.bm .append (.var 6) [(.tup [(.var 9), (.str "fork"), (.bin .Sub (.blt .len [(.var 3)]) (.int 1))])])]
        [.ite (.and [(.cmp .Eq (.var 10) (.int 11)), (.cmp .NotEq (.var 12) (.lst [])), (.cmp .Eq (.bin .Mod (.var 11) (.int 3)) (.int 0))])
            [.expr (.bm .append (.var 4) [(.ix (.var 12) (.bin .Mod (.bin .FloorDiv (.var 11) (.int 3)) (.blt .len [(.var 12)])))]),
              .expr (.bm .append (.var 6) [(.tup [(.var 9), (.str "wait"), (.ix (.var 4) (.neg (.int 1)))])])]
            [.ite (.cmp .Gt (.var 10) (.int 6))
                [.expr (.bm .append (.var 6) [(.call "_law_by_lock" f_l_by_lock [(.var 5), (.var 9), (.var 11), (.var 2)])])]
                [.expr (.bm .append (.var 6) [(.tup [(.var 9), (.ix (.lst [(.str "read"), (.str "read"), (.str "write")]) (.bin .Mod (.var 10) (.int 3))), (.bin .Add (.var 2) (.bin .Mod (.var 11) (.int 3)))])])]]]],
  .ret (.mov 6)]
def f_l_deeds : Fn := fnM 3 14 c_l_deeds
end Se

set_option Elab.async false
set_option linter.all false
set_option maxRecDepth 100000
namespace Sw
open PySem PySem.Spec PyProof.Rows L2 Rk
-- l_extended 0:_law_table 1:_law_numbers_here 2:_law_order 3:_law_left 4:_law_number 5:_law_free 6:_law_pick 7:_law_k 8:_law_j
def c_l_extended : List CS := [
  .asg 2 (.lst []),
  .asg 3 (.frz 0 (.lrg (.blt .len [(.var 0)]))),
  .forr [4, 5, 7, 8, 6] [4] .lst [(.var 1)]
    [.asg 5 (.frz 0 (.lc (.var 7) [7] .lst [(.var 3)] [(.not (.blt .any [(.lc (.ix (.ix (.var 0) (.var 7)) (.var 8)) [8] .lst [(.var 3)] [])]))])),
      .ite (.cmp .NotEq (.var 5) (.lst []))
        [.asg 6 (.ix (.var 5) (.bin .Mod (.var 4) (.blt .len [(.var 5)]))),
          .expr (.bm .append (.var 2) [(.var 6)]),
          .asg 3 (.frz 0 (.lc (.var 7) [7] .lst [(.var 3)] [(.cmp .NotEq (.var 7) (.var 6))]))]
        []],
  .ret (.cat .Add (.var 2) (.var 3))]
def f_l_extended : Fn := fnM 2 9 c_l_extended
-- l_spoilt 0:_law_order 1:_law_number 2:_law_size 3:_law_found 4:_law_way 5:_law_at 6:_law_other
def c_l_spoilt : List CS := [
  .asg 3 (.blt .lstOf [(.var 0)]),
  .asg 4 (.bin .Mod (.var 1) (.int 8)),
  .asg 5 (.bin .Mod (.bin .FloorDiv (.var 1) (.int 8)) (.blt .max2 [(.int 1), (.blt .len [(.var 3)])])),
  .asg 6 (.bin .Mod (.bin .FloorDiv (.var 1) (.int 512)) (.blt .max2 [(.int 1), (.blt .len [(.var 3)])])),
  .ite (.and [(.cmp .Eq (.var 4) (.int 0)), (.cmp .NotEq (.var 3) (.lst []))])
    [.expr (.bm .pop1 (.var 3) [(.var 5)])]
    [],
  .ite (.cmp .Eq (.var 4) (.int 1))
    [.expr (.bm .insert (.var 3) [(.var 5), (.ix (.lst [(.var 2), (.neg (.int 1)), (.int 0), (.var 5)]) (.bin .Mod (.var 6) (.int 4)))])]
    [],
  .ite (.and [(.cmp .Eq (.var 4) (.int 2)), (.cmp .NotEq (.var 3) (.lst []))])
    [.setIx (.var 3) (.var 5) (.ix (.lst [(.bin .Add (.var 2) (.var 6)), (.neg (.int 1)), (.ix (.var 3) (.var 6)), (.bin .Pow (.int 10) (.int 59))]) (.bin .Mod (.bin .FloorDiv (.var 1) (.int 4096)) (.int 4)))]
    [],
  .ite (.and [(.cmp .Gt (.var 4) (.int 2)), (.cmp .Lt (.var 4) (.int 6)), (.cmp .NotEq (.var 3) (.lst []))])
    [.swp (.var 3) (.var 5) (.var 6) (.ix (.var 3) (.var 6)) (.ix (.var 3) (.var 5))]
    [],
  .ret (.mov 3)]
def f_l_spoilt : Fn := fnM 3 7 c_l_spoilt
-- is_weaving 0:row 1:order 2:told 3:k 4:place 5:earlier
def c_is_weaving : List CS := [
  .ite (.cmp .NotEq (.blt .sortI [(.var 1)]) (.lrg (.fld (.var 0) "size")))
    [.ret (.bl false)]
    [],
  .asg 2 (.frz 0 (.call "clocks" Sr.f_clocks [(.var 0)])),
  .forr [3, 4, 5] [3, 4] .enum [(.var 1)]
    [.forr [5] [5] .lst [(.sl (.var 1) .nop (.var 3))]
        [.ite (.call "goes_ahead" Sr.f_goes_ahead [(.var 0), (.var 2), (.var 4), (.var 5)])
            [.ret (.bl false)]
            []]],
  .ret (.bl true)]
def f_is_weaving : Fn := fnM 2 6 c_is_weaving
-- l_is_order 0:_law_table 1:_law_order 2:_law_k 3:_law_j
def c_l_is_order : List CS := [
  .ite (.or [(.cmp .NotEq (.blt .len [(.var 1)]) (.blt .len [(.var 0)])), (.cmp .NotEq (.blt .sortI [(.var 1)]) (.lrg (.blt .len [(.var 0)])))])
    [.ret (.bl false)]
    [],
  .forr [2, 3] [2] .rng1 [(.blt .len [(.var 1)])]
    [.forr [3] [3] .rng1 [(.var 2)]
        [.ite (.ix (.ix (.var 0) (.ix (.var 1) (.var 3))) (.ix (.var 1) (.var 2)))
            [.ret (.bl false)]
            []]],
  .ret (.bl true)]
def f_l_is_order : Fn := fnM 2 4 c_l_is_order
end Sw

set_option Elab.async false
set_option linter.all false
set_option maxRecDepth 100000
namespace K08
open PySem PySem.Spec PyProof.Rows L2 Rk
-- woven 0:row 1:order 2:place
def c_woven : List CS := [
  .ite (.not (.call "is_weaving" Sw.f_is_weaving [(.var 0), (.var 1)]))
    [.raise "NoWeaving"]
    [],
  .ret (.make "Row" Sr.f_Row_init [(.fld (.var 0) "many"), (.frz 0 (.lc (.meth "Row" (.var 0) "deed" Sr.f_Row_deed [(.var 2)]) [2] .lst [(.var 1)] []))])]
def f_woven : Fn := fnM 2 3 c_woven
-- l_refused 0:_law_row 1:_law_order 2:_law_kept 3:e
def c_l_refused : List CS := [
  .asg 2 (.tup []),
  .tryE "RaceError" 3
    [.expr (.call "woven" f_woven [(.var 0), (.var 1)])]
    [(2, (.tup [(.isi (.var 3) "NoWeaving"), (.isi (.var 3) "ValueError"), (.or [(.isi (.var 3) "NoRow"), (.isi (.var 3) "NoRace")])]))],
  .ret (.cmp .Eq (.var 2) (.tup [(.bl true), (.bl true), (.bl false)]))]
def f_l_refused : Fn := fnM 2 4 c_l_refused
-- law 0:_law_script 1:_law_first 2:_law_many 3:_law_base 4:_law_deeds_here 5:_law_row 6:_law_table 7:_law_numbers_here 8:_law_order 9:_law_handed 10:_law_made 11:_law_old 12:_law_number 13:_law_some 14:_law_k
def c_law : List CS := [
  .asg 1 (.call "_law_cell_at" Sh.f_l_cell_at [(.var 0), (.int 0)]),
  .asg 2 (.bin .Add (.int 1) (.bin .Mod (.var 1) (.int 6))),
  .asg 3 (.ix (.lst [(.int 0), (.bin .Mod (.call "_law_cell_at" Sh.f_l_cell_at [(.var 0), (.int 1)]) (.bin .Pow (.int 10) (.int 58)))]) (.bin .Mod (.bin .FloorDiv (.var 1) (.int 6)) (.int 2))),
  .asg 4 (.frz 0 (.call "_law_deeds" Se.f_l_deeds [(.frz 0 (.sl (.var 0) (.int 2) (.int 32))), (.var 2), (.var 3)])),
  .asg 5 (.frz 0 (.make "Row" Sr.f_Row_init [(.var 2), (.frz 0 (.blt .lstOf [(.var 4)]))])),
  .asg 6 (.frz 0 (.call "_law_before" Sd.f_l_before [(.var 4)])),
  .asg 7 (.frz 0 (.call "_law_numbers" Sd.f_l_numbers [(.frz 0 (.lrv (.sl (.var 0) .nop (.int 60))))])),
  .asg 8 (.frz 0 (.call "_law_extended" Sw.f_l_extended [(.var 6), (.var 7)])),
  .asg 9 (.frz 0 (.blt .lstOf [(.var 8)])),
  .asg 10 (.frz 0 (.call "woven" f_woven [(.var 5), (.var 9)])),
  .ite (.or [(.cmp .NotEq (.fld (.var 10) "many") (.var 2)), (.cmp .NotEq (.meth "Row" (.var 10) "deeds" Sr.f_Row_deeds []) (.lc (.ix (.var 4) (.var 14)) [14] .lst [(.var 8)] [])), (.cmp .NotEq (.var 9) (.var 8))])
    [.ret (.bl false)]
    [],
  .asg 11 (.frz 0 (.call "clocks" Sr.f_clocks [(.var 5)])),
  .ite (.cmp .NotEq (.call "clocks" Sr.f_clocks [(.var 10)]) (.lc (.ix (.var 11) (.var 14)) [14] .lst [(.var 8)] []))
    [.ret (.bl false)]
    [],
  .forr [12, 13, 14] [12] .lst [(.cat .Add (.lst [(.bin .Mod (.var 1) (.int 1000000007))]) (.sl (.var 7) .nop (.int 8)))]
    [.asg 13 (.frz 0 (.call "_law_spoilt" Sw.f_l_spoilt [(.var 8), (.var 12), (.blt .len [(.var 4)])])),
      .ite (.call "_law_is_order" Sw.f_l_is_order [(.var 6), (.var 13)])
        [.ite (.cmp .NotEq (.meth "Row" (.call "woven" f_woven [(.var 5), (.frz 0 (.blt .lstOf [(.var 13)]))]) "deeds" Sr.f_Row_deeds []) (.lc (.ix (.var 4) (.var 14)) [14] .lst [(.var 13)] []))
            [.ret (.bl false)]
            []]
        [.ite (.not (.call "_law_refused" f_l_refused [(.var 5), (.frz 0 (.blt .lstOf [(.var 13)]))]))
            [.ret (.bl false)]
            []]],
  .ret (.cmp .Eq (.meth "Row" (.var 5) "deeds" Sr.f_Row_deeds []) (.var 4))]
def f_law : Fn := fnM 1 15 c_law
end K08

set_option linter.all false
namespace Row
inductive Wd where
  | read | write | take | give | fork | wait
  deriving DecidableEq
structure Dd where
  t : Int
  w : Wd
  x : Int
  deriving DecidableEq
/-! ### which deeds are ahead -/
def edge (a b : Dd) : Prop := a.t = b.t ∨ (a.w = .fork ∧ (b.t = a.x ∨ (b.w = .wait ∧ b.x = a.x))) ∨ (b.w = .wait ∧ b.x = a.t) ∨ (a.w = .give ∧ b.w = .take ∧ a.x = b.x)
instance {a b : Dd} : Decidable (edge a b) := by unfold edge; infer_instance
inductive Anc (D : Nat → Dd) : Nat → Nat → Prop where
  | one {j k : Nat} : j < k → edge (D j) (D k) → Anc D j k
  | more {i j k : Nat} : Anc D i j → j < k → edge (D j) (D k) → Anc D i k
section
variable {D : Nat → Dd}
theorem Anc.lt {i k : Nat} (h : Anc D i k) : i < k := by induction h <;> omega
theorem Anc.trans {i j k : Nat} (h : Anc D i j) (h2 : Anc D j k) : Anc D i k := by
  induction h2 with
  | one a b => exact .more h a b
  | more _ a b ih => exact .more ih a b
def Up (D : Nat → Dd) (k i : Nat) : Prop := i = k ∨ Anc D i k
theorem Up.le {i k : Nat} (h : Up D k i) : i ≤ k := by
  rcases h with h | h
  · omega
  · have := h.lt; omega
theorem Up.trans {i j k : Nat} (h : Up D j i) (h2 : Up D k j) : Up D k i := by
  rcases h with rfl | h
  · exact h2
  · rcases h2 with rfl | h2
    · exact .inr h
    · exact .inr (h.trans h2)
theorem anc_iff {i k : Nat} : Anc D i k ↔ ∃ j, j < k ∧ edge (D j) (D k) ∧ Up D j i := by
  constructor
  · intro h
    cases h with
    | one a b => exact ⟨i, a, b, .inl rfl⟩
    | more h a b => exact ⟨_, a, b, .inr h⟩
  · rintro ⟨j, a, b, rfl | h⟩
    · exact .one a b
    · exact .more h a b
/-- with a deed all earlier ones of its thread -/
def Pre (D : Nat → Dd) (S : Nat → Prop) : Prop := ∀ i j, i < j → (D i).t = (D j).t → S j → S i
theorem pre_up {k : Nat} : Pre D (Up D k) := by
  intro i j h e hu
  have : Anc D i j := .one h (.inl e)
  rcases hu with rfl | hu
  · exact .inr this
  · exact .inr (this.trans hu)
open Classical in
noncomputable def cnt (D : Nat → Dd) (n : Nat) (S : Nat → Prop) (u : Int) : Int := (((List.range n).filter fun i => decide ((D i).t = u ∧ S i)).length : Nat)
theorem flen_mono {α : Type} {p q : α → Bool} : ∀ {l : List α}, (∀ x ∈ l, p x = true → q x = true) → (l.filter p).length ≤ (l.filter q).length
  | [], _ => Nat.le_refl _
  | x :: l, h => by
    have ih := flen_mono (l := l) fun y hy => h y (List.mem_cons_of_mem _ hy)
    have hx := h x (List.mem_cons_self ..)
    rw [List.filter_cons, List.filter_cons]
    split
    · rename_i hp
      rw [if_pos (hx hp)]
      simp only [List.length_cons]; omega
    · split
      · simp only [List.length_cons]; omega
      · exact ih
theorem flen_lt {α : Type} {p q : α → Bool} : ∀ {l : List α}, (∀ x ∈ l, p x = true → q x = true) → (∃ x ∈ l, p x = false ∧ q x = true) → (l.filter p).length < (l.filter q).length
  | [], _, ⟨_, h, _⟩ => by cases h
  | x :: l, h, ⟨y, hy, h1, h2⟩ => by
    have hx := h x (List.mem_cons_self ..)
    have hm := flen_mono (l := l) fun y hy => h y (List.mem_cons_of_mem _ hy)
    rcases List.mem_cons.mp hy with rfl | hy
    · rw [List.filter_cons, List.filter_cons, h1, h2]
      simp only [List.length_cons, if_true]
      simp; omega
    · have ih := flen_lt (l := l) (fun y hy => h y (List.mem_cons_of_mem _ hy)) ⟨y, hy, h1, h2⟩
      rw [List.filter_cons, List.filter_cons]
      split
      · rename_i hp
        rw [if_pos (hx hp)]
        simp only [List.length_cons]; omega
      · split
        · simp only [List.length_cons]; omega
        · exact ih
open Classical in
theorem cnt_mono {n : Nat} {S T : Nat → Prop} {u : Int} (h : ∀ i, i < n → (D i).t = u → S i → T i) : cnt D n S u ≤ cnt D n T u := by
  unfold cnt
  have := flen_mono (l := List.range n) (p := fun i => decide ((D i).t = u ∧ S i)) (q := fun i => decide ((D i).t = u ∧ T i)) (by
    intro x hx hp
    have := of_decide_eq_true hp
    exact decide_eq_true ⟨this.1, h x (List.mem_range.mp hx) this.1 this.2⟩)
  exact Int.ofNat_le.mpr this
open Classical in
theorem cnt_lt {n : Nat} {S T : Nat → Prop} {u : Int} (h : ∀ i, i < n → (D i).t = u → S i → T i) (h2 : ∃ i, i < n ∧ (D i).t = u ∧ ¬ S i ∧ T i) : cnt D n S u < cnt D n T u := by
  unfold cnt
  obtain ⟨i, h3, h4, h5, h6⟩ := h2
  have := flen_lt (l := List.range n) (p := fun i => decide ((D i).t = u ∧ S i)) (q := fun i => decide ((D i).t = u ∧ T i)) (by
    intro x hx hp
    have := of_decide_eq_true hp
    exact decide_eq_true ⟨this.1, h x (List.mem_range.mp hx) this.1 this.2⟩) ⟨i, List.mem_range.mpr h3, decide_eq_false fun q => h5 q.2, decide_eq_true ⟨h4, h6⟩⟩
  exact Int.ofNat_lt.mpr this
theorem cnt_congr {n : Nat} {S T : Nat → Prop} {u : Int} (h : ∀ i, i < n → (D i).t = u → (S i ↔ T i)) : cnt D n S u = cnt D n T u :=
  Int.le_antisymm (cnt_mono fun i a b => (h i a b).mp) (cnt_mono fun i a b => (h i a b).mpr)
open Classical in
theorem cnt_more {n m : Nat} {S : Nat → Prop} {u : Int} (h : n ≤ m) (h2 : ∀ i, n ≤ i → i < m → ¬ S i) : cnt D m S u = cnt D n S u := by
  obtain ⟨k, rfl⟩ := Nat.exists_eq_add_of_le h
  clear h
  induction k with
  | zero => rfl
  | succ k ih =>
    rw [← ih fun i a b => h2 i a (by omega)]
    unfold cnt
    rw [show n + (k + 1) = (n + k) + 1 from rfl, List.range_succ, List.filter_append]
    have : ¬ ((D (n + k)).t = u ∧ S (n + k)) := fun q => h2 (n + k) (by omega) (by omega) q.2
    simp [this]
theorem pre_cmp {S T : Nat → Prop} (hS : Pre D S) (hT : Pre D T) (u : Int) : (∀ i, (D i).t = u → S i → T i) ∨ (∀ i, (D i).t = u → T i → S i) := by
  by_cases h : ∀ i, (D i).t = u → S i → T i
  · exact .inl h
  · right
    obtain ⟨i, h⟩ := Classical.not_forall.mp h
    obtain ⟨h1, h⟩ := Classical.not_imp.mp h
    obtain ⟨h2, h3⟩ := Classical.not_imp.mp h
    intro j hj hT2
    rcases Nat.lt_trichotomy j i with q | q | q
    · exact hS j i q (by rw [hj, h1]) h2
    · rw [q]; exact h2
    · exact absurd (hT i j q (by rw [hj, h1]) hT2) h3
theorem cnt_or {n : Nat} {S T : Nat → Prop} {u : Int} (hS : Pre D S) (hT : Pre D T) : cnt D n (fun i => S i ∨ T i) u = max (cnt D n S u) (cnt D n T u) := by
  rcases pre_cmp hS hT u with h | h
  · rw [Int.max_eq_right (cnt_mono fun i _ a b => h i a b)]
    exact cnt_congr fun i _ a => ⟨fun q => q.elim (h i a) id, .inr⟩
  · rw [Int.max_eq_left (cnt_mono fun i _ a b => h i a b)]
    exact cnt_congr fun i _ a => ⟨fun q => q.elim id (h i a), .inl⟩
theorem pre_or {S T : Nat → Prop} (hS : Pre D S) (hT : Pre D T) : Pre D fun i => S i ∨ T i := fun i j a b h => h.elim (fun h => .inl (hS i j a b h)) (fun h => .inr (hT i j a b h))
/-- the clock of a deed -/
noncomputable def clk (D : Nat → Dd) (k : Nat) (u : Int) : Int := cnt D (k + 1) (Up D k) u
theorem clk_n {n k : Nat} {u : Int} (h : k < n) : cnt D n (Up D k) u = clk D k u := cnt_more h fun i a _ q => by have := q.le; omega
theorem clk_ahead {i k : Nat} : (i ≠ k ∧ clk D i (D i).t ≤ clk D k (D i).t) ↔ Anc D i k := by
  have e1 := clk_n (D := D) (n := i + k + 1) (k := i) (u := (D i).t) (by omega)
  have e2 := clk_n (D := D) (n := i + k + 1) (k := k) (u := (D i).t) (by omega)
  rw [← e1, ← e2]
  constructor
  · rintro ⟨h, h2⟩
    refine Classical.byContradiction fun q => ?_
    have hn : ¬ Up D k i := fun z => z.elim h q
    have : cnt D (i + k + 1) (Up D k) (D i).t < cnt D (i + k + 1) (Up D i) (D i).t := cnt_lt (fun j _ a b => by
      rcases Nat.lt_trichotomy j i with r | r | r
      · exact .inr (.one r (.inl a))
      · exact .inl r
      · exact absurd (pre_up i j r a.symm b) hn) ⟨i, by omega, rfl, hn, .inl rfl⟩
    omega
  · intro h
    exact ⟨fun q => by have := h.lt; omega, cnt_mono fun j _ _ b => b.trans (.inr h)⟩
/-! ### the clocks as they are reckoned -/
structure CSt where
  last : Int → Int → Int
  given : Int → Option (Int → Int)
def c0 (s : CSt) (d : Dd) : Int → Int := s.last d.t
def c1 (s : CSt) (d : Dd) : Int → Int := if d.w = .take then (match s.given d.x with
  | some g => fun u => max (c0 s d u) (g u)
  | none => c0 s d) else c0 s d
def c2 (s : CSt) (d : Dd) : Int → Int := if d.w = .wait then (fun u => max (c1 s d u) (s.last d.x u)) else c1 s d
def c3 (s : CSt) (d : Dd) : Int → Int := fun u => if u = d.t then c2 s d u + 1 else c2 s d u
def stC (s : CSt) (d : Dd) : CSt where
  last := fun v => if d.w = .fork ∧ v = d.x then c3 s d else if v = d.t then c3 s d else s.last v
  given := fun l => if d.w = .give ∧ l = d.x then some (c3 s d) else s.given l
def cs0 : CSt := ⟨fun _ _ => 0, fun _ => none⟩
/-- .. behind n deeds -/
def csN (D : Nat → Dd) : Nat → CSt
  | 0 => cs0
  | n + 1 => stC (csN D n) (D n)
/-- what rows keep -/
structure RowF (D : Nat → Dd) (n : Nat) : Prop where
  fk : ∀ k, k < n → (D k).w = .fork → ∀ j, j < k → (D j).t ≠ (D k).x ∧ ¬ ((D j).w = .fork ∧ (D j).x = (D k).x)
  gv : ∀ k, k < n → (D k).w = .give → ∃ m, m < k ∧ (D m).w = .take ∧ (D m).x = (D k).x ∧ (D m).t = (D k).t ∧ ∀ j, m < j → j < k → ¬ ((D j).w = .give ∧ (D j).x = (D k).x)
def LA (D : Nat → Dd) (n : Nat) (t : Int) (i : Nat) : Prop := ∃ j, j < n ∧ ((D j).t = t ∨ ((D j).w = .fork ∧ (D j).x = t)) ∧ Up D j i
def GA (D : Nat → Dd) (n : Nat) (l : Int) (i : Nat) : Prop := ∃ j, j < n ∧ ((D j).w = .give ∧ (D j).x = l) ∧ Up D j i
theorem pre_la {n : Nat} {t : Int} : Pre D (LA D n t) := fun i j a b ⟨k, h1, h2, h3⟩ => ⟨k, h1, h2, pre_up i j a b h3⟩
theorem pre_ga {n : Nat} {t : Int} : Pre D (GA D n t) := fun i j a b ⟨k, h1, h2, h3⟩ => ⟨k, h1, h2, pre_up i j a b h3⟩
theorem la_lt {n i : Nat} {t : Int} (h : LA D n t i) : i < n := by obtain ⟨j, a, _, c⟩ := h; have := c.le; omega
theorem ga_lt {n i : Nat} {t : Int} (h : GA D n t i) : i < n := by obtain ⟨j, a, _, c⟩ := h; have := c.le; omega
theorem anc_parts {n i : Nat} : Anc D i n ↔ LA D n (D n).t i ∨ ((D n).w = .wait ∧ LA D n (D n).x i) ∨ ((D n).w = .take ∧ GA D n (D n).x i) := by
  rw [anc_iff]
  constructor
  · rintro ⟨j, a, b, c⟩
    rcases b with b | ⟨b, b2 | ⟨b2, b3⟩⟩ | ⟨b, b2⟩ | ⟨b, b2, b3⟩
    · exact .inl ⟨j, a, .inl b, c⟩
    · exact .inl ⟨j, a, .inr ⟨b, b2.symm⟩, c⟩
    · exact .inr (.inl ⟨b2, j, a, .inr ⟨b, b3.symm⟩, c⟩)
    · exact .inr (.inl ⟨b, j, a, .inl b2.symm, c⟩)
    · exact .inr (.inr ⟨b2, j, a, ⟨b, b3⟩, c⟩)
  · rintro (⟨j, a, b | ⟨b, b2⟩, c⟩ | ⟨h, j, a, b | ⟨b, b2⟩, c⟩ | ⟨h, j, a, ⟨b, b2⟩, c⟩)
    · exact ⟨j, a, .inl b, c⟩
    · exact ⟨j, a, .inr (.inl ⟨b, .inl b2.symm⟩), c⟩
    · exact ⟨j, a, .inr (.inr (.inl ⟨h, b.symm⟩)), c⟩
    · exact ⟨j, a, .inr (.inl ⟨b, .inr ⟨h, b2.symm⟩⟩), c⟩
    · exact ⟨j, a, .inr (.inr (.inr ⟨b, h, b2⟩)), c⟩
structure CInv (D : Nat → Dd) (n : Nat) (s : CSt) : Prop where
  la : ∀ t u, s.last t u = cnt D n (LA D n t) u
  ga : ∀ l, (s.given l = none ∧ ∀ j, j < n → ¬ ((D j).w = .give ∧ (D j).x = l)) ∨ ∃ g, s.given l = some g ∧ ∀ u, g u = cnt D n (GA D n l) u
theorem cinv0 : CInv D 0 cs0 := ⟨fun t u => by simp [cs0, cnt], fun l => .inl ⟨rfl, fun j h => by omega⟩⟩
open Classical in
theorem c3_eq {n : Nat} {s : CSt} (h : CInv D n s) (u : Int) : c3 s (D n) u = clk D n u := by
  have e0 : ∀ u, c1 s (D n) u = cnt D n (fun i => LA D n (D n).t i ∨ ((D n).w = .take ∧ GA D n (D n).x i)) u := by
    intro u
    unfold c1
    by_cases ht : (D n).w = .take
    · rw [if_pos ht]
      rcases h.ga (D n).x with ⟨g0, g1⟩ | ⟨g, g0, g1⟩
      · rw [g0]
        show c0 s (D n) u = _
        unfold c0
        rw [h.la]
        exact cnt_congr fun i _ _ => ⟨.inl, fun q => q.elim id fun q => by obtain ⟨_, j, a, b, _⟩ := q; exact absurd b (g1 j a)⟩
      · rw [g0]
        show max (c0 s (D n) u) (g u) = _
        unfold c0
        rw [h.la, g1, ← cnt_or pre_la pre_ga]
        exact cnt_congr fun i _ _ => ⟨fun q => q.elim .inl fun q => .inr ⟨ht, q⟩, fun q => q.elim .inl fun q => .inr q.2⟩
    · rw [if_neg ht]
      unfold c0
      rw [h.la]
      exact cnt_congr fun i _ _ => ⟨.inl, fun q => q.elim id fun q => absurd q.1 ht⟩
  have p1 : Pre D (fun i => LA D n (D n).t i ∨ ((D n).w = .take ∧ GA D n (D n).x i)) := pre_or pre_la fun i j a b q => ⟨q.1, pre_ga i j a b q.2⟩
  have e1 : ∀ u, c2 s (D n) u = cnt D n (fun i => Anc D i n) u := by
    intro u
    unfold c2
    by_cases ht : (D n).w = .wait
    · rw [if_pos ht]
      show max (c1 s (D n) u) (s.last (D n).x u) = _
      rw [e0, h.la, ← cnt_or p1 pre_la]
      refine cnt_congr fun i _ _ => ?_
      rw [anc_parts]
      exact ⟨fun q => q.elim (fun q => q.elim .inl fun q => .inr (.inr q)) fun q => .inr (.inl ⟨ht, q⟩), fun q => q.elim (fun q => .inl (.inl q)) fun q => q.elim (fun q => .inr q.2) fun q => .inl (.inr q)⟩
    · rw [if_neg ht, e0]
      refine cnt_congr fun i _ _ => ?_
      rw [anc_parts]
      exact ⟨fun q => q.elim .inl fun q => .inr (.inr q), fun q => q.elim .inl fun q => q.elim (fun q => absurd q.1 ht) .inr⟩
  unfold c3
  have e2 : clk D n u = cnt D n (fun i => Anc D i n) u + if (D n).t = u then 1 else 0 := by
    unfold clk cnt
    rw [List.range_succ, List.filter_append]
    have : ∀ i, i < n → (Up D n i ↔ Anc D i n) := fun i hi => ⟨fun q => q.elim (fun q => by omega) id, .inr⟩
    rw [List.filter_congr (q := fun i => decide ((D i).t = u ∧ Anc D i n)) (by
      intro x hx
      have := this x (List.mem_range.mp hx)
      simp [this])]
    by_cases q : (D n).t = u
    · simp [q, Up]
    · simp [q]
  rw [e2, e1]
  by_cases q : (D n).t = u
  · rw [if_pos q.symm, if_pos q]
  · rw [if_neg (fun z => q z.symm), if_neg q, Int.add_zero]
theorem cinvS {n m : Nat} {s : CSt} (f : RowF D m) (hn : n < m) (h : CInv D n s) : CInv D (n + 1) (stC s (D n)) := by
  have ck := fun u => c3_eq h u
  have hc : ∀ u, clk D n u = cnt D (n + 1) (Up D n) u := fun u => rfl
  have laU : ∀ i, LA D n (D n).t i → Up D n i := fun i q => .inr (anc_parts.mpr (.inl q))
  constructor
  · intro t u
    show (if (D n).w = .fork ∧ t = (D n).x then c3 s (D n) else if t = (D n).t then c3 s (D n) else s.last t) u = _
    by_cases h1 : (D n).w = .fork ∧ t = (D n).x
    · rw [if_pos h1, ck, hc]
      refine cnt_congr fun i _ _ => ⟨fun q => ⟨n, by omega, .inr ⟨h1.1, h1.2.symm⟩, q⟩, ?_⟩
      rintro ⟨j, a, b, c⟩
      by_cases hj : j = n
      · rw [hj] at c; exact c
      · have := f.fk n hn h1.1 j (by omega)
        rw [← h1.2] at this
        rcases b with b | b
        · exact absurd b this.1
        · exact absurd b this.2
    · rw [if_neg h1]
      by_cases h2 : t = (D n).t
      · rw [if_pos h2, ck, hc]
        refine cnt_congr fun i _ _ => ⟨fun q => ⟨n, by omega, .inl h2.symm, q⟩, ?_⟩
        rintro ⟨j, a, b, c⟩
        by_cases hj : j = n
        · rw [hj] at c; exact c
        · exact laU i ⟨j, by omega, by rw [← h2]; exact b, c⟩
      · rw [if_neg h2, h.la]
        rw [← cnt_more (n := n) (m := n + 1) (S := LA D n t) (by omega) (fun i a _ q => by have := la_lt q; omega)]
        refine cnt_congr fun i _ _ => ⟨fun ⟨j, a, b, c⟩ => ⟨j, by omega, b, c⟩, ?_⟩
        rintro ⟨j, a, b, c⟩
        by_cases hj : j = n
        · subst hj
          rcases b with b | b
          · exact absurd b.symm h2
          · exact absurd ⟨b.1, b.2.symm⟩ h1
        · exact ⟨j, by omega, b, c⟩
  · intro l
    show ((if (D n).w = .give ∧ l = (D n).x then some (c3 s (D n)) else s.given l) = none ∧ _) ∨ ∃ g, (if (D n).w = .give ∧ l = (D n).x then some (c3 s (D n)) else s.given l) = some g ∧ _
    by_cases h1 : (D n).w = .give ∧ l = (D n).x
    · right
      refine ⟨_, if_pos h1, fun u => ?_⟩
      rw [ck, hc]
      refine cnt_congr fun i _ _ => ⟨fun q => ⟨n, by omega, ⟨h1.1, h1.2.symm⟩, q⟩, ?_⟩
      rintro ⟨j, a, b, c⟩
      by_cases hj : j = n
      · rw [hj] at c; exact c
      · obtain ⟨m', m1, m2, m3, m4, m5⟩ := f.gv n hn h1.1
        have hjm : j ≤ m' := by
          refine Classical.byContradiction fun q => ?_
          exact m5 j (by omega) (by omega) ⟨b.1, by rw [b.2, h1.2]⟩
        have hne : j ≠ m' := fun q => by rw [← q, b.1] at m2; cases m2
        refine c.trans (.inr ((Anc.one (j := j) (k := m') (by omega) (.inr (.inr (.inr ⟨b.1, m2, ?_⟩)))).trans (.one m1 (.inl m4))))
        rw [b.2, m3, h1.2]
    · rw [if_neg h1]
      rcases h.ga l with ⟨g0, g1⟩ | ⟨g, g0, g1⟩
      · left
        refine ⟨g0, fun j a b => ?_⟩
        by_cases hj : j = n
        · subst hj; exact h1 ⟨b.1, b.2.symm⟩
        · exact g1 j (by omega) b
      · right
        refine ⟨g, g0, fun u => ?_⟩
        rw [g1, ← cnt_more (n := n) (m := n + 1) (S := GA D n l) (by omega) (fun i a _ q => by have := ga_lt q; omega)]
        refine cnt_congr fun i _ _ => ⟨fun ⟨j, a, b, c⟩ => ⟨j, by omega, b, c⟩, ?_⟩
        rintro ⟨j, a, b, c⟩
        by_cases hj : j = n
        · subst hj; exact absurd ⟨b.1, b.2.symm⟩ h1
        · exact ⟨j, by omega, b, c⟩
theorem cinv {m : Nat} (f : RowF D m) : ∀ n, n ≤ m → CInv D n (csN D n)
  | 0, _ => cinv0
  | n + 1, h => cinvS f (by omega) (cinv f n (by omega))
/-- what is told is the clock -/
theorem clk_told {m n : Nat} (f : RowF D m) (h : n < m) : c3 (csN D n) (D n) = clk D n := funext fun u => c3_eq (cinv f n (by omega)) u
end
end Row

set_option linter.all false
namespace Row
/-! ### the watch -/
structure Ws where
  aw : Int → Bool
  pa : Int → Bool
  ho : Int → Option Int
def ws0 : Ws := ⟨fun t => decide (t = 0), fun _ => false, fun _ => none⟩
def addW (s : Ws) (d : Dd) : Ws where
  aw := fun t => if d.w = .fork ∧ t = d.x then true else s.aw t
  pa := fun t => if d.w = .wait ∧ t = d.x then true else s.pa t
  ho := fun l => if l = d.x then (if d.w = .take then some d.t else if d.w = .give then none else s.ho l) else s.ho l
structure okW (many : Int) (s : Ws) (d : Dd) : Prop where
  t0 : 0 ≤ d.t
  t1 : d.t < many
  x0 : 0 ≤ d.x
  x1 : d.w = .fork ∨ d.w = .wait → d.x < many
  aw : s.aw d.t = true
  pa : s.pa d.t = false
  fk : d.w = .fork → s.aw d.x = false
  wt : d.w = .wait → s.aw d.x = true ∧ d.x ≠ d.t
  tk : d.w = .take → s.ho d.x = none
  gv : d.w = .give → s.ho d.x = some d.t
def wsN (D : Nat → Dd) : Nat → Ws
  | 0 => ws0
  | n + 1 => addW (wsN D n) (D n)
def RowOk (many : Int) (D : Nat → Dd) (n : Nat) : Prop := ∀ k, k < n → okW many (wsN D k) (D k)
section
variable {D : Nat → Dd} {many : Int}
theorem aw_mono {t : Int} {j : Nat} : ∀ {k : Nat}, j ≤ k → (wsN D j).aw t = true → (wsN D k).aw t = true
  | 0, h, h2 => by obtain rfl : j = 0 := by omega
                   exact h2
  | k + 1, h, h2 => by
    by_cases q : j = k + 1
    · rw [← q]; exact h2
    · have := aw_mono (k := k) (by omega) h2
      show (if _ then true else (wsN D k).aw t) = true
      split
      · rfl
      · exact this
theorem pa_mono {t : Int} {j : Nat} : ∀ {k : Nat}, j ≤ k → (wsN D j).pa t = true → (wsN D k).pa t = true
  | 0, h, h2 => by obtain rfl : j = 0 := by omega
                   exact h2
  | k + 1, h, h2 => by
    by_cases q : j = k + 1
    · rw [← q]; exact h2
    · have := pa_mono (k := k) (by omega) h2
      show (if _ then true else (wsN D k).pa t) = true
      split
      · rfl
      · exact this
theorem aw_fork {j : Nat} (h : (D j).w = .fork) : (wsN D (j + 1)).aw (D j).x = true := by
  show (if _ then true else _) = true
  rw [if_pos ⟨h, rfl⟩]
theorem pa_wait {j : Nat} (h : (D j).w = .wait) : (wsN D (j + 1)).pa (D j).x = true := by
  show (if _ then true else _) = true
  rw [if_pos ⟨h, rfl⟩]
/-- who holds a lock took it last -/
theorem ho_took {l t : Int} : ∀ {k : Nat}, (wsN D k).ho l = some t → ∃ m, m < k ∧ (D m).w = .take ∧ (D m).x = l ∧ (D m).t = t ∧ ∀ j, m < j → j < k → ¬ (((D j).w = .give ∨ (D j).w = .take) ∧ (D j).x = l)
  | 0, h => by cases h
  | k + 1, h => by
    have h : (if l = (D k).x then (if (D k).w = .take then some (D k).t else if (D k).w = .give then none else (wsN D k).ho l) else (wsN D k).ho l) = some t := h
    by_cases q : l = (D k).x ∧ (D k).w = .take
    · rw [if_pos q.1, if_pos q.2] at h
      exact ⟨k, by omega, q.2, q.1.symm, Option.some.inj h, fun j a b => by omega⟩
    · have h2 : (wsN D k).ho l = some t ∧ ¬ ((D k).w = .give ∧ (D k).x = l) := by
        by_cases q2 : l = (D k).x
        · rw [if_pos q2, if_neg (fun z => q ⟨q2, z⟩)] at h
          by_cases q3 : (D k).w = .give
          · rw [if_pos q3] at h; cases h
          · rw [if_neg q3] at h; exact ⟨h, fun z => q3 z.1⟩
        · rw [if_neg q2] at h
          exact ⟨h, fun z => q2 z.2.symm⟩
      obtain ⟨m, a, b, c, d, e⟩ := ho_took h2.1
      refine ⟨m, by omega, b, c, d, fun j u v => ?_⟩
      by_cases q4 : j = k
      · rw [q4]
        rintro ⟨z | z, z2⟩
        · exact h2.2 ⟨z, z2⟩
        · exact q ⟨z2.symm, z⟩
      · exact e j u (by omega)
theorem rowF {n : Nat} (h : RowOk many D n) : RowF D n := by
  constructor
  · intro k hk hf j hj
    have hs := (h k hk).fk hf
    constructor
    · intro q
      have := aw_mono (k := k) (by omega) (h j (by omega)).aw
      rw [q, hs] at this; cases this
    · rintro ⟨q, q2⟩
      have := aw_mono (k := k) (by omega) (aw_fork q)
      rw [q2, hs] at this; cases this
  · intro k hk hg
    obtain ⟨m, a, b, c, d, e⟩ := ho_took ((h k hk).gv hg)
    exact ⟨m, a, b, c, d, fun j u v z => e j u v ⟨.inl z.1, z.2⟩⟩
end
end Row

set_option linter.all false
set_option maxRecDepth 100000
set_option maxHeartbeats 400000
namespace Sr
open PySem PySem.Spec PyProof.Rows L2 Rk Row
/-! ### deeds and rows as data -/
def wS : Wd → Str
  | .read => "read" | .write => "write" | .take => "take" | .give => "give" | .fork => "fork" | .wait => "wait"
section
variable {w : Wd}
@[simp] theorem wS_ok : PyData.strOk (wS w) = true := by cases w <;> decide +kernel
@[simp] theorem wS_read : (wS w = Str.ofString "read") = (w = .read) := by cases w <;> simp [wS]
@[simp] theorem wS_write : (wS w = Str.ofString "write") = (w = .write) := by cases w <;> simp [wS]
@[simp] theorem wS_take : (wS w = Str.ofString "take") = (w = .take) := by cases w <;> simp [wS]
@[simp] theorem wS_give : (wS w = Str.ofString "give") = (w = .give) := by cases w <;> simp [wS]
@[simp] theorem wS_fork : (wS w = Str.ofString "fork") = (w = .fork) := by cases w <;> simp [wS]
@[simp] theorem wS_wait : (wS w = Str.ofString "wait") = (w = .wait) := by cases w <;> simp [wS]
@[simp] theorem wS_inj {v : Wd} : (wS w = wS v) = (w = v) := by cases w <;> cases v <;> simp [wS]
end
@[simp] theorem ok_read : PyData.strOk (Str.ofString "read") = true := by decide +kernel
@[simp] theorem ok_write : PyData.strOk (Str.ofString "write") = true := by decide +kernel
@[simp] theorem ok_take : PyData.strOk (Str.ofString "take") = true := by decide +kernel
@[simp] theorem ok_give : PyData.strOk (Str.ofString "give") = true := by decide +kernel
@[simp] theorem ok_fork : PyData.strOk (Str.ofString "fork") = true := by decide +kernel
@[simp] theorem ok_wait : PyData.strOk (Str.ofString "wait") = true := by decide +kernel
def encDd (d : Dd) : PV := .tup [.int d.t, .str (wS d.w), .int d.x]
theorem encD_eq (x y : Dd) : pvEq (encDd x) (encDd y) = decide (x = y) := by
  obtain ⟨a, b, c⟩ := x
  obtain ⟨a', b', c'⟩ := y
  simp [encDd, Bool.and_assoc]
@[simp] theorem isF_encD {d : Dd} : isF (encDd d) = true := by simp [encDd]
@[simp] theorem okD_encD {d : Dd} : okD (n + 2) (encDd d) = true := by simp [encDd]
@[simp] theorem isFs_encD {ds : List Dd} : isFs (ds.map encDd) = true := isFs_map fun _ _ => isF_encD
@[simp] theorem okDs_encD {ds : List Dd} : okDs 63 (ds.map encDd) = true := okDs_map fun _ _ => okD_encD
@[simp] theorem eqs_encD {l m : List Dd} : pvEqs (l.map encDd) (m.map encDd) = decide (l = m) := pvEqs_map encD_eq
section
variable {d : Dd} {is : List Nat} {e : Slots} {s : Str}
@[simp] theorem dd0 : ixQ (encDd d) (.int 0) = some (.int d.t) := by simp [encDd]
@[simp] theorem dd1 : ixQ (encDd d) (.int 1) = some (.str (wS d.w)) := by simp [encDd]
@[simp] theorem dd2 : ixQ (encDd d) (.int 2) = some (.int d.x) := by simp [encDd]
@[simp] theorem ddU : unpA is (encDd d) e = setO (setsM is [.int d.t, .str (wS d.w), .int d.x] e) := by simp [encDd]
@[simp] theorem ddT : takeM [i, j, k] (encDd d) e = setsM [i, j, k] [.int d.t, .str (wS d.w), .int d.x] e := rfl
@[simp] theorem ddI : isiQ "tuple" (encDd d) = some true := (rfl)
@[simp] theorem ddL : lenQ (encDd d) = some (.int 3) := by simp [encDd]
@[simp] theorem ddN : isNonQ (encDd d) = some false := (rfl)
end
/-! ### the watch -/
def encW (many : Int) (s : Ws) (ks xs : List PV) : PV :=
  .ins true "Watch" ["awake", "past", "holders"] [.lst true (tabL many fun i => .bl (s.aw i)), .lst true (tabL many fun i => .bl (s.pa i)), .dic true ks xs]
structure HoD (ho : Int → Option Int) (ks xs : List PV) : Prop where
  len : ks.length = xs.length
  fr : isFs xs = true
  at_ : ∀ x : Int, lookD ks xs (.int x) = (ho x).map .int
theorem hod0 : HoD ws0.ho [] [] := ⟨rfl, rfl, fun x => by simp [ws0]⟩
theorem s_winit (many : Int) (h1 : 1 ≤ many) (h2 : many ≤ 100) : f_Watch_init [.ins true "Watch" [] [], .int many] = .ok .non [some (encW many ws0 [] []), some (.int many)] := by
  have e1 : -4611686018427387904 ≤ many := by omega
  have e2 : many < 4611686018427387904 := by omega
  have e3 : many.toNat ≤ 1000000 := by omega
  simp [f_Watch_init, fnM_eq, c_Watch_init, e1, e2, rangeL_len, e3]
  rw [compL_map (fun _ : Int => true) (fun i : Int => .bl (decide (i = 0)))]
  rotate_left
  · intro x hx
    simp
  have := catQ_rep (xs := [PV.bl false]) (o := true) (p := many) (by simp) (by omega) (by omega) (by simp; omega)
  rw [tabL_rep] at this
  simp [this, encW, ws0, tabL]
section
variable {many : Int} {s : Ws} {d : Dd} {ks xs : List PV}
theorem s_form (h : okW many s d) : f_form_fault [.int many, encDd d] = .ok .non [some (.int many), some (encDd d)] := by
  have h0 := h.t0; have h1 := h.t1; have h2 := h.x0; have h3 := h.x1
  have h4 : ¬ d.x < 0 := by omega
  cases hw : d.w <;> simp [hw] at h3 <;> simp [f_form_fault, fnM_eq, c_form_fault, hw, h0, h1, h3, h4, wS]
theorem s_place (h : okW many s d) (hd : HoD s.ho ks xs) : f_Watch_place_fault [encW many s ks xs, encDd d] = .ok .non [some (encW many s ks xs), some (encDd d)] := by
  have h0 := h.t0; have h1 := h.t1; have h2 := h.x0; have h3 := h.x1
  have h4 := hd.at_ d.x
  have e1 := tabL_at (g := fun i => PV.bl (s.aw i)) h0 h1
  have e2 := tabL_at (g := fun i => PV.bl (s.pa i)) h0 h1
  have ha := h.aw; have hp := h.pa; have hk := h.fk; have hwt := h.wt; have ht := h.tk; have hg := h.gv
  unfold encW
  cases hw : d.w with
  | fork =>
    have e3 := tabL_at (g := fun i => PV.bl (s.aw i)) h2 (h3 (.inl hw))
    simp [hw] at hk
    simp [f_Watch_place_fault, fnM_eq, c_Watch_place_fault, f_Watch_lock_fault, c_Watch_lock_fault, hw, e1, e2, e3, ha, hp, hk, wS, fnM_eq]
  | wait =>
    have e3 := tabL_at (g := fun i => PV.bl (s.aw i)) h2 (h3 (.inr hw))
    simp [hw] at hwt
    simp [f_Watch_place_fault, fnM_eq, c_Watch_place_fault, f_Watch_lock_fault, c_Watch_lock_fault, hw, e1, e2, e3, ha, hp, hwt.1, hwt.2, wS, fnM_eq]
  | take =>
    simp [hw] at ht
    rw [ht] at h4
    simp [f_Watch_place_fault, fnM_eq, c_Watch_place_fault, f_Watch_lock_fault, c_Watch_lock_fault, hw, e1, e2, ha, hp, h4, wS, fnM_eq]
  | give =>
    simp [hw] at hg
    rw [hg] at h4
    simp [f_Watch_place_fault, fnM_eq, c_Watch_place_fault, f_Watch_lock_fault, c_Watch_lock_fault, hw, e1, e2, ha, hp, h4, wS, fnM_eq]
  | read => simp [f_Watch_place_fault, fnM_eq, c_Watch_place_fault, f_Watch_lock_fault, c_Watch_lock_fault, hw, e1, e2, ha, hp, wS, fnM_eq]
  | write => simp [f_Watch_place_fault, fnM_eq, c_Watch_place_fault, f_Watch_lock_fault, c_Watch_lock_fault, hw, e1, e2, ha, hp, wS, fnM_eq]
theorem s_add (h : okW many s d) (hd : HoD s.ho ks xs) (hl : ks.length < 1000) :
    ∃ ks' xs', f_Watch_add [encW many s ks xs, encDd d] = .ok .non [some (encW many (addW s d) ks' xs'), some (encDd d)] ∧ HoD (addW s d).ho ks' xs' ∧ ks'.length ≤ ks.length + 1 := by
  have h0 := h.t0; have h1 := h.t1; have h2 := h.x0; have h3 := h.x1
  have hkl : ks.length < 1000000 := by omega
  unfold encW
  cases hw : d.w with
  | take =>
    refine ⟨(putD ks xs (.int d.x) (.int d.t)).1, (putD ks xs (.int d.x) (.int d.t)).2, ?_, ⟨putD_len hd.len, putD_isFs rfl hd.fr, fun y => ?_⟩, putD_le⟩
    · simp [f_Watch_add, fnM_eq, c_Watch_add, hkl, addW, hw, wS]
    · rw [lookD_put hd.len rfl, hd.at_, Rk.keyIs_int]
      by_cases q : d.x = y
      · simp [addW, hw, q]
      · have q2 : ¬ y = d.x := fun z => q z.symm
        simp [addW, hw, q, q2]
  | give =>
    have hg := h.gv hw
    have hv := hd.at_ d.x
    rw [hg] at hv
    refine ⟨dropDk ks (.int d.x), dropDx ks xs (.int d.x), ?_, ⟨dropD_len hd.len, dropDx_isFs hd.fr, fun y => ?_⟩, ?_⟩
    · simp [f_Watch_add, fnM_eq, c_Watch_add, hv, addW, hw, wS]
    · rw [lookD_drop hd.len, hd.at_, Rk.keyIs_int]
      by_cases q : d.x = y
      · simp [addW, hw, q]
      · have q2 : ¬ y = d.x := fun z => q z.symm
        simp [addW, hw, q, q2]
    · have := dropD_le (ks := ks) (k := .int d.x); omega
  | fork =>
    have h4 := h3 (.inl hw)
    refine ⟨ks, xs, ?_, ⟨hd.len, hd.fr, fun y => ?_⟩, by omega⟩
    · have e := tabL_set (g := fun i => PV.bl (s.aw i)) (y := .bl true) h2 h4
      rw [show (fun j => if j = d.x then PV.bl true else PV.bl (s.aw j)) = fun i => PV.bl ((addW s d).aw i) from funext fun j => by by_cases q : j = d.x <;> simp [addW, hw, q]] at e
      have e2 := ixN_nn (n := (tabL many fun i => PV.bl (s.aw i)).length) h2 (by rw [tabL_len]; omega)
      have e3 : (addW s d).pa = s.pa := funext fun t => by simp [addW, hw]
      rw [e3]
      simp [f_Watch_add, fnM_eq, c_Watch_add, e, e2, hw, wS]
    · rw [hd.at_]; simp [addW, hw]
  | wait =>
    have h4 := h3 (.inr hw)
    refine ⟨ks, xs, ?_, ⟨hd.len, hd.fr, fun y => ?_⟩, by omega⟩
    · have e := tabL_set (g := fun i => PV.bl (s.pa i)) (y := .bl true) h2 h4
      rw [show (fun j => if j = d.x then PV.bl true else PV.bl (s.pa j)) = fun i => PV.bl ((addW s d).pa i) from funext fun j => by by_cases q : j = d.x <;> simp [addW, hw, q]] at e
      have e2 := ixN_nn (n := (tabL many fun i => PV.bl (s.pa i)).length) h2 (by rw [tabL_len]; omega)
      have e3 : (addW s d).aw = s.aw := funext fun t => by simp [addW, hw]
      rw [e3]
      simp [f_Watch_add, fnM_eq, c_Watch_add, e, e2, hw, wS]
    · rw [hd.at_]; simp [addW, hw]
  | read =>
    refine ⟨ks, xs, ?_, ⟨hd.len, hd.fr, fun y => ?_⟩, by omega⟩
    · simp [f_Watch_add, fnM_eq, c_Watch_add, hw, wS, addW]
    · rw [hd.at_]; simp [addW, hw]
  | write =>
    refine ⟨ks, xs, ?_, ⟨hd.len, hd.fr, fun y => ?_⟩, by omega⟩
    · simp [f_Watch_add, fnM_eq, c_Watch_add, hw, wS, addW]
    · rw [hd.at_]; simp [addW, hw]
end
/-! ### rows -/
/-- the deeds of a list by place -/
def at0 (ds : List Dd) (i : Nat) : Dd := ds[i]?.getD ⟨0, .read, 0⟩
theorem at0_get {ds : List Dd} {i : Nat} {d : Dd} (h : ds[i]? = some d) : at0 ds i = d := by unfold at0; rw [h]; rfl
theorem at0_app {pre rest : List Dd} {i : Nat} (h : i < pre.length) : at0 (pre ++ rest) i = at0 pre i := by unfold at0; rw [List.getElem?_append_left h]
theorem at0_mid {pre rest : List Dd} {d : Dd} : at0 (pre ++ d :: rest) pre.length = d := by unfold at0; simp
theorem wsN_congr {D E : Nat → Dd} : ∀ {n : Nat}, (∀ i, i < n → D i = E i) → wsN D n = wsN E n
  | 0, _ => rfl
  | n + 1, h => by
    show addW (wsN D n) (D n) = addW (wsN E n) (E n)
    rw [wsN_congr fun i hi => h i (by omega), h n (by omega)]
def ROk (many : Int) (ds : List Dd) : Prop := RowOk many (at0 ds) ds.length
theorem s_fault (many : Int) (ds : List Dd) (h1 : 1 ≤ many) (h2 : many ≤ 100) (hl : ds.length ≤ 200) (ho : ROk many ds) :
    f_fault [.int many, .lst false (ds.map encDd)] = .ok .non [some (.int many), some (.lst false (ds.map encDd))] := by
  have hi := s_winit many h1 h2
  simp [f_fault, fnM_eq, c_fault, hi]
  refine forL_elim1 (X := fun r => finM _ _ (seqM r _) = _)
    (fun l e => ∃ pre rest ks xs, ds = pre ++ rest ∧ l = enumF (pre.length : Int) rest ∧ e = [some (.int many), some (.lst false (ds.map encDd)), some (encW many (wsN (at0 ds) pre.length) ks xs), none, none, none] ∧ HoD (wsN (at0 ds) pre.length).ho ks xs ∧ ks.length ≤ pre.length) ?_ ?_ ?_
  · rintro ⟨d, j⟩ l e ⟨pre, rest, ks, xs, e1, e2, rfl, hd, hk⟩
    cases rest with
    | nil => simp at e2
    | cons d' rest =>
      simp only [enumF_cons, List.cons.injEq, Prod.mk.injEq] at e2
      obtain ⟨⟨rfl, rfl⟩, rfl⟩ := e2
      have hlen : pre.length < ds.length := by rw [e1]; simp
      have hok := ho pre.length hlen
      have hdd : at0 ds pre.length = d := by rw [e1]; exact at0_mid
      rw [hdd] at hok
      have hf := s_form hok
      have hp := s_place hok hd
      obtain ⟨ks', xs', ha, hd', hk'⟩ := s_add hok hd (by omega)
      have hn : wsN (at0 ds) (pre.length + 1) = addW (wsN (at0 ds) pre.length) d := by show addW _ _ = _; rw [hdd]
      simp only [encW] at hp ha
      refine ⟨_, rfl, _, by simp [hf, hp, ha, encW]; rfl, pre ++ [d], rest, ks', xs', by simp [e1], by simp, ?_, ?_, by simp; omega⟩
      · rw [List.length_append, List.length_singleton, hn]; simp [encW]
      · rw [List.length_append, List.length_singleton, hn]; exact hd'
  · exact ⟨[], ds, [], [], rfl, rfl, by simp [wsN], hod0, Nat.le_refl _⟩
  · rintro e' ⟨pre, rest, ks, xs, e1, e2, rfl, hd, hk⟩
    simp
def encR (many : Int) (ds : List Dd) : PV := .ins false "Row" ["many", "size", "kept"] [.int many, .int ds.length, .lst false (ds.map encDd)]
section
variable {many : Int} {ds : List Dd}
@[simp] theorem isF_encR : isF (encR many ds) = true := by simp [encR]
@[simp] theorem rw0 : fldQ (encR many ds) "many" = some (.int many) := by simp [encR]
@[simp] theorem rw1 : fldQ (encR many ds) "size" = some (.int ds.length) := by simp [encR]
@[simp] theorem rw2 : fldQ (encR many ds) "kept" = some (.lst false (ds.map encDd)) := by simp [encR]
@[simp] theorem rwm1 : okR "Row" "deed" (encR many ds) = true := by simp [encR]
@[simp] theorem rwm2 : okR "Row" "deeds" (encR many ds) = true := by simp [encR]
theorem encR_eq : PV.ins false "Row" ["many", "size", "kept"] [.int many, .int ds.length, .lst false (ds.map encDd)] = encR many ds := (rfl)
theorem s_rinit (h1 : 1 ≤ many) (h2 : many ≤ 6) (hl : ds.length ≤ 60) (ho : ROk many ds) :
    f_Row_init [.ins true "Row" [] [], .int many, .lst false (ds.map encDd)] = .ok .non [some (.ins true "Row" ["many", "size", "kept"] [.int many, .int ds.length, .lst false (ds.map encDd)]), some (.int many), some (.lst false (ds.map encDd))] := by
  have hf := s_fault many ds h1 (by omega) (by omega) ho
  have hl2 : ¬ (60 : Int) < ds.length := by omega
  have hl3 : ds.length ≤ 1000000 := by omega
  simp [f_Row_init, fnM_eq, c_Row_init, h1, h2, hl2, hf, hl3]
theorem s_rdeeds (hl : ds.length ≤ 60) : f_Row_deeds [encR many ds] = .ok (.lst true (ds.map encDd)) [some (encR many ds)] := by
  simp [f_Row_deeds, fnM_eq, c_Row_deeds]
theorem s_rdeed {i : Int} {d : Dd} (h0 : 0 ≤ i) (h : ds[i.toNat]? = some d) : f_Row_deed [encR many ds, .int i] = .ok (encDd d) [some (encR many ds), some (.int i)] := by
  have e : atI (ds.map encDd) i = some (encDd d) := by rw [atI_nn h0, List.getElem?_map, h]; rfl
  simp [f_Row_deed, fnM_eq, c_Row_deed, e]
end
end Sr

set_option linter.all false
set_option maxRecDepth 100000
set_option maxHeartbeats 400000
namespace Sr
open PySem PySem.Spec PyProof.Rows L2 Rk Row
/-! ### clocks -/
/-- a clock, one's own or not -/
def ckO (o : Bool) (many : Int) (c : Int → Int) : PV := .lst o (tabL many fun u => .int (c u))
section
variable {many : Int} {c g : Int → Int}
@[simp] theorem isF_ck : isF (ckO false many c) = true := by
  show (!false && isFs _) = true
  rw [isFs_all]; simp [tabL]
@[simp] theorem isFs_ck : isFs (tabL many fun u => PV.int (c u)) = true := isFs_map fun _ _ => rfl
@[simp] theorem frz_ck : frz 0 (ckO true many c) = ckO false many c := by
  show frz 0 (.lst true _) = _
  rw [frz_lst0 isFs_ck]; rfl
theorem s_joined {o2 : Bool} (m1 : 1 ≤ many) (m2 : many ≤ 6) : f_joined [.lst true (tabL many fun u => .int (c u)), .lst false (tabL many fun u => .int (g u))] =
    .ok (.lst true (tabL many fun u => .int (max (c u) (g u)))) [some (.lst true (tabL many fun u => .int (c u))), some (.lst false (tabL many fun u => .int (g u)))] := by
  have hz : zipL (tabL many fun u => PV.int (c u)) (tabL many fun u => PV.int (g u)) = (rangeL 0 many).map fun u => PV.tup [.int (c u), .int (g u)] := by
    unfold zipL tabL
    rw [List.zip_map', List.map_map]; rfl
  have k3 : (rangeL 0 many).length ≤ 1000000 := by rw [rangeL_len]; omega
  simp [f_joined, fnM_eq, c_joined, hz, k3]
  rw [compL_map (fun _ => true) (fun u => .int (max (c u) (g u)))]
  rotate_left
  · intro u hu
    have : (if g u > c u then g u else c u) = max (c u) (g u) := by split <;> omega
    have : (if c u < g u then g u else c u) = max (c u) (g u) := this
    simp [this]
  simp [tabL]
end
structure GvD (many : Int) (gv : Int → Option (Int → Int)) (ks xs : List PV) : Prop where
  len : ks.length = xs.length
  fr : isFs xs = true
  at_ : ∀ l : Int, lookD ks xs (.int l) = (gv l).map fun g => .lst false (tabL many fun u => .int (g u))
theorem gvd0 {many : Int} : GvD many cs0.given [] [] := ⟨rfl, rfl, fun l => by simp [cs0]⟩
/-- the clocks that are told -/
noncomputable def ckL (many : Int) (D : Nat → Dd) (n : Nat) : List PV := (List.range n).map fun k => .lst false (tabL many fun u => .int (clk D k u))
theorem ckL_len {many : Int} {D : Nat → Dd} {n : Nat} : (ckL many D n).length = n := by simp [ckL]
theorem ckL_F {many : Int} {D : Nat → Dd} {n : Nat} : isFs (ckL many D n) = true := by
  unfold ckL
  exact isFs_map fun _ _ => by simp
theorem ckL_succ {many : Int} {D : Nat → Dd} {n : Nat} : ckL many D (n + 1) = ckL many D n ++ [.lst false (tabL many fun u => .int (clk D n u))] := by
  unfold ckL
  rw [List.range_succ, List.map_append]; rfl
theorem outer_set {many i : Int} {L : Int → Int → Int} {c : Int → Int} (h0 : 0 ≤ i) (h1 : i < many) :
    (tabL many fun t => PV.lst false (tabL many fun u => .int (L t u))).set i.toNat (.lst false (tabL many fun u => .int (c u))) = tabL many fun t => .lst false (tabL many fun u => .int ((if t = i then c else L t) u)) := by
  rw [tabL_set h0 h1]
  congr 1
  funext t
  by_cases q : t = i <;> simp [q]
theorem gvd_put {many : Int} {S : CSt} {d : Dd} {ks xs : List PV} (h : GvD many S.given ks xs) (hw : d.w = .give) :
    GvD many (Row.stC S d).given (putD ks xs (.int d.x) (.lst false (tabL many fun u => .int (c3 S d u)))).1 (putD ks xs (.int d.x) (.lst false (tabL many fun u => .int (c3 S d u)))).2 := by
  refine ⟨putD_len h.len, putD_isFs (by simp) h.fr, fun y => ?_⟩
  rw [lookD_put h.len rfl, h.at_, Rk.keyIs_int]
  by_cases q : d.x = y
  · simp [Row.stC, hw, q]
  · have q2 : ¬ y = d.x := fun z => q z.symm
    simp [Row.stC, hw, q, q2]
theorem gvd_same {many : Int} {S : CSt} {d : Dd} {ks xs : List PV} (h : GvD many S.given ks xs) (hw : d.w ≠ .give) : GvD many (Row.stC S d).given ks xs := by
  have : (Row.stC S d).given = S.given := funext fun l => by simp [Row.stC, hw]
  rw [this]; exact h
theorem last_same {S : CSt} {d : Dd} (hw : d.w ≠ .fork) {t u : Int} : (if t = d.t then c3 S d else S.last t) u = (Row.stC S d).last t u := by simp [Row.stC, hw]
theorem last_fork {S : CSt} {d : Dd} (hw : d.w = .fork) {t u : Int} : (if t = d.x then c3 S d else if t = d.t then c3 S d else S.last t) u = (Row.stC S d).last t u := by simp [Row.stC, hw]
section
variable {many : Int} {ds : List Dd}
theorem s_clocks (m1 : 1 ≤ many) (m2 : many ≤ 6) (hl : ds.length ≤ 60) (ho : ROk many ds) :
    f_clocks [encR many ds] = .ok (.lst true (ckL many (at0 ds) ds.length)) [some (encR many ds)] := by
  have hf := rowF ho
  have hdd := s_rdeeds (many := many) hl
  have k1 : -4611686018427387904 ≤ many := by omega
  have k1' : -4611686018427387904 < many := by omega
  have k2 : many < 4611686018427387904 := by omega
  have k3 : (rangeL 0 many).length ≤ 1000000 := by rw [rangeL_len]; omega
  have k4 : many.toNat ≤ 1000000 := by omega
  have e1 : catQ .Mult (.lst true [.int 0]) (.int many) = some (.lst true (tabL many fun _ => (PV.int 0))) := by
    rw [catQ_rep (by simp) k1' k2 (by simpa using k4), tabL_rep]
  simp [f_clocks, fnM_eq, c_clocks, k1, k2, k3, e1]
  rw [compL_map (fun _ => true) (fun _ => .lst true (tabL many fun _ => (PV.int 0)))]
  rotate_left
  · intro x hx
    simp [e1]
  simp [hdd]
  have hfr : frz 1 (PV.lst true (List.map (fun _ => PV.lst true (tabL many fun _ => PV.int 0)) (rangeL 0 many))) = .lst true (tabL many fun t => .lst false (tabL many fun u => .int (cs0.last t u))) := by
    show PV.lst true (frzs 0 _) = _
    congr 1
    have : ∀ l : List Int, frzs 0 (l.map fun _ => PV.lst true (tabL many fun _ => PV.int 0)) = l.map fun t => .lst false (tabL many fun u => .int (cs0.last t u)) := by
      intro l
      induction l with
      | nil => rfl
      | cons x l ih =>
        rw [List.map_cons, List.map_cons, frzs_cons, ih, frz_lst0 (isFs_ck (c := fun _ => 0))]; rfl
    exact this _
  rw [hfr]
  refine forL_elim1 (X := fun r => finM _ _ (seqM r _) = _)
    (fun l e => ∃ (pre : List Dd) (ks xs : List PV), ds = pre ++ l ∧ GvD many (csN (at0 ds) pre.length).given ks xs ∧ ks.length ≤ pre.length ∧
      e = [some (encR many ds), some (.lst true (tabL many fun t => .lst false (tabL many fun u => .int ((csN (at0 ds) pre.length).last t u)))), some (.dic true ks xs), some (.lst true (ckL many (at0 ds) pre.length)), none, none, none, none]) ?_ ?_ ?_
  · rintro d l e ⟨pre, ks, xs, h1, hg, hk, rfl⟩
    have hlen : pre.length < ds.length := by rw [h1]; simp
    have hok := ho pre.length hlen
    have hdd : at0 ds pre.length = d := by rw [h1]; exact at0_mid
    have hcl := clk_told hf hlen
    have hsucc : csN (at0 ds) (pre.length + 1) = Row.stC (csN (at0 ds) pre.length) d := by show Row.stC _ _ = _; rw [hdd]
    rw [hdd] at hok hcl
    obtain ⟨S, hS⟩ : ∃ S, csN (at0 ds) pre.length = S := ⟨_, rfl⟩
    rw [hS] at hg hcl hsucc
    have t0 := hok.t0; have t1 := hok.t1; have x0 := hok.x0; have x1 := hok.x1
    have a1 : (ckL many (at0 ds) pre.length).length < 1000000 := by rw [ckL_len]; omega
    have a2 : ks.length < 1000000 := by omega
    have k5 : (tabL many fun u => PV.int (S.last d.t u)).length ≤ 1000000 := by rw [tabL_len]; omega
    have b0 : ∀ {i : Int} (c : Int → Int), 0 ≤ i → i < many → atI (tabL many fun u => PV.int (c u)) i = some (.int (c i)) := fun c h h2 => tabL_at h h2
    have b1 : ∀ {i : Int} (L : Int → Int → Int), 0 ≤ i → i < many → atI (tabL many fun t => PV.lst false (tabL many fun u => .int (L t u))) i = some (.lst false (tabL many fun u => .int (L i u))) := fun L h h2 => tabL_at h h2
    have b3 : ∀ {i : Int} (g : Int → PV), 0 ≤ i → i < many → ixN (tabL many g).length i = some i.toNat := fun g h h2 => ixN_nn h (by rw [tabL_len]; omega)
    have b4 : ∀ c : Int → Int, c2 S d = c → (tabL many fun u => PV.int (c u)).set d.t.toNat (.int (c d.t + 1)) = tabL many fun u => .int (clk (at0 ds) pre.length u) := fun c hc => by
      rw [tabL_set t0 t1, ← hcl]
      congr 1
      funext u
      unfold c3
      rw [hc]
      by_cases q : u = d.t <;> simp [q]
    have b5 : ∀ {i : Int} (L : Int → Int → Int) (c : Int → Int), 0 ≤ i → i < many → (tabL many fun t => PV.lst false (tabL many fun u => .int (L t u))).set i.toNat (.lst false (tabL many fun u => .int (c u))) = tabL many fun t => .lst false (tabL many fun u => .int ((if t = i then c else L t) u)) := fun L c h h2 => outer_set h h2
    have b6 : ∀ g : Int → PV, (tabL many g).length ≤ 1000000 := fun g => by rw [tabL_len]; omega
    have a3 := ckL_F (many := many) (D := at0 ds) (n := pre.length)
    have fin : ∀ ks' xs', GvD many (Row.stC S d).given ks' xs' → ks'.length ≤ ks.length + 1 → ∃ (pre' : List Dd), ds = pre' ++ l ∧ ∃ (ks'' xs'' : List PV), GvD many (csN (at0 ds) pre'.length).given ks'' xs'' ∧ ks''.length ≤ pre'.length ∧
        (tabL many fun t => PV.lst false (tabL many fun u => .int ((Row.stC S d).last t u))) = (tabL many fun t => PV.lst false (tabL many fun u => .int ((csN (at0 ds) pre'.length).last t u))) ∧ (ks' = ks'' ∧ xs' = xs'') ∧
        ckL many (at0 ds) pre.length ++ [.lst false (tabL many fun u => .int (clk (at0 ds) pre.length u))] = ckL many (at0 ds) pre'.length := fun ks' xs' q1 q2 => by
      refine ⟨pre ++ [d], by simp [h1], ks', xs', ?_, by simp; omega, ?_, ⟨rfl, rfl⟩, ?_⟩
      · rw [List.length_append, List.length_singleton, hsucc]; exact q1
      · rw [List.length_append, List.length_singleton, hsucc]
      · rw [List.length_append, List.length_singleton, ckL_succ]
    have ls : d.w ≠ .fork → ∀ t u, (if t = d.t then clk (at0 ds) pre.length else S.last t) u = (Row.stC S d).last t u := fun h t u => by rw [← hcl]; exact last_same h
    refine ⟨_, rfl, ?_⟩
    change exNxt _ (fun e2 => _)
    rw [hS]
    cases hw : d.w with
    | read =>
      have hc2 : c2 S d = S.last d.t := by simp [c2, c1, c0, hw]
      have b4' := b4 _ hc2
      have ls := ls (by simp [hw])
      have := fin ks xs (gvd_same hg (by simp [hw])) (by omega)
      simp [hw, wS, t0, b0 _ t0 t1, b1 _ t0 t1, b3 _ t0 t1, b4', b5 _ _ t0 t1, b6, a1, a2, a3, ls]
      exact this
    | write =>
      have hc2 : c2 S d = S.last d.t := by simp [c2, c1, c0, hw]
      have b4' := b4 _ hc2
      have ls := ls (by simp [hw])
      have := fin ks xs (gvd_same hg (by simp [hw])) (by omega)
      simp [hw, wS, t0, b0 _ t0 t1, b1 _ t0 t1, b3 _ t0 t1, b4', b5 _ _ t0 t1, b6, a1, a2, a3, ls]
      exact this
    | give =>
      have hc2 : c2 S d = S.last d.t := by simp [c2, c1, c0, hw]
      have b4' := b4 _ hc2
      have ls := ls (by simp [hw])
      have := fin _ _ (gvd_put hg hw) putD_le
      rw [hcl] at this
      simp [hw, wS, t0, b0 _ t0 t1, b1 _ t0 t1, b3 _ t0 t1, b4', b5 _ _ t0 t1, b6, a1, a2, a3, ls]
      exact this
    | fork =>
      have hx := x1 (.inl hw)
      have hc2 : c2 S d = S.last d.t := by simp [c2, c1, c0, hw]
      have b4' := b4 _ hc2
      have lsf : ∀ t u, (if t = d.x then clk (at0 ds) pre.length else if t = d.t then clk (at0 ds) pre.length else S.last t) u = (Row.stC S d).last t u := fun t u => by rw [← hcl]; exact last_fork hw
      have b7 := b5 (fun t => if t = d.t then clk (at0 ds) pre.length else S.last t) (clk (at0 ds) pre.length) x0 hx
      have := fin ks xs (gvd_same hg (by simp [hw])) (by omega)
      simp only [lsf] at b7
      simp [hw, wS, t0, b0 _ t0 t1, b1 _ t0 t1, b3 _ t0 t1, b3 _ x0 hx, b4', b5 _ _ t0 t1, b7, b6, a1, a2, a3]
      exact this
    | wait =>
      have hx := x1 (.inr hw)
      have hc2 : c2 S d = fun u => max (S.last d.t u) (S.last d.x u) := by simp [c2, c1, c0, hw]
      have b4' := b4 _ hc2
      have hj := s_joined (o2 := false) (c := S.last d.t) (g := S.last d.x) m1 m2
      have ls := ls (by simp [hw])
      have := fin ks xs (gvd_same hg (by simp [hw])) (by omega)
      simp [hw, wS, t0, hj, b0 (fun u => max (S.last d.t u) (S.last d.x u)) t0 t1, b1 _ t0 t1, b1 _ x0 hx, b3 _ t0 t1, b4', b5 _ _ t0 t1, b6, a1, a2, a3, ls]
      exact this
    | take =>
      have ls := ls (by simp [hw])
      have := fin ks xs (gvd_same hg (by simp [hw])) (by omega)
      have hat := hg.at_ d.x
      cases hgv : S.given d.x with
      | none =>
        rw [hgv] at hat
        have hc2 : c2 S d = S.last d.t := by simp [c2, c1, c0, hw, hgv]
        have b4' := b4 _ hc2
        simp [hw, wS, t0, hat, b0 _ t0 t1, b1 _ t0 t1, b3 _ t0 t1, b4', b5 _ _ t0 t1, b6, a1, a2, a3, ls]
        exact this
      | some g =>
        rw [hgv] at hat
        have hc2 : c2 S d = fun u => max (S.last d.t u) (g u) := by simp [c2, c1, c0, hw, hgv]
        have b4' := b4 _ hc2
        have hj := s_joined (o2 := false) (c := S.last d.t) (g := g) m1 m2
        simp [hw, wS, t0, hat, hj, b0 (fun u => max (S.last d.t u) (g u)) t0 t1, b1 _ t0 t1, b3 _ t0 t1, b4', b5 _ _ t0 t1, b6, a1, a2, a3, ls]
        exact this
  · exact ⟨[], [], [], rfl, gvd0, Nat.le_refl _, by simp [csN, ckL]⟩
  · rintro e' ⟨pre, ks, xs, h1, hg, hk, rfl⟩
    have : pre = ds := by simpa using h1.symm
    subst this
    simp
end
end Sr

set_option linter.all false
set_option maxRecDepth 100000
set_option maxHeartbeats 400000
namespace Sh
open PySem PySem.Spec PyProof.Rows L2 Rk
/-! ### values, lines, states as data -/
inductive Val where
  | own (i : Int) | num (n : Int)
  deriving DecidableEq
def encV : Val → PV
  | .own i => .tup [.str "own", .int i]
  | .num n => .tup [.str "number", .int n]
@[simp] theorem encV_o {i : Int} : encV (.own i) = .tup [.str "own", .int i] := (rfl)
@[simp] theorem encV_n {i : Int} : encV (.num i) = .tup [.str "number", .int i] := (rfl)
inductive Ln where
  | read (o n : Int) | write (n : Int) (v : Val) | set (o : Int) (v : Val) (plus : Bool) (w : Val) | skip (v : Val) (eq : Bool) (w : Val) (j : Int)
  | take (l : Int) | give (l : Int) | fork (t : Int) | wait (t : Int)
  deriving DecidableEq
def sgn (b : Bool) : Str := if b = true then "+" else "-"
def tst (b : Bool) : Str := if b = true then "==" else "<"
def encL : Ln → PV
  | .read o n => .tup [.str "read", .int o, .int n]
  | .write n v => .tup [.str "write", .int n, encV v]
  | .set o v p w => .tup [.str "set", .int o, encV v, .str (sgn p), encV w]
  | .skip v q w j => .tup [.str "skip", encV v, .str (tst q), encV w, .int j]
  | .take l => .tup [.str "take", .int l]
  | .give l => .tup [.str "give", .int l]
  | .fork t => .tup [.str "fork", .int t]
  | .wait t => .tup [.str "wait", .int t]
def Val.Ok : Val → Prop
  | .own i => 0 ≤ i ∧ i < 3
  | .num _ => True
def Ln.Ok (many names : Int) : Ln → Prop
  | .read o n => (0 ≤ o ∧ o < 3) ∧ 0 ≤ n ∧ n < names
  | .write n v => (0 ≤ n ∧ n < names) ∧ v.Ok
  | .set o v _ w => (0 ≤ o ∧ o < 3) ∧ v.Ok ∧ w.Ok
  | .skip v _ w j => v.Ok ∧ w.Ok ∧ 0 ≤ j ∧ j ≤ 8
  | .take l => 0 ≤ l ∧ l < 3
  | .give l => 0 ≤ l ∧ l < 3
  | .fork t => 0 ≤ t ∧ t < many
  | .wait t => 0 ≤ t ∧ t < many
@[simp] theorem isF_encV {v : Val} : isF (encV v) = true := by cases v <;> simp
@[simp] theorem isF_encL {l : Ln} : isF (encL l) = true := by cases l <;> simp [encL]
def encOI : Option Int → PV
  | none => .non
  | some i => .int i
@[simp] theorem encOI_n : encOI none = .non := (rfl)
@[simp] theorem encOI_s {i : Int} : encOI (some i) = .int i := (rfl)
@[simp] theorem isF_encOI {o : Option Int} : isF (encOI o) = true := by cases o <;> simp
structure St where
  lines : List Int
  owns : List (List Int)
  vals : List Int
  hold : List (Option Int)
  awake : List Bool
def encOw (r : List Int) : PV := .tup (r.map .int)
@[simp] theorem isF_encOw {r : List Int} : isF (encOw r) = true := by simp [encOw]
def encS (s : St) : PV := .tup [.tup (s.lines.map .int), .tup (s.owns.map encOw), .tup (s.vals.map .int), .tup (s.hold.map encOI), .tup (s.awake.map .bl)]
@[simp] theorem isF_encS {s : St} : isF (encS s) = true := by simp [encS]
structure St.Ok (many names : Int) (s : St) : Prop where
  ln : (s.lines.length : Int) = many
  nn : ∀ x ∈ s.lines, 0 ≤ x
  ow : (s.owns.length : Int) = many
  o3 : ∀ r ∈ s.owns, r.length = 3
  vl : (s.vals.length : Int) = names
  hl : s.hold.length = 3
  al : (s.awake.length : Int) = many
abbrev Code := List (List Ln)
def encC (c : List Ln) : PV := .lst false (c.map encL)
@[simp] theorem isF_encC {c : List Ln} : isF (encC c) = true := by simp [encC]
/-- .. of one's own -/
def encCo (c : List Ln) : PV := .lst true (c.map encL)
theorem frzs_map {α : Type} {n : Nat} {g g2 : α → PV} : ∀ {l : List α}, (∀ x ∈ l, frz n (g x) = g2 x) → frzs n (l.map g) = l.map g2
  | [], _ => by simp
  | x :: l, h => by rw [List.map_cons, List.map_cons, frzs_cons, h x (by simp), frzs_map fun y hy => h y (by simp [hy])]
@[simp] theorem frz_codes {o : Bool} {cs : List (List Ln)} : frz 0 (.lst o (cs.map encCo)) = .lst false (cs.map encC) := by
  show PV.lst false (frzs 0 _) = _
  rw [frzs_map (g2 := encC)]
  intro x _
  simp [encCo, encC, isFs_map]
structure Pgm where
  firsts : List Int
  codes : Code
def Pgm.many (p : Pgm) : Int := p.codes.length
def Pgm.names (p : Pgm) : Int := p.firsts.length
def encP (p : Pgm) : PV := .ins false "Program" ["many", "names", "firsts", "codes"] [.int p.many, .int p.names, .lst false (p.firsts.map .int), .lst false (p.codes.map encC)]
@[simp] theorem isF_encP {p : Pgm} : isF (encP p) = true := by simp [encP]
section
variable {s : St} {p : Pgm} {is : List Nat} {e : Slots}
@[simp] theorem st0 : ixQ (encS s) (.int 0) = some (.tup (s.lines.map .int)) := by simp [encS]
@[simp] theorem st1 : ixQ (encS s) (.int 1) = some (.tup (s.owns.map encOw)) := by simp [encS]
@[simp] theorem st2 : ixQ (encS s) (.int 2) = some (.tup (s.vals.map .int)) := by simp [encS]
@[simp] theorem st3 : ixQ (encS s) (.int 3) = some (.tup (s.hold.map encOI)) := by simp [encS]
@[simp] theorem st4 : ixQ (encS s) (.int 4) = some (.tup (s.awake.map .bl)) := by simp [encS]
@[simp] theorem stU : unpA is (encS s) e = setO (setsM is [.tup (s.lines.map .int), .tup (s.owns.map encOw), .tup (s.vals.map .int), .tup (s.hold.map encOI), .tup (s.awake.map .bl)] e) := by simp [encS]
@[simp] theorem pg0 : fldQ (encP p) "many" = some (.int p.many) := by simp [encP]
@[simp] theorem pg1 : fldQ (encP p) "names" = some (.int p.names) := by simp [encP]
@[simp] theorem pg2 : fldQ (encP p) "firsts" = some (.lst false (p.firsts.map .int)) := by simp [encP]
@[simp] theorem pg3 : fldQ (encP p) "codes" = some (.lst false (p.codes.map encC)) := by simp [encP]
@[simp] theorem pgm1 : okR "Program" "line" (encP p) = true := by simp [encP]
@[simp] theorem pgm2 : okR "Program" "first_values" (encP p) = true := by simp [encP]
@[simp] theorem pgm3 : okR "Program" "code" (encP p) = true := by simp [encP]
end
structure Pgm.Ok (p : Pgm) : Prop where
  m1 : 1 ≤ p.codes.length
  m3 : p.codes.length ≤ 3
  n1 : 1 ≤ p.firsts.length
  n4 : p.firsts.length ≤ 4
  l8 : ∀ c ∈ p.codes, c.length ≤ 8
  ok : ∀ c ∈ p.codes, ∀ l ∈ c, l.Ok p.many p.names
@[simp] theorem soo : PyData.strOk (Str.ofString "own") = true := by decide +kernel
@[simp] theorem son : PyData.strOk (Str.ofString "number") = true := by decide +kernel
@[simp] theorem so1 : PyData.strOk (Str.ofString "read") = true := by decide +kernel
@[simp] theorem so2 : PyData.strOk (Str.ofString "write") = true := by decide +kernel
@[simp] theorem so3 : PyData.strOk (Str.ofString "take") = true := by decide +kernel
@[simp] theorem so4 : PyData.strOk (Str.ofString "give") = true := by decide +kernel
@[simp] theorem so5 : PyData.strOk (Str.ofString "fork") = true := by decide +kernel
@[simp] theorem so6 : PyData.strOk (Str.ofString "wait") = true := by decide +kernel
@[simp] theorem so7 : PyData.strOk (Str.ofString "set") = true := by decide +kernel
@[simp] theorem so8 : PyData.strOk (Str.ofString "skip") = true := by decide +kernel
@[simp] theorem so9 : PyData.strOk (Str.ofString "+") = true := by decide +kernel
@[simp] theorem so10 : PyData.strOk (Str.ofString "-") = true := by decide +kernel
@[simp] theorem so11 : PyData.strOk (Str.ofString "==") = true := by decide +kernel
@[simp] theorem so12 : PyData.strOk (Str.ofString "<") = true := by decide +kernel
/-! ### the program's defs -/
theorem s_put (xs : List PV) (i : Int) (x : PV) (h0 : 0 ≤ i) (h1 : i < xs.length) (hf : isFs xs = true) (hx : isF x = true) (hl : xs.length ≤ 1000) : f_put [.tup xs, .int i, x] = .ok (.tup (xs.set i.toNat x)) [some (.tup xs), some (.int i), some x] := by
  have f1 : isFs (xs.take i.toNat) = true := by rw [isFs_all] at hf ⊢; rw [List.all_eq_true] at hf ⊢; exact fun y hy => hf y (List.mem_of_mem_take hy)
  have f2 : isFs (xs.drop (i + 1).toNat) = true := by rw [isFs_all] at hf ⊢; rw [List.all_eq_true] at hf ⊢; exact fun y hy => hf y (List.mem_of_mem_drop hy)
  have c1 := cutL_to (l := xs) h0
  have c2 := cutL_from (l := xs) (k := i + 1) (by omega)
  have e : xs.set i.toNat x = xs.take i.toNat ++ x :: xs.drop (i + 1).toNat := by
    rw [List.set_eq_take_append_cons_drop, if_pos (by omega)]
    congr 3
    omega
  have l1 : min i.toNat xs.length + 1 ≤ 1000000 := by omega
  have l2 : min i.toNat xs.length + 1 + (xs.length - (i + 1).toNat) ≤ 1000000 := by omega
  simp [f_put, fnM_eq, c_put, hf, hx, c1, c2, f1, f2, e, l1, l2]
/-- a line's length and first word are told by its form -/
def nxt (p : Pgm) (s : St) (t : Int) : Option Ln := match p.codes[t.toNat]?, s.lines[t.toNat]? with
  | some c, some k => c[k.toNat]?
  | _, _ => none
def encOL : Option Ln → PV
  | none => .non
  | some l => encL l
@[simp] theorem encOL_n : encOL none = .non := (rfl)
@[simp] theorem encOL_s {l : Ln} : encOL (some l) = encL l := (rfl)
@[simp] theorem isF_encOL {l : Option Ln} : isF (encOL l) = true := by cases l <;> simp
theorem at_of {α β : Type} {g : α → β} {l : List α} {i : Int} {x : α} (h0 : 0 ≤ i) (h : l[i.toNat]? = some x) : atI (l.map g) i = some (g x) := by
  rw [atI_nn h0, List.getElem?_map, h]; rfl
theorem get_of {α : Type} {l : List α} {i : Int} (h0 : 0 ≤ i) (h : i < l.length) : ∃ x, l[i.toNat]? = some x ∧ x ∈ l := by
  have : i.toNat < l.length := by omega
  exact ⟨l[i.toNat], List.getElem?_eq_getElem this, List.getElem_mem this⟩
section
variable {p : Pgm} {s : St} {t : Int}
theorem s_line (c : List Ln) (k : Int) (h0 : 0 ≤ t) (hc : p.codes[t.toNat]? = some c) (hk : 0 ≤ k) : f_Program_line [encP p, .int t, .int k] = .ok (encOL c[k.toNat]?) [some (encP p), some (.int t), some (.int k)] := by
  have e1 : atI (p.codes.map encC) t = some (encC c) := at_of h0 hc
  by_cases h : k < c.length
  · obtain ⟨l, hl, _⟩ := get_of hk h
    have e2 : atI (c.map encL) k = some (encL l) := at_of hk hl
    simp [encC] at e1
    rw [hl]
    simp [f_Program_line, fnM_eq, c_Program_line, e1, hk, h, e2, encC]
  · have e2 : c[k.toNat]? = none := List.getElem?_eq_none (by omega)
    simp [encC] at e1
    simp [f_Program_line, fnM_eq, c_Program_line, e1, hk, h, e2, encC]
theorem nxt_of {names : Int} (h : s.Ok p.many names) (h0 : 0 ≤ t) (h1 : t < p.many) : ∃ c k, p.codes[t.toNat]? = some c ∧ s.lines[t.toNat]? = some k ∧ 0 ≤ k ∧ c ∈ p.codes ∧ nxt p s t = c[k.toNat]? := by
  obtain ⟨c, hc, hm⟩ := get_of (l := p.codes) h0 h1
  obtain ⟨k, hk, hkm⟩ := get_of (l := s.lines) h0 (by rw [h.ln]; exact h1)
  exact ⟨c, k, hc, hk, h.nn k hkm, hm, by unfold nxt; rw [hc, hk]⟩
theorem s_next {names : Int} (h : s.Ok p.many names) (h0 : 0 ≤ t) (h1 : t < p.many) : f_next_line [encP p, encS s, .int t] = .ok (encOL (nxt p s t)) [some (encP p), some (encS s), some (.int t)] := by
  obtain ⟨c, k, hc, hk, hk0, _, hn⟩ := nxt_of h h0 h1
  have e := s_line (p := p) c k h0 hc hk0
  have e1 : atI (s.lines.map PV.int) t = some (PV.int k) := at_of h0 hk
  rw [hn]
  simp [f_next_line, fnM_eq, c_next_line, e, e1]
theorem s_ended {names : Int} (h : s.Ok p.many names) (h0 : 0 ≤ t) (h1 : t < p.many) : f_ended [encP p, encS s, .int t] = .ok (.bl (nxt p s t).isNone) [some (encP p), some (encS s), some (.int t)] := by
  have e := s_next h h0 h1
  cases hn : nxt p s t with
  | none => rw [hn] at e; simp [f_ended, fnM_eq, c_ended, e]
  | some l => rw [hn] at e; cases l <;> simp [f_ended, fnM_eq, c_ended, e, encL]
def aw (s : St) (t : Int) : Bool := s.awake[t.toNat]?.getD false
def ho (s : St) (l : Int) : Option Int := s.hold[l.toNat]?.getD none
theorem aw_at {many names : Int} (h : s.Ok many names) (h0 : 0 ≤ t) (h1 : t < many) : atI (s.awake.map PV.bl) t = some (.bl (aw s t)) := by
  obtain ⟨x, hx, _⟩ := get_of (l := s.awake) h0 (by rw [h.al]; exact h1)
  rw [at_of h0 hx]; unfold aw; rw [hx]; rfl
theorem ho_at {many names l : Int} (h : s.Ok many names) (h0 : 0 ≤ l) (h1 : l < 3) : atI (s.hold.map encOI) l = some (encOI (ho s l)) := by
  obtain ⟨x, hx, _⟩ := get_of (l := s.hold) h0 (by rw [h.hl]; exact h1)
  rw [at_of h0 hx]; unfold ho; rw [hx]; rfl
def mayL (p : Pgm) (s : St) (t : Int) : Ln → Bool
  | .take l => (ho s l).isNone
  | .give l => decide (ho s l = some t)
  | .fork u => !aw s u
  | .wait u => aw s u && (nxt p s u).isNone
  | _ => true
def may (p : Pgm) (s : St) (t : Int) : Bool := match nxt p s t with
  | none => false
  | some l => aw s t && mayL p s t l
theorem nxt_ok {names : Int} (hp : p.Ok) (h : s.Ok p.many names) (h0 : 0 ≤ t) (h1 : t < p.many) {l : Ln} (hn : nxt p s t = some l) : l.Ok p.many p.names := by
  obtain ⟨c, k, hc, hk, hk0, hm, e⟩ := nxt_of h h0 h1
  rw [e] at hn
  exact hp.ok c hm l (List.mem_of_getElem? hn)
theorem s_may {names : Int} (hp : p.Ok) (h : s.Ok p.many names) (h0 : 0 ≤ t) (h1 : t < p.many) : f_may_move [encP p, encS s, .int t] = .ok (.bl (may p s t)) [some (encP p), some (encS s), some (.int t)] := by
  have e := s_next h h0 h1
  have e1 := aw_at h h0 h1
  cases hn : nxt p s t with
  | none => rw [hn] at e; simp [f_may_move, fnM_eq, c_may_move, e, may, hn]
  | some l =>
    have hl := nxt_ok hp h h0 h1 hn
    rw [hn] at e
    by_cases ha : aw s t = true
    · cases l with
      | take l =>
        have e2 := ho_at h hl.1 hl.2
        simp [encL] at e
        cases hh : ho s l <;> simp [hh] at e2 <;> simp [f_may_move, fnM_eq, c_may_move, e, may, hn, mayL, e1, e2, ha, hh]
      | give l =>
        have e2 := ho_at h hl.1 hl.2
        simp [encL] at e
        cases hh : ho s l <;> simp [hh] at e2 <;> simp [f_may_move, fnM_eq, c_may_move, e, may, hn, mayL, e1, e2, ha, hh]
      | fork u =>
        have e2 := aw_at h hl.1 hl.2
        simp [encL] at e
        simp [f_may_move, fnM_eq, c_may_move, e, may, hn, mayL, e1, e2, ha]
      | wait u =>
        have e2 := aw_at h hl.1 hl.2
        have e3 := s_ended h hl.1 hl.2
        simp [encL] at e
        cases hu : aw s u <;> simp [f_may_move, fnM_eq, c_may_move, e, may, hn, mayL, e1, e2, e3, ha, hu]
      | read _ _ => simp [encL] at e; simp [f_may_move, fnM_eq, c_may_move, e, may, hn, mayL, e1, ha]
      | write _ _ => simp [encL] at e; simp [f_may_move, fnM_eq, c_may_move, e, may, hn, mayL, e1, ha]
      | set _ _ _ _ => simp [encL] at e; simp [f_may_move, fnM_eq, c_may_move, e, may, hn, mayL, e1, ha]
      | skip _ _ _ _ => simp [encL] at e; simp [f_may_move, fnM_eq, c_may_move, e, may, hn, mayL, e1, ha]
    · cases l <;> simp [encL] at e <;> simp [f_may_move, fnM_eq, c_may_move, e, may, hn, e1, ha]
/-! ### movers, values -/
def movS (p : Pgm) (s : St) : List Int := (rangeL 0 p.many).filter (may p s)
theorem many_pos (hp : p.Ok) : 1 ≤ p.many ∧ p.many ≤ 3 := by
  have := hp.m1; have := hp.m3; unfold Pgm.many; omega
theorem s_movers {names : Int} (hp : p.Ok) (h : s.Ok p.many names) : f_movers [encP p, encS s] = .ok (.lst true ((movS p s).map .int)) [some (encP p), some (encS s)] := by
  obtain ⟨m1, m3⟩ := many_pos hp
  have k1 : -4611686018427387904 ≤ p.many := by omega
  have k2 : p.many < 4611686018427387904 := by omega
  have k3 : (rangeL 0 p.many).length ≤ 1000000 := by rw [rangeL_len]; omega
  simp [f_movers, fnM_eq, c_movers, k1, k2, k3]
  rw [compL_map (may p s) (fun i : Int => .int i)]
  rotate_left
  · intro x hx
    obtain ⟨x0, x1⟩ := mem_rangeL.mp hx
    simp [s_may hp h x0 x1]
  simp [movS]
def valS (s : St) (t : Int) : Val → Int
  | .own i => ((s.owns[t.toNat]?.getD [])[i.toNat]?).getD 0
  | .num n => n
theorem s_valof {many names : Int} {v : Val} (h : s.Ok many names) (h0 : 0 ≤ t) (h1 : t < many) (hv : v.Ok) : f_value_of [encS s, .int t, encV v] = .ok (.int (valS s t v)) [some (encS s), some (.int t), some (encV v)] := by
  cases v with
  | num n => simp [f_value_of, fnM_eq, c_value_of, valS]
  | own i =>
    obtain ⟨r, hr, hm⟩ := get_of (l := s.owns) h0 (by rw [h.ow]; exact h1)
    have e1 : atI (s.owns.map encOw) t = some (encOw r) := at_of h0 hr
    obtain ⟨x, hx, _⟩ := get_of (l := r) hv.1 (by rw [h.o3 r hm]; exact hv.2)
    have e2 : atI (r.map PV.int) i = some (.int x) := at_of hv.1 hx
    simp [encOw] at e1
    simp [f_value_of, fnM_eq, c_value_of, valS, e1, e2, hr, hx]
def sumS (s : St) (t : Int) (v : Val) (plus : Bool) (w : Val) : Int := if plus = true then valS s t v + valS s t w else valS s t v - valS s t w
theorem s_summed {many names o : Int} {v w : Val} {b : Bool} (h : s.Ok many names) (h0 : 0 ≤ t) (h1 : t < many) (hv : v.Ok) (hw : w.Ok) :
    f_summed [encS s, .int t, encL (.set o v b w)] = .ok (.int (sumS s t v b w)) [some (encS s), some (.int t), some (encL (.set o v b w))] := by
  have e1 := s_valof h h0 h1 hv
  have e2 := s_valof h h0 h1 hw
  cases b <;> simp [f_summed, fnM_eq, c_summed, encL, e1, e2, sumS, sgn]
def leftS (s : St) (t : Int) (v : Val) (q : Bool) (w : Val) (j : Int) : Int :=
  if (q = true ∧ valS s t v = valS s t w) ∨ (q = false ∧ valS s t v < valS s t w) then j else 0
theorem s_left {many names j : Int} {v w : Val} {q : Bool} (h : s.Ok many names) (h0 : 0 ≤ t) (h1 : t < many) (hv : v.Ok) (hw : w.Ok) :
    f_left_out [encS s, .int t, encL (.skip v q w j)] = .ok (.int (leftS s t v q w j)) [some (encS s), some (.int t), some (encL (.skip v q w j))] := by
  have e1 := s_valof h h0 h1 hv
  have e2 := s_valof h h0 h1 hw
  cases q <;> simp [f_left_out, fnM_eq, c_left_out, encL, e1, e2, leftS, tst] <;> split <;> rfl
/-! ### a move -/
def setOwn (s : St) (t o n : Int) : St := { s with owns := s.owns.set t.toNat ((s.owns[t.toNat]?.getD []).set o.toNat n) }
def setVal (s : St) (i n : Int) : St := { s with vals := s.vals.set i.toNat n }
def setHold (s : St) (l : Int) (o : Option Int) : St := { s with hold := s.hold.set l.toNat o }
def setAwake (s : St) (u : Int) : St := { s with awake := s.awake.set u.toNat true }
def setLine (s : St) (t k : Int) : St := { s with lines := s.lines.set t.toNat k }
theorem put_map {α : Type} {g : α → PV} {l : List α} {i : Int} {x : α} (h0 : 0 ≤ i) (h1 : i < l.length) (hf : ∀ y, isF (g y) = true) (hl : l.length ≤ 1000) : f_put [.tup (l.map g), .int i, g x] = .ok (.tup ((l.set i.toNat x).map g)) [some (.tup (l.map g)), some (.int i), some (g x)] := by
  rw [s_put (l.map g) i (g x) h0 (by simpa using h1) (isFs_map fun y _ => hf y) (hf x) (by simpa using hl), List.map_set]
theorem s_withown {many names o n : Int} (hm : many ≤ 3) (h : s.Ok many names) (h0 : 0 ≤ t) (h1 : t < many) (o0 : 0 ≤ o) (o3 : o < 3) :
    f_with_own [encS s, .int t, .int o, .int n] = .ok (encS (setOwn s t o n)) [some (encS s), some (.int t), some (.int o), some (.int n)] := by
  obtain ⟨r, hr, hmm⟩ := get_of (l := s.owns) h0 (by rw [h.ow]; exact h1)
  have hr3 := h.o3 r hmm
  have hol := h.ow
  have e1 : atI (s.owns.map encOw) t = some (encOw r) := at_of h0 hr
  have e2 := put_map (g := PV.int) (l := r) (x := n) o0 (by omega) (fun _ => rfl) (by omega)
  have e3 := put_map (g := encOw) (l := s.owns) (x := r.set o.toNat n) h0 (by omega) (fun _ => isF_encOw) (by omega)
  simp only [encOw] at e1 e3
  have er : s.owns[t.toNat]?.getD [] = r := by rw [hr]; rfl
  simp [f_with_own, fnM_eq, c_with_own, e1, e2, e3, setOwn, er, -List.map_set]
  simp [encS, encOw, -List.map_set]
theorem s_withval {many names i n : Int} (hn : names ≤ 4) (h : s.Ok many names) (i0 : 0 ≤ i) (i1 : i < names) :
    f_with_value [encS s, .int i, .int n] = .ok (encS (setVal s i n)) [some (encS s), some (.int i), some (.int n)] := by
  have hvl := h.vl
  have e2 := put_map (g := PV.int) (l := s.vals) (x := n) i0 (by omega) (fun _ => rfl) (by omega)
  simp [f_with_value, fnM_eq, c_with_value, e2, setVal]
  simp [encS]
def doneS (s : St) (t : Int) : Ln → St
  | .read o n => setOwn s t o ((s.vals[n.toNat]?).getD 0)
  | .write n v => setVal s n (valS s t v)
  | .set o v b w => setOwn s t o (sumS s t v b w)
  | .take l => setHold s l (some t)
  | .give l => setHold s l none
  | .fork u => setAwake s u
  | _ => s
theorem s_done {many names : Int} {l : Ln} (hm : many ≤ 3) (hn : names ≤ 4) (h : s.Ok many names) (h0 : 0 ≤ t) (h1 : t < many) (hl : l.Ok many names) :
    f_line_done [encS s, .int t, encL l] = .ok (encS (doneS s t l)) [some (encS s), some (.int t), some (encL l)] := by
  have hvl := h.vl
  have hhl := h.hl
  have hal := h.al
  cases l with
  | read o n =>
    obtain ⟨x, hx, _⟩ := get_of (l := s.vals) hl.2.1 (by rw [h.vl]; exact hl.2.2)
    have e1 : atI (s.vals.map PV.int) n = some (.int x) := at_of hl.2.1 hx
    have e2 := s_withown (n := x) hm h h0 h1 hl.1.1 hl.1.2
    have er : s.vals[n.toNat]?.getD 0 = x := by rw [hx]; rfl
    simp [f_line_done, fnM_eq, c_line_done, encL, e1, e2, doneS, er]
  | write n v =>
    have e1 := s_valof h h0 h1 hl.2
    have e2 := s_withval (n := valS s t v) hn h hl.1.1 hl.1.2
    simp [f_line_done, fnM_eq, c_line_done, encL, e1, e2, doneS]
  | set o v b w =>
    have e1 := s_summed (o := o) (b := b) h h0 h1 hl.2.1 hl.2.2
    have e2 := s_withown (n := sumS s t v b w) hm h h0 h1 hl.1.1 hl.1.2
    simp [encL] at e1
    simp [f_line_done, fnM_eq, c_line_done, encL, e1, e2, doneS]
  | take l =>
    have e2 := put_map (g := encOI) (l := s.hold) (x := some t) hl.1 (by have := hl.2; omega) (fun _ => isF_encOI) (by omega)
    simp [-List.map_set] at e2
    simp [f_line_done, fnM_eq, c_line_done, encL, e2, doneS, setHold, -List.map_set]
    simp [encS, -List.map_set]
  | give l =>
    have e2 := put_map (g := encOI) (l := s.hold) (x := none) hl.1 (by have := hl.2; omega) (fun _ => isF_encOI) (by omega)
    simp [-List.map_set] at e2
    simp [f_line_done, fnM_eq, c_line_done, encL, e2, doneS, setHold, -List.map_set]
    simp [encS, -List.map_set]
  | fork u =>
    have e2 := put_map (g := PV.bl) (l := s.awake) (x := true) hl.1 (by have := hl.2; omega) (fun _ => rfl) (by omega)
    simp [f_line_done, fnM_eq, c_line_done, encL, e2, doneS, setAwake]
    simp [encS]
  | wait u => simp [f_line_done, fnM_eq, c_line_done, encL, doneS]
  | skip _ _ _ _ => simp [f_line_done, fnM_eq, c_line_done, encL, doneS]
def stepS (s : St) (t : Int) (l : Ln) : St := setLine s t ((s.lines[t.toNat]?.getD 0) + 1 + match l with
  | .skip v q w j => leftS s t v q w j
  | _ => 0)
theorem s_stepped {many names : Int} {l : Ln} (hm : many ≤ 3) (h : s.Ok many names) (h0 : 0 ≤ t) (h1 : t < many) (hl : l.Ok many names) :
    f_stepped [encS s, .int t, encL l] = .ok (encS (stepS s t l)) [some (encS s), some (.int t), some (encL l)] := by
  have hln := h.ln
  obtain ⟨x, hx, _⟩ := get_of (l := s.lines) h0 (by rw [h.ln]; exact h1)
  have e1 : atI (s.lines.map PV.int) t = some (.int x) := at_of h0 hx
  have er : s.lines[t.toNat]?.getD 0 = x := by rw [hx]; rfl
  have e2 := fun k : Int => put_map (g := PV.int) (l := s.lines) (x := k) h0 (by omega) (fun _ => rfl) (by omega)
  cases l with
  | skip v q w j =>
    have e3 := s_left (j := j) (q := q) h h0 h1 hl.1 hl.2.1
    simp [encL] at e3
    simp [f_stepped, fnM_eq, c_stepped, encL, e1, e2, e3, stepS, er, setLine]
    simp [encS]
  | read _ _ => simp [f_stepped, fnM_eq, c_stepped, encL, e1, e2, stepS, er, setLine]; simp [encS]
  | write _ _ => simp [f_stepped, fnM_eq, c_stepped, encL, e1, e2, stepS, er, setLine]; simp [encS]
  | set _ _ _ _ => simp [f_stepped, fnM_eq, c_stepped, encL, e1, e2, stepS, er, setLine]; simp [encS]
  | take _ => simp [f_stepped, fnM_eq, c_stepped, encL, e1, e2, stepS, er, setLine]; simp [encS]
  | give _ => simp [f_stepped, fnM_eq, c_stepped, encL, e1, e2, stepS, er, setLine]; simp [encS]
  | fork _ => simp [f_stepped, fnM_eq, c_stepped, encL, e1, e2, stepS, er, setLine]; simp [encS]
  | wait _ => simp [f_stepped, fnM_eq, c_stepped, encL, e1, e2, stepS, er, setLine]; simp [encS]
theorem setOwn_ok {many names o n : Int} (h : s.Ok many names) (h0 : 0 ≤ t) (h1 : t < many) : (setOwn s t o n).Ok many names := by
  obtain ⟨r, hr, hm⟩ := get_of (l := s.owns) h0 (by rw [h.ow]; exact h1)
  refine ⟨h.ln, h.nn, by simp [setOwn]; exact h.ow, ?_, h.vl, h.hl, h.al⟩
  intro x hx
  rcases List.mem_or_eq_of_mem_set hx with h2 | h2
  · exact h.o3 x h2
  · subst h2; rw [hr]; simp [h.o3 r hm]
theorem doneS_ok {many names : Int} {l : Ln} (h : s.Ok many names) (h0 : 0 ≤ t) (h1 : t < many) : (doneS s t l).Ok many names := by
  cases l with
  | read o n => exact setOwn_ok h h0 h1
  | set o v b w => exact setOwn_ok h h0 h1
  | write n v => exact ⟨h.ln, h.nn, h.ow, h.o3, by simp [doneS, setVal]; exact h.vl, h.hl, h.al⟩
  | take l => exact ⟨h.ln, h.nn, h.ow, h.o3, h.vl, by simp [doneS, setHold]; exact h.hl, h.al⟩
  | give l => exact ⟨h.ln, h.nn, h.ow, h.o3, h.vl, by simp [doneS, setHold]; exact h.hl, h.al⟩
  | fork u => exact ⟨h.ln, h.nn, h.ow, h.o3, h.vl, h.hl, by simp [doneS, setAwake]; exact h.al⟩
  | wait u => exact h
  | skip _ _ _ _ => exact h
theorem leftS_nn {v w : Val} {q : Bool} {j : Int} (h : 0 ≤ j) : 0 ≤ leftS s t v q w j := by unfold leftS; split <;> omega
theorem stepS_ok {many names : Int} {l : Ln} (h : s.Ok many names) (h0 : 0 ≤ t) (h1 : t < many) (hl : l.Ok many names) : (stepS s t l).Ok many names := by
  obtain ⟨k, hk, hm⟩ := get_of (l := s.lines) h0 (by rw [h.ln]; exact h1)
  have hk0 := h.nn k hm
  refine ⟨by simp [stepS, setLine]; exact h.ln, ?_, h.ow, h.o3, h.vl, h.hl, h.al⟩
  intro x hx
  rcases List.mem_or_eq_of_mem_set hx with h2 | h2
  · exact h.nn x h2
  · subst h2; rw [hk]
    cases l with
    | skip v q w j => have := leftS_nn (s := s) (t := t) (v := v) (w := w) (q := q) hl.2.2.1; simp only [Option.getD_some]; omega
    | _ => simp only [Option.getD_some]; omega
def moveS (p : Pgm) (s : St) (t : Int) : St := match nxt p s t with
  | none => s
  | some l => doneS (stepS s t l) t l
theorem moveS_ok (hp : p.Ok) (h : s.Ok p.many p.names) (h0 : 0 ≤ t) (h1 : t < p.many) : (moveS p s t).Ok p.many p.names := by
  unfold moveS
  cases hn : nxt p s t with
  | none => exact h
  | some l => exact doneS_ok (stepS_ok h h0 h1 (nxt_ok hp h h0 h1 hn)) h0 h1
theorem names_pos (hp : p.Ok) : 1 ≤ p.names ∧ p.names ≤ 4 := by
  have := hp.n1; have := hp.n4; unfold Pgm.names; omega
theorem s_moved (hp : p.Ok) (h : s.Ok p.many p.names) (h0 : 0 ≤ t) (h1 : t < p.many) (hm : may p s t = true) :
    f_moved [encP p, encS s, .int t] = .ok (encS (moveS p s t)) [some (encP p), some (encS s), some (.int t)] := by
  have e1 := s_may hp h h0 h1
  have e2 := s_next h h0 h1
  rw [hm] at e1
  cases hn : nxt p s t with
  | none => unfold may at hm; rw [hn] at hm; cases hm
  | some l =>
    rw [hn] at e2
    have hl := nxt_ok hp h h0 h1 hn
    have e3 := s_stepped (many_pos hp).2 h h0 h1 hl
    have e4 := s_done (many_pos hp).2 (names_pos hp).2 (stepS_ok h h0 h1 hl) h0 h1 hl
    simp at e2
    simp [f_moved, fnM_eq, c_moved, e1, e2, e3, e4, h0, h1, moveS, hn]
theorem s_moved_no (hp : p.Ok) (h : s.Ok p.many p.names) (hm : ¬ (0 ≤ t ∧ t < p.many ∧ may p s t = true)) :
    f_moved [encP p, encS s, .int t] = .exc "NoMove" [some (encP p), some (encS s), some (.int t)] := by
  by_cases h0 : 0 ≤ t
  · by_cases h1 : t < p.many
    · have e1 := s_may hp h h0 h1
      have : may p s t = false := by simpa [h0, h1] using hm
      rw [this] at e1
      simp [f_moved, fnM_eq, c_moved, e1, h0, h1]
    · simp [f_moved, fnM_eq, c_moved, h0, h1]
  · simp [f_moved, fnM_eq, c_moved, h0]
/-! ### the beginning -/
def beginS (p : Pgm) : St where
  lines := tabL p.many fun _ => 0
  owns := tabL p.many fun _ => [0, 0, 0]
  vals := p.firsts
  hold := [none, none, none]
  awake := tabL p.many fun i => decide (i = 0)
theorem begin_ok (hp : p.Ok) : (beginS p).Ok p.many p.names := by
  have := (many_pos hp).1
  have l1 : ∀ {α : Type} (g : Int → α), ((tabL p.many g).length : Int) = p.many := fun g => by rw [tabL_len]; omega
  refine ⟨l1 _, ?_, l1 _, ?_, rfl, rfl, l1 _⟩
  · intro x hx
    obtain ⟨i, _, rfl⟩ := List.mem_map.mp hx
    exact Int.le_refl _
  · intro x hx
    obtain ⟨i, _, rfl⟩ := List.mem_map.mp hx
    rfl
theorem s_firsts : f_Program_first_values [encP p] = .ok (.lst true (p.firsts.map .int)) [some (encP p)] := by
  simp [f_Program_first_values, fnM_eq, c_Program_first_values]
theorem s_begin (hp : p.Ok) : f_begin [encP p] = .ok (encS (beginS p)) [some (encP p)] := by
  obtain ⟨m1, m3⟩ := many_pos hp
  have k1 : -4611686018427387904 < p.many := by omega
  have k1' : -4611686018427387904 ≤ p.many := by omega
  have k2 : p.many < 4611686018427387904 := by omega
  have k3 : (rangeL 0 p.many).length ≤ 1000000 := by rw [rangeL_len]; omega
  have k4 : p.many.toNat ≤ 1000000 := by omega
  have e0 := s_firsts (p := p)
  have e1 : catQ .Mult (.lst true [.int 0]) (.int p.many) = some (.lst true ((tabL p.many fun _ => (0 : Int)).map .int)) := by
    rw [catQ_rep (by simp) k1 k2 (by simpa using k4), tabL_rep]
    simp [tabL]
  have e2 : catQ .Mult (.lst true [.tup [.int 0, .int 0, .int 0]]) (.int p.many) = some (.lst true ((tabL p.many fun _ => [(0 : Int), 0, 0]).map encOw)) := by
    rw [catQ_rep (by simp) k1 k2 (by simpa using k4), tabL_rep]
    simp [tabL, encOw]
  simp [f_begin, fnM_eq, c_begin, e0, e1, e2, k1', k2, k3]
  rw [compL_map (fun _ => true) (fun i : Int => .bl (decide (i = 0)))]
  rotate_left
  · intro x hx
    simp
  simp [e0, encS, beginS, tabL, encOI]
/-! ### taken -/
theorem s_ask {b : Bool} : f_ask_so [.bl b] = if b = true then .ok .non [some (.bl b)] else .exc "NoProgram" [some (.bl b)] := by
  cases b <;> simp [f_ask_so, fnM_eq, c_ask_so]
theorem s_askV {v : Val} (h : v.Ok) : f_ask_value [encV v] = .ok .non [some (encV v)] := by
  cases v with
  | num n => simp [f_ask_value, fnM_eq, c_ask_value, s_ask]
  | own i => simp [f_ask_value, fnM_eq, c_ask_value, s_ask, h.1, h.2]
theorem s_askL {many names : Int} {l : Ln} (h : l.Ok many names) : f_ask_line [encL l, .int many, .int names] = .ok .non [some (encL l), some (.int many), some (.int names)] := by
  cases l with
  | read o n => simp [f_ask_line, fnM_eq, c_ask_line, encL, s_ask, h.1.1, h.1.2, h.2.1, h.2.2]
  | write n v => simp [f_ask_line, fnM_eq, c_ask_line, encL, s_ask, h.1.1, h.1.2, s_askV h.2]
  | set o v b w => cases b <;> simp [f_ask_line, fnM_eq, c_ask_line, encL, sgn, s_ask, h.1.1, h.1.2, s_askV h.2.1, s_askV h.2.2]
  | skip v q w j => cases q <;> simp [f_ask_line, fnM_eq, c_ask_line, encL, tst, s_ask, h.2.2.1, h.2.2.2, s_askV h.1, s_askV h.2.1]
  | take l => simp [f_ask_line, fnM_eq, c_ask_line, encL, s_ask, h.1, h.2]
  | give l => simp [f_ask_line, fnM_eq, c_ask_line, encL, s_ask, h.1, h.2]
  | fork l => simp [f_ask_line, fnM_eq, c_ask_line, encL, s_ask, h.1, h.2]
  | wait l => simp [f_ask_line, fnM_eq, c_ask_line, encL, s_ask, h.1, h.2]
theorem s_init (hp : p.Ok) : f_Program_init [.ins true "Program" [] [], .lst false (p.firsts.map .int), .lst false (p.codes.map encC)] =
    .ok .non [some (.ins true "Program" ["many", "names", "firsts", "codes"] [.int p.many, .int p.names, .lst false (p.firsts.map .int), .lst false (p.codes.map encC)]), some (.lst false (p.firsts.map .int)), some (.lst false (p.codes.map encC))] := by
  have a1 : (1 : Int) ≤ p.firsts.length := by have := hp.n1; omega
  have a2 : (p.firsts.length : Int) ≤ 4 := by have := hp.n4; omega
  have a3 : (1 : Int) ≤ p.codes.length := by have := hp.m1; omega
  have a4 : (p.codes.length : Int) ≤ 3 := by have := hp.m3; omega
  have f1 : isFs (p.codes.map encC) = true := isFs_map fun _ _ => isF_encC
  have k3 : p.codes.length ≤ 1000000 := by have := hp.m3; omega
  simp [f_Program_init, fnM_eq, c_Program_init, s_ask, a1, a2, a3, a4, f1]
  refine forL_elim1 (X := fun r => finM _ _ (seqM r _) = _)
    (fun l e => (∀ c ∈ l, c ∈ p.codes) ∧ e = [some (.ins true "Program" [] []), some (.lst false (p.firsts.map .int)), some (.lst false (p.codes.map encC)), none, none]) ?_ ?_ ?_
  · rintro c l e ⟨hc, rfl⟩
    have hc1 := hc c (by simp)
    have b1 : (c.length : Int) ≤ 8 := by have := hp.l8 c hc1; omega
    have f2 : isFs (c.map encL) = true := isFs_map fun _ _ => isF_encL
    refine ⟨_, rfl, ?_⟩
    change exNxt _ (fun e2 => _)
    simp [encC, s_ask, b1, f2]
    refine forL_elim1 (X := fun r => exNxt (seqM r (evB [])) _)
      (fun l2 e => (∀ x ∈ l2, x ∈ c) ∧ e = [some (.ins true "Program" [] []), some (.lst false (p.firsts.map .int)), some (.lst false (p.codes.map encC)), some (encC c), none]) ?_ ?_ ?_
    · rintro x l2 e ⟨hx, rfl⟩
      have e1 := s_askL (hp.ok c hc1 x (hx x (by simp)))
      simp only [Pgm.many, Pgm.names] at e1
      refine ⟨_, rfl, _, by simp [e1]; rfl, ?_⟩
      exact ⟨fun y hy => hx y (by simp [hy]), by simp⟩
    · exact ⟨fun _ h => h, by simp [encC]⟩
    · rintro e' ⟨_, rfl⟩
      simp
      exact fun y hy => hc y (by simp [hy])
  · exact ⟨fun _ h => h, by simp⟩
  · rintro e' ⟨_, rfl⟩
    simp [f1, k3]
    rw [compL_map (fun _ => true) encCo]
    rotate_left
    · intro x hx
      have f2 : isFs (x.map encL) = true := isFs_map fun _ _ => isF_encL
      simp [encC, encCo, f2]
    simp [Pgm.many, Pgm.names, f1]
end
end Sh

set_option linter.all false
set_option maxRecDepth 100000
set_option maxHeartbeats 400000
namespace Sh
open PySem PySem.Spec PyProof.Rows L2 Rk
/-! ### drawing programs -/
theorem s_cell (ns : List Int) (k : Int) (h : 0 ≤ k) : ∃ v, f_l_cell_at [.scr ns, .int k] = .ok (.int v) [some (.scr ns), some (.int k)] := by
  by_cases q : k < ns.length
  · obtain ⟨v, hv, _⟩ := atI_some h q
    exact ⟨v, by simp [f_l_cell_at, fnM_eq, c_l_cell_at, q, hv]⟩
  · exact ⟨0, by simp [f_l_cell_at, fnM_eq, c_l_cell_at, q]⟩
theorem fmod_nn {a b : Int} (h : 0 < b) : 0 ≤ a.fmod b ∧ a.fmod b < b := ⟨Int.fmod_nonneg_of_pos a h, Int.fmod_lt_of_pos a h⟩
theorem s_whole {i : Int} : f_l_whole [.int i] = .ok (.bl true) [some (.int i)] := by simp [f_l_whole, fnM_eq, c_l_whole]
theorem l_pow : binQ .Pow (.int 10) (.int 60) = some (.int (10 ^ 60)) := by
  rw [binQ_pow (by decide)]; rfl
theorem s_lvalue (n : Int) : ∃ v : Val, v.Ok ∧ f_l_value [.int n] = .ok (encV v) [some (.int n)] ∧ (n.fmod 3 ≠ 0 → ∃ m, v = .num m) := by
  by_cases h0 : n.fmod 3 = 0
  · obtain ⟨a, b⟩ := fmod_nn (a := n.fdiv 3) (b := 3) (by decide)
    exact ⟨.own ((n.fdiv 3).fmod 3), ⟨a, b⟩, by simp [f_l_value, fnM_eq, c_l_value, h0], fun h => absurd h0 h⟩
  · by_cases h1 : n.fmod 3 = 1
    · exact ⟨.num ((n.fdiv 3).fmod 5 - 1), trivial, by simp [f_l_value, fnM_eq, c_l_value, h0, h1], fun _ => ⟨_, rfl⟩⟩
    · exact ⟨.num ((n.fdiv 3).fmod (2 * 10 ^ 60 - 1) - (10 ^ 60 - 1)), trivial, by simp [f_l_value, fnM_eq, c_l_value, h0, h1, l_pow], fun _ => ⟨_, rfl⟩⟩
theorem s_lline (c many size : Int) (m1 : 1 ≤ many) (m2 : many ≤ 3) (z1 : 1 ≤ size) (z2 : size ≤ 4) : ∃ l : Ln, l.Ok many size ∧ f_l_line [.int c, .int many, .int size] = .ok (encL l) [some (.int c), some (.int many), some (.int size)] := by
  have q1 : size ≠ 0 := by omega
  have q2 : many ≠ 0 := by omega
  have q3 : size.natAbs < 1073741824 := by omega
  obtain ⟨k0, k1⟩ := fmod_nn (a := c) (b := 10) (by decide)
  obtain ⟨a0, a1⟩ := fmod_nn (a := c.fdiv 10) (b := 3) (by decide)
  obtain ⟨b0, b1⟩ := fmod_nn (a := (c.fdiv 10).fdiv 3) (b := size) (by omega)
  obtain ⟨c0, c1⟩ := fmod_nn (a := c.fdiv 10) (b := size) (by omega)
  obtain ⟨d0, d1⟩ := fmod_nn (a := (c.fdiv 10).fdiv 2) (b := 3) (by decide)
  obtain ⟨e0, e1⟩ := fmod_nn (a := (c.fdiv 10).fdiv 2) (b := 9) (by decide)
  obtain ⟨f0, f1⟩ := fmod_nn (a := c.fdiv 10) (b := 2) (by decide)
  obtain ⟨g0, g1⟩ := fmod_nn (a := c.fdiv 10) (b := many) (by omega)
  by_cases h1 : c.fmod 10 < 2
  · exact ⟨.read ((c.fdiv 10).fmod 3) (((c.fdiv 10).fdiv 3).fmod size), ⟨⟨a0, a1⟩, b0, b1⟩, by simp [f_l_line, fnM_eq, c_l_line, h1, q1, encL]⟩
  by_cases h2 : c.fmod 10 < 4
  · obtain ⟨v, v1, v2, _⟩ := s_lvalue ((c.fdiv 10).fdiv size)
    exact ⟨.write ((c.fdiv 10).fmod size) v, ⟨⟨c0, c1⟩, v1⟩, by simp [f_l_line, fnM_eq, c_l_line, h1, h2, q1, q3, encL, v2]⟩
  have f2 : (c.fdiv 10).fmod 2 = 0 ∨ (c.fdiv 10).fmod 2 = 1 := by omega
  by_cases h3 : c.fmod 10 = 4
  · obtain ⟨v, v1, v2, _⟩ := s_lvalue ((c.fdiv 10).fdiv 6)
    obtain ⟨w, w1, w2, _⟩ := s_lvalue ((c.fdiv 10).fdiv 97)
    rcases f2 with f2 | f2
    · exact ⟨.set (((c.fdiv 10).fdiv 2).fmod 3) v true w, ⟨⟨d0, d1⟩, v1, w1⟩, by simp [f_l_line, fnM_eq, c_l_line, h1, h2, h3, encL, v2, w2, f2, sgn]⟩
    · exact ⟨.set (((c.fdiv 10).fdiv 2).fmod 3) v false w, ⟨⟨d0, d1⟩, v1, w1⟩, by simp [f_l_line, fnM_eq, c_l_line, h1, h2, h3, encL, v2, w2, f2, sgn]⟩
  by_cases h4 : c.fmod 10 = 5
  · obtain ⟨v, v1, v2, _⟩ := s_lvalue ((c.fdiv 10).fdiv 18)
    obtain ⟨w, w1, w2, _⟩ := s_lvalue ((c.fdiv 10).fdiv 211)
    rcases f2 with f2 | f2
    · exact ⟨.skip v true w (((c.fdiv 10).fdiv 2).fmod 9), ⟨v1, w1, e0, by omega⟩, by simp [f_l_line, fnM_eq, c_l_line, h1, h2, h3, h4, encL, v2, w2, f2, tst]⟩
    · exact ⟨.skip v false w (((c.fdiv 10).fdiv 2).fmod 9), ⟨v1, w1, e0, by omega⟩, by simp [f_l_line, fnM_eq, c_l_line, h1, h2, h3, h4, encL, v2, w2, f2, tst]⟩
  by_cases h5 : c.fmod 10 < 8
  · have : c.fmod 10 = 6 ∨ c.fmod 10 = 7 := by omega
    rcases this with h6 | h6
    · exact ⟨.take ((c.fdiv 10).fmod 3), ⟨a0, a1⟩, by simp [f_l_line, fnM_eq, c_l_line, h6, encL]⟩
    · exact ⟨.give ((c.fdiv 10).fmod 3), ⟨a0, a1⟩, by simp [f_l_line, fnM_eq, c_l_line, h6, encL]⟩
  · have : c.fmod 10 = 8 ∨ c.fmod 10 = 9 := by omega
    rcases this with h6 | h6
    · exact ⟨.fork ((c.fdiv 10).fmod many), ⟨g0, g1⟩, by simp [f_l_line, fnM_eq, c_l_line, h6, encL, q2]⟩
    · exact ⟨.wait ((c.fdiv 10).fmod many), ⟨g0, g1⟩, by simp [f_l_line, fnM_eq, c_l_line, h6, encL, q2]⟩
/-- the lines of a program, good ones -/
def Codes.Ok (many size : Int) (cs : Code) : Prop := ∀ c ∈ cs, c.length ≤ 8 ∧ ∀ l ∈ c, l.Ok many size
def LnsOk (many size : Int) (c : List Ln) : Prop := ∀ l ∈ c, l.Ok many size
def encC' (c : List Ln) : PV := .lst false (c.map encL)
theorem cell_ns (ns : List Int) (k : Int) (h : 0 ≤ k) : ∃ v, f_l_cell_at [.scr ns, .int k] = .ok (.int v) [some (.scr ns), some (.int k)] := s_cell ns k h
theorem s_lcodes (ns : List Int) (many size : Int) (m1 : 1 ≤ many) (m2 : many ≤ 3) (z1 : 1 ≤ size) (z2 : size ≤ 4) :
    ∃ cs : Code, f_l_codes [.scr ns, .int many, .int size] = .ok (.lst true (cs.map encC)) [some (.scr ns), some (.int many), some (.int size)] ∧ (cs.length : Int) = many ∧ Codes.Ok many size cs := by
  have r1 : -4611686018427387904 ≤ many := by omega
  have r2 : many < 4611686018427387904 := by omega
  have r3 : (rangeL 1 many).length ≤ 1000000 := by rw [rangeL_len]; omega
  have hlen : ((rangeL 0 many).length : Int) = many := by rw [rangeL_len]; omega
  obtain ⟨w1, hw1⟩ := s_cell ns 1 (by decide)
  simp [f_l_codes, fnM_eq, c_l_codes, r1, r2]
  refine forL_elim1 (X := fun r => ∃ cs : Code, finM _ _ (seqM r _) = .ok (.lst true (cs.map encC)) _ ∧ (cs.length : Int) = many ∧ Codes.Ok many size cs)
    (fun l e => (∀ x ∈ l, 0 ≤ x ∧ x < many) ∧ ∃ (acc : Code) (at_ : Int), (acc.length : Int) + l.length = many ∧ Codes.Ok many size acc ∧ 0 ≤ at_ ∧ e = [some (.scr ns), some (.int many), some (.int size), some (.lst true (acc.map encC)), some (.int at_), none, none, none, none]) ?_ ?_ ?_
  · rintro x l e ⟨hx, acc, at_, h1, h2, h3, rfl⟩
    obtain ⟨x0, x1⟩ := hx x (by simp)
    obtain ⟨w2, hw2⟩ := s_cell ns (2 + x) (by omega)
    obtain ⟨b0, b1⟩ := fmod_nn (a := w2) (b := 9) (by decide)
    have t1 : -4611686018427387904 ≤ w2.fmod 9 := by omega
    have t2 : w2.fmod 9 < 4611686018427387904 := by omega
    have hlen2 : (rangeL 0 (w2.fmod 9)).length ≤ 8 := by rw [rangeL_len]; omega
    have hacc : acc.length < 1000000 := by simp at h1; omega
    refine ⟨_, rfl, ?_⟩
    -- the lines ahead of the loop
    have main : ∀ start : List Ln, start.length ≤ 2 → LnsOk many size start →
        exNxt (seqM (forL [7] [7] (evB [.expr (.bm .append (.var 6) [(.call "_law_line" f_l_line [(.call "_law_cell_at" f_l_cell_at [(.var 0), (.var 4)]), (.var 1), (.var 2)])]),
          .aug 4 (.int 1)]) ((rangeL 0 (w2.fmod 9)).map PV.int) [some (.scr ns), some (.int many), some (.int size), some (.lst true (acc.map encC)), some (.int at_), some (.int x), some (.lst true (start.map encL)), none, none])
          (evB [.expr (.bm .append (.var 3) [(.frz 0 (.sl (.var 6) .nop (.int 8)))])])) fun e2 => ∃ (acc' : Code) (at2 : Int), (acc'.length : Int) + l.length = many ∧ Codes.Ok many size acc' ∧ 0 ≤ at2 ∧ killM [5, 6, 8, 7] e2 = [some (.scr ns), some (.int many), some (.int size), some (.lst true (acc'.map encC)), some (.int at2), none, none, none, none] := by
      intro start hs1 hs2
      refine forL_nxt
        (fun l2 e => l2.length ≤ 8 ∧ ∃ (ls : List Ln) (at2 : Int), ls.length + l2.length ≤ 10 ∧ LnsOk many size ls ∧ 0 ≤ at2 ∧ e = [some (.scr ns), some (.int many), some (.int size), some (.lst true (acc.map encC)), some (.int at2), some (.int x), some (.lst true (ls.map encL)), none, none]) ?_ ?_ ?_
      · rintro y l2 e ⟨hl2, ls, at2, g1, g2, g3, rfl⟩
        obtain ⟨w3, hw3⟩ := s_cell ns at2 g3
        obtain ⟨ln, hln, hf⟩ := s_lline w3 many size m1 m2 z1 z2
        have hl3 : ls.length < 1000000 := by simp at g1; omega
        refine ⟨_, rfl, _, by simp [hw3, hf, hl3]; rfl, ?_⟩
        refine ⟨by simp at hl2; omega, ls ++ [ln], at2 + 1, by simp at g1 ⊢; omega, ?_, by omega, by simp⟩
        intro z hz
        rcases List.mem_append.mp hz with hz | hz
        · exact g2 z hz
        · rw [List.mem_singleton.mp hz]; exact hln
      · exact ⟨hlen2, start, at_, by omega, hs2, h3, by simp⟩
      · rintro e' ⟨_, ls, at2, g1, g2, g3, rfl⟩
        have f1 : isFs (ls.map encL) = true := isFs_map fun _ _ => isF_encL
        refine ⟨_, by simp [f1, cutL_map2, hacc, cutL_to, -List.map_take]; rfl, acc ++ [ls.take 8], at2, by simp at h1 ⊢; omega, ?_, g3, by simp [encC, -List.map_take]; rw [← List.map_take, frz_lst0 (isFs_map fun _ _ => isF_encL)]⟩
        intro z hz
        rcases List.mem_append.mp hz with hz | hz
        · exact h2 z hz
        · rw [List.mem_singleton.mp hz]
          exact ⟨by rw [List.length_take]; omega, fun l hl => g2 l (List.mem_of_mem_take hl)⟩
    have fin : ∀ e2, (∃ (acc' : Code) (at2 : Int), (acc'.length : Int) + l.length = many ∧ Codes.Ok many size acc' ∧ 0 ≤ at2 ∧ killM [5, 6, 8, 7] e2 = [some (.scr ns), some (.int many), some (.int size), some (.lst true (acc'.map encC)), some (.int at2), none, none, none, none]) →
        (∀ y ∈ l, 0 ≤ y ∧ y < many) ∧ ∃ (acc : Code) (at_ : Int), (acc.length : Int) + l.length = many ∧ Codes.Ok many size acc ∧ 0 ≤ at_ ∧ killM [5, 6, 8, 7] e2 = [some (.scr ns), some (.int many), some (.int size), some (.lst true (acc.map encC)), some (.int at_), none, none, none, none] := fun e2 h => ⟨fun y hy => hx y (by simp [hy]), h⟩
    by_cases hf : x = 0 ∧ 0 < w1.fmod 4
    · obtain ⟨e2, m1, m2⟩ := main ((rangeL 1 many).map fun i => .fork i) (by simp [rangeL_len]; omega) (by
        intro z hz
        obtain ⟨i, hi, rfl⟩ := List.mem_map.mp hz
        have := mem_rangeL.mp hi
        exact ⟨by omega, this.2⟩)
      refine ⟨e2, ?_, fin e2 m2⟩
      rw [← m1]
      obtain ⟨hx0, hpos⟩ := hf
      subst hx0
      simp at hw2
      simp [hw1, hpos, r1, r2, r3]
      rw [compL_map (fun _ => true) (fun i : Int => encL (.fork i))]
      rotate_left
      · intro y hy
        simp [encL]
      simp [hw2, t1, t2]
      rfl
    · obtain ⟨e2, m1, m2⟩ := main [] (by simp) (by intro z hz; cases hz)
      refine ⟨e2, ?_, fin e2 m2⟩
      rw [← m1]
      by_cases hx0 : x = 0
      · have : ¬ 0 < w1.fmod 4 := fun h => hf ⟨hx0, h⟩
        subst hx0
        simp at hw2
        simp [hw1, this, hw2, t1, t2]
      · simp [hw1, hx0, hw2, t1, t2]
  · exact ⟨fun x hx => mem_rangeL.mp hx, [], 8, (by simp; omega), (by intro z hz; cases hz), by decide, by simp⟩
  · rintro e' ⟨_, acc, at_, h1, h2, h3, rfl⟩
    have f1 : isFs (acc.map encC) = true := isFs_map fun _ _ => isF_encC
    refine ⟨acc, by simp [f1], by simpa using h1, h2⟩
theorem s_lfirsts (ns : List Int) (size : Int) (z1 : 1 ≤ size) (z2 : size ≤ 4) : ∃ fs : List Int, f_l_firsts [.scr ns, .int size] = .ok (.lst true (fs.map .int)) [some (.scr ns), some (.int size)] ∧ (fs.length : Int) = size := by
  have r1 : -4611686018427387904 ≤ size := by omega
  have r2 : size < 4611686018427387904 := by omega
  have r3 : (rangeL 0 size).length ≤ 1000000 := by rw [rangeL_len]; omega
  have hv : ∀ k : Int, 0 ≤ k → ∃ v m, f_l_cell_at [.scr ns, .int (4 + k)] = .ok (.int v) [some (.scr ns), some (.int (4 + k))] ∧ f_l_value [.int (3 * v + 1 + k.fmod 2)] = .ok (.tup [.str "number", .int m]) [some (.int (3 * v + 1 + k.fmod 2))] := by
    intro k hk
    obtain ⟨v, hv⟩ := s_cell ns (4 + k) (by omega)
    obtain ⟨w, _, h2, h3⟩ := s_lvalue (3 * v + 1 + k.fmod 2)
    obtain ⟨m, rfl⟩ := h3 (by
      obtain ⟨a, b⟩ := fmod_nn (a := k) (b := 2) (by decide)
      rw [Int.fmod_eq_emod_of_nonneg _ (by decide)]
      omega)
    exact ⟨v, m, hv, h2⟩
  obtain ⟨g, hg⟩ : ∃ g : Int → Int, ∀ k : Int, 0 ≤ k → ∃ v, f_l_cell_at [.scr ns, .int (4 + k)] = .ok (.int v) [some (.scr ns), some (.int (4 + k))] ∧ f_l_value [.int (3 * v + 1 + k.fmod 2)] = .ok (.tup [.str "number", .int (g k)]) [some (.int (3 * v + 1 + k.fmod 2))] := by
    refine ⟨fun k => if h : 0 ≤ k then (hv k h).choose_spec.choose else 0, fun k hk => ?_⟩
    obtain ⟨q1, q2⟩ := (hv k hk).choose_spec.choose_spec
    refine ⟨_, q1, ?_⟩
    dsimp only
    rw [dif_pos hk]
    exact q2
  refine ⟨(rangeL 0 size).map g, ?_, by simp [rangeL_len]; omega⟩
  simp [f_l_firsts, fnM_eq, c_l_firsts, r1, r2, r3]
  rw [compL_map (fun _ => true) (fun i : Int => .int (g i))]
  rotate_left
  · intro x hx
    obtain ⟨x0, x1⟩ := mem_rangeL.mp hx
    obtain ⟨v, q1, q2⟩ := hg x x0
    simp [q1, q2]
  simp
theorem s_lmay {p : Pgm} {s : St} {t : Int} (hp : p.Ok) (h : s.Ok p.many p.names) (h0 : 0 ≤ t) (h1 : t < p.many) :
    f_l_may [.lst false (p.codes.map encC), encS s, .int t] = .ok (.bl (may p s t)) [some (.lst false (p.codes.map encC)), some (encS s), some (.int t)] := by
  obtain ⟨c, k, hc, hk, hk0, hcm, hn⟩ := nxt_of h h0 h1
  have e1 : atI (p.codes.map encC) t = some (encC c) := at_of h0 hc
  have e2 : atI (s.lines.map PV.int) t = some (.int k) := at_of h0 hk
  have e3 := aw_at h h0 h1
  by_cases ha : aw s t = true
  · by_cases hl : k < c.length
    · obtain ⟨l, hl1, _⟩ := get_of hk0 hl
      have e4 : atI (c.map encL) k = some (encL l) := at_of hk0 hl1
      rw [hl1] at hn
      have hlo := nxt_ok hp h h0 h1 hn
      have hlen : ¬ (c.length : Int) ≤ k := by omega
      simp [encC] at e1
      cases l with
      | take l =>
        have e5 := ho_at h hlo.1 hlo.2
        cases hh : ho s l <;> simp [hh] at e5 <;> simp [f_l_may, fnM_eq, c_l_may, e1, e2, e3, e4, e5, ha, hlen, may, hn, mayL, encL, encC, hh]
      | give l =>
        have e5 := ho_at h hlo.1 hlo.2
        cases hh : ho s l <;> simp [hh] at e5 <;> simp [f_l_may, fnM_eq, c_l_may, e1, e2, e3, e4, e5, ha, hlen, may, hn, mayL, encL, encC, hh]
      | fork u =>
        have e5 := aw_at h hlo.1 hlo.2
        simp [f_l_may, fnM_eq, c_l_may, e1, e2, e3, e4, e5, ha, hlen, may, hn, mayL, encL, encC]
      | wait u =>
        obtain ⟨c2, k2, hc2, hk2, hk20, _, hn2⟩ := nxt_of h hlo.1 hlo.2
        have e5 : atI (p.codes.map encC) u = some (encC c2) := at_of hlo.1 hc2
        have e6 : atI (s.lines.map PV.int) u = some (.int k2) := at_of hlo.1 hk2
        have e7 := aw_at h hlo.1 hlo.2
        have e8 : (nxt p s u).isNone = decide ((c2.length : Int) ≤ k2) := by
          rw [hn2, Bool.eq_iff_iff]
          simp only [Option.isNone_iff_eq_none, List.getElem?_eq_none_iff, decide_eq_true_eq]
          omega
        simp [encC] at e5
        cases hu : aw s u <;> simp [f_l_may, fnM_eq, c_l_may, e1, e2, e3, e4, e5, e6, e7, e8, ha, hlen, may, hn, mayL, encL, encC, hu]
      | read _ _ => simp [f_l_may, fnM_eq, c_l_may, e1, e2, e3, e4, ha, hlen, may, hn, mayL, encL, encC]
      | write _ _ => simp [f_l_may, fnM_eq, c_l_may, e1, e2, e3, e4, ha, hlen, may, hn, mayL, encL, encC]
      | set _ _ _ _ => simp [f_l_may, fnM_eq, c_l_may, e1, e2, e3, e4, ha, hlen, may, hn, mayL, encL, encC]
      | skip _ _ _ _ => simp [f_l_may, fnM_eq, c_l_may, e1, e2, e3, e4, ha, hlen, may, hn, mayL, encL, encC]
    · have : c[k.toNat]? = none := List.getElem?_eq_none (by omega)
      have hlen : (c.length : Int) ≤ k := by omega
      rw [this] at hn
      simp [encC] at e1
      simp [f_l_may, fnM_eq, c_l_may, e1, e2, e3, ha, hlen, may, hn, encC]
  · have hm : may p s t = false := by unfold may; cases nxt p s t <;> simp [ha]
    simp [f_l_may, fnM_eq, c_l_may, e3, ha, hm]
theorem s_pgm (ns : List Int) (many size : Int) (m1 : 1 ≤ many) (m2 : many ≤ 3) (z1 : 1 ≤ size) (z2 : size ≤ 4) :
    ∃ p : Pgm, p.Ok ∧ p.many = many ∧ p.names = size ∧ f_l_codes [.scr ns, .int many, .int size] = .ok (.lst true (p.codes.map encC)) [some (.scr ns), some (.int many), some (.int size)] ∧
      f_l_firsts [.scr ns, .int size] = .ok (.lst true (p.firsts.map .int)) [some (.scr ns), some (.int size)] := by
  obtain ⟨cs, hcs, hcl, hco⟩ := s_lcodes ns many size m1 m2 z1 z2
  obtain ⟨fs, hfs, hfl⟩ := s_lfirsts ns size z1 z2
  refine ⟨⟨fs, cs⟩, ?_, hcl, hfl, hcs, hfs⟩
  refine ⟨?_, ?_, ?_, ?_, fun c hc => (hco c hc).1, fun c hc l hl => ?_⟩
  · show 1 ≤ cs.length; omega
  · show cs.length ≤ 3; omega
  · show 1 ≤ fs.length; omega
  · show fs.length ≤ 4; omega
  · have := (hco c hc).2 l hl
    show Ln.Ok cs.length fs.length l
    rw [hcl, hfl]; exact this
theorem pick {p : Pgm} {s : St} (c : Int) (hne : movS p s ≠ []) : ∃ t, atI ((movS p s).map PV.int) (c.fmod (movS p s).length) = some (.int t) ∧ 0 ≤ t ∧ t < p.many ∧ may p s t = true := by
  have hpos : 0 < ((movS p s).length : Int) := by
    have := List.length_pos_iff.mpr hne; omega
  obtain ⟨a, b⟩ := fmod_nn (a := c) hpos
  obtain ⟨t, ht, hm⟩ := get_of (l := movS p s) a b
  obtain ⟨h1, h2⟩ := List.mem_filter.mp hm
  obtain ⟨t0, t1⟩ := mem_rangeL.mp h1
  exact ⟨t, at_of a ht, t0, t1, h2⟩
theorem encP_eq {p : Pgm} : PV.ins false "Program" ["many", "names", "firsts", "codes"] [.int p.many, .int p.names, .lst false (p.firsts.map .int), .lst false (p.codes.map encC)] = encP p := (rfl)
theorem codes_le {p : Pgm} (hp : p.Ok) : p.codes.length ≤ 1000000 := by have := hp.m3; omega
theorem firsts_le {p : Pgm} (hp : p.Ok) : p.firsts.length ≤ 1000000 := by have := hp.n4; omega
theorem movS_le {p : Pgm} {s : St} (hp : p.Ok) : (movS p s).length ≤ 3 := by
  have := (many_pos hp).2
  have : (movS p s).length ≤ (rangeL 0 p.many).length := List.length_filter_le _ _
  rw [rangeL_len] at this; omega
end Sh

set_option linter.all false
set_option maxRecDepth 100000
set_option maxHeartbeats 400000
namespace Sr
open PySem PySem.Spec PyProof.Rows L2 Rk Row
/-- the watch behind a list -/
def wsE (ds : List Dd) : Ws := wsN (at0 ds) ds.length
theorem wsE_nil : wsE [] = ws0 := (rfl)
theorem at0_snoc {ds : List Dd} {d : Dd} {i : Nat} (h : i < ds.length) : at0 (ds ++ [d]) i = at0 ds i := at0_app h
theorem wsE_snoc {ds : List Dd} {d : Dd} : wsE (ds ++ [d]) = addW (wsE ds) d := by
  unfold wsE
  rw [List.length_append, List.length_singleton]
  show addW (wsN (at0 (ds ++ [d])) ds.length) (at0 (ds ++ [d]) ds.length) = _
  rw [at0_mid, wsN_congr (E := at0 ds) fun i hi => at0_snoc hi]
theorem rok_nil {many : Int} : ROk many [] := fun k h => by simp at h
theorem rok_snoc {many : Int} {ds : List Dd} {d : Dd} (h : ROk many ds) (h2 : okW many (wsE ds) d) : ROk many (ds ++ [d]) := by
  intro k hk
  rw [List.length_append, List.length_singleton] at hk
  by_cases q : k = ds.length
  · subst q
    rw [at0_mid, wsN_congr (E := at0 ds) fun i hi => at0_snoc hi]
    exact h2
  · have hk2 : k < ds.length := by omega
    rw [at0_snoc hk2, wsN_congr (E := at0 ds) fun i hi => at0_snoc (by omega)]
    exact h k hk2
theorem pickL {l : List Int} (c : Int) (hne : l ≠ []) : ∃ t, atI (l.map PV.int) (c.fmod l.length) = some (.int t) ∧ t ∈ l := by
  have hpos : 0 < (l.length : Int) := by
    have := List.length_pos_iff.mpr hne; omega
  obtain ⟨a, b⟩ := Sh.fmod_nn (a := c) hpos
  obtain ⟨t, ht, hm⟩ := Sh.get_of (l := l) a b
  exact ⟨t, Sh.at_of a ht, hm⟩
theorem len0 {l : List Int} (hne : l ≠ []) : (l.length : Int) ≠ 0 := by
  have := List.length_pos_iff.mpr hne; omega
/-- what drawn deeds keep: who is awake and who was waited for, as lists -/
structure DrI (many : Int) (acc : List Dd) (aw pa : List Int) (ks xs : List PV) : Prop where
  ok : ROk many acc
  awk : ∀ t, (wsE acc).aw t = decide (t ∈ aw)
  pas : ∀ t, (wsE acc).pa t = decide (t ∈ pa)
  ho : HoD (wsE acc).ho ks xs
  rng : ∀ t ∈ aw, 0 ≤ t ∧ t < many
  alv : ∃ t ∈ aw, t ∉ pa
  awl : aw.length ≤ acc.length + 1
  pal : pa.length ≤ acc.length
  kl : ks.length ≤ acc.length
theorem dri0 {many : Int} (h : 1 ≤ many) : DrI many [] [0] [] [] [] :=
  ⟨rok_nil, fun t => by simp [wsE_nil, ws0], fun t => by simp [wsE_nil, ws0], hod0, fun t ht => by simp at ht; omega, ⟨0, by simp, by simp⟩, by simp, by simp, by simp⟩
section
variable {many : Int} {acc : List Dd} {aw pa : List Int} {ks xs : List PV} {t u x : Int}
theorem dri_fork (h : DrI many acc aw pa ks xs) (h1 : t ∈ aw) (h2 : t ∉ pa) (h3 : u ∉ aw) (h4 : 0 ≤ u) (h5 : u < many) : DrI many (acc ++ [⟨t, .fork, u⟩]) (aw ++ [u]) pa ks xs := by
  obtain ⟨t0, t1⟩ := h.rng t h1
  have ok : okW many (wsE acc) ⟨t, .fork, u⟩ := ⟨t0, t1, h4, fun _ => h5, by rw [h.awk]; simpa using h1, by rw [h.pas]; simpa using h2, fun _ => by rw [h.awk]; simpa using h3, (fun z => by cases z), (fun z => by cases z), (fun z => by cases z)⟩
  refine ⟨rok_snoc h.ok ok, fun v => ?_, fun v => ?_, ?_, ?_, ?_, ?_, ?_, ?_⟩
  · rw [wsE_snoc]
    show (if _ then true else (wsE acc).aw v) = _
    rw [h.awk]
    by_cases q : v = u <;> simp [q]
  · rw [wsE_snoc]
    show (if Wd.fork = .wait ∧ v = u then true else (wsE acc).pa v) = _
    rw [h.pas]; simp
  · rw [wsE_snoc]
    have : (addW (wsE acc) ⟨t, .fork, u⟩).ho = (wsE acc).ho := funext fun l => by simp [addW]
    rw [this]; exact h.ho
  · intro v hv
    rcases List.mem_append.mp hv with hv | hv
    · exact h.rng v hv
    · rw [List.mem_singleton.mp hv]; exact ⟨h4, h5⟩
  · exact ⟨t, by simp [h1], h2⟩
  · have := h.awl; simp; omega
  · have := h.pal; simp; omega
  · have := h.kl; simp; omega
theorem dri_wait (h : DrI many acc aw pa ks xs) (h1 : t ∈ aw) (h2 : t ∉ pa) (h3 : u ∈ aw) (h4 : u ≠ t) : DrI many (acc ++ [⟨t, .wait, u⟩]) aw (pa ++ [u]) ks xs := by
  obtain ⟨t0, t1⟩ := h.rng t h1
  obtain ⟨u0, u1⟩ := h.rng u h3
  have ok : okW many (wsE acc) ⟨t, .wait, u⟩ := ⟨t0, t1, u0, fun _ => u1, by rw [h.awk]; simpa using h1, by rw [h.pas]; simpa using h2, (fun z => by cases z), fun _ => ⟨by rw [h.awk]; simpa using h3, h4⟩, (fun z => by cases z), (fun z => by cases z)⟩
  refine ⟨rok_snoc h.ok ok, fun v => ?_, fun v => ?_, ?_, h.rng, ?_, ?_, ?_, ?_⟩
  · rw [wsE_snoc]
    show (if Wd.wait = .fork ∧ v = u then true else (wsE acc).aw v) = _
    rw [h.awk]; simp
  · rw [wsE_snoc]
    show (if _ then true else (wsE acc).pa v) = _
    rw [h.pas]
    by_cases q : v = u <;> simp [q]
  · rw [wsE_snoc]
    have : (addW (wsE acc) ⟨t, .wait, u⟩).ho = (wsE acc).ho := funext fun l => by simp [addW]
    rw [this]; exact h.ho
  · refine ⟨t, h1, ?_⟩
    simp only [List.mem_append, List.mem_singleton]
    rintro (z | z)
    · exact h2 z
    · exact h4 z.symm
  · have := h.awl; simp; omega
  · have := h.pal; simp; omega
  · have := h.kl; simp; omega
/-- any deed that is no fork and no wait -/
theorem dri_more {d : Dd} {ks' xs' : List PV} (h : DrI many acc aw pa ks xs) (ok : okW many (wsE acc) d) (hf : d.w ≠ .fork) (hw : d.w ≠ .wait) (hd : HoD (addW (wsE acc) d).ho ks' xs') (hk : ks'.length ≤ ks.length + 1) :
    DrI many (acc ++ [d]) aw pa ks' xs' := by
  refine ⟨rok_snoc h.ok ok, fun v => ?_, fun v => ?_, by rw [wsE_snoc]; exact hd, h.rng, h.alv, ?_, ?_, ?_⟩
  · rw [wsE_snoc]
    show (if _ then true else (wsE acc).aw v) = _
    rw [if_neg (fun z => hf z.1), h.awk]
  · rw [wsE_snoc]
    show (if _ then true else (wsE acc).pa v) = _
    rw [if_neg (fun z => hw z.1), h.pas]
  · have := h.awl; simp; omega
  · have := h.pal; simp; omega
  · have := h.kl; simp; omega
theorem ok_plain (h : DrI many acc aw pa ks xs) (h1 : t ∈ aw) (h2 : t ∉ pa) (h3 : 0 ≤ x) {w : Wd} (hw : w = .read ∨ w = .write) : okW many (wsE acc) ⟨t, w, x⟩ := by
  obtain ⟨t0, t1⟩ := h.rng t h1
  rcases hw with rfl | rfl <;> exact ⟨t0, t1, h3, (fun z => by rcases z with z | z <;> cases z), by rw [h.awk]; simpa using h1, by rw [h.pas]; simpa using h2, (fun z => by cases z), (fun z => by cases z), (fun z => by cases z), (fun z => by cases z)⟩
theorem hod_plain {s : Ws} {d : Dd} (h : HoD s.ho ks xs) (h1 : d.w ≠ .take) (h2 : d.w ≠ .give) : HoD (addW s d).ho ks xs := by
  have : (addW s d).ho = s.ho := funext fun l => by simp [addW, h1, h2]
  rw [this]; exact h
theorem hod_take {s : Ws} {d : Dd} (h : HoD s.ho ks xs) (h1 : d.w = .take) : HoD (addW s d).ho (putD ks xs (.int d.x) (.int d.t)).1 (putD ks xs (.int d.x) (.int d.t)).2 := by
  refine ⟨putD_len h.len, putD_isFs rfl h.fr, fun y => ?_⟩
  rw [lookD_put h.len rfl, h.at_, Rk.keyIs_int]
  by_cases q : d.x = y
  · simp [addW, h1, q]
  · have q2 : ¬ y = d.x := fun z => q z.symm
    simp [addW, h1, q, q2]
theorem hod_give {s : Ws} {d : Dd} (h : HoD s.ho ks xs) (h1 : d.w = .give) : HoD (addW s d).ho (dropDk ks (.int d.x)) (dropDx ks xs (.int d.x)) := by
  refine ⟨dropD_len h.len, dropDx_isFs h.fr, fun y => ?_⟩
  rw [lookD_drop h.len, h.at_, Rk.keyIs_int]
  by_cases q : d.x = y
  · simp [addW, h1, q]
  · have q2 : ¬ y = d.x := fun z => q z.symm
    simp [addW, h1, q, q2]
end
end Sr
namespace Rk
open PySem
@[simp] theorem intsP_ints : ∀ {l : List Int}, intsP (l.map PV.int) = some l
  | [] => rfl
  | x :: l => by
    show (intsP (l.map PV.int)).map _ = _
    rw [intsP_ints]; rfl
end Rk
namespace Sd
open PySem PySem.Spec PyProof.Rows L2 Rk Row Sr
theorem s_numbers (cells : List Int) (hl : cells.length ≤ 100) : ∃ l : List Int, f_l_numbers [.lst false (cells.map .int)] = .ok (.lst true (l.map .int)) [some (.lst false (cells.map .int))] ∧ l.length = cells.length ∧ ∀ x ∈ l, 0 ≤ x := by
  simp [f_l_numbers, fnM_eq, c_l_numbers]
  refine forL_elim1 (X := fun r => ∃ l : List Int, finM _ _ (seqM r _) = .ok (.lst true (l.map .int)) _ ∧ l.length = cells.length ∧ ∀ x ∈ l, 0 ≤ x)
    (fun l e => (∀ p ∈ l, 0 ≤ p.2 ∧ p.2 < 100) ∧ ∃ acc : List Int, acc.length + l.length = cells.length ∧ (∀ x ∈ acc, 0 ≤ x) ∧ e = [some (.lst false (cells.map .int)), some (.lst true (acc.map .int)), none, none, none]) ?_ ?_ ?_
  · rintro ⟨c, j⟩ l e ⟨hj, acc, h1, h2, rfl⟩
    obtain ⟨hj0, hj1⟩ : 0 ≤ j ∧ j < 100 := hj (c, j) (by simp)
    have k1 : -18446744073709551616 < j := by omega
    have k2 : j < 18446744073709551616 := by omega
    obtain ⟨m1, m2⟩ := Sh.fmod_nn (a := c) (b := 1000000007) (by decide)
    have m3 : -18446744073709551616 < c.fmod 1000000007 := by omega
    have m4 : c.fmod 1000000007 < 18446744073709551616 := by omega
    have hlen : acc.length < 1000000 := by simp at h1; omega
    refine ⟨_, rfl, _, by simp [k1, k2, m3, m4, hlen]; rfl, fun p hp => hj p (by simp [hp]), acc ++ [(c.fmod 1000000007 * c.fmod 1000000007 + (30011 + 2 * j) * c.fmod 1000000007 + 7919 * j * j + 5).fmod 999999937], ?_, ?_, by simp⟩
    · simp at h1 ⊢; omega
    · intro x hx
      simp only [List.mem_append, List.mem_singleton] at hx
      rcases hx with hx | rfl
      · exact h2 x hx
      · exact (Sh.fmod_nn (by decide)).1
  · refine ⟨fun p hp => ?_, [], by simp, by simp, by simp⟩
    have := enumF_mem hp
    omega
  · rintro e ⟨_, acc, h1, h2, rfl⟩
    exact ⟨acc, by simp, by simpa using h1, h2⟩
section
variable {many : Int} {acc : List Dd} {aw pa : List Int} {ks xs : List PV} {t pick base locks : Int}
theorem s_bylock (h : DrI many acc aw pa ks xs) (hl : acc.length ≤ 1000) (h1 : t ∈ aw) (h2 : t ∉ pa) (hb : 0 ≤ base) (hk : 0 < locks) :
    ∃ d ks' xs', f_l_by_lock [.dic true ks xs, .int t, .int pick, .int base, .int locks] = .ok (encDd d) [some (.dic true ks' xs'), some (.int t), some (.int pick), some (.int base), some (.int locks)] ∧ DrI many (acc ++ [d]) aw pa ks' xs' := by
  have q0 : locks ≠ 0 := by omega
  obtain ⟨a0, a1⟩ := Sh.fmod_nn (a := pick) hk
  obtain ⟨b0, b1⟩ := Sh.fmod_nn (a := pick.fdiv 2) (b := 2) (by decide)
  obtain ⟨t0, t1⟩ := h.rng t h1
  have hkl : ks.length < 1000000 := by have := h.kl; omega
  have hat := h.ho.at_ (base + pick.fmod locks)
  have e1 : (wsE acc).aw t = true := by rw [h.awk]; simpa using h1
  have e2 : (wsE acc).pa t = false := by rw [h.pas]; simpa using h2
  cases hh : (wsE acc).ho (base + pick.fmod locks) with
  | none =>
    rw [hh] at hat
    refine ⟨⟨t, .take, base + pick.fmod locks⟩, _, _, ?_, dri_more h ?_ (by simp) (by simp) (hod_take h.ho rfl) putD_le⟩
    · simp [f_l_by_lock, fnM_eq, c_l_by_lock, q0, hat, hkl, encDd, wS]
    · exact ⟨t0, t1, by show 0 ≤ base + _; omega, (fun z => by rcases z with z | z <;> cases z), e1, e2, (fun z => by cases z), (fun z => by cases z), fun _ => hh, (fun z => by cases z)⟩
  | some v =>
    rw [hh] at hat
    by_cases hv : v = t
    · subst hv
      refine ⟨⟨v, .give, base + pick.fmod locks⟩, _, _, ?_, dri_more h ?_ (by simp) (by simp) (hod_give h.ho rfl) ?_⟩
      · simp [f_l_by_lock, fnM_eq, c_l_by_lock, q0, hat, encDd, wS]
      · exact ⟨t0, t1, by show 0 ≤ base + _; omega, (fun z => by rcases z with z | z <;> cases z), e1, e2, (fun z => by cases z), (fun z => by cases z), (fun z => by cases z), fun _ => hh⟩
      · have := dropD_le (ks := ks) (k := .int (base + pick.fmod locks)); show (dropDk ks (.int (base + pick.fmod locks))).length ≤ _; omega
    · refine ⟨⟨t, .write, base + (pick.fdiv 2).fmod 2⟩, ks, xs, ?_, dri_more h (ok_plain h h1 h2 (by omega) (.inr rfl)) (by simp) (by simp) (hod_plain h.ho (by simp) (by simp)) (by omega)⟩
      simp [f_l_by_lock, fnM_eq, c_l_by_lock, q0, hat, hv, encDd, wS]
theorem s_deeds (cells : List Int) (hl : cells.length ≤ 60) (m1 : 1 ≤ many) (m2 : many ≤ 6) (hb : 0 ≤ base) :
    ∃ ds : List Dd, f_l_deeds [.lst false (cells.map .int), .int many, .int base] = .ok (.lst true (ds.map encDd)) [some (.lst false (cells.map .int)), some (.int many), some (.int base)] ∧ ROk many ds ∧ ds.length = cells.length := by
  obtain ⟨nums, hn, hnl, hnn⟩ := s_numbers cells (by omega)
  have r1 : -4611686018427387904 ≤ many := by omega
  have r2 : many < 4611686018427387904 := by omega
  have r3 : (rangeL 0 many).length ≤ 1000000 := by rw [rangeL_len]; omega
  obtain ⟨names, locks, n0, l0, hnm⟩ : ∃ names locks : Int, 0 < names ∧ 0 < locks ∧ atI [PV.tup [.int 3, .int 2], PV.tup [.int 9, .int 7]] (if cells.sum.fmod 3 = 0 then 1 else 0) = some (.tup [.int names, .int locks]) := by
    by_cases q : cells.sum.fmod 3 = 0
    · exact ⟨9, 7, by decide, by decide, by simp [q]⟩
    · exact ⟨3, 2, by decide, by decide, by simp [q]⟩
  have n1 : names ≠ 0 := by omega
  simp [f_l_deeds, fnM_eq, c_l_deeds, hn, hnm]
  refine forL_elim1 (X := fun r => ∃ ds : List Dd, finM _ _ (seqM r _) = .ok (.lst true (ds.map encDd)) _ ∧ ROk many ds ∧ ds.length = cells.length)
    (fun l e => ∃ (acc : List Dd) (aw pa : List Int) (ks xs : List PV), acc.length + l.length = cells.length ∧ DrI many acc aw pa ks xs ∧
      e = [some (.lst false (cells.map .int)), some (.int many), some (.int base), some (.lst true (aw.map .int)), some (.lst true (pa.map .int)), some (.dic true ks xs), some (.lst true (acc.map encDd)), none, some (.int names), some (.int locks), none, none, none, none, none, none, none]) ?_ ?_ ?_
  · rintro x l e ⟨acc, aw, pa, ks, xs, h1, h, rfl⟩
    have hlen : acc.length < 60 := by simp at h1; omega
    have hawl := h.awl
    have hpal := h.pal
    have a1 : aw.length < 1000000 := by omega
    have a2 : pa.length < 1000000 := by omega
    have a3 : acc.length < 1000000 := by omega
    have a4 : aw.length ≤ 1000000 := by omega
    obtain ⟨A, hA⟩ : ∃ A, aw.filter (fun t => decide (t ∉ pa)) = A := ⟨_, rfl⟩
    have hal : A ≠ [] := by
      obtain ⟨t, q1, q2⟩ := h.alv
      rw [← hA]
      exact List.ne_nil_of_mem (List.mem_filter.mpr ⟨q1, by simpa using q2⟩)
    obtain ⟨t, ht, hm⟩ := pickL x hal
    rw [← hA] at hm
    obtain ⟨ht1, ht2⟩ := List.mem_filter.mp hm
    have ht2 : t ∉ pa := by simpa using ht2
    have hl0 := len0 hal
    obtain ⟨B, hB⟩ : ∃ B, (rangeL 0 many).filter (fun t => decide (t ∉ aw)) = B := ⟨_, rfl⟩
    obtain ⟨C, hC⟩ : ∃ C, aw.filter (fun u => decide (u ≠ t)) = C := ⟨_, rfl⟩
    refine ⟨_, rfl, ?_⟩
    change exNxt _ (fun e2 => _)
    simp [a4]
    rw [compL_map (fun t => decide (t ∉ pa)) PV.int, hA]
    rotate_left
    · intro y hy
      simp
    simp [ht, hal, r1, r2, r3]
    rw [compL_map (fun t => decide (t ∉ aw)) PV.int, hB]
    rotate_left
    · intro y hy
      simp
    simp [a4]
    rw [compL_map (fun u => decide (u ≠ t)) PV.int, hC]
    rotate_left
    · intro y hy
      simp
    obtain ⟨d, ks', xs', e1, hD⟩ := s_bylock (pick := x.fdiv 96) (base := base) (locks := locks) h (by omega) ht1 ht2 hb l0
    obtain ⟨w, hw, hrw⟩ : ∃ w, (w = .read ∨ w = .write) ∧ atI [PV.str (Str.ofString "read"), PV.str (Str.ofString "read"), PV.str (Str.ofString "write")] ((x.fdiv 8).fmod 3) = some (.str (wS w)) := by
      obtain ⟨b0, b1⟩ := Sh.fmod_nn (a := x.fdiv 8) (b := 3) (by decide)
      have : (x.fdiv 8).fmod 3 = 0 ∨ (x.fdiv 8).fmod 3 = 1 ∨ (x.fdiv 8).fmod 3 = 2 := by omega
      rcases this with q | q | q
      · exact ⟨.read, .inl rfl, by rw [q]; simp [wS]⟩
      · exact ⟨.read, .inl rfl, by rw [q]; simp [wS]⟩
      · exact ⟨.write, .inr rfl, by rw [q]; simp [wS]⟩
    obtain ⟨p0, p1⟩ := Sh.fmod_nn (a := x.fdiv 96) n0
    have hP : DrI many (acc ++ [⟨t, w, base + (x.fdiv 96).fmod names⟩]) aw pa ks xs :=
      dri_more h (ok_plain h ht1 ht2 (by omega) hw) (by rcases hw with rfl | rfl <;> simp) (by rcases hw with rfl | rfl <;> simp) (hod_plain h.ho (by rcases hw with rfl | rfl <;> simp) (by rcases hw with rfl | rfl <;> simp)) (by omega)
    have hn1 : ∀ d : Dd, (acc ++ [d]).length + l.length = cells.length := fun d => by simp at h1 ⊢; omega
    have lock : ∃ acc' : List Dd, acc'.length + l.length = cells.length ∧ ∃ (aw' pa' : List Int) (ks'' xs'' : List PV), DrI many acc' aw' pa' ks'' xs'' ∧ aw.map PV.int = aw'.map PV.int ∧ pa.map PV.int = pa'.map PV.int ∧ (ks' = ks'' ∧ xs' = xs'') ∧ acc.map encDd ++ [encDd d] = acc'.map encDd := ⟨_, hn1 d, aw, pa, ks', xs', hD, rfl, rfl, ⟨rfl, rfl⟩, by simp⟩
    have plain : ∃ acc' : List Dd, acc'.length + l.length = cells.length ∧ ∃ (aw' pa' : List Int) (ks'' xs'' : List PV), DrI many acc' aw' pa' ks'' xs'' ∧ aw.map PV.int = aw'.map PV.int ∧ pa.map PV.int = pa'.map PV.int ∧ (ks = ks'' ∧ xs = xs'') ∧ acc.map encDd ++ [PV.tup [.int t, .str (wS w), .int (base + (x.fdiv 96).fmod names)]] = acc'.map encDd := ⟨_, hn1 _, aw, pa, ks, xs, hP, rfl, rfl, ⟨rfl, rfl⟩, by simp [encDd]⟩
    have fork : ∀ u ∈ B, ∃ acc' : List Dd, acc'.length + l.length = cells.length ∧ ∃ (aw' pa' : List Int) (ks'' xs'' : List PV), DrI many acc' aw' pa' ks'' xs'' ∧ aw.map PV.int ++ [.int u] = aw'.map PV.int ∧ pa.map PV.int = pa'.map PV.int ∧ (ks = ks'' ∧ xs = xs'') ∧ acc.map encDd ++ [PV.tup [.int t, .str (Str.ofString "fork"), .int u]] = acc'.map encDd := fun u hu => by
      rw [← hB] at hu
      obtain ⟨hu1, hu2⟩ := List.mem_filter.mp hu
      obtain ⟨u0, u1⟩ := mem_rangeL.mp hu1
      exact ⟨_, hn1 _, aw ++ [u], pa, ks, xs, dri_fork h ht1 ht2 (by simpa using hu2) u0 u1, by simp, rfl, ⟨rfl, rfl⟩, by simp [encDd, wS]⟩
    have wait : ∀ u ∈ C, ∃ acc' : List Dd, acc'.length + l.length = cells.length ∧ ∃ (aw' pa' : List Int) (ks'' xs'' : List PV), DrI many acc' aw' pa' ks'' xs'' ∧ aw.map PV.int = aw'.map PV.int ∧ pa.map PV.int ++ [.int u] = pa'.map PV.int ∧ (ks = ks'' ∧ xs = xs'') ∧ acc.map encDd ++ [PV.tup [.int t, .str (Str.ofString "wait"), .int u]] = acc'.map encDd := fun u hu => by
      rw [← hC] at hu
      obtain ⟨hu1, hu2⟩ := List.mem_filter.mp hu
      exact ⟨_, hn1 _, aw, pa ++ [u], ks, xs, dri_wait h ht1 ht2 hu1 (by simpa using hu2), rfl, by simp, ⟨rfl, rfl⟩, by simp [encDd, wS]⟩
    by_cases hBn : B = []
    · by_cases hCn : C = []
      · simp [hBn, hCn, e1, hrw, n1, a1, a2, a3]
        repeat' split
        all_goals first | exact lock | exact plain
      · obtain ⟨v, hv, hv1⟩ := pickL ((x.fdiv 96).fdiv 3) hCn
        simp [hBn, hCn, e1, hrw, n1, a1, a2, a3, hv]
        repeat' split
        all_goals first | exact wait v hv1 | exact lock | exact plain
    · obtain ⟨u, hu, hu1⟩ := pickL ((x.fdiv 96).fdiv 2) hBn
      by_cases hCn : C = []
      · simp [hBn, hCn, e1, hrw, n1, a1, a2, a3, hu]
        repeat' split
        all_goals first | exact fork u hu1 | exact lock | exact plain
      · obtain ⟨v, hv, hv1⟩ := pickL ((x.fdiv 96).fdiv 3) hCn
        simp [hBn, hCn, e1, hrw, n1, a1, a2, a3, hv, hu]
        repeat' split
        all_goals first | exact fork u hu1 | exact wait v hv1 | exact lock | exact plain
  · exact ⟨[], [0], [], [], [], by simp [hnl], dri0 m1, by simp⟩
  · rintro e' ⟨acc, aw, pa, ks, xs, h1, h, rfl⟩
    exact ⟨acc, by simp, h.ok, by simpa using h1⟩
end
end Sd

set_option linter.all false
set_option maxRecDepth 100000
set_option maxHeartbeats 400000
namespace Sr
open PySem PySem.Spec PyProof.Rows L2 Rk Row
open Classical in
/-- whether one place is ahead of another, told -/
noncomputable def ahd (ds : List Dd) (i k : Nat) : Bool := decide (Anc (at0 ds) i k)
section
variable {many : Int} {ds : List Dd} {i k : Int}
theorem at0_of (h0 : 0 ≤ i) (h1 : i < ds.length) : ds[i.toNat]? = some (at0 ds i.toNat) := by
  obtain ⟨d, hd, _⟩ := Sh.get_of h0 h1
  rw [hd, at0_get hd]
theorem ck_at {o : Bool} (h0 : 0 ≤ i) (h1 : i < ds.length) : ixQ (.lst o (ckL many (at0 ds) ds.length)) (.int i) = some (.lst false (tabL many fun u => .int (clk (at0 ds) i.toNat u))) := by
  show atI _ i = _
  rw [atI_nn h0]
  unfold ckL
  rw [List.getElem?_map, List.getElem?_range (by omega)]; rfl
theorem s_goes (ho : ROk many ds) (i0 : 0 ≤ i) (i1 : i < ds.length) (k0 : 0 ≤ k) (k1 : k < ds.length) :
    f_goes_ahead [encR many ds, .lst false (ckL many (at0 ds) ds.length), .int i, .int k] = .ok (.bl (ahd ds i.toNat k.toNat)) [some (encR many ds), some (.lst false (ckL many (at0 ds) ds.length)), some (.int i), some (.int k)] := by
  have e1 := s_rdeed (many := many) i0 (at0_of i0 i1)
  have hok := ho i.toNat (by omega)
  have c1 := ck_at (many := many) (o := false) i0 i1
  have c2 := ck_at (many := many) (o := false) k0 k1
  have c3 : ∀ c : Int → Int, atI (tabL many fun u => PV.int (c u)) (at0 ds i.toNat).t = some (.int (c (at0 ds i.toNat).t)) := fun c => tabL_at hok.t0 hok.t1
  have hr : (decide ¬i = k && decide (clk (at0 ds) i.toNat (at0 ds i.toNat).t ≤ clk (at0 ds) k.toNat (at0 ds i.toNat).t)) = ahd ds i.toNat k.toNat := by
    unfold ahd
    rw [Bool.eq_iff_iff, Bool.and_eq_true, decide_eq_true_eq, decide_eq_true_eq, @decide_eq_true_eq _ (Classical.propDecidable _), ← clk_ahead]
    exact and_congr_left fun _ => not_congr ⟨fun h => by rw [h], fun h => by omega⟩
  simp only [ixQ_lst] at c1 c2
  simp [f_goes_ahead, fnM_eq, c_goes_ahead, e1, c1, c2, c3]
  simpa using hr
theorem s_ahead (m1 : 1 ≤ many) (m2 : many ≤ 6) (hl : ds.length ≤ 60) (ho : ROk many ds) (i0 : 0 ≤ i) (i1 : i < ds.length) (k0 : 0 ≤ k) (k1 : k < ds.length) :
    f_ahead [encR many ds, .int i, .int k] = .ok (.bl (ahd ds i.toNat k.toNat)) [some (encR many ds), some (.int i), some (.int k)] := by
  have e1 := s_clocks m1 m2 hl ho
  have e2 := s_goes ho i0 i1 k0 k1
  simp [f_ahead, fnM_eq, c_ahead, e1, e2, ckL_F]
/-! ### the law's table -/
theorem edge_sym {a b : Dd} : Sd.f_l_edge [encDd a, encDd b] = .ok (.bl (decide (edge a b))) [some (encDd a), some (encDd b)] := by
  obtain ⟨t, w, x⟩ := a
  obtain ⟨t', w', x'⟩ := b
  by_cases h1 : t = t'
  · simp [Sd.f_l_edge, fnM_eq, Sd.c_l_edge, edge, h1]
  · by_cases h2 : w = .fork
    · by_cases h3 : t' = x
      · simp [Sd.f_l_edge, fnM_eq, Sd.c_l_edge, edge, h1, h2, h3]
      · by_cases h4 : w' = .wait
        · by_cases h5 : x' = x
          · simp [Sd.f_l_edge, fnM_eq, Sd.c_l_edge, edge, h1, h2, h3, h4, h5]
          · simp [Sd.f_l_edge, fnM_eq, Sd.c_l_edge, edge, h1, h2, h3, h4, h5]
            split <;> simp [*]
        · simp [Sd.f_l_edge, fnM_eq, Sd.c_l_edge, edge, h1, h2, h3, h4]
    · by_cases h4 : w' = .wait
      · by_cases h5 : x' = t
        · simp [Sd.f_l_edge, fnM_eq, Sd.c_l_edge, edge, h1, h2, h4, h5]
        · simp [Sd.f_l_edge, fnM_eq, Sd.c_l_edge, edge, h1, h2, h4, h5]
      · simp [Sd.f_l_edge, fnM_eq, Sd.c_l_edge, edge, h1, h2, h4]
theorem rangeL_cons {a b : Int} (h : a < b) : rangeL a b = a :: rangeL (a + 1) b := by
  apply List.ext_getElem?
  intro n
  cases n with
  | zero => rw [rangeL_get (by omega)]; simp
  | succ n =>
    simp only [List.getElem?_cons_succ]
    by_cases q : n < (b - (a + 1)).toNat
    · rw [rangeL_get (by omega), rangeL_get q]; congr 1; omega
    · rw [List.getElem?_eq_none (by rw [rangeL_len]; omega), List.getElem?_eq_none (by rw [rangeL_len]; omega)]
theorem rangeL_nil {a b : Int} (h : b ≤ a) : rangeL a b = [] := by
  have : (rangeL a b).length = 0 := by rw [rangeL_len]; omega
  exact List.length_eq_zero_iff.mp this
/-- the law's row of a place: what is ahead of it -/
noncomputable def rowB (ds : List Dd) (k : Nat) : List PV := tabL ds.length fun i => .bl (ahd ds i.toNat k)
noncomputable def tabB (ds : List Dd) (n : Nat) : List PV := (List.range n).map fun k => .lst false (rowB ds k)
theorem tabB_succ {n : Nat} : tabB ds (n + 1) = tabB ds n ++ [.lst false (rowB ds n)] := by
  unfold tabB
  rw [List.range_succ, List.map_append]; rfl
theorem rowB_F {n : Nat} : isFs (rowB ds n) = true := isFs_map fun _ _ => rfl
theorem tabB_F {n : Nat} : isFs (tabB ds n) = true := isFs_map fun _ _ => by show (!false && isFs (rowB _ _)) = true; rw [rowB_F]; rfl
theorem tabB_len {n : Nat} : (tabB ds n).length = n := by simp [tabB]
theorem tabB_at {n : Nat} (h0 : 0 ≤ i) (h1 : i < n) : atI (tabB ds n) i = some (.lst false (rowB ds i.toNat)) := by
  rw [atI_nn h0]
  unfold tabB
  rw [List.getElem?_map, List.getElem?_range (by omega)]; rfl
theorem rowB_at {n : Nat} (h0 : 0 ≤ i) (h1 : i < ds.length) : atI (rowB ds n) i = some (.bl (ahd ds i.toNat n)) := tabL_at h0 h1
open Classical in
noncomputable def prt (ds : List Dd) (k J : Nat) (i : Int) : Bool := decide (∃ j, j < J ∧ edge (at0 ds j) (at0 ds k) ∧ Up (at0 ds) j i.toNat)
theorem prt_0 {k : Nat} : prt ds k 0 i = false := by
  unfold prt
  simp only [decide_eq_false_iff_not]
  rintro ⟨j, h, _⟩
  omega
theorem prt_k {k : Nat} : prt ds k k i = ahd ds i.toNat k := by
  unfold prt ahd
  congr 1
  rw [anc_iff]
theorem prt_no {k J : Nat} (h : ¬ edge (at0 ds J) (at0 ds k)) : prt ds k (J + 1) i = prt ds k J i := by
  unfold prt
  congr 1
  refine propext ⟨fun ⟨j, h1, h2, h3⟩ => ⟨j, ?_, h2, h3⟩, fun ⟨j, h1, h2, h3⟩ => ⟨j, by omega, h2, h3⟩⟩
  by_cases q : j = J
  · subst q; exact absurd h2 h
  · omega
theorem prt_yes {k J : Nat} (h0 : 0 ≤ i) (h : edge (at0 ds J) (at0 ds k)) : ((decide (i = J) || prt ds k J i) || (decide (i < J) && ahd ds i.toNat J)) = prt ds k (J + 1) i := by
  unfold prt ahd
  by_cases q : i = J
  · subst q
    simp only [decide_true, Bool.true_or]
    symm
    simp only [decide_eq_true_eq]
    exact ⟨J, by omega, h, .inl (by simp)⟩
  · rw [decide_eq_false q, Bool.false_or, Bool.eq_iff_iff, Bool.or_eq_true, Bool.and_eq_true]
    simp only [decide_eq_true_eq]
    constructor
    · rintro (⟨j, h1, h2, h3⟩ | ⟨h1, h2⟩)
      · exact ⟨j, by omega, h2, h3⟩
      · exact ⟨J, by omega, h, .inr h2⟩
    · rintro ⟨j, h1, h2, h3⟩
      by_cases q2 : j = J
      · subst q2
        rcases h3 with h3 | h3
        · omega
        · exact .inr ⟨by have := h3.lt; omega, h3⟩
      · exact .inl ⟨j, by omega, h2, h3⟩
theorem s_before (hl : ds.length ≤ 60) : Sd.f_l_before [.lst false (ds.map encDd)] = .ok (.lst true (tabB ds ds.length)) [some (.lst false (ds.map encDd))] := by
  have r1 : -4611686018427387904 ≤ (ds.length : Int) := by omega
  have r1' : -4611686018427387904 < (ds.length : Int) := by omega
  have r2 : (ds.length : Int) < 4611686018427387904 := by omega
  have r4 : ds.length ≤ 1000000 := by omega
  have r5 : (rangeL 0 (ds.length : Int)).length ≤ 1000000 := by rw [rangeL_len]; omega
  have e1 : catQ .Mult (.lst true [.bl false]) (.int ds.length) = some (.lst true (tabL ds.length fun _ => (PV.bl false))) := by
    rw [catQ_rep (by simp) r1' r2 (by simpa using r4), tabL_rep]
  simp [Sd.f_l_before, fnM_eq, Sd.c_l_before, r1, r2]
  refine forL_elim1 (X := fun r => finM _ _ (seqM r _) = _)
    (fun l e => ∃ K : Nat, K ≤ ds.length ∧ l = rangeL (K : Int) ds.length ∧ e = [some (.lst false (ds.map encDd)), some (.lst true (tabB ds K)), none, none, none, none]) ?_ ?_ ?_
  · rintro k l e ⟨K, hK, h2, rfl⟩
    have hK2 : K < ds.length := by
      refine Classical.byContradiction fun q => ?_
      rw [rangeL_nil (by omega)] at h2; cases h2
    rw [rangeL_cons (by omega)] at h2
    simp only [List.cons.injEq] at h2
    obtain ⟨rfl, rfl⟩ := h2
    have q1 : -4611686018427387904 ≤ (K : Int) := by omega
    have q2 : (K : Int) < 4611686018427387904 := by omega
    have q3 : (tabB ds K).length < 1000000 := by rw [tabB_len]; omega
    have ek : atI (ds.map encDd) (K : Int) = some (encDd (at0 ds K)) := Sh.at_of (by omega) (by simpa using at0_of (ds := ds) (i := (K : Int)) (by omega) (by omega))
    refine ⟨_, rfl, ?_⟩
    change exNxt _ (fun e2 => _)
    simp [e1, q1, q2]
    refine forL_nxt
      (fun l2 e => ∃ J : Nat, J ≤ K ∧ l2 = rangeL (J : Int) K ∧ e = [some (.lst false (ds.map encDd)), some (.lst true (tabB ds K)), some (.int K), some (.lst true (tabL ds.length fun i => .bl (prt ds K J i))), none, none]) ?_ ?_ ?_
    · rintro j l2 e ⟨J, hJ, h2, rfl⟩
      have hJ2 : J < K := by
        refine Classical.byContradiction fun q => ?_
        rw [rangeL_nil (by omega)] at h2; cases h2
      rw [rangeL_cons (by omega)] at h2
      simp only [List.cons.injEq] at h2
      obtain ⟨rfl, rfl⟩ := h2
      have ej : atI (ds.map encDd) (J : Int) = some (encDd (at0 ds J)) := Sh.at_of (by omega) (by simpa using at0_of (ds := ds) (i := (J : Int)) (by omega) (by omega))
      refine ⟨_, rfl, ?_⟩
      by_cases he : edge (at0 ds J) (at0 ds K)
      · have ix1 : ixN (tabL (ds.length : Int) fun i => PV.bl (prt ds K J i)).length (J : Int) = some J := by
          have := ixN_nn (n := (tabL (ds.length : Int) fun i => PV.bl (prt ds K J i)).length) (p := (J : Int)) (by omega) (by rw [tabL_len]; omega)
          rw [Int.toNat_natCast] at this
          exact this
        have st : (tabL (ds.length : Int) fun i => PV.bl (prt ds K J i)).set J (.bl true) = tabL ds.length fun i => .bl (decide (i = J) || prt ds K J i) := by
          have := tabL_set (n := (ds.length : Int)) (i := (J : Int)) (g := fun i => PV.bl (prt ds K J i)) (y := .bl true) (by omega) (by omega)
          rw [Int.toNat_natCast] at this
          rw [this]
          refine congrArg (tabL (ds.length : Int)) (funext fun i => ?_)
          by_cases q : i = (J : Int)
          · rw [if_pos q, decide_eq_true q]; rfl
          · rw [if_neg q, decide_eq_false q]; rfl
        have tj := tabB_at (ds := ds) (n := K) (i := (J : Int)) (by omega) (by omega)
        rw [Int.toNat_natCast] at tj
        simp [ej, ek, edge_sym, he, ix1, st, r1, r2, r5]
        rw [compL_map (fun _ => true) (fun i => .bl (prt ds K (J + 1) i))]
        rotate_left
        · intro i hi
          obtain ⟨i0, i1⟩ := mem_rangeL.mp hi
          have y1 := tabL_at (g := fun i => PV.bl (decide (i = J) || prt ds K J i)) i0 i1
          have y2 := rowB_at (ds := ds) (n := J) i0 i1
          have y3 := prt_yes (ds := ds) (k := K) i0 he
          have tj : atI (tabB ds K) (J : Int) = some (.lst false (rowB ds J)) := tj
          simp [y1, tj, y2, y3]
        simp
        exact ⟨J + 1, by omega, by simp, rfl⟩
      · simp [ej, ek, edge_sym, he]
        exact ⟨J + 1, by omega, by simp, congrArg (tabL (ds.length : Int)) (funext fun i => by rw [prt_no he])⟩
    · exact ⟨0, by omega, rfl, by simp [prt_0]⟩
    · rintro e' ⟨J, hJ, h2, rfl⟩
      have : J = K := by
        refine Classical.byContradiction fun q => ?_
        rw [rangeL_cons (by omega)] at h2; cases h2
      subst this
      have f1 : isFs (tabL (ds.length : Int) fun i => PV.bl (prt ds J J i)) = true := isFs_map fun _ _ => rfl
      simp [f1, q3]
      exact ⟨J + 1, by omega, by simp, by rw [tabB_succ]; simp [rowB, prt_k]⟩
  · exact ⟨0, by omega, rfl, by simp [tabB]⟩
  · rintro e' ⟨K, hK, h2, rfl⟩
    have : K = ds.length := by
      refine Classical.byContradiction fun q => ?_
      rw [rangeL_cons (by omega)] at h2; cases h2
    subst this
    simp
end
/-- how the row laws begin -/
theorem cut_le {ns : List Int} {hi : Int} (h : 2 ≤ hi) (h2 : hi ≤ 62) : (cutL ns (some 2) (some hi)).length ≤ 60 := by
  rw [cutL_mid (by decide) h, List.length_drop, List.length_take]; simp; omega
theorem drawn (ns : List Int) (hi : Int) (h : 2 ≤ hi) (h2 : hi ≤ 62) : ∃ (v0 v1 M base : Int) (ds : List Dd),
    Sh.f_l_cell_at [.scr ns, .int 0] = .ok (.int v0) [some (.scr ns), some (.int 0)] ∧ Sh.f_l_cell_at [.scr ns, .int 1] = .ok (.int v1) [some (.scr ns), some (.int 1)] ∧
    binQ .Pow (.int 10) (.int 58) = some (.int M) ∧ M ≠ 0 ∧ atI [PV.int 0, PV.int (v1.fmod M)] ((v0.fdiv 6).fmod 2) = some (.int base) ∧ (1 ≤ 1 + v0.fmod 6 ∧ 1 + v0.fmod 6 ≤ 6) ∧
    Sd.f_l_deeds [.lst false ((cutL ns (some 2) (some hi)).map .int), .int (1 + v0.fmod 6), .int base] = .ok (.lst true (ds.map encDd)) [some (.lst false ((cutL ns (some 2) (some hi)).map .int)), some (.int (1 + v0.fmod 6)), some (.int base)] ∧
    ROk (1 + v0.fmod 6) ds ∧ ds.length ≤ 60 := by
  obtain ⟨v0, hv0⟩ := Sh.s_cell ns 0 (by decide)
  obtain ⟨v1, hv1⟩ := Sh.s_cell ns 1 (by decide)
  obtain ⟨a1, a2⟩ := Sh.fmod_nn (a := v0) (b := 6) (by decide)
  obtain ⟨M, hM0, hM⟩ : ∃ M : Int, 0 < M ∧ binQ .Pow (.int 10) (.int 58) = some (.int M) := ⟨10 ^ 58, by decide, by rw [binQ_pow (by decide)]; rfl⟩
  obtain ⟨c1, c2⟩ := Sh.fmod_nn (a := v1) hM0
  obtain ⟨base, hb, hbe⟩ : ∃ base : Int, 0 ≤ base ∧ atI [PV.int 0, PV.int (v1.fmod M)] ((v0.fdiv 6).fmod 2) = some (.int base) := by
    obtain ⟨b0, b1⟩ := Sh.fmod_nn (a := v0.fdiv 6) (b := 2) (by decide)
    have : (v0.fdiv 6).fmod 2 = 0 ∨ (v0.fdiv 6).fmod 2 = 1 := by omega
    rcases this with q | q
    · exact ⟨0, by decide, by rw [q]; simp⟩
    · exact ⟨_, c1, by rw [q]; simp⟩
  obtain ⟨ds, hds, hok, hlen⟩ := Sd.s_deeds (cutL ns (some 2) (some hi)) (cut_le h h2) (many := 1 + v0.fmod 6) (base := base) (by omega) (by omega) hb
  have := cut_le (ns := ns) h h2
  exact ⟨v0, v1, M, base, ds, hv0, hv1, hM, by omega, hbe, ⟨by omega, by omega⟩, hds, hok, by omega⟩
end Sr

set_option linter.all false
set_option maxRecDepth 100000
set_option maxHeartbeats 400000
namespace Se
open PySem PySem.Spec PyProof.Rows L2 Rk Row Sr
section
variable {many : Int} {acc : List Dd} {aw pa : List Int} {ks xs : List PV} {t pick base : Int}
theorem s_bylock (h : DrI many acc aw pa ks xs) (hl : acc.length ≤ 1000) (h1 : t ∈ aw) (h2 : t ∉ pa) (hb : 0 ≤ base) :
    ∃ d ks' xs', f_l_by_lock [.dic true ks xs, .int t, .int pick, .int base] = .ok (encDd d) [some (.dic true ks' xs'), some (.int t), some (.int pick), some (.int base)] ∧ DrI many (acc ++ [d]) aw pa ks' xs' := by
  obtain ⟨a0, a1⟩ := Sh.fmod_nn (a := pick) (b := 2) (by decide)
  obtain ⟨b0, b1⟩ := Sh.fmod_nn (a := pick.fdiv 2) (b := 2) (by decide)
  obtain ⟨t0, t1⟩ := h.rng t h1
  have hkl : ks.length < 1000000 := by have := h.kl; omega
  have hat := h.ho.at_ (base + pick.fmod 2)
  have e1 : (wsE acc).aw t = true := by rw [h.awk]; simpa using h1
  have e2 : (wsE acc).pa t = false := by rw [h.pas]; simpa using h2
  cases hh : (wsE acc).ho (base + pick.fmod 2) with
  | none =>
    rw [hh] at hat
    refine ⟨⟨t, .take, base + pick.fmod 2⟩, _, _, ?_, dri_more h ?_ (by simp) (by simp) (hod_take h.ho rfl) putD_le⟩
    · simp [f_l_by_lock, fnM_eq, c_l_by_lock, hat, hkl, encDd, wS]
    · exact ⟨t0, t1, by show 0 ≤ base + _; omega, (fun z => by rcases z with z | z <;> cases z), e1, e2, (fun z => by cases z), (fun z => by cases z), fun _ => hh, (fun z => by cases z)⟩
  | some v =>
    rw [hh] at hat
    by_cases hv : v = t
    · subst hv
      refine ⟨⟨v, .give, base + pick.fmod 2⟩, _, _, ?_, dri_more h ?_ (by simp) (by simp) (hod_give h.ho rfl) ?_⟩
      · simp [f_l_by_lock, fnM_eq, c_l_by_lock, hat, encDd, wS]
      · exact ⟨t0, t1, by show 0 ≤ base + _; omega, (fun z => by rcases z with z | z <;> cases z), e1, e2, (fun z => by cases z), (fun z => by cases z), (fun z => by cases z), fun _ => hh⟩
      · have := dropD_le (ks := ks) (k := .int (base + pick.fmod 2)); show (dropDk ks (.int (base + pick.fmod 2))).length ≤ _; omega
    · refine ⟨⟨t, .write, base + (pick.fdiv 2).fmod 2⟩, ks, xs, ?_, dri_more h (ok_plain h h1 h2 (by omega) (.inr rfl)) (by simp) (by simp) (hod_plain h.ho (by simp) (by simp)) (by omega)⟩
      simp [f_l_by_lock, fnM_eq, c_l_by_lock, hat, hv, encDd, wS]
theorem s_deeds (cells : List Int) (hl : cells.length ≤ 60) (m1 : 1 ≤ many) (m2 : many ≤ 6) (hb : 0 ≤ base) :
    ∃ ds : List Dd, f_l_deeds [.lst false (cells.map .int), .int many, .int base] = .ok (.lst true (ds.map encDd)) [some (.lst false (cells.map .int)), some (.int many), some (.int base)] ∧ ROk many ds ∧ ds.length = cells.length := by
  obtain ⟨nums, hn, hnl, hnn⟩ := Sd.s_numbers cells (by omega)
  simp [f_l_deeds, fnM_eq, c_l_deeds, hn]
  refine forL_elim1 (X := fun r => ∃ ds : List Dd, finM _ _ (seqM r _) = .ok (.lst true (ds.map encDd)) _ ∧ ROk many ds ∧ ds.length = cells.length)
    (fun l e => ∃ (acc : List Dd) (aw pa : List Int) (ks xs : List PV), acc.length + l.length = cells.length ∧ DrI many acc aw pa ks xs ∧ (∀ t ∈ aw, t < aw.length) ∧
      e = [some (.lst false (cells.map .int)), some (.int many), some (.int base), some (.lst true (aw.map .int)), some (.lst true (pa.map .int)), some (.dic true ks xs), some (.lst true (acc.map encDd)), none, none, none, none, none, none, none]) ?_ ?_ ?_
  · rintro x l e ⟨acc, aw, pa, ks, xs, h1, h, hr, rfl⟩
    have hlen : acc.length < 60 := by simp at h1; omega
    have hawl := h.awl
    have hpal := h.pal
    have a1 : aw.length < 1000000 := by omega
    have a2 : pa.length < 1000000 := by omega
    have a3 : acc.length < 1000000 := by omega
    have a4 : aw.length ≤ 1000000 := by omega
    obtain ⟨A, hA⟩ : ∃ A, aw.filter (fun t => decide (t ∉ pa)) = A := ⟨_, rfl⟩
    have hal : A ≠ [] := by
      obtain ⟨t, q1, q2⟩ := h.alv
      rw [← hA]
      exact List.ne_nil_of_mem (List.mem_filter.mpr ⟨q1, by simpa using q2⟩)
    have a5 : A.length ≤ 1000000 := by
      have : A.length ≤ aw.length := by rw [← hA]; exact List.length_filter_le _ _
      omega
    obtain ⟨t, ht, hm⟩ := pickL x hal
    have hm0 := hm
    rw [← hA] at hm
    obtain ⟨ht1, ht2⟩ := List.mem_filter.mp hm
    have ht2 : t ∉ pa := by simpa using ht2
    obtain ⟨C, hC⟩ : ∃ C, A.filter (fun u => decide (u ≠ t)) = C := ⟨_, rfl⟩
    refine ⟨_, rfl, ?_⟩
    change exNxt _ (fun e2 => _)
    simp [a4]
    rw [compL_map (fun t => decide (t ∉ pa)) PV.int, hA]
    rotate_left
    · intro y hy
      simp
    simp [ht, hal, a5]
    rw [compL_map (fun u => decide (u ≠ t)) PV.int, hC]
    rotate_left
    · intro y hy
      simp
    obtain ⟨d, ks', xs', e1, hD⟩ := s_bylock (pick := x.fdiv 96) (base := base) h (by omega) ht1 ht2 hb
    obtain ⟨w, hw, hrw⟩ : ∃ w, (w = .read ∨ w = .write) ∧ atI [PV.str (Str.ofString "read"), PV.str (Str.ofString "read"), PV.str (Str.ofString "write")] ((x.fdiv 8).fmod 3) = some (.str (wS w)) := by
      obtain ⟨b0, b1⟩ := Sh.fmod_nn (a := x.fdiv 8) (b := 3) (by decide)
      have : (x.fdiv 8).fmod 3 = 0 ∨ (x.fdiv 8).fmod 3 = 1 ∨ (x.fdiv 8).fmod 3 = 2 := by omega
      rcases this with q | q | q
      · exact ⟨.read, .inl rfl, by rw [q]; simp [wS]⟩
      · exact ⟨.read, .inl rfl, by rw [q]; simp [wS]⟩
      · exact ⟨.write, .inr rfl, by rw [q]; simp [wS]⟩
    obtain ⟨p0, p1⟩ := Sh.fmod_nn (a := x.fdiv 96) (b := 3) (by decide)
    have hP : DrI many (acc ++ [⟨t, w, base + (x.fdiv 96).fmod 3⟩]) aw pa ks xs :=
      dri_more h (ok_plain h ht1 ht2 (by omega) hw) (by rcases hw with rfl | rfl <;> simp) (by rcases hw with rfl | rfl <;> simp) (hod_plain h.ho (by rcases hw with rfl | rfl <;> simp) (by rcases hw with rfl | rfl <;> simp)) (by omega)
    have hn1 : ∀ d : Dd, (acc ++ [d]).length + l.length = cells.length := fun d => by simp at h1 ⊢; omega
    have lock : ∃ acc' : List Dd, acc'.length + l.length = cells.length ∧ ∃ (aw' pa' : List Int) (ks'' xs'' : List PV), DrI many acc' aw' pa' ks'' xs'' ∧ (∀ t ∈ aw', t < aw'.length) ∧ aw.map PV.int = aw'.map PV.int ∧ pa.map PV.int = pa'.map PV.int ∧ (ks' = ks'' ∧ xs' = xs'') ∧ acc.map encDd ++ [encDd d] = acc'.map encDd := ⟨_, hn1 d, aw, pa, ks', xs', hD, hr, rfl, rfl, ⟨rfl, rfl⟩, by simp⟩
    have plain : ∃ acc' : List Dd, acc'.length + l.length = cells.length ∧ ∃ (aw' pa' : List Int) (ks'' xs'' : List PV), DrI many acc' aw' pa' ks'' xs'' ∧ (∀ t ∈ aw', t < aw'.length) ∧ aw.map PV.int = aw'.map PV.int ∧ pa.map PV.int = pa'.map PV.int ∧ (ks = ks'' ∧ xs = xs'') ∧ acc.map encDd ++ [PV.tup [.int t, .str (wS w), .int (base + (x.fdiv 96).fmod 3)]] = acc'.map encDd := ⟨_, hn1 _, aw, pa, ks, xs, hP, hr, rfl, rfl, ⟨rfl, rfl⟩, by simp [encDd]⟩
    have fork : (aw.length : Int) < many → ∃ acc' : List Dd, acc'.length + l.length = cells.length ∧ ∃ (aw' pa' : List Int) (ks'' xs'' : List PV), DrI many acc' aw' pa' ks'' xs'' ∧ (∀ t ∈ aw', t < aw'.length) ∧ aw.map PV.int ++ [.int aw.length] = aw'.map PV.int ∧ pa.map PV.int = pa'.map PV.int ∧ (ks = ks'' ∧ xs = xs'') ∧ acc.map encDd ++ [PV.tup [.int t, .str (Str.ofString "fork"), .int (aw.length)]] = acc'.map encDd := fun hu => by
      refine ⟨_, hn1 _, aw ++ [(aw.length : Int)], pa, ks, xs, dri_fork h ht1 ht2 (fun z => by have := hr _ z; omega) (by omega) hu, ?_, by simp, rfl, ⟨rfl, rfl⟩, by simp [encDd, wS]⟩
      intro v hv
      rw [List.length_append, List.length_singleton]
      rcases List.mem_append.mp hv with hv | hv
      · have := hr v hv; omega
      · rw [List.mem_singleton.mp hv]; omega
    have wait : ∀ u ∈ C, ∃ acc' : List Dd, acc'.length + l.length = cells.length ∧ ∃ (aw' pa' : List Int) (ks'' xs'' : List PV), DrI many acc' aw' pa' ks'' xs'' ∧ (∀ t ∈ aw', t < aw'.length) ∧ aw.map PV.int = aw'.map PV.int ∧ pa.map PV.int ++ [.int u] = pa'.map PV.int ∧ (ks = ks'' ∧ xs = xs'') ∧ acc.map encDd ++ [PV.tup [.int t, .str (Str.ofString "wait"), .int u]] = acc'.map encDd := fun u hu => by
      rw [← hC] at hu
      obtain ⟨hu1, hu2⟩ := List.mem_filter.mp hu
      rw [← hA] at hu1
      exact ⟨_, hn1 _, aw, pa ++ [u], ks, xs, dri_wait h ht1 ht2 (List.mem_filter.mp hu1).1 (by simpa using hu2), hr, rfl, by simp, ⟨rfl, rfl⟩, by simp [encDd, wS]⟩
    by_cases hBn : (aw.length : Int) < many
    · have fork := fork hBn
      by_cases hCn : C = []
      · simp [hBn, hCn, e1, hrw, a1, a2, a3]
        repeat' split
        all_goals first | exact fork | exact lock | exact plain
      · obtain ⟨v, hv, hv1⟩ := pickL ((x.fdiv 96).fdiv 3) hCn
        simp [hBn, hCn, e1, hrw, a1, a2, a3, hv]
        repeat' split
        all_goals first | exact fork | exact wait v hv1 | exact lock | exact plain
    · by_cases hCn : C = []
      · simp [hBn, hCn, e1, hrw, a1, a2, a3]
        repeat' split
        all_goals first | exact lock | exact plain
      · obtain ⟨v, hv, hv1⟩ := pickL ((x.fdiv 96).fdiv 3) hCn
        simp [hBn, hCn, e1, hrw, a1, a2, a3, hv]
        repeat' split
        all_goals first | exact wait v hv1 | exact lock | exact plain
  · exact ⟨[], [0], [], [], [], by simp [hnl], dri0 m1, by simp, by simp⟩
  · rintro e' ⟨acc, aw, pa, ks, xs, h1, h, hr, rfl⟩
    exact ⟨acc, by simp, h.ok, by simpa using h1⟩
end
end Se

set_option linter.all false
set_option maxRecDepth 100000
set_option maxHeartbeats 400000
namespace Rk
open PySem
mutual
theorem pvEq_refl : ∀ {n : Nat} {x : PV}, okD n x = true → pvEq x x = true
  | _, .non, _ => rfl
  | _, .bl b, _ => by simp
  | _, .int i, _ => by simp
  | _, .str s, _ => by simp
  | 0, .tup _, h => by simp [okD] at h
  | n + 1, .tup xs, h => pvEqs_refl (n := n) (by simpa using h)
  | 0, .lst _ _, h => by simp [okD] at h
  | n + 1, .lst _ xs, h => pvEqs_refl (n := n) (by simpa using h)
  | n, .scr _, h => by cases n <;> simp [okD] at h
  | n, .dic _ _ _, h => by cases n <;> simp [okD] at h
  | n, .ins _ _ _ _, h => by cases n <;> simp [okD] at h
  | n, .exn _, h => by cases n <;> simp [okD] at h
theorem pvEqs_refl : ∀ {n : Nat} {xs : List PV}, okDs n xs = true → pvEqs xs xs = true
  | _, [], _ => rfl
  | n, x :: xs, h => by
    simp only [okDs_cons, Bool.and_eq_true] at h
    simp [pvEq_refl h.1, pvEqs_refl h.2]
end
theorem eqQ_refl {x : PV} (h : okD 64 x = true) : eqQ x x = some true := by rw [eqQ_ok' h h, pvEq_refl h]
end Rk
namespace Sh
open PySem PySem.Spec PyProof.Rows L2 Rk Sr Row
theorem okDs_ints {n : Nat} {l : List Int} : okDs n (l.map PV.int) = true := okDs_map fun _ _ => okD_int
@[simp] theorem okD_encS {n : Nat} {s : St} : okD (n + 4) (encS s) = true := by
  have h1 : okDs (n + 2) (s.owns.map encOw) = true := okDs_map fun r _ => by
    show okD (n + 1 + 1) (.tup _) = true
    rw [okD_tup]; exact okDs_ints
  have h2 : okDs (n + 2) (s.hold.map encOI) = true := okDs_map fun r _ => by cases r <;> simp
  have h3 : okDs (n + 2) (s.awake.map PV.bl) = true := okDs_map fun r _ => by simp
  simp [encS, okDs_ints, h1, h2, h3]
@[simp] theorem eqS {s : St} : pvEq (encS s) (encS s) = true := pvEq_refl (n := 60 + 4) okD_encS
def encOD : Option Dd → PV
  | none => .non
  | some d => encDd d
@[simp] theorem encOD_n : encOD none = .non := (rfl)
@[simp] theorem encOD_s {d : Dd} : encOD (some d) = encDd d := (rfl)
@[simp] theorem isF_encOD {o : Option Dd} : isF (encOD o) = true := by cases o <;> simp
/-- the deed of a line -/
def dLn (t : Int) : Ln → Option Dd
  | .read _ n => some ⟨t, .read, n⟩
  | .write n _ => some ⟨t, .write, n⟩
  | .take l => some ⟨t, .take, l⟩
  | .give l => some ⟨t, .give, l⟩
  | .fork u => some ⟨t, .fork, u⟩
  | .wait u => some ⟨t, .wait, u⟩
  | _ => none
def deedS (p : Pgm) (s : St) (t : Int) : Option Dd := (nxt p s t).bind (dLn t)
section
variable {p : Pgm} {s : St} {t : Int}
theorem may_nxt (hm : may p s t = true) : ∃ l, nxt p s t = some l := by
  unfold may at hm
  cases h : nxt p s t with
  | none => rw [h] at hm; cases hm
  | some l => exact ⟨l, rfl⟩
theorem s_deedof (h : s.Ok p.many p.names) (h0 : 0 ≤ t) (h1 : t < p.many) (hm : may p s t = true) :
    f_deed_of [encP p, encS s, .int t] = .ok (encOD (deedS p s t)) [some (encP p), some (encS s), some (.int t)] := by
  have e := s_next h h0 h1
  obtain ⟨l, hl⟩ := may_nxt hm
  rw [hl] at e
  unfold deedS
  rw [hl]
  cases l <;> simp [encL] at e <;> simp [f_deed_of, fnM_eq, c_deed_of, e, dLn, encDd, wS]
/-- schedules that can be walked -/
inductive Runs (p : Pgm) : List Int → St → List Dd → Prop where
  | nil : Runs p [] (beginS p) []
  | snoc {l : List Int} {s : St} {ds : List Dd} {t : Int} : Runs p l s ds → 0 ≤ t → t < p.many → may p s t = true → Runs p (l ++ [t]) (moveS p s t) (ds ++ (deedS p s t).toList)
theorem Runs.ok (hp : p.Ok) {l : List Int} {ds : List Dd} (h : Runs p l s ds) : s.Ok p.many p.names := by
  induction h with
  | nil => exact begin_ok hp
  | snoc _ h0 h1 _ ih => exact moveS_ok hp ih h0 h1
theorem Runs.len {l : List Int} {ds : List Dd} (h : Runs p l s ds) : ds.length ≤ l.length := by
  induction h with
  | nil => exact Nat.le_refl _
  | snoc _ _ _ _ ih =>
    rename_i s _ t _ _ _ _
    simp only [List.length_append, List.length_singleton]
    have : ∀ o : Option Dd, o.toList.length ≤ 1 := fun o => by cases o <;> simp
    have := this (deedS p s t)
    omega
/-- a beginning of a schedule that can be walked -/
theorem Runs.split {l : List Int} {ds : List Dd} (h : Runs p l s ds) : ∀ a b : List Int, l = a ++ b → ∃ s' ds', Runs p a s' ds' := by
  induction h with
  | nil =>
    intro a b hab
    obtain ⟨rfl, rfl⟩ := List.append_eq_nil_iff.mp hab.symm
    exact ⟨_, _, .nil⟩
  | snoc h h0 h1 hm ih =>
    rename_i l s ds t
    intro a b hab
    rcases List.eq_nil_or_concat b with rfl | ⟨b', x, rfl⟩
    · rw [List.append_nil] at hab
      rw [← hab]
      exact ⟨_, _, .snoc h h0 h1 hm⟩
    · rw [List.concat_eq_append, ← List.append_assoc] at hab
      obtain ⟨h3, h4⟩ := List.append_inj' hab rfl
      exact ih _ _ h3
theorem Runs.det {l : List Int} {s' : St} {ds ds' : List Dd} (h : Runs p l s ds) (h2 : Runs p l s' ds') : s = s' ∧ ds = ds' := by
  induction h generalizing s' ds' with
  | nil =>
    generalize hl : ([] : List Int) = l at h2
    cases h2 with
    | nil => exact ⟨rfl, rfl⟩
    | snoc => simp at hl
  | snoc h h0 h1 hm ih =>
    rename_i l s ds t
    generalize hl : l ++ [t] = l' at h2
    cases h2 with
    | nil => simp at hl
    | snoc h' h0' h1' hm' =>
      obtain ⟨h3, h4⟩ := List.append_inj' hl rfl
      cases h4
      subst h3
      obtain ⟨rfl, rfl⟩ := ih h'
      exact ⟨rfl, rfl⟩
theorem Runs.step {a b : List Int} {t : Int} {ds : List Dd} (h : Runs p (a ++ t :: b) s ds) : ∃ s' ds', Runs p a s' ds' ∧ 0 ≤ t ∧ t < p.many ∧ may p s' t = true := by
  obtain ⟨s2, ds2, h2⟩ := h.split (a ++ [t]) b (by simp)
  generalize hl : a ++ [t] = l' at h2
  cases h2 with
  | nil => simp at hl
  | snoc h' h0' h1' hm' =>
    obtain ⟨h3, h4⟩ := List.append_inj' hl rfl
    cases h4
    subst h3
    exact ⟨_, _, h', h0', h1', hm'⟩
theorem s_run {o : Bool} (hp : p.Ok) {l : List Int} {ds : List Dd} (h : Runs p l s ds) (hl : l.length ≤ 1000) :
    f_run [encP p, .lst false (l.map .int)] = .ok (.tup [encS s, .lst true (ds.map encDd)]) [some (encP p), some (.lst false (l.map .int))] := by
  have hb := s_begin hp
  simp [f_run, fnM_eq, c_run, hb]
  refine forL_elim1 (X := fun r => finM _ _ (seqM r _) = _)
    (fun l2 e => ∃ (a : List Int) (s' : St) (ds' : List Dd), l = a ++ l2 ∧ Runs p a s' ds' ∧ e = [some (encP p), some (.lst false (l.map .int)), some (encS s'), some (.lst true (ds'.map encDd)), none, none, none]) ?_ ?_ ?_
  · rintro t l2 e ⟨a, s', ds', h1, h2, rfl⟩
    obtain ⟨s2, ds2, h3, t0, t1, tm⟩ := (h1 ▸ h : Runs p (a ++ t :: l2) s ds).step
    obtain ⟨rfl, rfl⟩ := h2.det h3
    have hs := h2.ok hp
    have e1 := s_moved hp hs t0 t1 tm
    have e2 := s_deedof hs t0 t1 tm
    have hdl := h2.len
    have hal : ds'.length < 1000000 := by rw [h1] at hl; simp at hl; omega
    have hn := Runs.snoc h2 t0 t1 tm
    refine ⟨_, rfl, ?_⟩
    change exNxt _ (fun e2 => _)
    cases hd : deedS p s' t with
    | none =>
      rw [hd] at e2 hn
      simp [e1, e2]
      exact ⟨a ++ [t], by simp [h1], _, ds', by simpa using hn, rfl, rfl⟩
    | some d =>
      rw [hd] at e2 hn
      simp [e1, e2, hal]
      exact ⟨a ++ [t], by simp [h1], _, ds' ++ [d], by simpa using hn, rfl, by simp⟩
  · exact ⟨[], _, [], rfl, .nil, by simp⟩
  · rintro e' ⟨a, s', ds', h1, h2, rfl⟩
    rw [List.append_nil] at h1
    subst h1
    obtain ⟨rfl, rfl⟩ := h.det h2
    simp
end
end Sh

set_option linter.all false
set_option maxRecDepth 100000
set_option maxHeartbeats 400000
namespace Rk
open PySem
/-- a walk that ends at the first thing looked for -/
theorem forL_find {α : Type} {kl tg : List Nat} {body : Slots → Res Fl} {item : α → PV} (c : α → Bool) (E : Slots) (W : α → Slots) (R : Slots → Prop) (v : PV) :
    ∀ {l : List α} {e : Slots}, (∀ x ∈ l, takeM tg (item x) E = some (W x)) → (∀ x ∈ l, c x = true → ∃ e', body (W x) = .ok (.ret v) e' ∧ R e') → (∀ x ∈ l, c x = false → ∃ e', body (W x) = .ok .nxt e' ∧ killM kl e' = E) → killM kl e = E →
      (l.any c = false → forL kl tg body (l.map item) e = .ok .nxt E) ∧ (l.any c = true → ∃ e', forL kl tg body (l.map item) e = .ok (.ret v) e' ∧ R e')
  | [], e, _, _, _, he => ⟨fun _ => by rw [List.map_nil, forL_nl, he], fun h => by simp at h⟩
  | x :: l, e, ht, h1, h0, he => by
    rw [List.map_cons]
    unfold forL
    rw [he, ht x (by simp)]
    dsimp only
    cases hc : c x with
    | true =>
      obtain ⟨e', hb, hr⟩ := h1 x (by simp) hc
      rw [hb]
      exact ⟨fun h => by simp [hc] at h, fun _ => ⟨e', rfl, hr⟩⟩
    | false =>
      obtain ⟨e', hb, hk⟩ := h0 x (by simp) hc
      rw [hb, seqM_nxt]
      have := forL_find c E W R v (l := l) (e := e') (fun y hy => ht y (by simp [hy])) (fun y hy => h1 y (by simp [hy])) (fun y hy => h0 y (by simp [hy])) hk
      rw [List.any_cons, hc, Bool.false_or]
      exact this
end Rk
namespace Sw
open PySem PySem.Spec PyProof.Rows L2 Rk Row Sr
section
variable {many : Int} {ds : List Dd}
/-- a place that stands behind one that it is ahead of -/
noncomputable def badP (ds : List Dd) (o : List Int) (q : Int × Int) : Bool := (o.take q.2.toNat).any fun e => ahd ds q.1.toNat e.toNat
noncomputable def wvB (ds : List Dd) (o : List Int) : Bool := decide (sortIL o = rangeL 0 ds.length) && !((enumF 0 o).any (badP ds o))
theorem sort_mem {o : List Int} {n : Int} (h : sortIL o = rangeL 0 n) {x : Int} (hx : x ∈ o) : 0 ≤ x ∧ x < n := by
  have : x ∈ sortIL o := (List.mergeSort_perm _ _).mem_iff.mpr hx
  rw [h] at this
  exact mem_rangeL.mp this
theorem sort_len {o : List Int} : (sortIL o).length = o.length := (List.mergeSort_perm _ _).length_eq
theorem eq_ints {o : Bool} {o2 : Bool} {a b : List Int} : eqQ (.lst o (a.map .int)) (.lst o2 (b.map .int)) = some (decide (a = b)) := by
  rw [eqQ_ok' (show okD 64 (.lst o (a.map .int)) = true from Sh.okDs_ints (n := 63)) (show okD 64 (.lst o2 (b.map .int)) = true from Sh.okDs_ints (n := 63))]
  congr 1
  show pvEqs (a.map PV.int) (b.map PV.int) = _
  rw [pvEqs_map (fun x y => by show (x == y) = decide (x = y); rfl)]
theorem s_isw (m1 : 1 ≤ many) (m2 : many ≤ 6) (hl : ds.length ≤ 60) (ho : ROk many ds) {o : List Int} (hol : o.length ≤ 1000) :
    f_is_weaving [encR many ds, .lst false (o.map .int)] = .ok (.bl (wvB ds o)) [some (encR many ds), some (.lst false (o.map .int))] := by
  have hc := s_clocks m1 m2 hl ho
  have fo : isFs (o.map PV.int) = true := isFs_map fun _ _ => rfl
  have hn1 : (0 : Int) ≤ ds.length := by omega
  have hn2 : (ds.length : Int) ≤ 1000000 := by omega
  have hck := ckL_F (many := many) (D := at0 ds) (n := ds.length)
  have hs : eqQ (.lst true ((sortIL o).map .int)) (.lst true ((rangeL 0 ds.length).map .int)) = some (decide (sortIL o = rangeL 0 ds.length)) := eq_ints
  unfold wvB
  by_cases q : sortIL o = rangeL 0 ds.length
  · have q2 : decide (sortIL o = rangeL 0 ds.length) = true := by simp [q]
    rw [q2] at hs
    simp [f_is_weaving, fnM_eq, c_is_weaving, hn1, hn2, hs, q2, hc, hck, fo]
    obtain ⟨E, hE⟩ : ∃ E : Slots, E = [some (encR many ds), some (.lst false (o.map .int)), some (.lst false (ckL many (at0 ds) ds.length)), none, none, none] := ⟨_, rfl⟩
    obtain ⟨W, hW⟩ : ∃ W : Int × Int → Slots, W = fun q => [some (encR many ds), some (.lst false (o.map .int)), some (.lst false (ckL many (at0 ds) ds.length)), some (.int q.2), some (.int q.1), none] := ⟨_, rfl⟩
    have inner : ∀ q ∈ enumF 0 o, (badP ds o q = false → forL [5] [5] (evB [.ite (.call "goes_ahead" f_goes_ahead [(.var 0), (.var 2), (.var 4), (.var 5)]) [.ret (.bl false)] []]) ((o.take q.2.toNat).map .int) (W q) = .ok .nxt (W q)) ∧
        (badP ds o q = true → ∃ e', forL [5] [5] (evB [.ite (.call "goes_ahead" f_goes_ahead [(.var 0), (.var 2), (.var 4), (.var 5)]) [.ret (.bl false)] []]) ((o.take q.2.toNat).map .int) (W q) = .ok (.ret (.bl false)) e' ∧ e'.take 2 = [some (encR many ds), some (.lst false (o.map .int))]) := by
      intro q hq
      obtain ⟨_, _, hm⟩ := enumF_mem hq
      obtain ⟨p0, p1⟩ := sort_mem ‹_› hm
      refine forL_find (fun e => ahd ds q.1.toNat e.toNat) (W q) (fun x => [some (encR many ds), some (.lst false (o.map .int)), some (.lst false (ckL many (at0 ds) ds.length)), some (.int q.2), some (.int q.1), some (.int x)]) (fun e' => e'.take 2 = [some (encR many ds), some (.lst false (o.map .int))]) (.bl false) (l := o.take q.2.toNat) (e := W q) ?_ ?_ ?_ ?_
      · intro x _; subst hW; simp
      · intro x hx hcx
        obtain ⟨x0, x1⟩ := sort_mem ‹sortIL o = _› (List.mem_of_mem_take hx)
        have hg := s_goes (many := many) ho p0 p1 x0 x1
        rw [hcx] at hg
        exact ⟨_, by simp [hg, hck]; rfl, by simp⟩
      · intro x hx hcx
        obtain ⟨x0, x1⟩ := sort_mem ‹sortIL o = _› (List.mem_of_mem_take hx)
        have hg := s_goes (many := many) ho p0 p1 x0 x1
        rw [hcx] at hg
        exact ⟨_, by simp [hg, hck]; rfl, by subst hW; simp⟩
      · subst hW; simp
    have key := forL_find (kl := [3, 4, 5]) (tg := [3, 4]) (body := evB [.forr [5] [5] .lst [(.sl (.var 1) .nop (.var 3))] [.ite (.call "goes_ahead" f_goes_ahead [(.var 0), (.var 2), (.var 4), (.var 5)]) [.ret (.bl false)] []]]) (item := fun p : Int × Int => .tup [.int p.2, .int p.1]) (badP ds o) E W (fun e' => e'.take 2 = [some (encR many ds), some (.lst false (o.map .int))]) (.bl false) (l := enumF 0 o) (e := E) (fun q _ => by subst hE hW; simp) (fun q hq hb => by
        obtain ⟨e', h1, h2⟩ := (inner q hq).2 hb
        obtain ⟨k0, _, _⟩ := enumF_mem hq
        have hcut : cutL (o.map PV.int) none (some q.2) = (o.take q.2.toNat).map .int := by rw [cutL_to k0, List.map_take]
        have f2 : isFs ((o.take q.2.toNat).map PV.int) = true := isFs_map fun _ _ => rfl
        refine ⟨e', ?_, h2⟩
        subst hW
        simp [fo, hcut, f2, -List.map_take]
        rw [h1]
        simp) (fun q hq hb => by
        have h1 := (inner q hq).1 hb
        obtain ⟨k0, _, _⟩ := enumF_mem hq
        have hcut : cutL (o.map PV.int) none (some q.2) = (o.take q.2.toNat).map .int := by rw [cutL_to k0, List.map_take]
        have f2 : isFs ((o.take q.2.toNat).map PV.int) = true := isFs_map fun _ _ => rfl
        refine ⟨W q, ?_, by subst hE hW; simp⟩
        subst hW
        simp [fo, hcut, f2, -List.map_take]
        rw [h1]
        simp) (by subst hE; simp)
    rw [← hE]
    cases hany : (enumF 0 o).any (badP ds o) with
    | false => rw [key.1 hany]; subst hE; simp
    | true =>
      obtain ⟨e', h, hr⟩ := key.2 hany
      obtain ⟨r, rfl⟩ : ∃ r, e' = some (encR many ds) :: some (.lst false (o.map .int)) :: r := ⟨e'.drop 2, by
        have := List.take_append_drop 2 e'
        rw [hr] at this
        exact this.symm⟩
      rw [h]
      simp
  · have q2 : decide (sortIL o = rangeL 0 ds.length) = false := by simp [q]
    rw [q2] at hs
    simp [f_is_weaving, fnM_eq, c_is_weaving, hn1, hn2, hs, q2, fo]
theorem enumF_get {α : Type} : ∀ {l : List α} {k : Int} {i : Nat}, (enumF k l)[i]? = (l[i]?).map fun x => (x, k + i)
  | [], k, i => by simp
  | x :: l, k, 0 => by simp
  | x :: l, k, i + 1 => by
    rw [enumF_cons, List.getElem?_cons_succ, List.getElem?_cons_succ, enumF_get]
    congr 1
    funext y
    congr 1
    omega
def gt (o : List Int) (k : Int) : Int := (o[k.toNat]?).getD 0
theorem gt_at {o : List Int} {k : Int} (h0 : 0 ≤ k) (h1 : k < o.length) : atI (o.map PV.int) k = some (.int (gt o k)) ∧ gt o k ∈ o := by
  obtain ⟨x, hx, hm⟩ := Sh.get_of (l := o) h0 h1
  have : gt o k = x := by unfold gt; rw [hx]; rfl
  rw [this]
  exact ⟨Sh.at_of h0 hx, hm⟩
theorem enumF_rng {o : List Int} : enumF 0 o = (rangeL 0 o.length).map fun k => (gt o k, k) := by
  apply List.ext_getElem?
  intro i
  rw [enumF_get, List.getElem?_map]
  by_cases h : i < o.length
  · rw [rangeL_get (by omega)]
    simp [gt, h]
  · rw [List.getElem?_eq_none (by omega), List.getElem?_eq_none (by rw [rangeL_len]; omega)]; rfl
theorem take_rng {o : List Int} {k : Int} (h0 : 0 ≤ k) (h1 : k ≤ o.length) : o.take k.toNat = (rangeL 0 k).map (gt o) := by
  apply List.ext_getElem?
  intro i
  rw [List.getElem?_map]
  by_cases h : i < k.toNat
  · rw [rangeL_get (by omega), List.getElem?_take, if_pos h]
    have : i < o.length := by omega
    simp [gt, this]
  · rw [List.getElem?_eq_none (by rw [List.length_take]; omega), List.getElem?_eq_none (by rw [rangeL_len]; omega)]; rfl
noncomputable def badK (ds : List Dd) (o : List Int) (k : Int) : Bool := (rangeL 0 k).any fun j => ahd ds (gt o k).toNat (gt o j).toNat
theorem bad_eq {o : List Int} : (enumF 0 o).any (badP ds o) = (rangeL 0 o.length).any (badK ds o) := by
  rw [enumF_rng, List.any_map]
  have : ∀ l : List Int, (∀ k ∈ l, 0 ≤ k ∧ k < o.length) → (l.any ((badP ds o) ∘ fun k => (gt o k, k))) = l.any (badK ds o) := by
    intro l
    induction l with
    | nil => intro _; rfl
    | cons k l ih =>
      intro h
      obtain ⟨k0, k1⟩ := h k (by simp)
      rw [List.any_cons, List.any_cons, ih fun j hj => h j (by simp [hj])]
      congr 1
      show ((o.take k.toNat).any fun e => ahd ds (gt o k).toNat e.toNat) = _
      rw [take_rng k0 (by omega), List.any_map]
      rfl
  exact this _ fun k hk => mem_rangeL.mp hk
theorem s_isord (hl : ds.length ≤ 60) {o : List Int} (hol : o.length ≤ 1000) :
    f_l_is_order [.lst false (tabB ds ds.length), .lst false (o.map .int)] = .ok (.bl (wvB ds o)) [some (.lst false (tabB ds ds.length)), some (.lst false (o.map .int))] := by
  have fo : isFs (o.map PV.int) = true := isFs_map fun _ _ => rfl
  have hn1 : (0 : Int) ≤ ds.length := by omega
  have hn2 : (ds.length : Int) ≤ 1000000 := by omega
  have hT := tabB_F (ds := ds) (n := ds.length)
  have hTl := tabB_len (ds := ds) (n := ds.length)
  have r1 : -4611686018427387904 ≤ (o.length : Int) := by omega
  have r2 : (o.length : Int) < 4611686018427387904 := by omega
  have hs : eqQ (.lst true ((sortIL o).map .int)) (.lst true ((rangeL 0 ds.length).map .int)) = some (decide (sortIL o = rangeL 0 ds.length)) := eq_ints
  unfold wvB
  rw [bad_eq]
  by_cases q : sortIL o = rangeL 0 ds.length
  · have q2 : decide (sortIL o = rangeL 0 ds.length) = true := by simp [q]
    rw [q2] at hs
    have hlen : o.length = ds.length := by rw [← sort_len, q, rangeL_len]; omega
    rw [hlen]
    have l1 : -4611686018427387904 ≤ (ds.length : Int) := by omega
    have l2 : (ds.length : Int) < 4611686018427387904 := by omega
    simp [f_l_is_order, fnM_eq, c_l_is_order, hn1, hn2, hs, q2, hTl, hlen, fo, l1, l2]
    obtain ⟨E, hE⟩ : ∃ E : Slots, E = [some (.lst false (tabB ds ds.length)), some (.lst false (o.map .int)), none, none] := ⟨_, rfl⟩
    obtain ⟨W, hW⟩ : ∃ W : Int → Slots, W = fun k => [some (.lst false (tabB ds ds.length)), some (.lst false (o.map .int)), some (.int k), none] := ⟨_, rfl⟩
    obtain ⟨R, hR⟩ : ∃ R : Slots → Prop, R = fun e' => e'.take 2 = [some (.lst false (tabB ds ds.length)), some (.lst false (o.map .int))] := ⟨_, rfl⟩
    have tb : ∀ k ∈ rangeL 0 (ds.length : Int), ∀ j ∈ rangeL 0 k, atI (tabB ds ds.length) (gt o j) = some (.lst false (rowB ds (gt o j).toNat)) ∧ atI (rowB ds (gt o j).toNat) (gt o k) = some (.bl (ahd ds (gt o k).toNat (gt o j).toNat)) ∧ atI (o.map PV.int) k = some (.int (gt o k)) ∧ atI (o.map PV.int) j = some (.int (gt o j)) := by
      intro k hk j hj
      obtain ⟨k0, k1⟩ := mem_rangeL.mp hk
      obtain ⟨j0, j1⟩ := mem_rangeL.mp hj
      obtain ⟨e1, m1⟩ := gt_at (o := o) k0 (by omega)
      obtain ⟨e2, m2⟩ := gt_at (o := o) j0 (by omega)
      obtain ⟨a0, a1⟩ := sort_mem ‹sortIL o = _› m1
      obtain ⟨b0, b1⟩ := sort_mem ‹sortIL o = _› m2
      exact ⟨tabB_at b0 b1, rowB_at a0 a1, e1, e2⟩
    have fr : ∀ n, isFs (rowB ds n) = true := fun n => rowB_F
    have inner : ∀ k ∈ rangeL 0 (ds.length : Int), (badK ds o k = false → forL [3] [3] (evB [.ite (.ix (.ix (.var 0) (.ix (.var 1) (.var 3))) (.ix (.var 1) (.var 2))) [.ret (.bl false)] []]) ((rangeL 0 k).map .int) (W k) = .ok .nxt (W k)) ∧
        (badK ds o k = true → ∃ e', forL [3] [3] (evB [.ite (.ix (.ix (.var 0) (.ix (.var 1) (.var 3))) (.ix (.var 1) (.var 2))) [.ret (.bl false)] []]) ((rangeL 0 k).map .int) (W k) = .ok (.ret (.bl false)) e' ∧ R e') := by
      intro k hk
      refine forL_find (fun j => ahd ds (gt o k).toNat (gt o j).toNat) (W k) (fun x => [some (.lst false (tabB ds ds.length)), some (.lst false (o.map .int)), some (.int k), some (.int x)]) R (.bl false) (l := rangeL 0 k) (e := W k) ?_ ?_ ?_ ?_
      · intro x _; subst hW; simp
      · intro x hx hcx
        obtain ⟨t1, t2, t3, t4⟩ := tb k hk x hx
        rw [hcx] at t2
        exact ⟨_, by simp [t1, t2, t3, t4, hT, fr, fo]; rfl, by subst hR; simp⟩
      · intro x hx hcx
        obtain ⟨t1, t2, t3, t4⟩ := tb k hk x hx
        rw [hcx] at t2
        exact ⟨_, by simp [t1, t2, t3, t4, hT, fr, fo]; rfl, by subst hW; simp⟩
      · subst hW; simp
    have key := forL_find (kl := [2, 3]) (tg := [2]) (body := evB [.forr [3] [3] .rng1 [(.var 2)] [.ite (.ix (.ix (.var 0) (.ix (.var 1) (.var 3))) (.ix (.var 1) (.var 2))) [.ret (.bl false)] []]]) (item := PV.int) (badK ds o) E W R (.bl false) (l := rangeL 0 (ds.length : Int)) (e := E) (fun q _ => by subst hE hW; simp) (fun k hk hb => by
        obtain ⟨e', h1, h2⟩ := (inner k hk).2 hb
        obtain ⟨k0, k1⟩ := mem_rangeL.mp hk
        have c1 : -4611686018427387904 ≤ k := by omega
        have c2 : k < 4611686018427387904 := by omega
        refine ⟨e', ?_, h2⟩
        subst hW
        simp [c1, c2]
        rw [h1]
        simp) (fun k hk hb => by
        have h1 := (inner k hk).1 hb
        obtain ⟨k0, k1⟩ := mem_rangeL.mp hk
        have c1 : -4611686018427387904 ≤ k := by omega
        have c2 : k < 4611686018427387904 := by omega
        refine ⟨W k, ?_, by subst hE hW; simp⟩
        subst hW
        simp [c1, c2]
        rw [h1]
        simp) (by subst hE; simp)
    rw [← hE]
    cases hany : (rangeL 0 (ds.length : Int)).any (badK ds o) with
    | false => rw [key.1 hany]; subst hE; simp
    | true =>
      obtain ⟨e', h, hr⟩ := key.2 hany
      subst hR
      obtain ⟨r, rfl⟩ : ∃ r, e' = some (.lst false (tabB ds ds.length)) :: some (.lst false (o.map .int)) :: r := ⟨e'.drop 2, by
        have := List.take_append_drop 2 e'
        rw [hr] at this
        exact this.symm⟩
      rw [h]
      simp
  · have q2 : decide (sortIL o = rangeL 0 ds.length) = false := by simp [q]
    rw [q2] at hs
    by_cases q3 : o.length = ds.length
    · simp [f_l_is_order, fnM_eq, c_l_is_order, hn1, hn2, hs, q2, fo, hTl, q3]
    · simp [f_l_is_order, fnM_eq, c_l_is_order, hn1, hn2, hs, q2, fo, hTl, q3]
/-! ### what is a weaving -/
theorem wv_of {o : List Int} (hp : o.Perm (rangeL 0 ds.length)) (hw : o.Pairwise fun e p => ahd ds p.toNat e.toNat = false) : wvB ds o = true := by
  have hs : (rangeL 0 (ds.length : Int)).Pairwise (· ≤ ·) := by
    unfold rangeL
    rw [List.pairwise_map]
    exact List.pairwise_lt_range.imp fun h => by omega
  have h1 : sortIL o = rangeL 0 ds.length := (sortIL_ok hp.symm hs).symm
  unfold wvB
  rw [decide_eq_true h1, Bool.true_and, Bool.not_eq_true']
  rw [List.any_eq_false]
  rintro ⟨p, k⟩ hq
  rw [enumF_rng] at hq
  obtain ⟨k', hk', e⟩ := List.mem_map.mp hq
  simp only [Prod.mk.injEq] at e
  obtain ⟨rfl, rfl⟩ := e
  obtain ⟨k0, k1⟩ := mem_rangeL.mp hk'
  simp only [Bool.not_eq_true]
  show ((o.take k'.toNat).any fun e => ahd ds (gt o k').toNat e.toNat) = false
  rw [List.any_eq_false]
  intro e he
  simp only [Bool.not_eq_true]
  obtain ⟨i, hi⟩ := List.getElem?_of_mem he
  rw [List.getElem?_take] at hi
  split at hi
  · rename_i hik
    have hkl : k'.toNat < o.length := by omega
    obtain ⟨hil, rfl⟩ := List.getElem?_eq_some_iff.mp hi
    have := List.pairwise_iff_getElem.mp hw i k'.toNat hil hkl hik
    have hg : gt o k' = o[k'.toNat] := by unfold gt; rw [List.getElem?_eq_getElem hkl]; rfl
    rw [hg]
    exact this
  · cases hi
theorem asc_ok {l : List Int} (h : l.Pairwise (· < ·)) (h0 : ∀ x ∈ l, 0 ≤ x) : l.Pairwise fun e p => ahd ds p.toNat e.toNat = false := by
  refine (List.pairwise_iff_forall_sublist.mpr ?_)
  intro a b hab
  have h1 := List.pairwise_iff_forall_sublist.mp h hab
  have ha := h0 a (hab.subset (by simp))
  unfold ahd
  simp only [decide_eq_false_iff_not]
  intro z
  have := z.lt
  omega
end
end Sw

set_option linter.all false
set_option maxRecDepth 100000
set_option maxHeartbeats 400000
namespace Sw
open PySem PySem.Spec PyProof.Rows L2 Rk Row Sr
section
variable {many : Int} {ds : List Dd}
theorem bools_map {α : Type} {f : α → Bool} : ∀ {l : List α}, boolsP (l.map fun j => PV.bl (f j)) = some (l.map f)
  | [] => rfl
  | x :: l => by simp [boolsP, bools_map (l := l)]
theorem any_map {α : Type} {f : α → Bool} {l : List α} : bltQ .any [.lst true (l.map fun j => PV.bl (f j))] = some (.bl (l.any f)) := by
  show (boolsP _).map (fun bs => PV.bl (bs.any id)) = _
  rw [bools_map, Option.map_some, List.any_map]
  rfl
/-- what an order in the making keeps -/
structure Ext (ds : List Dd) (ord left : List Int) : Prop where
  pm : (ord ++ left).Perm (rangeL 0 ds.length)
  asc : left.Pairwise (· < ·)
  pw : ord.Pairwise fun e p => ahd ds p.toNat e.toNat = false
  cr : ∀ e ∈ ord, ∀ p ∈ left, ahd ds p.toNat e.toNat = false
theorem Ext.mem {ord left : List Int} (h : Ext ds ord left) {x : Int} (hx : x ∈ left) : 0 ≤ x ∧ x < ds.length := mem_rangeL.mp (h.pm.mem_iff.mp (List.mem_append_right _ hx))
theorem ext0 : Ext ds [] (rangeL 0 ds.length) := ⟨.refl _, by
  unfold rangeL
  rw [List.pairwise_map]
  exact List.pairwise_lt_range.imp fun h => by omega, .nil, fun _ h => by cases h⟩
theorem Ext.step {ord left : List Int} (h : Ext ds ord left) {p : Int} (hp : p ∈ left) (hf : ∀ j ∈ left, ahd ds j.toNat p.toNat = false) : Ext ds (ord ++ [p]) (left.filter fun k => decide (k ≠ p)) := by
  have nd : left.Nodup := h.asc.imp fun h => by omega
  have pe : (p :: left.filter fun k => decide (k ≠ p)).Perm left := by
    have h1 := (List.perm_cons_erase hp).symm
    rw [nd.erase_eq_filter] at h1
    have e : (left.filter fun k => decide (k ≠ p)) = left.filter fun k => k != p := by
      apply List.filter_congr
      intro x _
      by_cases q : x = p <;> simp [q]
    rw [e]
    exact h1
  refine ⟨?_, h.asc.sublist List.filter_sublist, ?_, ?_⟩
  · rw [List.append_assoc]
    exact (pe.append_left ord).trans h.pm
  · rw [List.pairwise_append]
    refine ⟨h.pw, by simp, fun e he q hq => ?_⟩
    rw [List.mem_singleton.mp hq]
    exact h.cr e he p hp
  · intro e he q hq
    have hq' := (List.mem_filter.mp hq).1
    rcases List.mem_append.mp he with he | he
    · exact h.cr e he q hq'
    · rw [List.mem_singleton.mp he]
      exact hf q hq'
theorem Ext.fin {ord left : List Int} (h : Ext ds ord left) : wvB ds (ord ++ left) = true := by
  refine wv_of h.pm ?_
  rw [List.pairwise_append]
  exact ⟨h.pw, asc_ok h.asc fun x hx => (h.mem hx).1, h.cr⟩
theorem Ext.len {ord left : List Int} (h : Ext ds ord left) : ord.length + left.length = ds.length := by
  have := h.pm.length_eq
  rw [List.length_append, rangeL_len] at this
  omega
theorem wv_len {o : List Int} (h : wvB ds o = true) : o.length = ds.length := by
  unfold wvB at h
  simp only [Bool.and_eq_true, decide_eq_true_eq] at h
  rw [← sort_len, h.1, rangeL_len]; omega
def neP (t k : Int) : Bool := decide (k ≠ t)
/-- those that may come -/
noncomputable def freeL (ds : List Dd) (left : List Int) : List Int := left.filter fun k => !(left.any fun j => ahd ds j.toNat k.toNat)
theorem s_ext (hl : ds.length ≤ 60) (nums : List Int) :
    ∃ o : List Int, f_l_extended [.lst false (tabB ds ds.length), .lst false (nums.map .int)] = .ok (.lst true (o.map .int)) [some (.lst false (tabB ds ds.length)), some (.lst false (nums.map .int))] ∧ wvB ds o = true := by
  have hn1 : (0 : Int) ≤ ds.length := by omega
  have hn2 : (ds.length : Int) ≤ 1000000 := by omega
  have hT := tabB_F (ds := ds) (n := ds.length)
  have hTl := tabB_len (ds := ds) (n := ds.length)
  have f0 : isFs ((rangeL 0 (ds.length : Int)).map PV.int) = true := isFs_map fun _ _ => rfl
  simp [f_l_extended, fnM_eq, c_l_extended, hTl, hn1, hn2, f0]
  refine forL_elim1 (X := fun r => ∃ o : List Int, finM _ _ (seqM r _) = .ok (.lst true (o.map .int)) _ ∧ wvB ds o = true)
    (fun (l : List Int) e => ∃ ord left, Ext ds ord left ∧ e = [some (.lst false (tabB ds ds.length)), some (.lst false (nums.map .int)), some (.lst true (ord.map .int)), some (.lst false (left.map .int)), none, none, none, none, none]) ?_ ?_ ?_
  · rintro x l e ⟨ord, left, h, rfl⟩
    have hlen := h.len
    have fl : isFs (left.map PV.int) = true := isFs_map fun _ _ => rfl
    have ll : left.length ≤ 1000000 := by omega
    have lo : ord.length < 1000000 := by omega
    refine ⟨_, rfl, ?_⟩
    change exNxt _ (fun e2 => _)
    simp [fl, ll]
    rw [compL_map (fun k => !(left.any fun j => ahd ds j.toNat k.toNat)) PV.int]
    rotate_left
    · intro k hk
      obtain ⟨k0, k1⟩ := h.mem hk
      have t1 := tabB_at (ds := ds) (n := ds.length) k0 k1
      have fr : isFs (rowB ds k.toNat) = true := rowB_F
      simp [fl, ll]
      rw [compL_map (fun _ => true) (fun j => .bl (ahd ds j.toNat k.toNat))]
      rotate_left
      · intro j hj
        obtain ⟨j0, j1⟩ := h.mem hj
        have r1 := rowB_at (ds := ds) (n := k.toNat) j0 j1
        simp [t1, r1, hT, fr]
      simp [bools_map, List.any_map]
    have ff : isFs ((freeL ds left).map PV.int) = true := isFs_map fun _ _ => rfl
    change exNxt (seqM (((Res.ok ((freeL ds left).map PV.int) _ : Res (List PV)).bind _).bind _ |>.bind _) _) _
    by_cases hne : freeL ds left = []
    · simp [hne]
      exact ⟨ord, left, h, rfl, rfl⟩
    · obtain ⟨t, ht, htm⟩ := pickL x hne
      have hl0 := len0 hne
      obtain ⟨hm, hf⟩ := List.mem_filter.mp htm
      have hf2 : ∀ j ∈ left, ahd ds j.toNat t.toNat = false := by
        simp only [Bool.not_eq_true', List.any_eq_false, Bool.not_eq_true] at hf
        exact hf
      have hs := h.step hm hf2
      simp [ff, hne, ht, hl0, lo, fl, ll]
      rw [compL_map (neP t) PV.int]
      rotate_left
      · intro k hk
        simp [neP]
      have f2 : isFs ((left.filter (neP t)).map PV.int) = true := isFs_map fun _ _ => rfl
      simp [f2]
      exact ⟨ord ++ [t], left.filter (neP t), hs, by simp, rfl⟩
  · exact ⟨[], _, ext0, by simp⟩
  · rintro e' ⟨ord, left, h, rfl⟩
    have hlen := h.len
    have fl : isFs (left.map PV.int) = true := isFs_map fun _ _ => rfl
    have fo : isFs (ord.map PV.int) = true := isFs_map fun _ _ => rfl
    have ll : ord.length + left.length ≤ 1000000 := by omega
    exact ⟨ord ++ left, by simp [fl, fo, ll], h.fin⟩
theorem erase_map {α β : Type} {g : α → β} : ∀ {l : List α} {k : Nat}, (l.map g).eraseIdx k = (l.eraseIdx k).map g
  | [], _ => rfl
  | x :: l, 0 => rfl
  | x :: l, k + 1 => by rw [List.map_cons, List.eraseIdx_cons_succ, List.eraseIdx_cons_succ, List.map_cons, erase_map]
theorem s_spoil (o : List Int) (hol : o.length ≤ 1000) (x n : Int) :
    ∃ o2 : List Int, f_l_spoilt [.lst false (o.map .int), .int x, .int n] = .ok (.lst true (o2.map .int)) [some (.lst false (o.map .int)), some (.int x), some (.int n)] ∧ o2.length ≤ o.length + 1 := by
  have fo : isFs (o.map PV.int) = true := isFs_map fun _ _ => rfl
  have l1 : o.length ≤ 1000000 := by omega
  have l2 : o.length < 1000000 := by omega
  obtain ⟨P, hP⟩ : ∃ P : Int, binQ .Pow (.int 10) (.int 59) = some (.int P) := ⟨10 ^ 59, by rw [binQ_pow (by decide)]; rfl⟩
  obtain ⟨m, hm⟩ : ∃ m : Int, (if (1 : Int) < o.length then (o.length : Int) else 1) = m := ⟨_, rfl⟩
  have hm1 : 1 ≤ m := by rw [← hm]; split <;> omega
  have hm0 : m ≠ 0 := by omega
  have hml : o ≠ [] → m = o.length := fun h => by
    have := List.length_pos_iff.mpr h
    rw [← hm]; split <;> omega
  obtain ⟨at_, hat⟩ : ∃ a, (x.fdiv 8).fmod m = a := ⟨_, rfl⟩
  obtain ⟨ot, hot⟩ : ∃ a, (x.fdiv 512).fmod m = a := ⟨_, rfl⟩
  obtain ⟨a0, a1⟩ := Sh.fmod_nn (a := x.fdiv 8) (b := m) (by omega)
  obtain ⟨b0, b1⟩ := Sh.fmod_nn (a := x.fdiv 512) (b := m) (by omega)
  rw [hat] at a0 a1
  rw [hot] at b0 b1
  have hm2 : m ≤ 1000 := by
    rw [← hm]; split <;> omega
  have a2 : at_ < 4611686018427387904 := by omega
  obtain ⟨w0, w1⟩ := Sh.fmod_nn (a := x) (b := 8) (by decide)
  have hmn : (if 1 < o.length then (o.length : Int) else 1) = m := by rw [← hm]; split <;> split <;> omega
  by_cases hne : o = []
  · subst hne
    by_cases q1 : x.fmod 8 = 1
    · exact ⟨[n], by simp [f_l_spoilt, fnM_eq, c_l_spoilt, q1], by simp⟩
    · exact ⟨[], by simp [f_l_spoilt, fnM_eq, c_l_spoilt, q1], by simp⟩
  · have hmo := hml hne
    have i1 : ixN o.length at_ = some at_.toNat := ixN_nn a0 (by omega)
    have i2 : ixN o.length ot = some ot.toNat := ixN_nn b0 (by omega)
    obtain ⟨g1, g1m⟩ := gt_at (o := o) a0 (by omega)
    obtain ⟨g2, g2m⟩ := gt_at (o := o) b0 (by omega)
    have lit4 : ∀ y : Int, y.fmod 4 = 0 ∨ y.fmod 4 = 1 ∨ y.fmod 4 = 2 ∨ y.fmod 4 = 3 := fun y => by
      obtain ⟨c0, c1⟩ := Sh.fmod_nn (a := y) (b := 4) (by decide); omega
    have hw : x.fmod 8 = 0 ∨ x.fmod 8 = 1 ∨ x.fmod 8 = 2 ∨ x.fmod 8 = 3 ∨ x.fmod 8 = 4 ∨ x.fmod 8 = 5 ∨ x.fmod 8 = 6 ∨ x.fmod 8 = 7 := by omega
    have g3 : (o.map PV.int)[at_.toNat]? = some (.int (gt o at_)) := by rw [← atI_nn a0]; exact g1
    have sw : ((o.map PV.int).set at_.toNat (.int (gt o ot))).set ot.toNat (.int (gt o at_)) = (((o.set at_.toNat (gt o ot)).set ot.toNat (gt o at_)).map PV.int) := by rw [List.map_set, List.map_set]
    rcases hw with q | q | q | q | q | q | q | q
    · have g4 : o[at_.toNat]? = some (gt o at_) := by
        obtain ⟨y, hy, _⟩ := Sh.get_of (l := o) a0 (by omega)
        unfold gt
        rw [hy]; rfl
      refine ⟨o.eraseIdx at_.toNat, ?_, by rw [List.length_eraseIdx]; split <;> omega⟩
      simp [f_l_spoilt, fnM_eq, c_l_spoilt, q, fo, l1, l2, hm, hmn, hm0, hat, hot, hne, i1, i2, g1, g2, g4]
      exact erase_map
    · obtain ⟨v, hv⟩ : ∃ v : Int, atI [PV.int n, .int (-1), .int 0, .int at_] (ot.fmod 4) = some (.int v) := by
        rcases lit4 ot with r | r | r | r <;> rw [r] <;> simp
      refine ⟨o.take at_.toNat ++ v :: o.drop at_.toNat, ?_, by simp; omega⟩
      simp [f_l_spoilt, fnM_eq, c_l_spoilt, q, fo, l1, l2, hm, hmn, hm0, hat, hot, hne, i1, i2, g1, g2, g3, hv, a0, a2]
    · obtain ⟨v, hv⟩ : ∃ v : Int, atI [PV.int (n + ot), .int (-1), .int (gt o ot), .int P] ((x.fdiv 4096).fmod 4) = some (.int v) := by
        rcases lit4 (x.fdiv 4096) with r | r | r | r <;> rw [r] <;> simp
      refine ⟨o.set at_.toNat v, ?_, by simp⟩
      simp [f_l_spoilt, fnM_eq, c_l_spoilt, q, fo, l1, l2, hm, hmn, hm0, hat, hot, hne, i1, i2, g1, g2, g3, hv, hP]
    · refine ⟨(o.set at_.toNat (gt o ot)).set ot.toNat (gt o at_), ?_, by simp⟩
      simp [f_l_spoilt, fnM_eq, c_l_spoilt, q, fo, l1, l2, hm, hmn, hm0, hat, hot, hne, i1, i2, g1, g2, g3]
    · refine ⟨(o.set at_.toNat (gt o ot)).set ot.toNat (gt o at_), ?_, by simp⟩
      simp [f_l_spoilt, fnM_eq, c_l_spoilt, q, fo, l1, l2, hm, hmn, hm0, hat, hot, hne, i1, i2, g1, g2, g3]
    · refine ⟨(o.set at_.toNat (gt o ot)).set ot.toNat (gt o at_), ?_, by simp⟩
      simp [f_l_spoilt, fnM_eq, c_l_spoilt, q, fo, l1, l2, hm, hmn, hm0, hat, hot, hne, i1, i2, g1, g2, g3]
    · exact ⟨o, by simp [f_l_spoilt, fnM_eq, c_l_spoilt, q, fo, l1, l2, hm, hmn, hm0, hat, hot, hne], by omega⟩
    · exact ⟨o, by simp [f_l_spoilt, fnM_eq, c_l_spoilt, q, fo, l1, l2, hm, hmn, hm0, hat, hot, hne], by omega⟩
end
end Sw

set_option linter.all false
set_option maxRecDepth 100000
set_option maxHeartbeats 400000
namespace Sr
open PySem PySem.Spec PyProof.Rows L2 Rk Row
/-! ### pairs of places -/
def pairL (n : Int) (c : Int → Int → Bool) : List (Int × Int) := (rangeL 0 n).flatMap fun i => ((rangeL (i + 1) n).filter (c i)).map fun k => (i, k)
def encPr (p : Int × Int) : PV := .tup [.int p.1, .int p.2]
@[simp] theorem isF_encPr {p : Int × Int} : isF (encPr p) = true := (rfl)
@[simp] theorem okD_encPr {p : Int × Int} : okD (n + 2) (encPr p) = true := by simp [encPr]
theorem encPr_eq (x y : Int × Int) : pvEq (encPr x) (encPr y) = decide (x = y) := by
  obtain ⟨a, b⟩ := x
  obtain ⟨a', b'⟩ := y
  simp [encPr]
theorem fm_len {α β : Type} {f : α → List β} {m : Nat} : ∀ {l : List α}, (∀ x ∈ l, (f x).length ≤ m) → (l.flatMap f).length ≤ l.length * m
  | [], _ => by simp
  | x :: l, h => by
    have ih := fm_len (l := l) fun y hy => h y (List.mem_cons_of_mem _ hy)
    have hx := h x (List.mem_cons_self ..)
    rw [List.flatMap_cons, List.length_append, List.length_cons, Nat.succ_mul]
    omega
theorem pairL_len {n : Int} {c : Int → Int → Bool} (h : n ≤ 60) : (pairL n c).length ≤ 3600 := by
  have h1 : (pairL n c).length ≤ (rangeL 0 n).length * 60 := fm_len fun i hi => by
    have := (mem_rangeL.mp hi).1
    rw [List.length_map]
    refine Nat.le_trans (List.length_filter_le _ _) ?_
    rw [rangeL_len]; omega
  have : (rangeL 0 n).length ≤ 60 := by rw [rangeL_len]; omega
  have := Nat.mul_le_mul_right 60 this
  omega
theorem pairL_congr {n : Int} {c c' : Int → Int → Bool} (h : ∀ i k, 0 ≤ i → i < k → k < n → c i k = c' i k) : pairL n c = pairL n c' := by
  unfold pairL
  rw [List.flatMap_def, List.flatMap_def]
  congr 1
  apply List.map_congr_left
  intro i hi
  have hi0 := (mem_rangeL.mp hi).1
  congr 1
  apply List.filter_congr
  intro k hk
  have := mem_rangeL.mp hk
  exact h i k hi0 (by omega) this.2
theorem rangeL_app {a b c : Int} (h : a ≤ b) (h2 : b ≤ c) : rangeL a c = rangeL a b ++ rangeL b c := by
  apply List.ext_getElem?
  intro j
  by_cases q : j < (c - a).toNat
  · rw [rangeL_get q]
    by_cases q2 : j < (b - a).toNat
    · rw [List.getElem?_append_left (by rw [rangeL_len]; exact q2), rangeL_get q2]
    · rw [List.getElem?_append_right (by rw [rangeL_len]; omega), rangeL_len, rangeL_get (by omega)]
      congr 1; omega
  · rw [List.getElem?_eq_none (by rw [rangeL_len]; omega), List.getElem?_eq_none (by rw [List.length_append, rangeL_len, rangeL_len]; omega)]
theorem pairL_cut {n m : Int} {c : Int → Int → Bool} (h0 : 0 ≤ m) (h : m ≤ n) : (pairL n c).filter (fun p => decide (p.2 < m)) = pairL m c := by
  unfold pairL
  rw [rangeL_app (b := m) h0 h, List.flatMap_append, List.filter_append]
  have e2 : ((rangeL m n).flatMap fun i => ((rangeL (i + 1) n).filter (c i)).map fun k => (i, k)).filter (fun p => decide (p.2 < m)) = [] := by
    rw [List.filter_eq_nil_iff]
    intro p hp
    obtain ⟨i, hi, hp⟩ := List.mem_flatMap.mp hp
    obtain ⟨k, hk, rfl⟩ := List.mem_map.mp hp
    have := mem_rangeL.mp hi
    have := mem_rangeL.mp (List.mem_filter.mp hk).1
    simp; omega
  rw [e2, List.append_nil, List.filter_flatMap, List.flatMap_def, List.flatMap_def]
  congr 1
  apply List.map_congr_left
  intro i hi
  have hi0 := mem_rangeL.mp hi
  rw [List.filter_map, rangeL_app (a := i + 1) (b := m) (by omega) h, List.filter_append, List.filter_append, List.map_append]
  have e3 : ((rangeL m n).filter (c i)).filter ((fun p : Int × Int => decide (p.2 < m)) ∘ fun k => (i, k)) = [] := by
    rw [List.filter_eq_nil_iff]
    intro k hk
    have := mem_rangeL.mp (List.mem_filter.mp hk).1
    simp; omega
  rw [e3, List.map_nil, List.append_nil, List.filter_eq_self.mpr]
  intro k hk
  have := mem_rangeL.mp (List.mem_filter.mp hk).1
  simp; omega
/-- read and write one name, one a write, of unlike threads -/
def odds (a b : Dd) : Bool := decide (a.t ≠ b.t ∧ a.x = b.x ∧ (a.w = .write ∨ b.w = .write) ∧ (a.w = .read ∨ a.w = .write) ∧ (b.w = .read ∨ b.w = .write))
theorem s_odds {a b : Dd} : f_at_odds [encDd a, encDd b] = .ok (.bl (odds a b)) [some (encDd a), some (encDd b)] := by
  obtain ⟨t, w, x⟩ := a
  obtain ⟨t', w', x'⟩ := b
  by_cases h1 : t = t'
  · simp [f_at_odds, fnM_eq, c_at_odds, odds, h1]
  · by_cases h2 : x = x'
    · cases w <;> cases w' <;> simp [f_at_odds, fnM_eq, c_at_odds, odds, h1, h2, wS]
    · simp [f_at_odds, fnM_eq, c_at_odds, odds, h1, h2]
section
variable {many : Int} {ds : List Dd}
noncomputable def rcB (ds : List Dd) (i k : Int) : Bool := odds (at0 ds i.toNat) (at0 ds k.toNat) && !ahd ds i.toNat k.toNat
noncomputable def raceL (ds : List Dd) : List (Int × Int) := pairL ds.length (rcB ds)
theorem raceL_len (hl : ds.length ≤ 60) : (raceL ds).length ≤ 3600 := pairL_len (by omega)
theorem s_races (m1 : 1 ≤ many) (m2 : many ≤ 6) (hl : ds.length ≤ 60) (ho : ROk many ds) :
    f_races [encR many ds] = .ok (.lst true ((raceL ds).map encPr)) [some (encR many ds)] := by
  have hc := s_clocks m1 m2 hl ho
  have r1 : -4611686018427387904 ≤ (ds.length : Int) := by omega
  have r2 : (ds.length : Int) < 4611686018427387904 := by omega
  have hF := ckL_F (many := many) (D := at0 ds) (n := ds.length)
  have hlen := raceL_len hl
  simp [f_races, fnM_eq, c_races, hc, hF, r1, r2]
  refine forL_elim1 (X := fun r => finM _ _ (seqM r _) = _)
    (fun (l : List Int) e => (∀ x ∈ l, 0 ≤ x ∧ x < (ds.length : Int)) ∧ ∃ acc : List (Int × Int), (acc ++ l.flatMap fun i => ((rangeL (i + 1) ds.length).filter (rcB ds i)).map fun k => (i, k)) = raceL ds ∧
      e = [some (encR many ds), some (.lst false (ckL many (at0 ds) ds.length)), some (.lst true (acc.map encPr)), none, none]) ?_ ?_ ?_
  · rintro i l e ⟨hx, acc, h1, rfl⟩
    obtain ⟨i0, i1⟩ := hx i (by simp)
    have q1 : -4611686018427387904 ≤ i + 1 := by omega
    have q2 : i + 1 < 4611686018427387904 := by omega
    have ei := s_rdeed (many := many) i0 (at0_of i0 i1)
    refine ⟨_, rfl, ?_⟩
    change exNxt _ (fun e2 => _)
    simp [q1, q2, r1, r2]
    refine forL_nxt
      (fun l2 e => (∀ x ∈ l2, i < x ∧ x < ds.length) ∧ ∃ acc2 : List (Int × Int), (acc2 ++ (l2.filter (rcB ds i)).map fun k => (i, k)) = (acc ++ ((rangeL (i + 1) ds.length).filter (rcB ds i)).map fun k => (i, k)) ∧
        e = [some (encR many ds), some (.lst false (ckL many (at0 ds) ds.length)), some (.lst true (acc2.map encPr)), some (.int i), none]) ?_ ?_ ?_
    · rintro k l2 e ⟨hk, acc2, g1, rfl⟩
      obtain ⟨k0, k1⟩ := hk k (by simp)
      have ek := s_rdeed (many := many) (by omega : 0 ≤ k) (at0_of (by omega) k1)
      have eg := s_goes ho i0 i1 (by omega : 0 ≤ k) k1
      have hal : acc2.length < 1000000 := by
        have e1 := congrArg List.length g1
        have e2 := congrArg List.length h1
        simp only [List.length_append, List.flatMap_cons] at e1 e2
        omega
      refine ⟨_, rfl, ?_⟩
      by_cases hq : rcB ds i k = true
      · have hq2 := hq
        unfold rcB at hq2
        rw [Bool.and_eq_true, Bool.not_eq_true'] at hq2
        simp [ei, ek, s_odds, eg, hF, hq2.1, hq2.2, hal]
        refine ⟨fun y hy => hk y (by simp [hy]), acc2 ++ [(i, k)], ?_, by simp [encPr]⟩
        rw [← g1, List.filter_cons_of_pos hq]
        simp
      · have hq1 : rcB ds i k = false := by simpa using hq
        have hq2 := hq1
        unfold rcB at hq2
        have fin : (∀ x ∈ l2, i < x ∧ x < ds.length) ∧ ∃ a : List (Int × Int), (a ++ (l2.filter (rcB ds i)).map fun k => (i, k)) = (acc ++ ((rangeL (i + 1) ds.length).filter (rcB ds i)).map fun k => (i, k)) ∧ acc2.map encPr = a.map encPr :=
          ⟨fun y hy => hk y (by simp [hy]), acc2, by rw [← g1, List.filter_cons_of_neg (by simp [hq1])], rfl⟩
        cases ho1 : odds (at0 ds i.toNat) (at0 ds k.toNat) with
        | false => simp [ei, ek, s_odds, eg, hF, ho1]; exact fin
        | true =>
          rw [ho1] at hq2
          have ha : ahd ds i.toNat k.toNat = true := by simpa using hq2
          simp [ei, ek, s_odds, eg, hF, ho1, ha]; exact fin
    · exact ⟨fun x hx => by have := mem_rangeL.mp hx; omega, acc, rfl, by simp⟩
    · rintro e' ⟨_, acc2, g1, rfl⟩
      simp
      refine ⟨fun y hy => hx y (by simp [hy]), acc2, ?_, rfl⟩
      rw [← h1, List.flatMap_cons, ← List.append_assoc, ← g1]
      simp
  · exact ⟨fun x hx => mem_rangeL.mp hx, [], rfl, by simp⟩
  · rintro e' ⟨_, acc, h1, rfl⟩
    have : acc = raceL ds := by rw [← h1]; simp
    simp [this]
/-! ### beginnings -/
theorem anc_congr {D E : Nat → Dd} {i k : Nat} (ha : Anc D i k) : (∀ i, i ≤ k → D i = E i) → Anc E i k := by
  induction ha with
  | one a b =>
    intro h
    exact .one a (by rw [← h _ (by omega), ← h _ (Nat.le_refl _)]; exact b)
  | more _ a b ih =>
    intro h
    exact .more (ih fun i hi => h i (by omega)) a (by rw [← h _ (by omega), ← h _ (Nat.le_refl _)]; exact b)
theorem at0_take {n i : Nat} (h : i < n) : at0 (ds.take n) i = at0 ds i := by
  unfold at0
  rw [List.getElem?_take_of_lt h]
theorem ahd_take {n i k : Nat} (h : k < n) : ahd (ds.take n) i k = ahd ds i k := by
  unfold ahd
  congr 1
  exact propext ⟨fun h => anc_congr h fun j hj => at0_take (by omega), fun h => anc_congr h fun j hj => (at0_take (by omega)).symm⟩
theorem rtake (n : Nat) (h : ROk many ds) : ROk many (ds.take n) := by
  intro k hk
  rw [List.length_take] at hk
  rw [at0_take (by omega), wsN_congr (E := at0 ds) fun i hi => at0_take (by omega)]
  exact h k (by omega)
theorem raceL_take {cut : Int} (h0 : 0 ≤ cut) (h1 : cut ≤ ds.length) : raceL (ds.take cut.toNat) = (raceL ds).filter fun p => decide (p.2 < cut) := by
  have e : ((ds.take cut.toNat).length : Int) = cut := by rw [List.length_take]; omega
  unfold raceL
  rw [pairL_cut h0 h1, e]
  apply pairL_congr
  intro i k hi hk hn
  unfold rcB
  rw [at0_take (by omega), at0_take (by omega), ahd_take (by omega)]
end
end Sr

set_option linter.all false
namespace Row
section
variable {D : Nat → Dd} {many : Int}
/-- a deed upon a lock -/
def LkD (d : Dd) (l : Int) : Prop := (d.w = .give ∨ d.w = .take) ∧ d.x = l
theorem aw_iff {t : Int} : ∀ {k : Nat}, (wsN D k).aw t = true ↔ t = 0 ∨ ∃ m, m < k ∧ (D m).w = .fork ∧ (D m).x = t
  | 0 => by
    show decide (t = 0) = true ↔ _
    rw [decide_eq_true_eq]
    exact ⟨.inl, fun h => h.elim id fun ⟨m, h, _⟩ => by omega⟩
  | k + 1 => by
    show (if (D k).w = .fork ∧ t = (D k).x then true else (wsN D k).aw t) = true ↔ _
    split
    · rename_i h
      exact ⟨fun _ => .inr ⟨k, by omega, h.1, h.2.symm⟩, fun _ => rfl⟩
    · rename_i h
      rw [aw_iff (k := k)]
      constructor
      · rintro (h1 | ⟨m, a, b⟩)
        · exact .inl h1
        · exact .inr ⟨m, by omega, b⟩
      · rintro (h1 | ⟨m, a, b, c⟩)
        · exact .inl h1
        · by_cases q : m = k
          · subst q; exact absurd ⟨b, c.symm⟩ h
          · exact .inr ⟨m, by omega, b, c⟩
theorem pa_iff {t : Int} : ∀ {k : Nat}, (wsN D k).pa t = true ↔ ∃ m, m < k ∧ (D m).w = .wait ∧ (D m).x = t
  | 0 => by
    show false = true ↔ _
    exact ⟨fun h => (by cases h), fun ⟨m, h, _⟩ => by omega⟩
  | k + 1 => by
    show (if (D k).w = .wait ∧ t = (D k).x then true else (wsN D k).pa t) = true ↔ _
    split
    · rename_i h
      exact ⟨fun _ => ⟨k, by omega, h.1, h.2.symm⟩, fun _ => rfl⟩
    · rename_i h
      rw [pa_iff (k := k)]
      constructor
      · rintro ⟨m, a, b⟩
        exact ⟨m, by omega, b⟩
      · rintro ⟨m, a, b, c⟩
        by_cases q : m = k
        · subst q; exact absurd ⟨b, c.symm⟩ h
        · exact ⟨m, by omega, b, c⟩
/-- the last deed upon a lock tells who holds it -/
theorem ho_last {l : Int} {m : Nat} (hm : LkD (D m) l) : ∀ {k : Nat}, m < k → (∀ j, m < j → j < k → ¬ LkD (D j) l) → (wsN D k).ho l = if (D m).w = .take then some (D m).t else none
  | 0, h, _ => by omega
  | k + 1, h, hn => by
    show (if l = (D k).x then (if (D k).w = .take then some (D k).t else if (D k).w = .give then none else (wsN D k).ho l) else (wsN D k).ho l) = _
    by_cases q : m = k
    · subst q
      rw [if_pos hm.2.symm]
      rcases hm.1 with z | z
      · rw [z]; rfl
      · rw [z]; rfl
    · have ih := ho_last hm (k := k) (by omega) fun j a b => hn j a (by omega)
      have hk := hn k (by omega) (by omega)
      by_cases q2 : l = (D k).x
      · have h1 : ¬ (D k).w = .take := fun z => hk ⟨.inr z, q2.symm⟩
        have h2 : ¬ (D k).w = .give := fun z => hk ⟨.inl z, q2.symm⟩
        rw [if_pos q2, if_neg h1, if_neg h2, ih]
      · rw [if_neg q2, ih]
theorem ho_nobody {l : Int} : ∀ {k : Nat}, (∀ j, j < k → ¬ LkD (D j) l) → (wsN D k).ho l = none
  | 0, _ => rfl
  | k + 1, hn => by
    show (if l = (D k).x then (if (D k).w = .take then some (D k).t else if (D k).w = .give then none else (wsN D k).ho l) else (wsN D k).ho l) = _
    have ih := ho_nobody (k := k) fun j a => hn j (by omega)
    have hk := hn k (by omega)
    by_cases q2 : l = (D k).x
    · have h1 : ¬ (D k).w = .take := fun z => hk ⟨.inr z, q2.symm⟩
      have h2 : ¬ (D k).w = .give := fun z => hk ⟨.inl z, q2.symm⟩
      rw [if_pos q2, if_neg h1, if_neg h2, ih]
    · rw [if_neg q2, ih]
/-- the last deed upon a lock ahead of a place, if any -/
theorem lk_last {l : Int} : ∀ k : Nat, (∀ j, j < k → ¬ LkD (D j) l) ∨ ∃ m, m < k ∧ LkD (D m) l ∧ ∀ j, m < j → j < k → ¬ LkD (D j) l
  | 0 => .inl fun j h => by omega
  | k + 1 => by
    by_cases q : LkD (D k) l
    · exact .inr ⟨k, by omega, q, fun j a b => by omega⟩
    · rcases lk_last (l := l) k with h | ⟨m, a, b, c⟩
      · exact .inl fun j hj => by
          by_cases e : j = k
          · rw [e]; exact q
          · exact h j (by omega)
      · exact .inr ⟨m, by omega, b, fun j u v => by
          by_cases e : j = k
          · rw [e]; exact q
          · exact c j u (by omega)⟩
/-- what is just ahead of a deed upon a lock -/
theorem lk_step {n : Nat} (h : RowOk many D n) {l : Int} {m j : Nat} (hj : j < n) (hd : LkD (D j) l) (hm : m < j) (hl : LkD (D m) l) (hn : ∀ i, m < i → i < j → ¬ LkD (D i) l) : Anc D m j := by
  have e := ho_last hl hm hn
  refine anc_iff.mpr ⟨m, hm, ?_, .inl rfl⟩
  rcases hd.1 with z | z
  · -- a give
    have := (h j hj).gv z
    rw [hd.2, e] at this
    split at this
    · exact .inl (Option.some.inj this)
    · cases this
  · have := (h j hj).tk z
    rw [hd.2, e] at this
    split at this
    · cases this
    · rename_i q
      have hg : (D m).w = .give := hl.1.resolve_right q
      exact .inr (.inr (.inr ⟨hg, z, by rw [hl.2, hd.2]⟩))
theorem lk_anc {n : Nat} (h : RowOk many D n) {l : Int} : ∀ j i : Nat, i < j → j < n → LkD (D i) l → LkD (D j) l → Anc D i j := by
  intro j
  induction j using Nat.strongRecOn with
  | _ j ih =>
    intro i hij hj hi hd
    rcases lk_last (D := D) (l := l) j with q | ⟨m, a, b, c⟩
    · exact absurd hi (q i hij)
    · have h1 := lk_step h hj hd a b c
      by_cases e : i = m
      · rw [e]; exact h1
      · have him : i < m := by
          apply Classical.byContradiction
          intro z
          exact c i (by omega) hij hi
        exact (ih m a i him (by omega) hi b).trans h1
/-- an order of n places in which none stands behind one that it is ahead of -/
structure Wv (D : Nat → Dd) (n : Nat) (π : Nat → Nat) : Prop where
  lt : ∀ k, k < n → π k < n
  inj : ∀ a b, a < n → b < n → π a = π b → a = b
  sur : ∀ i, i < n → ∃ k, k < n ∧ π k = i
  or : ∀ a b, a < b → b < n → ¬ Anc D (π b) (π a)
section
variable {n : Nat} {π : Nat → Nat}
theorem Wv.edge (w : Wv D n π) (h : RowOk many D n) {a b : Nat} (hab : a < b) (hb : b < n) (e : Row.edge (D (π a)) (D (π b))) : π a < π b := by
  apply Classical.byContradiction
  intro q
  have hne : π a ≠ π b := fun z => by have := w.inj a b (by omega) hb z; omega
  have hlt : π b < π a := by omega
  have ha := w.lt a (by omega)
  have no := w.or a b hab hb
  rcases e with e | ⟨e1, e | ⟨e2, e3⟩⟩ | ⟨e1, e2⟩ | ⟨e1, e2, e3⟩
  · exact no (.one hlt (.inl e.symm))
  · exact ((rowF h).fk (π a) ha e1 (π b) hlt).1 e
  · have h1 := ((h (π b) (by omega)).wt e2).1
    rw [e3] at h1
    have h2 := aw_mono (k := π a) (by omega) h1
    rw [(h (π a) ha).fk e1] at h2
    cases h2
  · have h1 : (wsN D (π a)).pa (D (π a)).t = true := pa_iff.mpr ⟨π b, hlt, e1, e2⟩
    rw [(h (π a) ha).pa] at h1
    cases h1
  · exact no (lk_anc h (l := (D (π a)).x) (π a) (π b) hlt ha ⟨.inr e2, e3.symm⟩ ⟨.inl e1, rfl⟩)
theorem Wv.pos (w : Wv D n π) {a b : Nat} (ha : a < n) (hb : b < n) (h : Anc D (π a) (π b)) : a < b := by
  rcases Nat.lt_trichotomy a b with q | q | q
  · exact q
  · subst q; have := h.lt; omega
  · exact absurd h (w.or b a q ha)
theorem Wv.fwd (w : Wv D n π) (h : RowOk many D n) {a b : Nat} (q : Anc (fun k => D (π k)) a b) : b < n → Anc D (π a) (π b) := by
  induction q with
  | one x y => intro hb; exact .one (w.edge h x hb y) y
  | more q x y ih => intro hb; exact .more (ih (by omega)) (w.edge h x hb y) y
theorem Wv.bwd (w : Wv D n π) {i j : Nat} (q : Anc D i j) : ∀ a b, a < n → b < n → π a = i → π b = j → Anc (fun k => D (π k)) a b := by
  induction q with
  | one x y =>
    rintro a b ha hb rfl rfl
    exact .one (w.pos ha hb (.one x y)) y
  | more q x y ih =>
    rintro a b ha hb rfl rfl
    obtain ⟨c, hc, rfl⟩ := w.sur _ (Nat.lt_trans x (w.lt b hb))
    exact .more (ih a c ha hc rfl rfl) (w.pos hc hb (.one x y)) y
theorem Wv.anc (w : Wv D n π) (h : RowOk many D n) {a b : Nat} (ha : a < n) (hb : b < n) : Anc (fun k => D (π k)) a b ↔ Anc D (π a) (π b) :=
  ⟨fun q => w.fwd h q hb, fun q => w.bwd q a b ha hb rfl rfl⟩
/-- a weaving's deeds are a row -/
theorem Wv.row (w : Wv D n π) (h : RowOk many D n) : RowOk many (fun k => D (π k)) n := by
  intro k hk
  have hpk := w.lt k hk
  have ok := h (π k) hpk
  -- an earlier deed that has an edge to it stands ahead of it here too
  have near : ∀ m, m < π k → Row.edge (D m) (D (π k)) → ∃ a, a < k ∧ π a = m := fun m hm e => by
    obtain ⟨a, ha, rfl⟩ := w.sur m (by omega)
    exact ⟨a, w.pos ha hk (.one hm e), rfl⟩
  refine ⟨ok.t0, ok.t1, ok.x0, ok.x1, ?_, ?_, fun hf => ?_, fun hw => ⟨?_, (ok.wt hw).2⟩, fun ht => ?_, fun hg => ?_⟩
  · rcases aw_iff.mp ok.aw with q | ⟨m, a, b, c⟩
    · exact aw_iff.mpr (.inl q)
    · obtain ⟨p, hp, rfl⟩ := near m a (.inr (.inl ⟨b, .inl c.symm⟩))
      exact aw_iff.mpr (.inr ⟨p, hp, b, c⟩)
  · rw [Bool.eq_false_iff]
    intro q
    obtain ⟨a, ha, hb, hc⟩ := pa_iff.mp q
    have hne : π a ≠ π k := fun z => by have := w.inj a k (by omega) hk z; omega
    rcases Nat.lt_or_gt_of_ne hne with z | z
    · have : (wsN D (π k)).pa (D (π k)).t = true := pa_iff.mpr ⟨π a, z, hb, hc⟩
      rw [ok.pa] at this; cases this
    · exact w.or a k ha hk (.one z (.inr (.inr (.inl ⟨hb, hc⟩))))
  · rw [Bool.eq_false_iff]
    intro q
    rcases aw_iff.mp q with q | ⟨a, ha, hb, hc⟩
    · have : (wsN D (π k)).aw (D (π k)).x = true := aw_iff.mpr (.inl q)
      rw [ok.fk hf] at this; cases this
    · have hne : π a ≠ π k := fun z => by have := w.inj a k (by omega) hk z; omega
      rcases Nat.lt_or_gt_of_ne hne with z | z
      · have : (wsN D (π k)).aw (D (π k)).x = true := aw_iff.mpr (.inr ⟨π a, z, hb, hc⟩)
        rw [ok.fk hf] at this; cases this
      · have : (wsN D (π a)).aw (D (π a)).x = true := aw_iff.mpr (.inr ⟨π k, z, hf, hc.symm⟩)
        rw [(h (π a) (w.lt a (by omega))).fk hb] at this; cases this
  · rcases aw_iff.mp (ok.wt hw).1 with q | ⟨m, a, b, c⟩
    · exact aw_iff.mpr (.inl q)
    · obtain ⟨p, hp, rfl⟩ := near m a (.inr (.inl ⟨b, .inr ⟨hw, c.symm⟩⟩))
      exact aw_iff.mpr (.inr ⟨p, hp, b, c⟩)
  · -- a take: nobody holds it
    have hkl : LkD (D (π k)) (D (π k)).x := ⟨.inr ht, rfl⟩
    rcases lk_last (D := D) (l := (D (π k)).x) (π k) with q | ⟨m, a, b, c⟩
    · refine ho_nobody fun j hj hl => ?_
      have hne : π j ≠ π k := fun z => by have := w.inj j k (by omega) hk z; omega
      rcases Nat.lt_or_gt_of_ne hne with z | z
      · exact q (π j) z hl
      · exact w.or j k hj hk (lk_anc h (π j) (π k) z (w.lt j (by omega)) hkl hl)
    · have hst := lk_step h hpk hkl a b c
      obtain ⟨p, hp, rfl⟩ := w.sur m (by omega)
      have hpk2 := w.pos hp hk hst
      have e := ho_last b a c
      rw [ok.tk ht] at e
      have e2 : (wsN (fun k => D (π k)) k).ho (D (π k)).x = if (D (π p)).w = .take then some (D (π p)).t else none := ho_last (D := fun k => D (π k)) (m := p) b hpk2 fun j u v hl => by
        have hj : j < n := by omega
        have n1 : π j ≠ π k := fun z => by have := w.inj j k hj hk z; omega
        have n2 : π j ≠ π p := fun z => by have := w.inj j p hj hp z; omega
        rcases Nat.lt_or_gt_of_ne n1 with z | z
        · rcases Nat.lt_or_gt_of_ne n2 with y | y
          · exact w.or p j u hj (lk_anc h (π p) (π j) y (w.lt p hp) hl b)
          · exact c (π j) y z hl
        · exact w.or j k v hk (lk_anc h (π j) (π k) z (w.lt j hj) hkl hl)
      show (wsN (fun k => D (π k)) k).ho (D (π k)).x = none
      rw [e2, ← e]
  · have hkl : LkD (D (π k)) (D (π k)).x := ⟨.inl hg, rfl⟩
    rcases lk_last (D := D) (l := (D (π k)).x) (π k) with q | ⟨m, a, b, c⟩
    · have := ho_nobody q
      rw [ok.gv hg] at this; cases this
    · have hst := lk_step h hpk hkl a b c
      obtain ⟨p, hp, rfl⟩ := w.sur m (by omega)
      have hpk2 := w.pos hp hk hst
      have e := ho_last b a c
      rw [ok.gv hg] at e
      have e2 : (wsN (fun k => D (π k)) k).ho (D (π k)).x = if (D (π p)).w = .take then some (D (π p)).t else none := ho_last (D := fun k => D (π k)) (m := p) b hpk2 fun j u v hl => by
        have hj : j < n := by omega
        have n1 : π j ≠ π k := fun z => by have := w.inj j k hj hk z; omega
        have n2 : π j ≠ π p := fun z => by have := w.inj j p hj hp z; omega
        rcases Nat.lt_or_gt_of_ne n1 with z | z
        · rcases Nat.lt_or_gt_of_ne n2 with y | y
          · exact w.or p j u hj (lk_anc h (π p) (π j) y (w.lt p hp) hl b)
          · exact c (π j) y z hl
        · exact w.or j k v hk (lk_anc h (π j) (π k) z (w.lt j hj) hkl hl)
      show (wsN (fun k => D (π k)) k).ho (D (π k)).x = some (D (π k)).t
      rw [e2, ← e]
open Classical in
/-- .. and its clocks the deeds' -/
theorem Wv.clk (w : Wv D n π) (h : RowOk many D n) {k : Nat} (hk : k < n) (u : Int) : Row.clk (fun k => D (π k)) k u = Row.clk D (π k) u := by
  rw [← clk_n hk, ← clk_n (w.lt k hk)]
  unfold cnt
  congr 1
  have pm : ((List.range n).map π).Perm (List.range n) := by
    refine (List.perm_ext_iff_of_nodup ?_ List.nodup_range).mpr fun x => ?_
    · unfold List.Nodup
      rw [List.pairwise_map]
      exact List.Pairwise.imp_of_mem (fun ha hb hne e => hne (w.inj _ _ (List.mem_range.mp ha) (List.mem_range.mp hb) e)) (List.nodup_range (n := n))
    · rw [List.mem_map, List.mem_range]
      constructor
      · rintro ⟨a, ha, rfl⟩
        exact w.lt a (List.mem_range.mp ha)
      · intro hx
        obtain ⟨a, ha, rfl⟩ := w.sur x hx
        exact ⟨a, List.mem_range.mpr ha, rfl⟩
  have e := (pm.filter fun i => decide ((D i).t = u ∧ Up D (π k) i)).length_eq
  rw [← e, List.filter_map, List.length_map]
  congr 1
  apply List.filter_congr
  intro i hi
  have hi := List.mem_range.mp hi
  have : Up (fun k => D (π k)) k i ↔ Up D (π k) (π i) := by
    constructor
    · rintro (rfl | z)
      · exact .inl rfl
      · exact .inr ((w.anc h hi hk).mp z)
    · rintro (z | z)
      · exact .inl (w.inj i k hi hk z)
      · exact .inr ((w.anc h hi hk).mpr z)
  simp only [Function.comp_apply, this]
end
end
end Row

set_option linter.all false
set_option maxRecDepth 100000
set_option maxHeartbeats 400000
namespace K08
open PySem PySem.Spec PyProof.Rows L2 Rk Row Sr Sw
theorem isE0 : isE "NoWeaving" (Str.ofString "RaceError") = true := by decide +kernel
theorem isE1 : isE "NoWeaving" (Str.ofString "NoWeaving") = true := by decide +kernel
theorem isE2 : isE "NoWeaving" (Str.ofString "ValueError") = true := by decide +kernel
theorem isE3 : isE "NoWeaving" (Str.ofString "NoRow") = false := by decide +kernel
theorem isE4 : isE "NoWeaving" (Str.ofString "NoRace") = false := by decide +kernel
/-- how the law begins -/
theorem drawnE (ns : List Int) (hi : Int) (h : 2 ≤ hi) (h2 : hi ≤ 62) : ∃ (v0 v1 M base : Int) (ds : List Dd),
    Sh.f_l_cell_at [.scr ns, .int 0] = .ok (.int v0) [some (.scr ns), some (.int 0)] ∧ Sh.f_l_cell_at [.scr ns, .int 1] = .ok (.int v1) [some (.scr ns), some (.int 1)] ∧
    binQ .Pow (.int 10) (.int 58) = some (.int M) ∧ M ≠ 0 ∧ atI [PV.int 0, PV.int (v1.fmod M)] ((v0.fdiv 6).fmod 2) = some (.int base) ∧ (1 ≤ 1 + v0.fmod 6 ∧ 1 + v0.fmod 6 ≤ 6) ∧
    Se.f_l_deeds [.lst false ((cutL ns (some 2) (some hi)).map .int), .int (1 + v0.fmod 6), .int base] = .ok (.lst true (ds.map encDd)) [some (.lst false ((cutL ns (some 2) (some hi)).map .int)), some (.int (1 + v0.fmod 6)), some (.int base)] ∧
    ROk (1 + v0.fmod 6) ds ∧ ds.length ≤ 60 := by
  obtain ⟨v0, hv0⟩ := Sh.s_cell ns 0 (by decide)
  obtain ⟨v1, hv1⟩ := Sh.s_cell ns 1 (by decide)
  obtain ⟨a1, a2⟩ := Sh.fmod_nn (a := v0) (b := 6) (by decide)
  obtain ⟨M, hM0, hM⟩ : ∃ M : Int, 0 < M ∧ binQ .Pow (.int 10) (.int 58) = some (.int M) := ⟨10 ^ 58, by decide, by rw [binQ_pow (by decide)]; rfl⟩
  obtain ⟨c1, c2⟩ := Sh.fmod_nn (a := v1) hM0
  obtain ⟨base, hb, hbe⟩ : ∃ base : Int, 0 ≤ base ∧ atI [PV.int 0, PV.int (v1.fmod M)] ((v0.fdiv 6).fmod 2) = some (.int base) := by
    obtain ⟨b0, b1⟩ := Sh.fmod_nn (a := v0.fdiv 6) (b := 2) (by decide)
    have : (v0.fdiv 6).fmod 2 = 0 ∨ (v0.fdiv 6).fmod 2 = 1 := by omega
    rcases this with q | q
    · exact ⟨0, by decide, by rw [q]; simp⟩
    · exact ⟨_, c1, by rw [q]; simp⟩
  obtain ⟨ds, hds, hok, hlen⟩ := Se.s_deeds (cutL ns (some 2) (some hi)) (cut_le h h2) (many := 1 + v0.fmod 6) (base := base) (by omega) (by omega) hb
  have := cut_le (ns := ns) h h2
  exact ⟨v0, v1, M, base, ds, hv0, hv1, hM, by omega, hbe, ⟨by omega, by omega⟩, hds, hok, by omega⟩

section
variable {many : Int} {ds : List Dd}
theorem wv_perm {o : List Int} (h : wvB ds o = true) : o.Perm (rangeL 0 ds.length) := by
  unfold wvB at h
  simp only [Bool.and_eq_true, decide_eq_true_eq] at h
  rw [← h.1]
  exact (List.mergeSort_perm _ _).symm
theorem wv_mem {o : List Int} (h : wvB ds o = true) {x : Int} (hx : x ∈ o) : 0 ≤ x ∧ x < ds.length := mem_rangeL.mp ((wv_perm h).mem_iff.mp hx)
/-- its places -/
def plc (o : List Int) (k : Nat) : Nat := (gt o k).toNat
theorem plc_at {o : List Int} {k : Nat} (h : k < o.length) : gt o k = o[k] := by
  unfold gt
  rw [Int.toNat_natCast, List.getElem?_eq_getElem h]; rfl
theorem wv_wv {o : List Int} (h : wvB ds o = true) : Wv (at0 ds) ds.length (plc o) := by
  have hl := wv_len h
  have pm := wv_perm h
  have nd : o.Nodup := (pm.nodup_iff).mpr (by
    unfold rangeL List.Nodup
    rw [List.pairwise_map]
    exact List.nodup_range.imp fun hne e => hne (by omega))
  have mem : ∀ k, k < ds.length → 0 ≤ gt o k ∧ gt o k < ds.length := fun k hk => by
    rw [plc_at (by omega)]
    exact wv_mem h (List.getElem_mem _)
  refine ⟨fun k hk => ?_, fun a b ha hb e => ?_, fun i hi => ?_, fun a b hab hb => ?_⟩
  · have := mem k hk; unfold plc; omega
  · have h1 := mem a ha
    have h2 := mem b hb
    unfold plc at e
    have e2 : gt o a = gt o b := by omega
    rw [plc_at (by omega), plc_at (by omega)] at e2
    have pw := List.pairwise_iff_getElem.mp nd
    rcases Nat.lt_trichotomy a b with q | q | q
    · exact absurd e2 (pw a b (by omega) (by omega) q)
    · exact q
    · exact absurd e2.symm (pw b a (by omega) (by omega) q)
  · have : (i : Int) ∈ o := pm.mem_iff.mpr (mem_rangeL.mpr ⟨by omega, by omega⟩)
    obtain ⟨k, hk, e⟩ := List.getElem_of_mem this
    exact ⟨k, by omega, by unfold plc; rw [plc_at hk, e]; rfl⟩
  · unfold wvB at h
    simp only [Bool.and_eq_true, Bool.not_eq_true'] at h
    have h2 := h.2
    rw [bad_eq, List.any_eq_false] at h2
    have h3 := h2 (b : Int) (mem_rangeL.mpr ⟨by omega, by omega⟩)
    unfold badK at h3
    rw [Bool.not_eq_true, List.any_eq_false] at h3
    have h4 := h3 (a : Int) (mem_rangeL.mpr ⟨by omega, by omega⟩)
    unfold ahd at h4
    simp only [decide_eq_true_eq] at h4
    exact h4
/-- the deeds in that order -/
def wov (ds : List Dd) (o : List Int) : List Dd := o.map fun i => at0 ds i.toNat
theorem wov_at {o : List Int} {k : Nat} (h : k < o.length) : at0 (wov ds o) k = at0 ds (plc o k) := by
  have : (wov ds o)[k]? = some (at0 ds (plc o k)) := by
    unfold wov plc
    rw [List.getElem?_map, List.getElem?_eq_getElem h, plc_at h]; rfl
  exact at0_get this
theorem wov_len {o : List Int} : (wov ds o).length = o.length := by simp [wov]
theorem wov_ok {o : List Int} (ho : ROk many ds) (h : wvB ds o = true) : ROk many (wov ds o) := by
  have hl := wv_len h
  have hr := (wv_wv h).row ho
  intro k hk
  rw [wov_len] at hk
  have := hr k (by omega)
  rw [wov_at hk, wsN_congr (E := fun k => at0 ds (plc o k)) fun i hi => wov_at (by omega)]
  exact this
theorem clk_congr {D E : Nat → Dd} {k : Nat} (h : ∀ i, i ≤ k → D i = E i) (u : Int) : clk D k u = clk E k u := by
  unfold clk Row.cnt
  congr 2
  apply List.filter_congr
  intro i hi
  have hi := List.mem_range.mp hi
  have e : Up D k i ↔ Up E k i := by
    constructor
    · rintro (z | z)
      · exact .inl z
      · exact .inr (anc_congr z h)
    · rintro (z | z)
      · exact .inl z
      · exact .inr (anc_congr z fun i hi => (h i hi).symm)
  exact decide_eq_decide.mpr ⟨fun ⟨a, b⟩ => ⟨by rw [← h i (by omega)]; exact a, e.mp b⟩, fun ⟨a, b⟩ => ⟨by rw [h i (by omega)]; exact a, e.mpr b⟩⟩
theorem wov_clk {o : List Int} (ho : ROk many ds) (h : wvB ds o = true) {k : Nat} (hk : k < o.length) (u : Int) : clk (at0 (wov ds o)) k u = clk (at0 ds) (plc o k) u := by
  have hl := wv_len h
  rw [← (wv_wv h).clk ho (k := k) (by omega) u]
  exact clk_congr (fun i hi => wov_at (by omega)) u
theorem wov_ck {o : List Int} (ho : ROk many ds) (h : wvB ds o = true) : ckL many (at0 (wov ds o)) o.length = o.map fun i => .lst false (tabL many fun u => .int (clk (at0 ds) i.toNat u)) := by
  apply List.ext_getElem?
  intro k
  unfold ckL
  rw [List.getElem?_map, List.getElem?_map]
  by_cases hk : k < o.length
  · rw [List.getElem?_range hk, List.getElem?_eq_getElem hk]
    simp only [Option.map_some]
    congr 3
    funext u
    rw [wov_clk ho h hk]
    unfold plc
    rw [plc_at hk]
  · rw [List.getElem?_eq_none (by simpa using hk), List.getElem?_eq_none (by simpa using hk)]; rfl
def encRo (many : Int) (ds : List Dd) : PV := .ins true "Row" ["many", "size", "kept"] [.int many, .int ds.length, .lst false (ds.map encDd)]
theorem s_rdeedsO : f_Row_deeds [encRo many ds] = .ok (.lst true (ds.map encDd)) [some (encRo many ds)] := by
  simp [f_Row_deeds, fnM_eq, c_Row_deeds, encRo]
theorem s_woven (m1 : 1 ≤ many) (m2 : many ≤ 6) (hl : ds.length ≤ 60) (ho : ROk many ds) {o : List Int} (hol : o.length ≤ 1000) :
    f_woven [encR many ds, .lst false (o.map .int)] = if wvB ds o = true then .ok (encRo many (wov ds o)) [some (encR many ds), some (.lst false (o.map .int))] else .exc "NoWeaving" [some (encR many ds), some (.lst false (o.map .int))] := by
  have hs := s_isw m1 m2 hl ho hol
  have fo : isFs (o.map PV.int) = true := isFs_map fun _ _ => rfl
  have lo : o.length ≤ 1000000 := by omega
  cases hw : wvB ds o with
  | false =>
    rw [hw] at hs
    simp [f_woven, fnM_eq, c_woven, hs, fo]
  | true =>
    rw [hw] at hs
    have hlw := wv_len hw
    have hi := s_rinit (ds := wov ds o) m1 m2 (by rw [wov_len]; omega) (wov_ok ho hw)
    simp [f_woven, fnM_eq, c_woven, hs, fo, lo]
    rw [compL_map (fun _ => true) (fun i : Int => encDd (at0 ds i.toNat))]
    rotate_left
    · intro x hx
      obtain ⟨x0, x1⟩ := wv_mem hw hx
      have e := s_rdeed (many := many) x0 (at0_of x0 x1)
      simp [e]
    have em : (o.map fun i : Int => encDd (at0 ds i.toNat)) = (wov ds o).map encDd := by unfold wov; rw [List.map_map]; rfl
    simp [em, hi]
    rfl
/-- the deeds told in an order -/
theorem eq_dd {b b2 : Bool} {l : List Dd} : eqQ (.lst b (l.map encDd)) (.lst b2 (l.map encDd)) = some true := by
  rw [eqQ_ok' (show okD 64 (.lst b (l.map encDd)) = true from okDs_map fun _ _ => okD_encD) (show okD 64 (.lst b2 (l.map encDd)) = true from okDs_map fun _ _ => okD_encD)]
  exact congrArg some (pvEqs_refl (n := 63) (okDs_map fun _ _ => okD_encD))
theorem s_refused (m1 : 1 ≤ many) (m2 : many ≤ 6) (hl : ds.length ≤ 60) (ho : ROk many ds) {o : List Int} (hol : o.length ≤ 1000) (hw : wvB ds o = false) :
    f_l_refused [encR many ds, .lst false (o.map .int)] = .ok (.bl true) [some (encR many ds), some (.lst false (o.map .int))] := by
  have hs := s_woven m1 m2 hl ho hol
  rw [hw] at hs
  simp at hs
  have fo : isFs (o.map PV.int) = true := isFs_map fun _ _ => rfl
  simp [f_l_refused, fnM_eq, c_l_refused, hs, fo, isE0, isE1, isE2, isE3, isE4]
end
theorem law_true (ns : List Int) (hns : ns.length ≤ 63) : ∃ os, f_law [.scr ns] = .ok (.bl true) os := by
  obtain ⟨v0, v1, M, base, ds, hv0, hv1, hM, hM1, hbe, ⟨m1, m2⟩, hds, hok, hl⟩ := drawnE ns 32 (by decide) (by decide)
  have l1 : ds.length ≤ 1000000 := by omega
  have hi := s_rinit m1 m2 hl hok
  have hb := s_before hl
  have hd := s_rdeeds (many := 1 + v0.fmod 6) hl
  have hT := tabB_F (ds := ds) (n := ds.length)
  obtain ⟨nums, hn, hnl, hnn⟩ := Sd.s_numbers (cutL ns none (some 60)).reverse (by rw [List.length_reverse]; exact Nat.le_trans cutL_len (by omega))
  rw [List.map_reverse] at hn
  obtain ⟨o, ho, hw⟩ := s_ext hl nums
  have hol := wv_len hw
  have hwv := s_woven m1 m2 hl hok (o := o) (by omega)
  rw [if_pos hw] at hwv
  have fo : isFs (o.map PV.int) = true := isFs_map fun _ _ => rfl
  have fn : isFs (nums.map PV.int) = true := isFs_map fun _ _ => rfl
  have fc : isFs ((cutL ns none (some 60)).map PV.int) = true := isFs_map fun _ _ => rfl
  have fcr : isFs ((cutL ns none (some 60)).map PV.int).reverse = true := by rw [← List.map_reverse]; exact isFs_map fun _ _ => rfl
  have lo : o.length ≤ 1000000 := by omega
  have nl : 1 + (cutL nums none (some 8)).length ≤ 1000000 := by
    have : (cutL nums none (some 8)).length ≤ nums.length := cutL_len
    have : (cutL ns none (some 60)).length ≤ ns.length := cutL_len
    rw [List.length_reverse] at hnl
    omega
  have hcut : cutL (nums.map PV.int) none (some 8) = (cutL nums none (some 8)).map PV.int := cutL_map2
  generalize cutL nums none (some 8) = C at hcut nl
  have fC : isFs (C.map PV.int) = true := isFs_map fun _ _ => rfl
  have hfr : frz 0 (encRo (1 + v0.fmod 6) (wov ds o)) = encR (1 + v0.fmod 6) (wov ds o) := by
    have : isFs ((wov ds o).map encDd) = true := isFs_map fun _ _ => rfl
    simp [encRo, encR, this]
  have hd2 := s_rdeeds (many := 1 + v0.fmod 6) (ds := wov ds o) (by rw [wov_len]; omega)
  have eoo : eqQ (.lst false (o.map PV.int)) (.lst false (o.map PV.int)) = some true := by rw [eq_ints]; simp
  have hck := s_clocks m1 m2 hl hok
  have hck2 := s_clocks (ds := wov ds o) m1 m2 (by rw [wov_len]; omega) (wov_ok hok hw)
  rw [wov_len, wov_ck hok hw] at hck2
  have hckF := ckL_F (many := 1 + v0.fmod 6) (D := at0 ds) (n := ds.length)
  simp [f_law, fnM_eq, c_law, hv0, hv1, hM, hM1, hbe, hds, hi, hb, hd, hT, l1, encR_eq, fc, fcr, hn, ho, fo, fn, lo, hwv, hfr, hcut, fC, nl, -forL_cs]
  simp [hd2, fo, lo, -forL_cs]
  have em : ∀ q : List Int, (q.map fun i : Int => encDd (at0 ds i.toNat)) = (wov ds q).map encDd := fun q => by unfold wov; rw [List.map_map]; rfl
  have ek : ∀ x : Int, 0 ≤ x → x < ds.length → atI (ds.map encDd) x = some (encDd (at0 ds x.toNat)) := fun x x0 x1 => Sh.at_of x0 (at0_of x0 x1)
  rw [compL_map (fun _ => true) (fun i : Int => encDd (at0 ds i.toNat))]
  rotate_left
  · intro x hx
    obtain ⟨x0, x1⟩ := wv_mem hw hx
    simp [ek x x0 x1]
  have ckm : ∀ x : Int, 0 ≤ x → x < ds.length → atI (ckL (1 + v0.fmod 6) (at0 ds) ds.length) x = some (.lst false (tabL (1 + v0.fmod 6) fun u => .int (clk (at0 ds) x.toNat u))) := fun x x0 x1 => ck_at (o := false) x0 x1
  have eck : ∀ b b2 : Bool, eqQ (.lst b (o.map fun i : Int => PV.lst false (tabL (1 + v0.fmod 6) fun u => .int (clk (at0 ds) i.toNat u)))) (.lst b2 (o.map fun i : Int => PV.lst false (tabL (1 + v0.fmod 6) fun u => .int (clk (at0 ds) i.toNat u)))) = some true := fun b b2 => by
    have hd : okDs 63 (o.map fun i : Int => PV.lst false (tabL (1 + v0.fmod 6) fun u => .int (clk (at0 ds) i.toNat u))) = true := okDs_map fun i _ => by
      show okDs 62 _ = true
      unfold tabL
      exact okDs_map fun _ _ => okD_int
    rw [eqQ_ok' (show okD 64 (.lst b _) = true from hd) (show okD 64 (.lst b2 _) = true from hd)]
    exact congrArg some (pvEqs_refl (n := 63) hd)
  simp [em, eq_dd, eoo, hck, hck2, hckF, fo, lo, -forL_cs]
  rw [compL_map (fun _ => true) (fun i : Int => .lst false (tabL (1 + v0.fmod 6) fun u => .int (clk (at0 ds) i.toNat u)))]
  rotate_left
  · intro x hx
    obtain ⟨x0, x1⟩ := wv_mem hw hx
    simp [ckm x x0 x1, hckF]
  simp [eck, hcut, fC, fn, nl, -forL_cs]
  rw [show PV.int (v0.fmod 1000000007) :: C.map PV.int = (v0.fmod 1000000007 :: C).map PV.int from rfl]
  refine forL_ex (fun _ e => e = [some (.scr ns), some (.int v0), some (.int (1 + v0.fmod 6)), some (.int base), some (.lst false (ds.map encDd)), some (encR (1 + v0.fmod 6) ds), some (.lst false (tabB ds ds.length)), some (.lst false (nums.map .int)), some (.lst false (o.map .int)), some (.lst false (o.map .int)), some (encR (1 + v0.fmod 6) (wov ds o)), some (.lst false (ckL (1 + v0.fmod 6) (at0 ds) ds.length)), none, none, none]) ?_ ?_ ?_
  · rintro x l e rfl
    obtain ⟨o2, ho2, hl2⟩ := s_spoil o (by omega) x ds.length
    have f2 : isFs (o2.map PV.int) = true := isFs_map fun _ _ => rfl
    have l2 : o2.length ≤ 1000000 := by omega
    have e2 := s_isord hl (o := o2) (by omega)
    refine ⟨_, rfl, ?_⟩
    cases hw2 : wvB ds o2 with
    | true =>
      rw [hw2] at e2
      have e3 := s_woven m1 m2 hl hok (o := o2) (by omega)
      rw [if_pos hw2] at e3
      have e4 := s_rdeedsO (many := 1 + v0.fmod 6) (ds := wov ds o2)
      have ro : okR "Row" "deeds" (encRo (1 + v0.fmod 6) (wov ds o2)) = true := by simp [encRo]
      simp [ho2, f2, e2, l2, hT, e3, ro, e4]
      rw [compL_map (fun _ => true) (fun i : Int => encDd (at0 ds i.toNat))]
      rotate_left
      · intro y hy
        obtain ⟨y0, y1⟩ := wv_mem hw2 hy
        simp [ek y y0 y1]
      simp [em, eq_dd]
    | false =>
      rw [hw2] at e2
      have e3 := s_refused m1 m2 hl hok (o := o2) (by omega) hw2
      simp [ho2, f2, e2, l2, hT, e3]
  · simp
  · rintro e rfl
    simp [hd, eq_dd]
end K08

set_option Elab.async false
set_option linter.all false
set_option maxRecDepth 100000
set_option maxHeartbeats 4000000
namespace K08
open PySem PySem.Spec PyProof.Rows L2 Rk
def top (i : Nat) : Stmt := PySem.Challenge.pw_racewise_k08_woven.main.body.getD i (.Pass ⟨0, 0, 0, 0⟩)
def d_l_cell_at : Df := ⟨(("_law_cell_at" : Str), (none : Option Str)), "_law_cell_at", ["_law_script", "_law_k"], ["_law_script", "_law_k"], Sh.c_l_cell_at, top 21, Sh.f_l_cell_at⟩
theorem k_l_cell_at : d_l_cell_at.Ok := ⟨⟨by kernel_rfl, by kernel_rfl, by kernel_rfl, by decide +kernel, by kernel_rfl, by decide +kernel, by decide +kernel⟩, by decide +kernel, rfl, by decide, fun _ _ _ _ _ _ us hl => match us, hl with | [_, _], _ => rfl⟩
def r0 : List Df := d_l_cell_at :: []
def d_l_numbers : Df := ⟨(("_law_numbers" : Str), (none : Option Str)), "_law_numbers", ["_law_cells", "_law_found", "_law_k", "_law_cell", "_law_number"], ["_law_cells"], Sd.c_l_numbers, top 22, Sd.f_l_numbers⟩
theorem k_l_numbers : d_l_numbers.Ok := ⟨⟨by kernel_rfl, by kernel_rfl, by kernel_rfl, by decide +kernel, by kernel_rfl, by decide +kernel, by decide +kernel⟩, by decide +kernel, rfl, by decide, fun _ _ _ _ _ _ us hl => match us, hl with | [_], _ => rfl⟩
def r1 : List Df := d_l_numbers :: r0
def d_l_by_lock : Df := ⟨(("_law_by_lock" : Str), (none : Option Str)), "_law_by_lock", ["_law_holders", "_law_thread", "_law_pick", "_law_base", "_law_lock"], ["_law_holders", "_law_thread", "_law_pick", "_law_base"], Se.c_l_by_lock, top 23, Se.f_l_by_lock⟩
theorem k_l_by_lock : d_l_by_lock.Ok := ⟨⟨by kernel_rfl, by kernel_rfl, by kernel_rfl, by decide +kernel, by kernel_rfl, by decide +kernel, by decide +kernel⟩, by decide +kernel, rfl, by decide, fun _ _ _ _ _ _ us hl => match us, hl with | [_, _, _, _], _ => rfl⟩
def r2 : List Df := d_l_by_lock :: r1
def d_l_deeds : Df := ⟨(("_law_deeds" : Str), (none : Option Str)), "_law_deeds", ["_law_cells", "_law_many", "_law_base", "_law_awake", "_law_past", "_law_holders", "_law_deeds_here", "_law_number", "_law_alive", "_law_thread", "_law_kind", "_law_pick", "_law_others", "_law_one"], ["_law_cells", "_law_many", "_law_base"], Se.c_l_deeds, top 24, Se.f_l_deeds⟩
theorem k_l_deeds : d_l_deeds.Ok := ⟨⟨by kernel_rfl, by kernel_rfl, by kernel_rfl, by decide +kernel, by kernel_rfl, by decide +kernel, by decide +kernel⟩, by decide +kernel, rfl, by decide, fun _ _ _ _ _ _ us hl => match us, hl with | [_, _, _], _ => rfl⟩
def r3 : List Df := d_l_deeds :: r2
def d_Watch_init : Df := ⟨(("Watch" : Str), some ("__init__" : Str)), "Watch.__init__", ["self", "many", "thread"], ["self", "many"], Sr.c_Watch_init, inClass (top 14) 0, Sr.f_Watch_init⟩
theorem k_Watch_init : d_Watch_init.Ok := ⟨⟨by kernel_rfl, by kernel_rfl, by kernel_rfl, by decide +kernel, by kernel_rfl, by decide +kernel, by decide +kernel⟩, by decide +kernel, rfl, by decide, fun _ _ _ _ _ _ us hl => match us, hl with | [_, _], _ => rfl⟩
def r4 : List Df := d_Watch_init :: r3
def d_form_fault : Df := ⟨(("form_fault" : Str), (none : Option Str)), "form_fault", ["many", "deed", "thread", "word", "thing"], ["many", "deed"], Sr.c_form_fault, top 13, Sr.f_form_fault⟩
theorem k_form_fault : d_form_fault.Ok := ⟨⟨by kernel_rfl, by kernel_rfl, by kernel_rfl, by decide +kernel, by kernel_rfl, by decide +kernel, by decide +kernel⟩, by decide +kernel, rfl, by decide, fun _ _ _ _ _ _ us hl => match us, hl with | [_, _], _ => rfl⟩
def r5 : List Df := d_form_fault :: r4
def d_Watch_add : Df := ⟨(("Watch" : Str), some ("add" : Str)), "Watch.add", ["self", "deed", "thread", "word", "thing"], ["self", "deed"], Sr.c_Watch_add, inClass (top 14) 3, Sr.f_Watch_add⟩
theorem k_Watch_add : d_Watch_add.Ok := ⟨⟨by kernel_rfl, by kernel_rfl, by kernel_rfl, by decide +kernel, by kernel_rfl, by decide +kernel, by decide +kernel⟩, by decide +kernel, rfl, by decide, fun _ _ _ _ _ _ us hl => match us, hl with | [_, _], _ => rfl⟩
def r6 : List Df := d_Watch_add :: r5
def d_Watch_lock_fault : Df := ⟨(("Watch" : Str), some ("lock_fault" : Str)), "Watch.lock_fault", ["self", "deed", "thread", "word", "thing"], ["self", "deed"], Sr.c_Watch_lock_fault, inClass (top 14) 1, Sr.f_Watch_lock_fault⟩
theorem k_Watch_lock_fault : d_Watch_lock_fault.Ok := ⟨⟨by kernel_rfl, by kernel_rfl, by kernel_rfl, by decide +kernel, by kernel_rfl, by decide +kernel, by decide +kernel⟩, by decide +kernel, rfl, by decide, fun _ _ _ _ _ _ us hl => match us, hl with | [_, _], _ => rfl⟩
def r7 : List Df := d_Watch_lock_fault :: r6
def d_Watch_place_fault : Df := ⟨(("Watch" : Str), some ("place_fault" : Str)), "Watch.place_fault", ["self", "deed", "thread", "word", "thing"], ["self", "deed"], Sr.c_Watch_place_fault, inClass (top 14) 2, Sr.f_Watch_place_fault⟩
theorem k_Watch_place_fault : d_Watch_place_fault.Ok := ⟨⟨by kernel_rfl, by kernel_rfl, by kernel_rfl, by decide +kernel, by kernel_rfl, by decide +kernel, by decide +kernel⟩, by decide +kernel, rfl, by decide, fun _ _ _ _ _ _ us hl => match us, hl with | [_, _], _ => rfl⟩
def r8 : List Df := d_Watch_place_fault :: r7
def d_fault : Df := ⟨(("fault" : Str), (none : Option Str)), "fault", ["many", "deeds", "watch", "place", "deed", "word"], ["many", "deeds"], Sr.c_fault, top 15, Sr.f_fault⟩
theorem k_fault : d_fault.Ok := ⟨⟨by kernel_rfl, by kernel_rfl, by kernel_rfl, by decide +kernel, by kernel_rfl, by decide +kernel, by decide +kernel⟩, by decide +kernel, rfl, by decide, fun _ _ _ _ _ _ us hl => match us, hl with | [_, _], _ => rfl⟩
def r9 : List Df := d_fault :: r8
def d_Row_init : Df := ⟨(("Row" : Str), some ("__init__" : Str)), "Row.__init__", ["self", "many", "deeds"], ["self", "many", "deeds"], Sr.c_Row_init, inClass (top 16) 0, Sr.f_Row_init⟩
theorem k_Row_init : d_Row_init.Ok := ⟨⟨by kernel_rfl, by kernel_rfl, by kernel_rfl, by decide +kernel, by kernel_rfl, by decide +kernel, by decide +kernel⟩, by decide +kernel, rfl, by decide, fun _ _ _ _ _ _ us hl => match us, hl with | [_, _, _], _ => rfl⟩
def r10 : List Df := d_Row_init :: r9
def d_l_edge : Df := ⟨(("_law_edge" : Str), (none : Option Str)), "_law_edge", ["_law_one", "_law_other"], ["_law_one", "_law_other"], Sd.c_l_edge, top 25, Sd.f_l_edge⟩
theorem k_l_edge : d_l_edge.Ok := ⟨⟨by kernel_rfl, by kernel_rfl, by kernel_rfl, by decide +kernel, by kernel_rfl, by decide +kernel, by decide +kernel⟩, by decide +kernel, rfl, by decide, fun _ _ _ _ _ _ us hl => match us, hl with | [_, _], _ => rfl⟩
def r11 : List Df := d_l_edge :: r10
def d_l_before : Df := ⟨(("_law_before" : Str), (none : Option Str)), "_law_before", ["_law_deeds_here", "_law_table", "_law_k", "_law_some", "_law_j", "_law_i"], ["_law_deeds_here"], Sd.c_l_before, top 26, Sd.f_l_before⟩
theorem k_l_before : d_l_before.Ok := ⟨⟨by kernel_rfl, by kernel_rfl, by kernel_rfl, by decide +kernel, by kernel_rfl, by decide +kernel, by decide +kernel⟩, by decide +kernel, rfl, by decide, fun _ _ _ _ _ _ us hl => match us, hl with | [_], _ => rfl⟩
def r12 : List Df := d_l_before :: r11
def d_l_extended : Df := ⟨(("_law_extended" : Str), (none : Option Str)), "_law_extended", ["_law_table", "_law_numbers_here", "_law_order", "_law_left", "_law_number", "_law_free", "_law_pick", "_law_k", "_law_j"], ["_law_table", "_law_numbers_here"], Sw.c_l_extended, top 27, Sw.f_l_extended⟩
theorem k_l_extended : d_l_extended.Ok := ⟨⟨by kernel_rfl, by kernel_rfl, by kernel_rfl, by decide +kernel, by kernel_rfl, by decide +kernel, by decide +kernel⟩, by decide +kernel, rfl, by decide, fun _ _ _ _ _ _ us hl => match us, hl with | [_, _], _ => rfl⟩
def r13 : List Df := d_l_extended :: r12
def d_Row_deeds : Df := ⟨(("Row" : Str), some ("deeds" : Str)), "Row.deeds", ["self"], ["self"], Sr.c_Row_deeds, inClass (top 16) 2, Sr.f_Row_deeds⟩
theorem k_Row_deeds : d_Row_deeds.Ok := ⟨⟨by kernel_rfl, by kernel_rfl, by kernel_rfl, by decide +kernel, by kernel_rfl, by decide +kernel, by decide +kernel⟩, by decide +kernel, rfl, by decide, fun _ _ _ _ _ _ us hl => match us, hl with | [_], _ => rfl⟩
def r14 : List Df := d_Row_deeds :: r13
def d_joined : Df := ⟨(("joined" : Str), (none : Option Str)), "joined", ["one", "other", "here", "there"], ["one", "other"], Sr.c_joined, top 1, Sr.f_joined⟩
theorem k_joined : d_joined.Ok := ⟨⟨by kernel_rfl, by kernel_rfl, by kernel_rfl, by decide +kernel, by kernel_rfl, by decide +kernel, by decide +kernel⟩, by decide +kernel, rfl, by decide, fun _ _ _ _ _ _ us hl => match us, hl with | [_, _], _ => rfl⟩
def r15 : List Df := d_joined :: r14
def d_clocks : Df := ⟨(("clocks" : Str), (none : Option Str)), "clocks", ["row", "last", "given", "told", "thread", "word", "thing", "clock"], ["row"], Sr.c_clocks, top 2, Sr.f_clocks⟩
theorem k_clocks : d_clocks.Ok := ⟨⟨by kernel_rfl, by kernel_rfl, by kernel_rfl, by decide +kernel, by kernel_rfl, by decide +kernel, by decide +kernel⟩, by decide +kernel, rfl, by decide, fun _ _ _ _ _ _ us hl => match us, hl with | [_], _ => rfl⟩
def r16 : List Df := d_clocks :: r15
def d_Row_deed : Df := ⟨(("Row" : Str), some ("deed" : Str)), "Row.deed", ["self", "place"], ["self", "place"], Sr.c_Row_deed, inClass (top 16) 1, Sr.f_Row_deed⟩
theorem k_Row_deed : d_Row_deed.Ok := ⟨⟨by kernel_rfl, by kernel_rfl, by kernel_rfl, by decide +kernel, by kernel_rfl, by decide +kernel, by decide +kernel⟩, by decide +kernel, rfl, by decide, fun _ _ _ _ _ _ us hl => match us, hl with | [_, _], _ => rfl⟩
def r17 : List Df := d_Row_deed :: r16
def d_goes_ahead : Df := ⟨(("goes_ahead" : Str), (none : Option Str)), "goes_ahead", ["row", "told", "one", "other", "thread"], ["row", "told", "one", "other"], Sr.c_goes_ahead, top 3, Sr.f_goes_ahead⟩
theorem k_goes_ahead : d_goes_ahead.Ok := ⟨⟨by kernel_rfl, by kernel_rfl, by kernel_rfl, by decide +kernel, by kernel_rfl, by decide +kernel, by decide +kernel⟩, by decide +kernel, rfl, by decide, fun _ _ _ _ _ _ us hl => match us, hl with | [_, _, _, _], _ => rfl⟩
def r18 : List Df := d_goes_ahead :: r17
def d_is_weaving : Df := ⟨(("is_weaving" : Str), (none : Option Str)), "is_weaving", ["row", "order", "told", "k", "place", "earlier"], ["row", "order"], Sw.c_is_weaving, top 18, Sw.f_is_weaving⟩
theorem k_is_weaving : d_is_weaving.Ok := ⟨⟨by kernel_rfl, by kernel_rfl, by kernel_rfl, by decide +kernel, by kernel_rfl, by decide +kernel, by decide +kernel⟩, by decide +kernel, rfl, by decide, fun _ _ _ _ _ _ us hl => match us, hl with | [_, _], _ => rfl⟩
def r19 : List Df := d_is_weaving :: r18
def d_woven : Df := ⟨(("woven" : Str), (none : Option Str)), "woven", ["row", "order", "place"], ["row", "order"], c_woven, top 19, f_woven⟩
theorem k_woven : d_woven.Ok := ⟨⟨by kernel_rfl, by kernel_rfl, by kernel_rfl, by decide +kernel, by kernel_rfl, by decide +kernel, by decide +kernel⟩, by decide +kernel, rfl, by decide, fun _ _ _ _ _ _ us hl => match us, hl with | [_, _], _ => rfl⟩
def r20 : List Df := d_woven :: r19
def d_l_spoilt : Df := ⟨(("_law_spoilt" : Str), (none : Option Str)), "_law_spoilt", ["_law_order", "_law_number", "_law_size", "_law_found", "_law_way", "_law_at", "_law_other"], ["_law_order", "_law_number", "_law_size"], Sw.c_l_spoilt, top 28, Sw.f_l_spoilt⟩
theorem k_l_spoilt : d_l_spoilt.Ok := ⟨⟨by kernel_rfl, by kernel_rfl, by kernel_rfl, by decide +kernel, by kernel_rfl, by decide +kernel, by decide +kernel⟩, by decide +kernel, rfl, by decide, fun _ _ _ _ _ _ us hl => match us, hl with | [_, _, _], _ => rfl⟩
def r21 : List Df := d_l_spoilt :: r20
def d_l_is_order : Df := ⟨(("_law_is_order" : Str), (none : Option Str)), "_law_is_order", ["_law_table", "_law_order", "_law_k", "_law_j"], ["_law_table", "_law_order"], Sw.c_l_is_order, top 29, Sw.f_l_is_order⟩
theorem k_l_is_order : d_l_is_order.Ok := ⟨⟨by kernel_rfl, by kernel_rfl, by kernel_rfl, by decide +kernel, by kernel_rfl, by decide +kernel, by decide +kernel⟩, by decide +kernel, rfl, by decide, fun _ _ _ _ _ _ us hl => match us, hl with | [_, _], _ => rfl⟩
def r22 : List Df := d_l_is_order :: r21
def d_l_refused : Df := ⟨(("_law_refused" : Str), (none : Option Str)), "_law_refused", ["_law_row", "_law_order", "_law_kept", "e"], ["_law_row", "_law_order"], c_l_refused, top 30, f_l_refused⟩
theorem k_l_refused : d_l_refused.Ok := ⟨⟨by kernel_rfl, by kernel_rfl, by kernel_rfl, by decide +kernel, by kernel_rfl, by decide +kernel, by decide +kernel⟩, by decide +kernel, rfl, by decide, fun _ _ _ _ _ _ us hl => match us, hl with | [_, _], _ => rfl⟩
def r23 : List Df := d_l_refused :: r22
def d_law : Df := ⟨(("law" : Str), (none : Option Str)), "law", ["_law_script", "_law_first", "_law_many", "_law_base", "_law_deeds_here", "_law_row", "_law_table", "_law_numbers_here", "_law_order", "_law_handed", "_law_made", "_law_old", "_law_number", "_law_some", "_law_k"], ["_law_script"], c_law, top 31, f_law⟩
theorem k_law : d_law.Ok := ⟨⟨by kernel_rfl, by kernel_rfl, by kernel_rfl, by decide +kernel, by kernel_rfl, by decide +kernel, by decide +kernel⟩, by decide +kernel, rfl, by decide, fun _ _ _ _ _ _ us hl => match us, hl with | [_], _ => rfl⟩
def r24 : List Df := d_law :: r23
def D : Txt := ⟨[("WORDS", .tup ["read", "write", "take", "give", "fork", "wait"]), ("MOST_THREADS", .int 6), ("MOST_DEEDS", .int 60)], ["Watch", "Row"], ["RaceError", "NoRow", "NoWeaving", "NoRace"], ["awake", "holders", "kept", "many", "past", "size"], true⟩
section
variable {K : PySem.W.Frag} {h : Heap} {mg : Str → Option Value}
theorem con_WORDS (X : K.In h) (G : h.Ns mainGlobals mg) {ds : List Df} (c : D.Has ds K) {r : List Df} : ∃ u, (D.tab K r).con "WORDS" = some u ∧ ∀ F H, rep K (D.adr K) F H (.tup [.str "read", .str "write", .str "take", .str "give", .str "fork", .str "wait"]) u [] := ⟨Cv.v K "WORDS" (.tup ["read", "write", "take", "give", "fork", "wait"]), by kernel_rfl, fun F H => con_tup (c.conT X G (x := "WORDS") (l := ["read", "write", "take", "give", "fork", "wait"]) (by simp [D]) F)⟩
theorem con_MOST_THREADS (X : K.In h) (G : h.Ns mainGlobals mg) {ds : List Df} (c : D.Has ds K) {r : List Df} : ∃ u, (D.tab K r).con "MOST_THREADS" = some u ∧ ∀ F H, rep K (D.adr K) F H (.int 6) u [] := ⟨Cv.v K "MOST_THREADS" (.int 6), by kernel_rfl, fun _ _ => ⟨rfl, rfl⟩⟩
theorem con_MOST_DEEDS (X : K.In h) (G : h.Ns mainGlobals mg) {ds : List Df} (c : D.Has ds K) {r : List Df} : ∃ u, (D.tab K r).con "MOST_DEEDS" = some u ∧ ∀ F H, rep K (D.adr K) F H (.int 60) u [] := ⟨Cv.v K "MOST_DEEDS" (.int 60), by kernel_rfl, fun _ _ => ⟨rfl, rfl⟩⟩
theorem w_l_cell_at (X : K.In h) (G : h.Ns mainGlobals mg) {ds : List Df} (c : D.Has ds K) : wfB K (D.tab K []) Sh.c_l_cell_at := by
  unfold Sh.c_l_cell_at
  simp only [wfB, wfS, wf, wfs, wfSu, subE, subEs, implies_true, and_true, true_and]
  all_goals (try and_intros)
  all_goals first | exact trivial | kernel_rfl | exact memD (by decide +kernel)  | exact ⟨He.ga K "Watch", by kernel_rfl, (show (D.tab K _).adr "Watch" = some (He.ga K "Watch") by kernel_rfl)⟩ | exact ⟨He.ga K "Row", by kernel_rfl, (show (D.tab K _).adr "Row" = some (He.ga K "Row") by kernel_rfl)⟩ | exact ⟨He.ga K "RaceError", (show (D.tab K _).exc "RaceError" = some (He.ga K "RaceError") by kernel_rfl)⟩ | exact ⟨He.ga K "NoRow", (show (D.tab K _).exc "NoRow" = some (He.ga K "NoRow") by kernel_rfl)⟩ | exact ⟨He.ga K "NoWeaving", (show (D.tab K _).exc "NoWeaving" = some (He.ga K "NoWeaving") by kernel_rfl)⟩ | exact ⟨He.ga K "NoRace", (show (D.tab K _).exc "NoRace" = some (He.ga K "NoRace") by kernel_rfl)⟩ | exact con_WORDS X G c | exact con_MOST_THREADS X G c | exact con_MOST_DEEDS X G c
theorem w_l_numbers (X : K.In h) (G : h.Ns mainGlobals mg) {ds : List Df} (c : D.Has ds K) : wfB K (D.tab K r0) Sd.c_l_numbers := by
  unfold Sd.c_l_numbers
  simp only [wfB, wfS, wf, wfs, wfSu, subE, subEs, implies_true, and_true, true_and]
  all_goals (try and_intros)
  all_goals first | exact trivial | kernel_rfl | exact memD (by decide +kernel)  | exact ⟨He.ga K "Watch", by kernel_rfl, (show (D.tab K _).adr "Watch" = some (He.ga K "Watch") by kernel_rfl)⟩ | exact ⟨He.ga K "Row", by kernel_rfl, (show (D.tab K _).adr "Row" = some (He.ga K "Row") by kernel_rfl)⟩ | exact ⟨He.ga K "RaceError", (show (D.tab K _).exc "RaceError" = some (He.ga K "RaceError") by kernel_rfl)⟩ | exact ⟨He.ga K "NoRow", (show (D.tab K _).exc "NoRow" = some (He.ga K "NoRow") by kernel_rfl)⟩ | exact ⟨He.ga K "NoWeaving", (show (D.tab K _).exc "NoWeaving" = some (He.ga K "NoWeaving") by kernel_rfl)⟩ | exact ⟨He.ga K "NoRace", (show (D.tab K _).exc "NoRace" = some (He.ga K "NoRace") by kernel_rfl)⟩ | exact con_WORDS X G c | exact con_MOST_THREADS X G c | exact con_MOST_DEEDS X G c
theorem w_l_by_lock (X : K.In h) (G : h.Ns mainGlobals mg) {ds : List Df} (c : D.Has ds K) : wfB K (D.tab K r1) Se.c_l_by_lock := by
  unfold Se.c_l_by_lock
  simp only [wfB, wfS, wf, wfs, wfSu, subE, subEs, implies_true, and_true, true_and]
  all_goals (try and_intros)
  all_goals first | exact trivial | kernel_rfl | exact memD (by decide +kernel)  | exact ⟨He.ga K "Watch", by kernel_rfl, (show (D.tab K _).adr "Watch" = some (He.ga K "Watch") by kernel_rfl)⟩ | exact ⟨He.ga K "Row", by kernel_rfl, (show (D.tab K _).adr "Row" = some (He.ga K "Row") by kernel_rfl)⟩ | exact ⟨He.ga K "RaceError", (show (D.tab K _).exc "RaceError" = some (He.ga K "RaceError") by kernel_rfl)⟩ | exact ⟨He.ga K "NoRow", (show (D.tab K _).exc "NoRow" = some (He.ga K "NoRow") by kernel_rfl)⟩ | exact ⟨He.ga K "NoWeaving", (show (D.tab K _).exc "NoWeaving" = some (He.ga K "NoWeaving") by kernel_rfl)⟩ | exact ⟨He.ga K "NoRace", (show (D.tab K _).exc "NoRace" = some (He.ga K "NoRace") by kernel_rfl)⟩ | exact con_WORDS X G c | exact con_MOST_THREADS X G c | exact con_MOST_DEEDS X G c
theorem w_l_deeds (X : K.In h) (G : h.Ns mainGlobals mg) {ds : List Df} (c : D.Has ds K) : wfB K (D.tab K r2) Se.c_l_deeds := by
  unfold Se.c_l_deeds
  simp only [wfB, wfS, wf, wfs, wfSu, subE, subEs, implies_true, and_true, true_and]
  all_goals (try and_intros)
  all_goals first | exact trivial | kernel_rfl | exact memD (by decide +kernel)  | exact ⟨He.ga K "Watch", by kernel_rfl, (show (D.tab K _).adr "Watch" = some (He.ga K "Watch") by kernel_rfl)⟩ | exact ⟨He.ga K "Row", by kernel_rfl, (show (D.tab K _).adr "Row" = some (He.ga K "Row") by kernel_rfl)⟩ | exact ⟨He.ga K "RaceError", (show (D.tab K _).exc "RaceError" = some (He.ga K "RaceError") by kernel_rfl)⟩ | exact ⟨He.ga K "NoRow", (show (D.tab K _).exc "NoRow" = some (He.ga K "NoRow") by kernel_rfl)⟩ | exact ⟨He.ga K "NoWeaving", (show (D.tab K _).exc "NoWeaving" = some (He.ga K "NoWeaving") by kernel_rfl)⟩ | exact ⟨He.ga K "NoRace", (show (D.tab K _).exc "NoRace" = some (He.ga K "NoRace") by kernel_rfl)⟩ | exact con_WORDS X G c | exact con_MOST_THREADS X G c | exact con_MOST_DEEDS X G c
theorem w_Watch_init (X : K.In h) (G : h.Ns mainGlobals mg) {ds : List Df} (c : D.Has ds K) : wfB K (D.tab K r3) Sr.c_Watch_init := by
  unfold Sr.c_Watch_init
  simp only [wfB, wfS, wf, wfs, wfSu, subE, subEs, implies_true, and_true, true_and]
  all_goals (try and_intros)
  all_goals first | exact trivial | kernel_rfl | exact memD (by decide +kernel)  | exact ⟨He.ga K "Watch", by kernel_rfl, (show (D.tab K _).adr "Watch" = some (He.ga K "Watch") by kernel_rfl)⟩ | exact ⟨He.ga K "Row", by kernel_rfl, (show (D.tab K _).adr "Row" = some (He.ga K "Row") by kernel_rfl)⟩ | exact ⟨He.ga K "RaceError", (show (D.tab K _).exc "RaceError" = some (He.ga K "RaceError") by kernel_rfl)⟩ | exact ⟨He.ga K "NoRow", (show (D.tab K _).exc "NoRow" = some (He.ga K "NoRow") by kernel_rfl)⟩ | exact ⟨He.ga K "NoWeaving", (show (D.tab K _).exc "NoWeaving" = some (He.ga K "NoWeaving") by kernel_rfl)⟩ | exact ⟨He.ga K "NoRace", (show (D.tab K _).exc "NoRace" = some (He.ga K "NoRace") by kernel_rfl)⟩ | exact con_WORDS X G c | exact con_MOST_THREADS X G c | exact con_MOST_DEEDS X G c
theorem w_form_fault (X : K.In h) (G : h.Ns mainGlobals mg) {ds : List Df} (c : D.Has ds K) : wfB K (D.tab K r4) Sr.c_form_fault := by
  unfold Sr.c_form_fault
  simp only [wfB, wfS, wf, wfs, wfSu, subE, subEs, implies_true, and_true, true_and]
  all_goals (try and_intros)
  all_goals first | exact trivial | kernel_rfl | exact memD (by decide +kernel)  | exact ⟨He.ga K "Watch", by kernel_rfl, (show (D.tab K _).adr "Watch" = some (He.ga K "Watch") by kernel_rfl)⟩ | exact ⟨He.ga K "Row", by kernel_rfl, (show (D.tab K _).adr "Row" = some (He.ga K "Row") by kernel_rfl)⟩ | exact ⟨He.ga K "RaceError", (show (D.tab K _).exc "RaceError" = some (He.ga K "RaceError") by kernel_rfl)⟩ | exact ⟨He.ga K "NoRow", (show (D.tab K _).exc "NoRow" = some (He.ga K "NoRow") by kernel_rfl)⟩ | exact ⟨He.ga K "NoWeaving", (show (D.tab K _).exc "NoWeaving" = some (He.ga K "NoWeaving") by kernel_rfl)⟩ | exact ⟨He.ga K "NoRace", (show (D.tab K _).exc "NoRace" = some (He.ga K "NoRace") by kernel_rfl)⟩ | exact con_WORDS X G c | exact con_MOST_THREADS X G c | exact con_MOST_DEEDS X G c
theorem w_Watch_add (X : K.In h) (G : h.Ns mainGlobals mg) {ds : List Df} (c : D.Has ds K) : wfB K (D.tab K r5) Sr.c_Watch_add := by
  unfold Sr.c_Watch_add
  simp only [wfB, wfS, wf, wfs, wfSu, subE, subEs, implies_true, and_true, true_and]
  all_goals (try and_intros)
  all_goals first | exact trivial | kernel_rfl | exact memD (by decide +kernel)  | exact ⟨He.ga K "Watch", by kernel_rfl, (show (D.tab K _).adr "Watch" = some (He.ga K "Watch") by kernel_rfl)⟩ | exact ⟨He.ga K "Row", by kernel_rfl, (show (D.tab K _).adr "Row" = some (He.ga K "Row") by kernel_rfl)⟩ | exact ⟨He.ga K "RaceError", (show (D.tab K _).exc "RaceError" = some (He.ga K "RaceError") by kernel_rfl)⟩ | exact ⟨He.ga K "NoRow", (show (D.tab K _).exc "NoRow" = some (He.ga K "NoRow") by kernel_rfl)⟩ | exact ⟨He.ga K "NoWeaving", (show (D.tab K _).exc "NoWeaving" = some (He.ga K "NoWeaving") by kernel_rfl)⟩ | exact ⟨He.ga K "NoRace", (show (D.tab K _).exc "NoRace" = some (He.ga K "NoRace") by kernel_rfl)⟩ | exact con_WORDS X G c | exact con_MOST_THREADS X G c | exact con_MOST_DEEDS X G c
theorem w_Watch_lock_fault (X : K.In h) (G : h.Ns mainGlobals mg) {ds : List Df} (c : D.Has ds K) : wfB K (D.tab K r6) Sr.c_Watch_lock_fault := by
  unfold Sr.c_Watch_lock_fault
  simp only [wfB, wfS, wf, wfs, wfSu, subE, subEs, implies_true, and_true, true_and]
  all_goals (try and_intros)
  all_goals first | exact trivial | kernel_rfl | exact memD (by decide +kernel)  | exact ⟨He.ga K "Watch", by kernel_rfl, (show (D.tab K _).adr "Watch" = some (He.ga K "Watch") by kernel_rfl)⟩ | exact ⟨He.ga K "Row", by kernel_rfl, (show (D.tab K _).adr "Row" = some (He.ga K "Row") by kernel_rfl)⟩ | exact ⟨He.ga K "RaceError", (show (D.tab K _).exc "RaceError" = some (He.ga K "RaceError") by kernel_rfl)⟩ | exact ⟨He.ga K "NoRow", (show (D.tab K _).exc "NoRow" = some (He.ga K "NoRow") by kernel_rfl)⟩ | exact ⟨He.ga K "NoWeaving", (show (D.tab K _).exc "NoWeaving" = some (He.ga K "NoWeaving") by kernel_rfl)⟩ | exact ⟨He.ga K "NoRace", (show (D.tab K _).exc "NoRace" = some (He.ga K "NoRace") by kernel_rfl)⟩ | exact con_WORDS X G c | exact con_MOST_THREADS X G c | exact con_MOST_DEEDS X G c
theorem w_Watch_place_fault (X : K.In h) (G : h.Ns mainGlobals mg) {ds : List Df} (c : D.Has ds K) : wfB K (D.tab K r7) Sr.c_Watch_place_fault := by
  unfold Sr.c_Watch_place_fault
  simp only [wfB, wfS, wf, wfs, wfSu, subE, subEs, implies_true, and_true, true_and]
  all_goals (try and_intros)
  all_goals first | exact trivial | kernel_rfl | exact memD (by decide +kernel)  | exact ⟨He.ga K "Watch", by kernel_rfl, (show (D.tab K _).adr "Watch" = some (He.ga K "Watch") by kernel_rfl)⟩ | exact ⟨He.ga K "Row", by kernel_rfl, (show (D.tab K _).adr "Row" = some (He.ga K "Row") by kernel_rfl)⟩ | exact ⟨He.ga K "RaceError", (show (D.tab K _).exc "RaceError" = some (He.ga K "RaceError") by kernel_rfl)⟩ | exact ⟨He.ga K "NoRow", (show (D.tab K _).exc "NoRow" = some (He.ga K "NoRow") by kernel_rfl)⟩ | exact ⟨He.ga K "NoWeaving", (show (D.tab K _).exc "NoWeaving" = some (He.ga K "NoWeaving") by kernel_rfl)⟩ | exact ⟨He.ga K "NoRace", (show (D.tab K _).exc "NoRace" = some (He.ga K "NoRace") by kernel_rfl)⟩ | exact con_WORDS X G c | exact con_MOST_THREADS X G c | exact con_MOST_DEEDS X G c
theorem w_fault (X : K.In h) (G : h.Ns mainGlobals mg) {ds : List Df} (c : D.Has ds K) : wfB K (D.tab K r8) Sr.c_fault := by
  unfold Sr.c_fault
  simp only [wfB, wfS, wf, wfs, wfSu, subE, subEs, implies_true, and_true, true_and]
  all_goals (try and_intros)
  all_goals first | exact trivial | kernel_rfl | exact memD (by decide +kernel)  | exact ⟨He.ga K "Watch", by kernel_rfl, (show (D.tab K _).adr "Watch" = some (He.ga K "Watch") by kernel_rfl)⟩ | exact ⟨He.ga K "Row", by kernel_rfl, (show (D.tab K _).adr "Row" = some (He.ga K "Row") by kernel_rfl)⟩ | exact ⟨He.ga K "RaceError", (show (D.tab K _).exc "RaceError" = some (He.ga K "RaceError") by kernel_rfl)⟩ | exact ⟨He.ga K "NoRow", (show (D.tab K _).exc "NoRow" = some (He.ga K "NoRow") by kernel_rfl)⟩ | exact ⟨He.ga K "NoWeaving", (show (D.tab K _).exc "NoWeaving" = some (He.ga K "NoWeaving") by kernel_rfl)⟩ | exact ⟨He.ga K "NoRace", (show (D.tab K _).exc "NoRace" = some (He.ga K "NoRace") by kernel_rfl)⟩ | exact con_WORDS X G c | exact con_MOST_THREADS X G c | exact con_MOST_DEEDS X G c
theorem w_Row_init (X : K.In h) (G : h.Ns mainGlobals mg) {ds : List Df} (c : D.Has ds K) : wfB K (D.tab K r9) Sr.c_Row_init := by
  unfold Sr.c_Row_init
  simp only [wfB, wfS, wf, wfs, wfSu, subE, subEs, implies_true, and_true, true_and]
  all_goals (try and_intros)
  all_goals first | exact trivial | kernel_rfl | exact memD (by decide +kernel)  | exact ⟨He.ga K "Watch", by kernel_rfl, (show (D.tab K _).adr "Watch" = some (He.ga K "Watch") by kernel_rfl)⟩ | exact ⟨He.ga K "Row", by kernel_rfl, (show (D.tab K _).adr "Row" = some (He.ga K "Row") by kernel_rfl)⟩ | exact ⟨He.ga K "RaceError", (show (D.tab K _).exc "RaceError" = some (He.ga K "RaceError") by kernel_rfl)⟩ | exact ⟨He.ga K "NoRow", (show (D.tab K _).exc "NoRow" = some (He.ga K "NoRow") by kernel_rfl)⟩ | exact ⟨He.ga K "NoWeaving", (show (D.tab K _).exc "NoWeaving" = some (He.ga K "NoWeaving") by kernel_rfl)⟩ | exact ⟨He.ga K "NoRace", (show (D.tab K _).exc "NoRace" = some (He.ga K "NoRace") by kernel_rfl)⟩ | exact con_WORDS X G c | exact con_MOST_THREADS X G c | exact con_MOST_DEEDS X G c
theorem w_l_edge (X : K.In h) (G : h.Ns mainGlobals mg) {ds : List Df} (c : D.Has ds K) : wfB K (D.tab K r10) Sd.c_l_edge := by
  unfold Sd.c_l_edge
  simp only [wfB, wfS, wf, wfs, wfSu, subE, subEs, implies_true, and_true, true_and]
  all_goals (try and_intros)
  all_goals first | exact trivial | kernel_rfl | exact memD (by decide +kernel)  | exact ⟨He.ga K "Watch", by kernel_rfl, (show (D.tab K _).adr "Watch" = some (He.ga K "Watch") by kernel_rfl)⟩ | exact ⟨He.ga K "Row", by kernel_rfl, (show (D.tab K _).adr "Row" = some (He.ga K "Row") by kernel_rfl)⟩ | exact ⟨He.ga K "RaceError", (show (D.tab K _).exc "RaceError" = some (He.ga K "RaceError") by kernel_rfl)⟩ | exact ⟨He.ga K "NoRow", (show (D.tab K _).exc "NoRow" = some (He.ga K "NoRow") by kernel_rfl)⟩ | exact ⟨He.ga K "NoWeaving", (show (D.tab K _).exc "NoWeaving" = some (He.ga K "NoWeaving") by kernel_rfl)⟩ | exact ⟨He.ga K "NoRace", (show (D.tab K _).exc "NoRace" = some (He.ga K "NoRace") by kernel_rfl)⟩ | exact con_WORDS X G c | exact con_MOST_THREADS X G c | exact con_MOST_DEEDS X G c
theorem w_l_before (X : K.In h) (G : h.Ns mainGlobals mg) {ds : List Df} (c : D.Has ds K) : wfB K (D.tab K r11) Sd.c_l_before := by
  unfold Sd.c_l_before
  simp only [wfB, wfS, wf, wfs, wfSu, subE, subEs, implies_true, and_true, true_and]
  all_goals (try and_intros)
  all_goals first | exact trivial | kernel_rfl | exact memD (by decide +kernel)  | exact ⟨He.ga K "Watch", by kernel_rfl, (show (D.tab K _).adr "Watch" = some (He.ga K "Watch") by kernel_rfl)⟩ | exact ⟨He.ga K "Row", by kernel_rfl, (show (D.tab K _).adr "Row" = some (He.ga K "Row") by kernel_rfl)⟩ | exact ⟨He.ga K "RaceError", (show (D.tab K _).exc "RaceError" = some (He.ga K "RaceError") by kernel_rfl)⟩ | exact ⟨He.ga K "NoRow", (show (D.tab K _).exc "NoRow" = some (He.ga K "NoRow") by kernel_rfl)⟩ | exact ⟨He.ga K "NoWeaving", (show (D.tab K _).exc "NoWeaving" = some (He.ga K "NoWeaving") by kernel_rfl)⟩ | exact ⟨He.ga K "NoRace", (show (D.tab K _).exc "NoRace" = some (He.ga K "NoRace") by kernel_rfl)⟩ | exact con_WORDS X G c | exact con_MOST_THREADS X G c | exact con_MOST_DEEDS X G c
theorem w_l_extended (X : K.In h) (G : h.Ns mainGlobals mg) {ds : List Df} (c : D.Has ds K) : wfB K (D.tab K r12) Sw.c_l_extended := by
  unfold Sw.c_l_extended
  simp only [wfB, wfS, wf, wfs, wfSu, subE, subEs, implies_true, and_true, true_and]
  all_goals (try and_intros)
  all_goals first | exact trivial | kernel_rfl | exact memD (by decide +kernel)  | exact ⟨He.ga K "Watch", by kernel_rfl, (show (D.tab K _).adr "Watch" = some (He.ga K "Watch") by kernel_rfl)⟩ | exact ⟨He.ga K "Row", by kernel_rfl, (show (D.tab K _).adr "Row" = some (He.ga K "Row") by kernel_rfl)⟩ | exact ⟨He.ga K "RaceError", (show (D.tab K _).exc "RaceError" = some (He.ga K "RaceError") by kernel_rfl)⟩ | exact ⟨He.ga K "NoRow", (show (D.tab K _).exc "NoRow" = some (He.ga K "NoRow") by kernel_rfl)⟩ | exact ⟨He.ga K "NoWeaving", (show (D.tab K _).exc "NoWeaving" = some (He.ga K "NoWeaving") by kernel_rfl)⟩ | exact ⟨He.ga K "NoRace", (show (D.tab K _).exc "NoRace" = some (He.ga K "NoRace") by kernel_rfl)⟩ | exact con_WORDS X G c | exact con_MOST_THREADS X G c | exact con_MOST_DEEDS X G c
theorem w_Row_deeds (X : K.In h) (G : h.Ns mainGlobals mg) {ds : List Df} (c : D.Has ds K) : wfB K (D.tab K r13) Sr.c_Row_deeds := by
  unfold Sr.c_Row_deeds
  simp only [wfB, wfS, wf, wfs, wfSu, subE, subEs, implies_true, and_true, true_and]
  all_goals (try and_intros)
  all_goals first | exact trivial | kernel_rfl | exact memD (by decide +kernel)  | exact ⟨He.ga K "Watch", by kernel_rfl, (show (D.tab K _).adr "Watch" = some (He.ga K "Watch") by kernel_rfl)⟩ | exact ⟨He.ga K "Row", by kernel_rfl, (show (D.tab K _).adr "Row" = some (He.ga K "Row") by kernel_rfl)⟩ | exact ⟨He.ga K "RaceError", (show (D.tab K _).exc "RaceError" = some (He.ga K "RaceError") by kernel_rfl)⟩ | exact ⟨He.ga K "NoRow", (show (D.tab K _).exc "NoRow" = some (He.ga K "NoRow") by kernel_rfl)⟩ | exact ⟨He.ga K "NoWeaving", (show (D.tab K _).exc "NoWeaving" = some (He.ga K "NoWeaving") by kernel_rfl)⟩ | exact ⟨He.ga K "NoRace", (show (D.tab K _).exc "NoRace" = some (He.ga K "NoRace") by kernel_rfl)⟩ | exact con_WORDS X G c | exact con_MOST_THREADS X G c | exact con_MOST_DEEDS X G c
theorem w_joined (X : K.In h) (G : h.Ns mainGlobals mg) {ds : List Df} (c : D.Has ds K) : wfB K (D.tab K r14) Sr.c_joined := by
  unfold Sr.c_joined
  simp only [wfB, wfS, wf, wfs, wfSu, subE, subEs, implies_true, and_true, true_and]
  all_goals (try and_intros)
  all_goals first | exact trivial | kernel_rfl | exact memD (by decide +kernel)  | exact ⟨He.ga K "Watch", by kernel_rfl, (show (D.tab K _).adr "Watch" = some (He.ga K "Watch") by kernel_rfl)⟩ | exact ⟨He.ga K "Row", by kernel_rfl, (show (D.tab K _).adr "Row" = some (He.ga K "Row") by kernel_rfl)⟩ | exact ⟨He.ga K "RaceError", (show (D.tab K _).exc "RaceError" = some (He.ga K "RaceError") by kernel_rfl)⟩ | exact ⟨He.ga K "NoRow", (show (D.tab K _).exc "NoRow" = some (He.ga K "NoRow") by kernel_rfl)⟩ | exact ⟨He.ga K "NoWeaving", (show (D.tab K _).exc "NoWeaving" = some (He.ga K "NoWeaving") by kernel_rfl)⟩ | exact ⟨He.ga K "NoRace", (show (D.tab K _).exc "NoRace" = some (He.ga K "NoRace") by kernel_rfl)⟩ | exact con_WORDS X G c | exact con_MOST_THREADS X G c | exact con_MOST_DEEDS X G c
theorem w_clocks (X : K.In h) (G : h.Ns mainGlobals mg) {ds : List Df} (c : D.Has ds K) : wfB K (D.tab K r15) Sr.c_clocks := by
  unfold Sr.c_clocks
  simp only [wfB, wfS, wf, wfs, wfSu, subE, subEs, implies_true, and_true, true_and]
  all_goals (try and_intros)
  all_goals first | exact trivial | kernel_rfl | exact memD (by decide +kernel)  | exact ⟨He.ga K "Watch", by kernel_rfl, (show (D.tab K _).adr "Watch" = some (He.ga K "Watch") by kernel_rfl)⟩ | exact ⟨He.ga K "Row", by kernel_rfl, (show (D.tab K _).adr "Row" = some (He.ga K "Row") by kernel_rfl)⟩ | exact ⟨He.ga K "RaceError", (show (D.tab K _).exc "RaceError" = some (He.ga K "RaceError") by kernel_rfl)⟩ | exact ⟨He.ga K "NoRow", (show (D.tab K _).exc "NoRow" = some (He.ga K "NoRow") by kernel_rfl)⟩ | exact ⟨He.ga K "NoWeaving", (show (D.tab K _).exc "NoWeaving" = some (He.ga K "NoWeaving") by kernel_rfl)⟩ | exact ⟨He.ga K "NoRace", (show (D.tab K _).exc "NoRace" = some (He.ga K "NoRace") by kernel_rfl)⟩ | exact con_WORDS X G c | exact con_MOST_THREADS X G c | exact con_MOST_DEEDS X G c
theorem w_Row_deed (X : K.In h) (G : h.Ns mainGlobals mg) {ds : List Df} (c : D.Has ds K) : wfB K (D.tab K r16) Sr.c_Row_deed := by
  unfold Sr.c_Row_deed
  simp only [wfB, wfS, wf, wfs, wfSu, subE, subEs, implies_true, and_true, true_and]
  all_goals (try and_intros)
  all_goals first | exact trivial | kernel_rfl | exact memD (by decide +kernel)  | exact ⟨He.ga K "Watch", by kernel_rfl, (show (D.tab K _).adr "Watch" = some (He.ga K "Watch") by kernel_rfl)⟩ | exact ⟨He.ga K "Row", by kernel_rfl, (show (D.tab K _).adr "Row" = some (He.ga K "Row") by kernel_rfl)⟩ | exact ⟨He.ga K "RaceError", (show (D.tab K _).exc "RaceError" = some (He.ga K "RaceError") by kernel_rfl)⟩ | exact ⟨He.ga K "NoRow", (show (D.tab K _).exc "NoRow" = some (He.ga K "NoRow") by kernel_rfl)⟩ | exact ⟨He.ga K "NoWeaving", (show (D.tab K _).exc "NoWeaving" = some (He.ga K "NoWeaving") by kernel_rfl)⟩ | exact ⟨He.ga K "NoRace", (show (D.tab K _).exc "NoRace" = some (He.ga K "NoRace") by kernel_rfl)⟩ | exact con_WORDS X G c | exact con_MOST_THREADS X G c | exact con_MOST_DEEDS X G c
theorem w_goes_ahead (X : K.In h) (G : h.Ns mainGlobals mg) {ds : List Df} (c : D.Has ds K) : wfB K (D.tab K r17) Sr.c_goes_ahead := by
  unfold Sr.c_goes_ahead
  simp only [wfB, wfS, wf, wfs, wfSu, subE, subEs, implies_true, and_true, true_and]
  all_goals (try and_intros)
  all_goals first | exact trivial | kernel_rfl | exact memD (by decide +kernel)  | exact ⟨He.ga K "Watch", by kernel_rfl, (show (D.tab K _).adr "Watch" = some (He.ga K "Watch") by kernel_rfl)⟩ | exact ⟨He.ga K "Row", by kernel_rfl, (show (D.tab K _).adr "Row" = some (He.ga K "Row") by kernel_rfl)⟩ | exact ⟨He.ga K "RaceError", (show (D.tab K _).exc "RaceError" = some (He.ga K "RaceError") by kernel_rfl)⟩ | exact ⟨He.ga K "NoRow", (show (D.tab K _).exc "NoRow" = some (He.ga K "NoRow") by kernel_rfl)⟩ | exact ⟨He.ga K "NoWeaving", (show (D.tab K _).exc "NoWeaving" = some (He.ga K "NoWeaving") by kernel_rfl)⟩ | exact ⟨He.ga K "NoRace", (show (D.tab K _).exc "NoRace" = some (He.ga K "NoRace") by kernel_rfl)⟩ | exact con_WORDS X G c | exact con_MOST_THREADS X G c | exact con_MOST_DEEDS X G c
theorem w_is_weaving (X : K.In h) (G : h.Ns mainGlobals mg) {ds : List Df} (c : D.Has ds K) : wfB K (D.tab K r18) Sw.c_is_weaving := by
  unfold Sw.c_is_weaving
  simp only [wfB, wfS, wf, wfs, wfSu, subE, subEs, implies_true, and_true, true_and]
  all_goals (try and_intros)
  all_goals first | exact trivial | kernel_rfl | exact memD (by decide +kernel)  | exact ⟨He.ga K "Watch", by kernel_rfl, (show (D.tab K _).adr "Watch" = some (He.ga K "Watch") by kernel_rfl)⟩ | exact ⟨He.ga K "Row", by kernel_rfl, (show (D.tab K _).adr "Row" = some (He.ga K "Row") by kernel_rfl)⟩ | exact ⟨He.ga K "RaceError", (show (D.tab K _).exc "RaceError" = some (He.ga K "RaceError") by kernel_rfl)⟩ | exact ⟨He.ga K "NoRow", (show (D.tab K _).exc "NoRow" = some (He.ga K "NoRow") by kernel_rfl)⟩ | exact ⟨He.ga K "NoWeaving", (show (D.tab K _).exc "NoWeaving" = some (He.ga K "NoWeaving") by kernel_rfl)⟩ | exact ⟨He.ga K "NoRace", (show (D.tab K _).exc "NoRace" = some (He.ga K "NoRace") by kernel_rfl)⟩ | exact con_WORDS X G c | exact con_MOST_THREADS X G c | exact con_MOST_DEEDS X G c
theorem w_woven (X : K.In h) (G : h.Ns mainGlobals mg) {ds : List Df} (c : D.Has ds K) : wfB K (D.tab K r19) c_woven := by
  unfold c_woven
  simp only [wfB, wfS, wf, wfs, wfSu, subE, subEs, implies_true, and_true, true_and]
  all_goals (try and_intros)
  all_goals first | exact trivial | kernel_rfl | exact memD (by decide +kernel)  | exact ⟨He.ga K "Watch", by kernel_rfl, (show (D.tab K _).adr "Watch" = some (He.ga K "Watch") by kernel_rfl)⟩ | exact ⟨He.ga K "Row", by kernel_rfl, (show (D.tab K _).adr "Row" = some (He.ga K "Row") by kernel_rfl)⟩ | exact ⟨He.ga K "RaceError", (show (D.tab K _).exc "RaceError" = some (He.ga K "RaceError") by kernel_rfl)⟩ | exact ⟨He.ga K "NoRow", (show (D.tab K _).exc "NoRow" = some (He.ga K "NoRow") by kernel_rfl)⟩ | exact ⟨He.ga K "NoWeaving", (show (D.tab K _).exc "NoWeaving" = some (He.ga K "NoWeaving") by kernel_rfl)⟩ | exact ⟨He.ga K "NoRace", (show (D.tab K _).exc "NoRace" = some (He.ga K "NoRace") by kernel_rfl)⟩ | exact con_WORDS X G c | exact con_MOST_THREADS X G c | exact con_MOST_DEEDS X G c
theorem w_l_spoilt (X : K.In h) (G : h.Ns mainGlobals mg) {ds : List Df} (c : D.Has ds K) : wfB K (D.tab K r20) Sw.c_l_spoilt := by
  unfold Sw.c_l_spoilt
  simp only [wfB, wfS, wf, wfs, wfSu, subE, subEs, implies_true, and_true, true_and]
  all_goals (try and_intros)
  all_goals first | exact trivial | kernel_rfl | exact memD (by decide +kernel)  | exact ⟨He.ga K "Watch", by kernel_rfl, (show (D.tab K _).adr "Watch" = some (He.ga K "Watch") by kernel_rfl)⟩ | exact ⟨He.ga K "Row", by kernel_rfl, (show (D.tab K _).adr "Row" = some (He.ga K "Row") by kernel_rfl)⟩ | exact ⟨He.ga K "RaceError", (show (D.tab K _).exc "RaceError" = some (He.ga K "RaceError") by kernel_rfl)⟩ | exact ⟨He.ga K "NoRow", (show (D.tab K _).exc "NoRow" = some (He.ga K "NoRow") by kernel_rfl)⟩ | exact ⟨He.ga K "NoWeaving", (show (D.tab K _).exc "NoWeaving" = some (He.ga K "NoWeaving") by kernel_rfl)⟩ | exact ⟨He.ga K "NoRace", (show (D.tab K _).exc "NoRace" = some (He.ga K "NoRace") by kernel_rfl)⟩ | exact con_WORDS X G c | exact con_MOST_THREADS X G c | exact con_MOST_DEEDS X G c
theorem w_l_is_order (X : K.In h) (G : h.Ns mainGlobals mg) {ds : List Df} (c : D.Has ds K) : wfB K (D.tab K r21) Sw.c_l_is_order := by
  unfold Sw.c_l_is_order
  simp only [wfB, wfS, wf, wfs, wfSu, subE, subEs, implies_true, and_true, true_and]
  all_goals (try and_intros)
  all_goals first | exact trivial | kernel_rfl | exact memD (by decide +kernel)  | exact ⟨He.ga K "Watch", by kernel_rfl, (show (D.tab K _).adr "Watch" = some (He.ga K "Watch") by kernel_rfl)⟩ | exact ⟨He.ga K "Row", by kernel_rfl, (show (D.tab K _).adr "Row" = some (He.ga K "Row") by kernel_rfl)⟩ | exact ⟨He.ga K "RaceError", (show (D.tab K _).exc "RaceError" = some (He.ga K "RaceError") by kernel_rfl)⟩ | exact ⟨He.ga K "NoRow", (show (D.tab K _).exc "NoRow" = some (He.ga K "NoRow") by kernel_rfl)⟩ | exact ⟨He.ga K "NoWeaving", (show (D.tab K _).exc "NoWeaving" = some (He.ga K "NoWeaving") by kernel_rfl)⟩ | exact ⟨He.ga K "NoRace", (show (D.tab K _).exc "NoRace" = some (He.ga K "NoRace") by kernel_rfl)⟩ | exact con_WORDS X G c | exact con_MOST_THREADS X G c | exact con_MOST_DEEDS X G c
theorem w_l_refused (X : K.In h) (G : h.Ns mainGlobals mg) {ds : List Df} (c : D.Has ds K) : wfB K (D.tab K r22) c_l_refused := by
  unfold c_l_refused
  simp only [wfB, wfS, wf, wfs, wfSu, subE, subEs, implies_true, and_true, true_and]
  all_goals (try and_intros)
  all_goals first | exact trivial | kernel_rfl | exact memD (by decide +kernel)  | exact ⟨He.ga K "Watch", by kernel_rfl, (show (D.tab K _).adr "Watch" = some (He.ga K "Watch") by kernel_rfl)⟩ | exact ⟨He.ga K "Row", by kernel_rfl, (show (D.tab K _).adr "Row" = some (He.ga K "Row") by kernel_rfl)⟩ | exact ⟨He.ga K "RaceError", (show (D.tab K _).exc "RaceError" = some (He.ga K "RaceError") by kernel_rfl)⟩ | exact ⟨He.ga K "NoRow", (show (D.tab K _).exc "NoRow" = some (He.ga K "NoRow") by kernel_rfl)⟩ | exact ⟨He.ga K "NoWeaving", (show (D.tab K _).exc "NoWeaving" = some (He.ga K "NoWeaving") by kernel_rfl)⟩ | exact ⟨He.ga K "NoRace", (show (D.tab K _).exc "NoRace" = some (He.ga K "NoRace") by kernel_rfl)⟩ | exact con_WORDS X G c | exact con_MOST_THREADS X G c | exact con_MOST_DEEDS X G c
theorem w_law (X : K.In h) (G : h.Ns mainGlobals mg) {ds : List Df} (c : D.Has ds K) : wfB K (D.tab K r23) c_law := by
  unfold c_law
  simp only [wfB, wfS, wf, wfs, wfSu, subE, subEs, implies_true, and_true, true_and]
  all_goals (try and_intros)
  all_goals first | exact trivial | kernel_rfl | exact memD (by decide +kernel)  | exact ⟨He.ga K "Watch", by kernel_rfl, (show (D.tab K _).adr "Watch" = some (He.ga K "Watch") by kernel_rfl)⟩ | exact ⟨He.ga K "Row", by kernel_rfl, (show (D.tab K _).adr "Row" = some (He.ga K "Row") by kernel_rfl)⟩ | exact ⟨He.ga K "RaceError", (show (D.tab K _).exc "RaceError" = some (He.ga K "RaceError") by kernel_rfl)⟩ | exact ⟨He.ga K "NoRow", (show (D.tab K _).exc "NoRow" = some (He.ga K "NoRow") by kernel_rfl)⟩ | exact ⟨He.ga K "NoWeaving", (show (D.tab K _).exc "NoWeaving" = some (He.ga K "NoWeaving") by kernel_rfl)⟩ | exact ⟨He.ga K "NoRace", (show (D.tab K _).exc "NoRace" = some (He.ga K "NoRace") by kernel_rfl)⟩ | exact con_WORDS X G c | exact con_MOST_THREADS X G c | exact con_MOST_DEEDS X G c
theorem wall (X : K.In h) (G : h.Ns mainGlobals mg) (c : D.Has r24 K) : wfAll D K r24 := ⟨w_law X G c, w_l_refused X G c, w_l_is_order X G c, w_l_spoilt X G c, w_woven X G c, w_is_weaving X G c, w_goes_ahead X G c, w_Row_deed X G c, w_clocks X G c, w_joined X G c, w_Row_deeds X G c, w_l_extended X G c, w_l_before X G c, w_l_edge X G c, w_Row_init X G c, w_fault X G c, w_Watch_place_fault X G c, w_Watch_lock_fault X G c, w_Watch_add X G c, w_form_fault X G c, w_Watch_init X G c, w_l_deeds X G c, w_l_by_lock X G c, w_l_numbers X G c, w_l_cell_at X G c, trivial⟩
end
theorem oks : ∀ d ∈ r24, d.Ok := by
  intro d hd
  repeat (first | (rcases List.mem_cons.mp hd with rfl | hd; (first | exact k_l_cell_at | exact k_l_numbers | exact k_l_by_lock | exact k_l_deeds | exact k_Watch_init | exact k_form_fault | exact k_Watch_add | exact k_Watch_lock_fault | exact k_Watch_place_fault | exact k_fault | exact k_Row_init | exact k_l_edge | exact k_l_before | exact k_l_extended | exact k_Row_deeds | exact k_joined | exact k_clocks | exact k_Row_deed | exact k_goes_ahead | exact k_is_weaving | exact k_woven | exact k_l_spoilt | exact k_l_is_order | exact k_l_refused | exact k_law)) | cases hd)
def loose : List Str := (["joined", "clocks", "goes_ahead", "RaceError", "NoRow", "NoWeaving", "NoRace", "WORDS", "MOST_THREADS", "MOST_DEEDS", "form_fault", "Watch", "fault", "Row", "is_weaving", "woven", "_law_cell_at", "_law_numbers", "_law_by_lock", "_law_deeds", "_law_edge", "_law_before", "_law_extended", "_law_spoilt", "_law_is_order", "_law_refused"] : List Str)
abbrev R : PySem.W.OpenRow := PySem.W.OpenLaw.row PySem.Challenge.rw_racewise_k08_woven
abbrev hk : PySem.W.Hook := D.hk 6 r24
def ob (s : PySem.W.SharedT) : He.AlX := He.obsX 6 (D.facts r24) (r24.map Df.dd) [] [] D.more (HandSHeadRun.getT s)
theorem ob_eq (s : PySem.W.SharedT) : ob s = hk.obs s.abs := He.obsX_eq (HandSHeadRun.getT_eq s)
theorem run (w : World) : HandSHeadRun.RunEq R (PySem.W.view R.prog [31]) hk ob 6000 loose w := by
  intro os
  kernel_rfl
end K08
open PySem PySem.W PySem.Calls PyProof.Rows
theorem K08.holds_of (ht : ∀ ns : List Int, ns.length ≤ 63 → ∃ os, K08.f_law [.scr ns] = .ok (.bl true) os) : PySem.Challenge.rw_racewise_k08_woven.Holds := by
  w_on; o_law
  refine HandSHeadRun.head_any (r := OpenLaw.row PySem.Challenge.rw_racewise_k08_woven) (q := view (OpenLaw.row PySem.Challenge.rw_racewise_k08_woven).prog [31]) (H := K08.hk) (ob := K08.ob) (M := 6000) (loose := K08.loose) (d := HandSHeadRun.topDef (OpenLaw.row PySem.Challenge.rw_racewise_k08_woven).prog 31) (kwd := []) K08.ob_eq
    (by kernel_rfl) (fun s => by kernel_rfl) K08.run (by kernel_rfl) (by kernel_rfl) (by kernel_rfl) (by rfl) (by first | assumption | decide +kernel) (by decide +kernel) ⟨rfl, rfl, rfl, rfl, rfl, by decide +kernel⟩ ?hw ?hc
  case hw => w_witness2
  case hc =>
    refine L2.walk_ofE (l := PySem.Challenge.rw_racewise_k08_woven) (n := 63) (k := 49) (x := "_law_script") (CX := L2.CX0) rfl (by decide) (by kernel_rfl) ⟨rfl, by decide, by decide⟩ ?F (fun _ _ _ _ z => z)
    intro w mg fa h Y G hmg0
    obtain ⟨K, KX, c⟩ := Y
    have hmg : mg ("law" : PySem.Str) = some (.ref fa) := by
      have e : (HandSHeadRun.topDef (OpenLaw.row PySem.Challenge.rw_racewise_k08_woven).prog 31).name = ("law" : PySem.Str) := by kernel_rfl
      rw [← e]
      exact hmg0
    have c' : K08.D.Has K08.r24 K := Rk.Txt.has_of c
    obtain ⟨fd, sp, h1, h2, h3⟩ := Rk.law_any (l := PySem.Challenge.rw_racewise_k08_woven) (ds := K08.r23) (law := K08.d_law) (w := w) KX G c' rfl hmg (x := "_law_script") rfl K08.oks (K08.wall KX G c') 63 ht
    exact ⟨K, fd, sp, KX, h1, h2, h3⟩

theorem PySem.Challenge.cw_racewise_k08_woven_holds : PySem.Challenge.rw_racewise_k08_woven.Holds := by
  exact K08.holds_of K08.law_true
