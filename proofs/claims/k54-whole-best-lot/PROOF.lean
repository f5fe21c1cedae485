import PyProof.Rows.All
import Wide.All
import OpenK.AllK
import Wide.FinOn
import HandS.ForMost
import HandS.Defaults
import HandS.MakeKwOnly
import HandS.Flow
import HandS.Conv
import HandS.Zip
import HandS.SortRule
import HandS.SortInts
import HandS.Deep
import HandS.Style
import HandS.Rev
import HandS.DictComp
import HandS.DictTup
import HandS.IsInst
import PyProof.DictMoreH
import HandS.Codes
import KE.KStateDown
import Lean
import HandS.Head0
import HandS.Head1
import HandS.Head2
import HandS.HeadEnd
import HandS.HeadHook1
import HandS.HeadHook2
import PySem.Challenge.RW_pairwarden_k54_whole_best_lot
set_option Elab.async false
set_option linter.all false
set_option maxRecDepth 100000
set_option maxHeartbeats 4000000
namespace BL
open PySem L2
def top (i : Nat) : Stmt := PySem.Challenge.pw_pairwarden_k54_whole_best_lot.main.body.getD i (.Pass ⟨0, 0, 0, 0⟩)
abbrev FnP (K : PySem.W.Frag) (x : Str) (st : Stmt) (f : Addr) (fd : FuncData) : Prop := FunD K x x (defArgs st) (defBody st) (defScope st) [] [] f fd
/-- a def that stands under its name and keeps its promise -/
def Has (P : Program) (w : World) (K : PySem.W.Frag) (mg : Str → Option Value) (base : Heap) (k : Nat) (x : Str) (ps : List Str) (sp : Sp) : Prop :=
  ∃ (f : Addr) (fd : FuncData), FnOk P w K mg base CX0 k f fd ps sp ∧ mg x = some (.ref f) ∧ PySem.W.keepIn K (.ref f) = true ∧ Binds K fd ps []
theorem pe_fn {X : Cx} {k : Nat} {x : Str} {ps : List Str} {sp : Sp} {p pos : Pos} {e : Expr} {es : List Expr} {t : TA} (h : Has X.prog X.w X.K X.mg X.base k x ps sp) (hr : Room k X.A) (hg : Gl X x) (ha : PA X (e :: es) t)
    (hdb : (x == ("__debug__" : Str)) = false := by decide) (he : starEach (e :: es) X.env = (false, eval e X.env) :: starEach es X.env := by rfl) (hpl : (backTo pos (starEach es X.env)).any (·.1) = false := by rfl) :
    PE X (.Call (.Name x p) (e :: es) [] pos) (tCall sp [] E0 t) := by
  obtain ⟨f, fd, F, hm, hk, hb⟩ := h
  exact pe_call F hr hg hm hk hb .nil pass0 ha hdb he hpl
/-- the built-in names that the text leaves as they are -/
structure Bt (mg : Str → Option Value) : Prop where
  len : mg "len" = none
  set : mg "set" = none
  sorted : mg "sorted" = none
  tuple : mg "tuple" = none
  list : mg "list" = none
  min : mg "min" = none
  max : mg "max" = none
  range : mg "range" = none
  enumerate : mg "enumerate" = none
  sum : mg "sum" = none
  int : mg "int" = none
  bool : mg "bool" = none
  abs : mg "abs" = none
  isinstance : mg "isinstance" = none
  reversed : mg "reversed" = none
theorem l65 {A : Around} {k : Nat} (hr : Room k A) : A.units + 65 < cLine := by have := hr.un; omega
abbrev vn (n : Nat) : V := .int (n : Int)
end BL
set_option Elab.async false
set_option linter.all false
set_option maxRecDepth 100000
set_option maxHeartbeats 4000000
/-! Rules that the layer lacks: d.setdefault(k, x) by tuple keys, list(reversed(xs)), a dict comprehension over a list. -/
namespace RT
open PySem PySem.Spec PyProof.Rows L2
section
variable {prog : Program} {w : World} {A : Around} {E : Value → Shared → Prop} {s : Shared}
theorem extend_rev {R : Result → Shared → Prop} {it l S : Addr} {items : Array Value} {c₀ : Nat} {res : Value} (hh : A.handled = none) (hit : s.heap.IsRevIter it l ((items.size : Int) - 1)) (hl : s.heap.IsList l items) (hne : l ≠ it) (hn : items.size ≤ sizeLine)
    (hSi : S ≠ it) (hSl : S ≠ l) (hS : s.heap.get? S = some { cls := .type "list", data := .seq #[] c₀ })
    (hR : ∀ (h' : Heap) (tk : Nat) (acc : Array Value) (c' : Nat), (∀ b o, b ≠ S → b ≠ it → s.heap.get? b = some o → h'.get? b = some o) → h'.get? S = some { cls := .type "list", dict := none, data := .seq acc c', slots := #[] } →
      ItemsOf (fun i v => items[items.size - 1 - i]? = some v) acc items.size → R (.ok (.ret res)) { s with heap := h', toks := tk }) :
    wpAny (model prog w) A.in1 (Builtin.List.listExtendWith (.ref S) (.ref it) res)
      (fun fin s' => match fin with | .done f => R (.ok f) s' | .again c' => c'.quiet = true ∧ codeAny (model prog w) A c' R s') (fun e s' => R (.error e) s') s := by
  have W := (Walks.listRev (prog := prog) (w := w) (A := A.in1) hh it l hne items).toS
  have hSf : S ∉ [it, l] := by simp only [List.mem_cons, List.not_mem_nil, or_false, not_or]; exact ⟨hSi, hSl⟩
  have hT : s.TypeIs (.ref it) "list_reverseiterator" := hit.typeIs
  have h1 : Builtin.List.listSameRef (.ref S) (.ref it) = false := by simp [Builtin.List.listSameRef, hSi]
  unfold Builtin.List.listExtendWith
  refine wpAny_bind (wpAny_typeOf hT ?_)
  rw [if_neg (by rw [h1]; decide)]
  refine wpAny_bind (wpAny_pyIter_revIter hit ?_)
  refine wpAny_bind (wpAny_holding ?_)
  unfold Builtin.List.listLengthHint
  refine wpAny_bind (wpAny_specialOf hT nolen_lri ?_)
  show wpAny _ A.in1 (specialOf (Value.ref it) (Str.ofString "__length_hint__") >>= _) _ _ _
  refine wpAny_bind (wpAny_specialOf hT hint_lri ?_)
  generalize hid : ("list_reverseiterator.__length_hint__" : String) = id0
  wp_delta
  rw [show splitId id0 = some ("list_reverseiterator", "__length_hint__") from by subst hid; decide +kernel]
  subst hid
  refine wpAny_bind (wpAny_isInstance (b := true) hT (by rw [isSubtype_type]; kernel_rfl) ?_)
  refine wpAny_pure ?_
  rw [if_neg (by decide)]
  have e0 : ((items.size : Nat) : Int) - 1 - ((0 : Nat) : Int) = (items.size : Int) - 1 := by omega
  refine wpAny_pure ⟨plainId_quiet F.plain_extend_loop _, codeAny_extend_loopS W hn _ hSf _ items.size 0 _ _ _ rfl (Nat.zero_le _) ⟨Nat.zero_le _, by rw [e0]; exact hit, hl⟩ hS (ItemsOf.nil _) fun s' acc' c' hm hS' hacc => ?_⟩
  rw [Moved.eq_with hm]
  refine hR s'.heap s'.toks acc' c' (fun b o hb hi e => hm.heap b o (fun hmem => ?_) e) hS' hacc
  rcases List.mem_cons.mp hmem with e' | hmem
  · exact hb e'
  · exact hi (List.mem_singleton.mp hmem)
theorem call_list_rev {it l : Addr} {items : Array Value} {Q : Value → Shared → Prop} (hh : A.handled = none) (hit : s.heap.IsRevIter it l ((items.size : Int) - 1)) (hl : s.heap.IsList l items) (hne : l ≠ it) (hn : items.size ≤ sizeLine)
    (hQ : ∀ (h' : Heap) (tk : Nat) (acc : Array Value) (c' : Nat), (∀ b o, b ≠ it → s.heap.get? b = some o → h'.get? b = some o) → h'.get? s.heap.objs.size = some { cls := .type "list", dict := none, data := .seq acc c', slots := #[] } →
      ItemsOf (fun i v => items[items.size - 1 - i]? = some v) acc items.size → Q (.ref s.heap.objs.size) { s with heap := h', toks := tk }) :
    wpAny (model prog w) A (call (.type "list") [.ref it]) Q E s := by
  obtain ⟨oi, hoi, _⟩ := id hit
  obtain ⟨ol, hol, _⟩ := id hl
  have hSi : s.heap.objs.size ≠ it := Nat.ne_of_gt (Heap.lt_size hoi)
  have hSl : s.heap.objs.size ≠ l := Nat.ne_of_gt (Heap.lt_size hol)
  refine callType_codes (Q₁ := fun obj s₁ => obj = .ref s.heap.objs.size ∧ s₁ = { s with heap := s.heap.push { cls := .type "list", data := .seq #[] } }) F.called_list (F.typeCall_list_1 _) F.entry_list_init
    (code_list_new _ ⟨rfl, rfl⟩) fun obj s₁ h₁ => ?_
  obtain ⟨rfl, rfl⟩ := h₁
  have hS : (s.heap.push { cls := .type "list", data := .seq #[] }).get? s.heap.objs.size = some { cls := .type "list", data := .seq #[] } := Heap.get?_push_size _ rfl
  refine ⟨⟨_, hS, rfl⟩, F.args_list_init_2 _ _, ?_⟩
  show wpAny _ _ (do let old ← Builtin.List.listItems (.ref s.heap.objs.size); Builtin.List.listUpdate (.ref s.heap.objs.size) (fun _ => #[]); letGo old.toList.reverse; Builtin.List.listExtendWith (.ref s.heap.objs.size) (.ref it) .none) _ _ _
  refine wpAny_bind ?_
  unfold Builtin.List.listItems
  refine wpAny_bind (wpAny_seqItems hS rfl (wpAny_pure ?_))
  show wpAny _ _ (updateSeq s.heap.objs.size (fun _ => #[]) >>= fun _ => letGo (#[] : Array Value).toList.reverse >>= fun _ => Builtin.List.listExtendWith (.ref s.heap.objs.size) (.ref it) .none) _ _ _
  refine wpAny_bind (wpAny_updateSeq hS rfl ?_)
  have hS₂ := Heap.get?_update_self (Obj.mapSeq (fun _ => (#[] : Array Value))) hS rfl
  have oth : ∀ b o, b ≠ s.heap.objs.size → s.heap.get? b = some o → ((s.heap.push { cls := .type "list", data := .seq #[] }).update s.heap.objs.size (Obj.mapSeq (fun _ => (#[] : Array Value)))).get? b = some o :=
    fun b o hb e => (Heap.get?_update_other _ _ (Ne.symm hb)).trans (Heap.get?_push_of_some _ e)
  refine wpAny_bind (wpAny_letGo ?_)
  refine extend_rev (A := A.in1) hh (hit.at fun o e => oth it o (Ne.symm hSi) e) (hl.at fun o e => oth l o (Ne.symm hSl) e) hne hn hSi hSl hS₂ fun h' tk acc c' hk hS' hi => ?_
  exact ⟨rfl, hQ h' tk acc c' (fun b o hb e => hk b o (Nat.ne_of_lt (Heap.lt_size e)) hb (oth b o (Nat.ne_of_lt (Heap.lt_size e)) e)) hS' hi⟩
end
end RT
namespace BL
open PySem PySem.Spec PyProof.Rows L2 RT
section
variable {X : Cx}
def tLstRev (K : PySem.W.Frag) (te : TE) : TE := fun σ H Q => te σ H fun v H1 => ∃ (a : Addr) (xs : List V), v = .ref a ∧ SqL K H1 a xs ∧ ∀ q, H1 q = none → Q (.ref q) (upd H1 q (.lst xs.reverse))
theorem pe_listRev {e : Expr} {te : TE} {p p2 pos pos2 : Pos} (hc : X.calm = true) (hg : Gl X "list") (hm : X.mg "list" = none) (hg2 : Gl X "reversed") (hm2 : X.mg "reversed" = none) (he : PE X e te)
    (hs : starEach [e] X.env = (false, eval e X.env) :: starEach [] X.env := by rfl)
    (hs2 : starEach [.Call (.Name "reversed" p2) [e] [] pos2] X.env = (false, eval (.Call (.Name "reversed" p2) [e] [] pos2) X.env) :: starEach [] X.env := by rfl) :
    PE X (.Call (.Name "list" p) [.Call (.Name "reversed" p2) [e] [] pos2] [] pos) (tLstRev X.K te) := by
  refine ⟨fun pins s σ H Q I h => ?_⟩
  refine Call_ (ld_blt I hg hm boot_list (PyProof.Rows.callWith_type1 (args_cons (Call_ (ld_blt I hg2 hm2 PyProof.Rows.boot_reversed (PyProof.Rows.callWith_type1 (args_cons (thn (he.run pins s σ H _ I h) fun u s1 ⟨v, H1, I1, r1, q1⟩ => args_nil ?_) hs) hs rfl))) hs2) hs2 rfl))
  obtain ⟨a, xs, ev, hq, q⟩ := q1
  subst ev
  obtain rfl : u = Value.ref a := r1
  obtain ⟨its, rv, p', hz⟩ := I1.list hq
  refine call_reversed_list p'.isList (args_nil ?_)
  have k0 : ∀ b o, s1.heap.get? b = some o → (s1.heap.push (revObj a ((its.toArray.size : Int) - 1))).get? b = some o := fun b o e => Heap.get?_push_of_some _ e
  have I2 : Inv X pins σ H1 { s1 with heap := s1.heap.push (revObj a ((its.toArray.size : Int) - 1)) } := I1.kept (t' := s1.toks) k0
  obtain ⟨f0, f1, f2, f3, f4, f5⟩ := I1.fpOk (H' := H1) (b := s1.heap.objs.size) (Nat.le_refl _) (I1.hok.fresh (Nat.le_refl _))
  have hl := p'.isList
  obtain ⟨ol, hol, _⟩ := id hl
  have hne : a ≠ s1.heap.objs.size := Nat.ne_of_lt (Heap.lt_size hol)
  have hn : its.toArray.size ≤ sizeLine := by rw [List.size_toArray, ← rv.length]; exact hz
  have hof : (s1.heap.push (revObj a ((its.toArray.size : Int) - 1))).get? s1.heap.objs.size = some (revObj a ((its.toArray.size : Int) - 1)) := Heap.get?_push_size _ rfl
  refine call_list_rev (s := { s1 with heap := s1.heap.push (revObj a ((its.toArray.size : Int) - 1)) }) (I1.ok.hd hc) ⟨_, hof, rfl, rfl⟩ (hl.push _) hne hn fun h' tk acc c' hk hS' hi => ?_
  have hp : (s1.heap.push (revObj a ((its.toArray.size : Int) - 1))).objs.size ≤ (s1.heap.push (revObj a ((its.toArray.size : Int) - 1))).objs.size := Nat.le_refl _
  have hf := I2.hok.fresh hp
  have hne2 : (s1.heap.push (revObj a ((its.toArray.size : Int) - 1))).objs.size ≠ s1.heap.objs.size := Nat.ne_of_gt (Heap.lt_size hof)
  have I3 : Inv X pins σ H1 { s1 with heap := h', toks := tk } := I2.turned (t' := tk) (fun b o hb e => hk b o hb e) f0 f1 f3 f4 f5
  have ok1 : ObjOk X.prog X.w (upd H1 (s1.heap.push (revObj a ((its.toArray.size : Int) - 1))).objs.size (.lst xs.reverse)) h' (s1.heap.push (revObj a ((its.toArray.size : Int) - 1))).objs.size (.lst xs.reverse) :=
    ⟨by rw [List.length_reverse]; exact hz, acc.toList, c', vals_rev rv hi, by rw [Array.toArray_toList]; exact hS'⟩
  refine ⟨.ref _, upd H1 (s1.heap.push (revObj a ((its.toArray.size : Int) - 1))).objs.size (.lst xs.reverse), ?_, rfl, q _ hf⟩
  exact I2.turnedNew (t' := tk) (ch := [s1.heap.objs.size]) (T := (s1.heap.push (revObj a ((its.toArray.size : Int) - 1))).objs.size) (ob := .lst xs.reverse) (fun b o hb e => hk b o (fun z => hb (by rw [z]; exact List.mem_singleton.mpr rfl)) e)
    (fun b hb => by rw [List.mem_singleton.mp hb]; exact ⟨f0, f1, f2, f3, f4, f5⟩) hp ok1
def rSetdT : V → List V → Hp → VK → Prop := fun x xs H Q => ∃ (a : Addr) (kvs : List (List L2.Key × V)) (k : List L2.Key) (b : Addr) (d : V), x = .ref a ∧ xs = [.ref b, d] ∧ H a = some (.dT kvs) ∧ H b = some (.tup (k.map kV)) ∧ kvs.length < sizeLine ∧
  (∀ v, valV kvs k = some v → Q v H) ∧ (valV kvs k = none → Q d (upd H a (.dT (putK kvs k d))))
theorem mt_setdefaultT (hu : X.A.units + 1 < cLine) : MtR X "dict.setdefault" rSetdT := by
  intro pins s σ H x xs v us Q I rx rxs h
  obtain ⟨a, kvs, k, b, d, rfl, rfl, ha, hb, hl, q1, q2⟩ := h
  cases rx
  obtain ⟨u1, u2, rfl, r1, r2⟩ := vals2 rxs
  cases r1
  obtain ⟨z, hd, xs', rel, dd⟩ := dt_of I.hok ha
  have hz : xs'.length ≤ sizeLine := by rw [← Paired.length rel]; exact z
  refine call_setdefault_heap (hsz := hz) (knd := tupleKind (mixKind X.prog X.w)) (k := k) (tupleKind_room_in1 hu) (key_of I.hok hb) hd dd (fun p hp => ?_) fun hn h' dd' hs => ?_
  · have r := rel.val k
    rw [hp] at r
    obtain ⟨v0, ev, rv⟩ : ∃ v0, valV kvs k = some v0 ∧ RelV v0 p.2 := by
      cases ev : valV kvs k with
      | none =>
        rw [ev] at r
        exact (show False from r).elim
      | some v0 =>
        rw [ev] at r
        exact ⟨v0, rfl, r⟩
    exact ⟨v0, H, I.tok _, rv, q1 v0 ev⟩
  · have r := rel.val k
    rw [hn] at r
    have e : valV kvs k = none := by
      cases ev : valV kvs k with
      | none => rfl
      | some v0 =>
        rw [ev] at r
        exact (show False from r).elim
    have hl2 : (putK kvs k d).length ≤ sizeLine := by have := length_putK kvs k d; omega
    obtain ⟨o, es, ep, hq, h2, h3, h4, _, h5⟩ := dd'
    have I2 : Inv X pins σ (upd H a (.dT (putK kvs k d))) { s with heap := h', toks := s.toks + (tupleKind (mixKind X.prog X.w)).draws k } :=
      d_write I (by rw [ha]; exact True.intro) hs ⟨o, hq⟩ ⟨hl2, hd, _, (rel.put k hb r2).keeps (fun c ys ec => (by rw [upd_ne (ne_of ec ha (fun z => nomatch z))]; exact ec)), o, es, ep, hq, h2, h3, h4, h5⟩
    exact ⟨d, _, I2, r2, q2 e⟩
end
/-- over a list that stays -/
theorem dc_list {K : PySem.W.Frag} {a : Addr} {xs : List V} {g : TG} {tt : TT} {tk tv : TE} {vs : List Nat} {σ : L2.St} {H1 : Hp} {D : Addr} {Qd : Hp → Prop} (Pv : Nat → Hp → Prop) (h0 : Pv 0 (upd H1 D (.dK []))) (hl : ∀ i H, i ≤ xs.length → Pv i H → SqL K H a xs)
    (hs : ∀ i x H, xs[i]? = some x → Pv i H → g x (wipe σ vs) H fun σ2 H2 => wipe σ2 vs = wipe σ vs ∧ tt σ2 H2 fun b H3 =>
      if b = true then tk σ2 H3 fun y H4 => tv σ2 H4 fun z H5 => ∃ kvs k, y = kV k ∧ H5 D = some (.dK kvs) ∧ kvs.length < sizeLine ∧ Pv (i + 1) (upd H5 D (.dK (putK kvs k z))) else Pv (i + 1) H3) (hd : ∀ H, Pv xs.length H → Qd H) :
    ∃ W : Nat → Nat → Hp → Prop, (∃ m, W 0 m (upd H1 D (.dK []))) ∧ ∀ i m H, W i m H →
      ((Itl K a).stop i H ∧ Qd H) ∨ ((Itl K a).go i H ∧ ∃ Nx : Hp → Prop, (∀ H', Nx H' → ∃ m', m' < m ∧ W (i + 1) m' H') ∧ ∀ x H', (Itl K a).yld i H x H' → g x (wipe σ vs) H' fun σ2 H2 => wipe σ2 vs = wipe σ vs ∧ tt σ2 H2 fun b H3 =>
        if b = true then tk σ2 H3 fun y H4 => tv σ2 H4 fun z H5 => ∃ kvs k, y = kV k ∧ H5 D = some (.dK kvs) ∧ kvs.length < sizeLine ∧ Nx (upd H5 D (.dK (putK kvs k z))) else Nx H3) := by
  refine ⟨fun i m H => m = xs.length - i ∧ i ≤ xs.length ∧ Pv i H, ⟨xs.length, by simp, Nat.zero_le _, h0⟩, ?_⟩
  rintro i m H ⟨rfl, hi, p⟩
  have q := hl i H hi p
  by_cases hlt : i < xs.length
  · refine .inr ⟨⟨xs, xs[i], q, by simp [hlt]⟩, Pv (i + 1), fun H' p' => ⟨xs.length - (i + 1), by omega, rfl, hlt, p'⟩, fun x H' y => ?_⟩
    obtain ⟨e, y⟩ := y
    subst e
    exact hs i x _ (y xs q) p
  · have e : i = xs.length := by omega
    subst e
    exact .inl ⟨⟨xs, q, Nat.le_refl _⟩, hd H p⟩
end BL
namespace BL
open PySem L2
/-! The same rules with the written part K named: within a comprehension's block a reading must not name the block. -/
section
variable (K : PySem.W.Frag) {X : Cx}
theorem pi_listK {tg l : Expr} {tl : TE} (hl : PE X l tl) (hK : X.K = K := by rfl) : PI X tg l (iList K tl) := by subst hK; exact pi_list hl
theorem pi_tupK {tg l : Expr} {tl : TE} (hl : PE X l tl) (hK : X.K = K := by rfl) : PI X tg l (iTup K tl) := by subst hK; exact pi_tup hl
theorem ix_listK (hK : X.K = K := by rfl) : IxR X (rIxL K) := by subst hK; exact ix_list
theorem ix_tupK (hK : X.K = K := by rfl) : IxR X (rIxT K) := by subst hK; exact ix_tup
theorem fldK {e : Expr} {ta : TE} {f : Str} {pos : Pos} (he : PE X e ta) (hb : attributeBase e f X.env (eval e X.env) = eval e X.env) (hK : X.K = K := by rfl) : PE X (.Attribute e f pos) (tFld K ta f) := by subst hK; exact pe_fld he hb
def rLenK : List V → Hp → VK → Prop := fun xs H Q => ∃ p ys, xs = [.ref p] ∧ (SqL K H p ys ∨ SqT K H p ys) ∧ Q (.int ys.length) H
theorem lenK (hK : X.K = K := by rfl) : CallR X (.builtin "len") (rLenK K) := by subst hK; exact call_len_seq
theorem inK (hK : X.K = K := by rfl) : OpR X (compareOp .In) (rIn K false) := by subst hK; exact op_in_seq
def rLstOf : List V → Hp → VK → Prop := fun xs H Q => ∃ p ys, xs = [.ref p] ∧ (SqL K H p ys ∨ SqT K H p ys) ∧ ∀ l, H l = none → Q (.ref l) (upd H l (.lst ys))
theorem lstOfK (hK : X.K = K := by rfl) : CallR X (.type "list") (rLstOf K) := by subst hK; exact call_list_of
def rTupOf : List V → Hp → VK → Prop := fun xs H Q => ∃ p ys, xs = [.ref p] ∧ SqL K H p ys ∧ ∀ l, H l = none → Q (.ref l) (upd H l (.tup ys))
theorem tupOfK (hK : X.K = K := by rfl) : CallR X (.type "tuple") (rTupOf K) := by
  subst hK
  intro pins s σ H xs us Q I r h
  obtain ⟨p, ys, e, h1, h2⟩ := h
  exact call_tuple_of pins s σ H xs us Q I r ⟨p, ys, e, .inl ⟨h1, h2⟩⟩
theorem sumK (hc : X.calm = true) (hK : X.K = K := by rfl) : CallR X (.builtin "sum") (rSum K) := by subst hK; exact cr_sum hc
theorem minK (hc : X.calm = true) (hK : X.K = K := by rfl) : CallR X (.builtin "min") (rMin K) := by subst hK; exact cr_min hc
theorem sortedIK (hK : X.K = K := by rfl) : CallR X (.builtin "sorted") (rSortedI K) := by subst hK; exact cr_sortedI
theorem sortedPK (hK : X.K = K := by rfl) : CallR X (.builtin "sorted") (rSortedPO K) := by subst hK; exact cr_sortedPO
theorem eqDK (hu : X.A.units + 64 < cLine) (hK : X.K = K := by rfl) : OpR X (compareOp .Eq) (rEqD K) := by subst hK; exact op_eqD hu
theorem neDK (hu : X.A.units + 64 < cLine) (hK : X.K = K := by rfl) : OpR X (compareOp .NotEq) (rNeD K) := by subst hK; exact op_neD hu
theorem inDK (hu : X.A.units + 65 < cLine) (hK : X.K = K := by rfl) : OpR X (compareOp .In) (rInD K) := by subst hK; exact op_inD hu
theorem isiK (hK : X.K = K := by rfl) : CallR X (.builtin "isinstance") (rIsi K) := by subst hK; exact call_isi
theorem slListK (hK : X.K = K := by rfl) : SlR X (rSlL K) := by subst hK; exact sl_list
theorem revLK {e : Expr} {te : TE} {k : Nat} {p1 p2 p3 pos : Pos} (he : PE X e te) (hK : X.K = K := by rfl) : PE X (.Subscript e (.Slice none none (some (.UnaryOp .USub (.Constant (.int 1) k p1) p2)) p3) pos) (tRevL K te) := by subst hK; exact pe_revL he
theorem listRevK {e : Expr} {te : TE} {p p2 pos pos2 : Pos} (hc : X.calm = true) (hg : Gl X "list") (hm : X.mg "list" = none) (hg2 : Gl X "reversed") (hm2 : X.mg "reversed" = none) (he : PE X e te)
    (hs : starEach [e] X.env = (false, eval e X.env) :: starEach [] X.env := by rfl)
    (hs2 : starEach [.Call (.Name "reversed" p2) [e] [] pos2] X.env = (false, eval (.Call (.Name "reversed" p2) [e] [] pos2) X.env) :: starEach [] X.env := by rfl) (hK : X.K = K := by rfl) :
    PE X (.Call (.Name "list" p) [.Call (.Name "reversed" p2) [e] [] pos2] [] pos) (tLstRev K te) := by subst hK; exact pe_listRev hc hg hm hg2 hm2 he hs hs2
theorem lenSetK {a : Expr} {ta : TE} {p p2 q pos : Pos} (hg : Gl X "len") (hm : X.mg "len" = none) (hg2 : Gl X "set") (hm2 : X.mg "set" = none) (ha : PE X a ta) (hc : X.calm = true := by rfl)
    (na : starEach [a] X.env = (false, eval a X.env) :: starEach [] X.env := by rfl) (hK : X.K = K := by rfl) : PE X (.Call (.Name "len" p) [.Call (.Name "set" p2) [a] [] q] [] pos) (RZ.tLenSetI K ta) := by subst hK; exact RZ.pe_lenSetI hg hm hg2 hm2 ha hc na
theorem enumK {e : Expr} {ta : TA} {p pos tpos : Pos} {elts : List Expr} {kk : Nat} (hg : Gl X "enumerate") (hm : X.mg "enumerate" = none) (ha : PA X [e] ta) (hs : starEach [e] X.env = [(false, eval e X.env)] := by rfl) (hK : X.K = K := by rfl) :
    PI X (.Tuple elts kk tpos) (.Call (.Name "enumerate" p) [e] [] pos) (iEnum K ta) := by subst hK; exact pi_enum hg hm ha hs
theorem gtupK (n : Nat) {es : List Expr} {k : Nat} {t : TGs} {pos : Pos} (hc : X.calm = true) (h : PGs X es t)
    (hn : (assignEach es X.env).length = n := by rfl) (hst : (assignEach es X.env).findIdx? (·.1) = none := by rfl) (hK : X.K = K := by rfl) : PG X (.Tuple es k pos) (gTup K n t) := by subst hK; exact pg_tup hc h hn hst
theorem bmK {o e : Expr} {es : List Expr} {to : TE} {t : TA} {name : Str} {apos cpos : Pos} {T id : String} {r : V → List V → Hp → VK → Prop} (pa : PlainAttrs T) (slot : Slot T name id) (hty : typeOf (.builtin id) = pure (.type "method_descriptor")) (hm : MtR X id r) (ho : PE X o to) (ha : PA X (e :: es) t)
    (hbase : attributeBase o name X.env (eval o X.env) = eval o X.env := by rfl)
    (hfew : ((backTo cpos (starEach (e :: es) X.env)).all (fun x => !x.1) && (backToKw cpos (keywordEach [] X.env)).all (fun x => x.1.isSome)
      && decide ((e :: es).length + ([] : List Keyword).length + (if ([] : List Keyword).isEmpty then 0 else 1) < 30)) = true := by rfl)
    (hline : (apos.endLine == cpos.line) = true := by rfl) (hs : starEach (e :: es) X.env = (false, eval e X.env) :: starEach es X.env := by rfl) (hplain : (backTo cpos (starEach es X.env)).any (·.1) = false := by rfl) (hK : X.K = K := by rfl) :
    PE X (.Call (.Attribute o name apos) (e :: es) [] cpos) (tBM K T r to t) := by subst hK; exact pe_bm pa slot hty hm ho ha hbase hfew hline hs hplain
theorem appK {o e : Expr} {to te : TE} {apos cpos : Pos} (ho : PE X o to) (he : PE X e te)
    (hbase : attributeBase o "append" X.env (eval o X.env) = eval o X.env := by rfl)
    (hfew : ((backTo cpos (starEach [e] X.env)).all (fun x => !x.1) && (backToKw cpos (keywordEach [] X.env)).all (fun x => x.1.isSome)
      && decide ([e].length + ([] : List Keyword).length + (if ([] : List Keyword).isEmpty then 0 else 1) < 30)) = true := by rfl)
    (hline : (apos.endLine == cpos.line) = true := by rfl) (hs : starEach [e] X.env = (false, eval e X.env) :: starEach [] X.env := by rfl) (hplain : (backTo cpos (starEach [] X.env)).any (·.1) = false := by rfl) (hK : X.K = K := by rfl) :
    PE X (.Call (.Attribute o "append" apos) [e] [] cpos) (tBM K "list" rAppend to (tCons te tNil)) := bmK K PySem.F.plainAttrs_list PySem.F.slot_list_append PySem.F.type_list_append mt_append ho (pa_cons he pa_nil hs) hbase hfew hline hs hplain hK
end
section
variable {X : Cx}
/-- name = {k: v for ..} on one line, the name a local -/
theorem ps_setDc {i : Nat} {y : Str} {py : Pos} {kx vx tg iter : Expr} {ifs : List Expr} {scope : Scope} {own : List (Str × Nat)} {pos spos : Pos} {wi : TI} {g : TG} {tt : TT} {tk tv : TE} (hc : X.calm = true) (hN : X.N.Nodup) (hy : X.N[i]? = some y) (hyl : X.env.scope.names.lookup y = some .local)
    (hsw : swapsWith (.DictComp kx vx [⟨tg, iter, ifs, 0⟩] scope pos) (some (.Name y py)) spos.line X.env = pure true) (hi : PI X tg iter wi) (ok : BlkOk X.N X.env.scope scope own)
    (hg : ∀ (s : Shared) (H : Hp) (C : Addr) (cl : List (Str × Addr)) (fp : List Addr), PG (X.blk s H scope (compEnvC scope cl C X.env) fp) tg g) (ht : ∀ (s : Shared) (H : Hp) (C : Addr) (cl : List (Str × Addr)) (fp : List Addr), PTs (X.blk s H scope (compEnvC scope cl C X.env) fp) ifs tt)
    (hk : ∀ (s : Shared) (H : Hp) (C : Addr) (cl : List (Str × Addr)) (fp : List Addr), PE (X.blk s H scope (compEnvC scope cl C X.env) fp) kx tk)
    (he : ∀ (s : Shared) (H : Hp) (C : Addr) (cl : List (Str × Addr)) (fp : List Addr), PE (X.blk s H scope (compEnvC scope cl C X.env) fp) vx tv) (hs : ∀ x, foldedSetIterable iter X.env x = pure x := by intro _; rfl) :
    PS X (.Assign [.Name y py] (.DictComp kx vx [⟨tg, iter, ifs, 0⟩] scope pos) spos) (tAsg (tDc wi g tt tk tv (own.map (·.2))) (gName i)) := by
  refine ⟨fun pins s σ H D I h => ?_⟩
  rw [exec_Assign_Name_used _ _ _ _ hsw]
  refine wpAny_bind (wpAny_standAt (wpAny_bind ?_))
  show wpAny _ X.A (do let _ ← comprehension (.DictComp kx vx [⟨tg, iter, ifs, 0⟩] scope pos) scope X.env (firstIterPos [⟨tg, iter, ifs, 0⟩] pos) newDict false (eval iter X.env) (some (assign (.Name y py) X.env))) _ _ s
  have h : tDc wi g tt tk tv (own.map (·.2)) σ H (fun x H1 => gName i x σ H1 D.nx) := h
  refine wpAny_bind (thn (dc_core (Qf := fun _ s' => SP X pins D .next s') hc hN I hi ok hg ht hk he hs h fun L C s' m H' I' q hn f => ?_) fun _ s' hq => wpAny_pure (wpAny_pure hq))
  show wpAny _ _ (assign (.Name y py) X.env (.ref L)) _ _ _
  refine wpAny_assign_Name (store_ok2 (v := V.ref L) I' hN hy (.inl hyl) rfl (fun s2 I2 ⟨a, sb, ha⟩ => ?_) (.inr hyl))
  obtain ⟨f0, f1, f2, f3, f4, f5⟩ := f
  have haC : C ≠ a := by
    rcases ha with z | z
    · rw [z]; exact f1
    · exact fun e => f4 y a z e.symm
  refine ⟨m, hn.sameBut sb haC, fun h3 sb3 => ?_⟩
  exact ⟨_, H', I2.turned (t' := s2.toks) (fun b o hb e => (sb3.2 b hb).trans e) f0 f1 f3 f4 f5, q⟩
theorem swd_true {kx vx : Expr} {gs : List Comprehension} {scope : Scope} {pos py : Pos} {y : Str} {l : Nat} {env : Env} (hk : env.scope.kind = .function) (hy : env.scope.names.lookup y = some .local) (hl : (py.line == pos.line) = true)
    (ha : (scope.names.any fun (n, k) => n == y && (k == .local || k == .cell)) = false) : swapsWith (.DictComp kx vx gs scope pos) (some (.Name y py)) l env = pure true := by
  have ky : env.kindOf y = some .local := hy
  have hb : env.blockKind = .function := by unfold Env.blockKind; rw [hk]; rfl
  unfold swapsWith
  simp only [hb, ky, ha, Expr.pos, hl]
  rfl
end
end BL
set_option Elab.async false
set_option linter.all false
set_option maxRecDepth 100000
set_option maxHeartbeats 4000000
/-! Heaps that grow, and what stands in them; a comprehension by its one turn. -/
namespace BL
open PySem L2
/-- all tuples stay -/
def TK (H H' : Hp) : Prop := ∀ t xs, H t = some (.tup xs) → H' t = some (.tup xs)
theorem TK.refl (H : Hp) : TK H H := fun _ _ h => h
theorem TK.trans {H H1 H2 : Hp} (a : TK H H1) (b : TK H1 H2) : TK H H2 := fun t xs h => b t xs (a t xs h)
theorem tk_of {H H' : Hp} (s : Same H H') : TK H H' := fun t xs h => s t _ h
theorem tk_lst {H : Hp} {D : Addr} {xs : List V} {o : HO} (h : H D = some (.lst xs)) : TK H (upd H D o) := fun t ys e => by
  rw [upd_ne (ne_of e h (by intro z; cases z))]; exact e
theorem tk_dT {H : Hp} {D : Addr} {xs : List (List Key × V)} {o : HO} (h : H D = some (.dT xs)) : TK H (upd H D o) := fun t ys e => by
  rw [upd_ne (ne_of e h (by intro z; cases z))]; exact e
theorem tk_dK {H : Hp} {D : Addr} {xs : List (Key × V)} {o : HO} (h : H D = some (.dK xs)) : TK H (upd H D o) := fun t ys e => by
  rw [upd_ne (ne_of e h (by intro z; cases z))]; exact e
/-- a new object -/
theorem same_new {H : Hp} {p : Addr} {o : HO} (h : H p = none) : Same H (upd H p o) := fun b u e => by
  rw [upd_ne (ne_of_none e h)]; exact e
/-- a change at what was not there at first -/
theorem same_put {H H' : Hp} {p : Addr} {o : HO} (s : Same H H') (h : H p = none) : Same H (upd H' p o) := fun b u e => by
  rw [upd_ne (ne_of_none e h)]; exact s b u e
theorem same_seqT {K : PySem.W.Frag} {H H' : Hp} {a : Addr} {xs : List V} (e : Same H H') (h : SqT K H a xs) : SqT K H' a xs := by
  rcases h with (h | ⟨o, h⟩) | h
  · exact .inl (.inl (e _ _ h))
  · exact .inl (.inr ⟨o, e _ _ h⟩)
  · exact .inr h
theorem same_rd {H H' : Hp} {a : Addr} {u : HO} (e : Same H H') (h : Rd H a u) : Rd H' a u := by
  rcases h with h | ⟨o, h⟩
  · exact .inl (e _ _ h)
  · exact .inr ⟨o, e _ _ h⟩
/-! ### what values stand for -/
/-- v is the number n -/
def IsN (_ : Hp) (v : V) (n : Nat) : Prop := v = vn n
/-- v is a tuple of two numbers -/
def IsP (H : Hp) (v : V) (p : Nat × Nat) : Prop := ∃ t, v = .ref t ∧ H t = some (.tup [vn p.1, vn p.2])
/-- .. or None -/
def IsO (H : Hp) (v : V) : Option (Nat × Nat) → Prop
  | none => v = .non
  | some p => IsP H v p
/-- v is a tuple of numbers -/
def IsT (H : Hp) (v : V) (ns : List Nat) : Prop := ∃ t, v = .ref t ∧ H t = some (.tup (ns.map vn))
/-- v is a list of numbers, at another place than D -/
def IsL (D : Addr) (H : Hp) (v : V) (ns : List Nat) : Prop := ∃ t, v = .ref t ∧ t ≠ D ∧ H t = some (.lst (ns.map vn))
/-- v is a tuple (number, pair) -/
def IsS (H : Hp) (v : V) (s : Nat × (Nat × Nat)) : Prop := ∃ t q, v = .ref t ∧ H t = some (.tup [vn s.1, .ref q]) ∧ H q = some (.tup [vn s.2.1, vn s.2.2])
/-- R leans on tuples alone -/
def Tups {β : Type} (R : Hp → V → β → Prop) : Prop := ∀ H H', TK H H' → ∀ v b, R H v b → R H' v b
theorem tups_N : Tups IsN := fun _ _ _ _ _ h => h
theorem tups_P : Tups IsP := fun _ _ k _ _ ⟨t, e, h⟩ => ⟨t, e, k _ _ h⟩
theorem tups_O : Tups IsO := fun _ _ k _ b h => by
  cases b with
  | none => exact h
  | some p => exact tups_P _ _ k _ p h
theorem tups_T : Tups IsT := fun _ _ k _ _ ⟨t, e, h⟩ => ⟨t, e, k _ _ h⟩
theorem tups_S : Tups IsS := fun _ _ k _ _ ⟨t, q, e, h, h'⟩ => ⟨t, q, e, k _ _ h, k _ _ h'⟩
theorem Tups.all {β : Type} {R : Hp → V → β → Prop} (r : Tups R) {H H' : Hp} (k : TK H H') {vs : List V} {bs : List β} (h : Paired (R H) vs bs) : Paired (R H') vs bs := Paired.mapP h fun a b q => r _ _ k a b q
theorem paired_N {H : Hp} : ∀ {vs : List V} {ns : List Nat}, Paired (IsN H) vs ns → vs = ns.map vn
  | _, _, .nil => rfl
  | _, _, .cons r t => by rw [show _ = vn _ from r, paired_N t]; rfl
theorem paired_map {α β : Type} {F : V → β → Prop} {g : α → V} {f : α → β} : ∀ (l : List α), (∀ a ∈ l, F (g a) (f a)) → Paired F (l.map g) (l.map f)
  | [], _ => .nil
  | a :: l, h => .cons (h a (List.mem_cons_self ..)) (paired_map l fun b hb => h b (List.mem_cons_of_mem _ hb))
theorem paired_N' {H : Hp} : ∀ (ns : List Nat), Paired (IsN H) (ns.map vn) ns
  | [] => .nil
  | n :: ns => .cons rfl (paired_N' ns)
theorem paired_at {β : Type} {F : V → β → Prop} : ∀ {vs : List V} {bs : List β}, Paired F vs bs → ∀ {i : Nat} {v : V}, vs[i]? = some v → ∃ b, bs[i]? = some b ∧ F v b
  | _, _, .nil, i, v, h => by simp at h
  | _, _, .cons r t, 0, v, h => by simp at h; subst h; exact ⟨_, rfl, r⟩
  | _, _, .cons r t, i + 1, v, h => by simpa using paired_at t (by simpa using h)
theorem paired_at' {β : Type} {F : V → β → Prop} : ∀ {vs : List V} {bs : List β}, Paired F vs bs → ∀ {i : Nat} {b : β}, bs[i]? = some b → ∃ v, vs[i]? = some v ∧ F v b
  | _, _, .nil, i, v, h => by simp at h
  | _, _, .cons r t, 0, v, h => by simp at h; subst h; exact ⟨_, rfl, r⟩
  | _, _, .cons r t, i + 1, v, h => by simpa using paired_at' t (by simpa using h)
theorem vmap_at {ns : List Nat} {i : Nat} {v : V} (h : (ns.map vn)[i]? = some v) : ∃ n, ns[i]? = some n ∧ v = vn n := by
  rw [List.getElem?_map] at h
  cases e : ns[i]? with
  | none => rw [e] at h; cases h
  | some n => rw [e] at h; exact ⟨n, rfl, (Option.some.inj h).symm⟩
theorem vmap_ints (ns : List Nat) : ns.map vn = (ns.map (fun n : Nat => (n : Int))).map V.int := by
  rw [List.map_map]; rfl
theorem atN {xs : List V} {j : Nat} {v : V} (h : xs[j]? = some v) : atI xs ((j : Nat) : Int) = some v := atI_nat h
theorem at_map {ns : List Nat} {j n : Nat} (h : ns[j]? = some n) : atI (ns.map vn) ((j : Nat) : Int) = some (vn n) := atI_nat (by rw [List.getElem?_map, h]; rfl)
theorem at_map' {ns : List Nat} {j n : Nat} {z : Int} (hz : z = ((j : Nat) : Int)) (h : ns[j]? = some n) : atI (ns.map vn) z = some (vn n) := by rw [hz]; exact at_map h
theorem sz_le {n : Nat} (h : n ≤ 100000) : n < sizeLine := Nat.lt_of_le_of_lt h (by decide)
theorem yesT {A B : Hp → Prop} {σ : St} {H : Hp} (h : A H) : tYes σ H (fun b H3 => if b = true then A H3 else B H3) := by
  show (if true = true then A H else B H)
  rw [if_pos rfl]; exact h
/-! ### a comprehension -/
/-- what is wanted of a turn: none: the item is left out -/
abbrev QT := Option V → Hp → Prop
section
variable {β : Type} {g : TG} {tt : TT} {te : TE} {ws : List Nat} {σ : St} {H1 : Hp} {D : Addr} {Qd : Hp → Prop}
/-- the turn's reading with a wish of one letter -/
def turnOf (g : TG) (tt : TT) (te : TE) (ws : List Nat) (σ : St) (x : V) (H : Hp) (Q : QT) : Prop :=
  g x (wipe σ ws) H fun σ2 H2 => wipe σ2 ws = wipe σ ws ∧ tt σ2 H2 fun b H3 => if b = true then te σ2 H3 fun y H4 => Q (some y) H4 else Q none H3
/-- between two turns: the items of os so far, those that stayed, stand in the list at D -/
def CInv (R : Hp → V → β → Prop) (H1 : Hp) (D : Addr) (os : List (Option β)) (i : Nat) (H : Hp) : Prop :=
  Same H1 H ∧ ∃ acc, H D = some (.lst acc) ∧ acc.length ≤ i ∧ Paired (R H) acc ((os.take i).filterMap id)
theorem take_snoc {α : Type} {l : List α} {i : Nat} {a : α} (h : l[i]? = some a) : l.take (i + 1) = l.take i ++ [a] := by
  rw [List.take_add_one, h]; rfl
/-- the shape of the comprehension's turns, over any source: the wish of a turn at i -/
theorem cinv_turn {R : Hp → V → β → Prop} {os : List (Option β)} (hS : ∀ (H H' : Hp), Same H H' → ∀ v b, R H v b → R H' v b) (hU : ∀ (H : Hp) (acc acc' : List V), H D = some (.lst acc) → ∀ v b, R H v b → R (upd H D (.lst acc')) v b)
    (hD : H1 D = none) (hsz : os.length < sizeLine) {i : Nat} {o : Option β} (ho : os[i]? = some o) {H : Hp} (I : CInv R H1 D os i H) {x : V} {H0 : Hp} (s0 : Same H H0)
    (turn : ∀ Q : QT, (∀ H', Same H H' → o = none → Q none H') → (∀ (y : V) (b : β) (H' : Hp), Same H H' → o = some b → R H' y b → Q (some y) H') → turnOf g tt te ws σ x H0 Q)
    (mono : ∀ Q Q' : QT, True → True) :
    turnOf g tt te ws σ x H0 fun v H4 => match v with
      | some y => ∃ acc, H4 D = some (.lst acc) ∧ acc.length < sizeLine ∧ CInv R H1 D os (i + 1) (upd H4 D (.lst (acc ++ [y])))
      | none => CInv R H1 D os (i + 1) H4 := by
  obtain ⟨s, acc, hd, hl, hp⟩ := I
  have hi : i < os.length := (List.getElem?_eq_some_iff.mp ho).1
  refine turn _ (fun H' s' e => ?_) (fun y b H' s' e r => ?_)
  · refine ⟨s.trans s', acc, s' _ _ hd, Nat.le_succ_of_le hl, ?_⟩
    rw [take_snoc ho, List.filterMap_append, e]
    show Paired (R H') acc (((os.take i).filterMap id) ++ [])
    rw [List.append_nil]
    exact Paired.mapP hp fun a b q => hS _ _ s' a b q
  · have hd' := s' _ _ hd
    refine ⟨acc, hd', by omega, same_put (s.trans s') hD, acc ++ [y], upd_same, by rw [List.length_append]; exact Nat.succ_le_succ hl, ?_⟩
    rw [take_snoc ho, List.filterMap_append, e]
    show Paired _ (acc ++ [y]) (((os.take i).filterMap id) ++ [b])
    exact Paired.snoc (Paired.mapP hp fun a b q => hU _ _ _ hd' a b (hS _ _ s' a b q)) (hU _ _ _ hd' y b r)
/-- the goal of a turn as pe_lc asks it -/
theorem turn_to {x : V} {H0 : Hp} {I' : Hp → Prop} (h : turnOf g tt te ws σ x H0 fun v H4 => match v with
      | some y => ∃ acc, H4 D = some (.lst acc) ∧ acc.length < sizeLine ∧ I' (upd H4 D (.lst (acc ++ [y])))
      | none => I' H4) :
    g x (wipe σ ws) H0 fun σ2 H2 => wipe σ2 ws = wipe σ ws ∧ tt σ2 H2 fun b H3 => if b = true then te σ2 H3 fun y H4 => ∃ acc, H4 D = some (.lst acc) ∧ acc.length < sizeLine ∧ I' (upd H4 D (.lst (acc ++ [y]))) else I' H3 := h
theorem cinv_end {R : Hp → V → β → Prop} {os : List (Option β)} {H : Hp} (I : CInv R H1 D os os.length H) : Same H1 H ∧ ∃ acc, H D = some (.lst acc) ∧ acc.length ≤ os.length ∧ Paired (R H) acc (os.filterMap id) := by
  obtain ⟨s, acc, a, b, c⟩ := I
  rw [List.take_length] at c
  exact ⟨s, acc, a, b, c⟩
theorem cinv_start {R : Hp → V → β → Prop} {os : List (Option β)} (hD : H1 D = none) : CInv R H1 D os 0 (upd H1 D (.lst [])) :=
  ⟨same_new hD, [], upd_same, Nat.le_refl _, .nil⟩
/-- over a list -/
theorem comp_list {K : PySem.W.Frag} {a : Addr} {xs : List V} (R : Hp → V → β → Prop) (os : List (Option β)) (hlen : os.length = xs.length) (hsz : os.length < sizeLine)
    (hS : ∀ (H H' : Hp), Same H H' → ∀ v b, R H v b → R H' v b) (hU : ∀ (H : Hp) (acc acc' : List V), H D = some (.lst acc) → ∀ v b, R H v b → R (upd H D (.lst acc')) v b)
    (hD : H1 D = none) (ha : SqL K H1 a xs)
    (turn : ∀ (i : Nat) (x : V) (o : Option β) (H : Hp), xs[i]? = some x → os[i]? = some o → Same H1 H → ∀ Q : QT, (∀ H', Same H H' → o = none → Q none H') → (∀ (y : V) (b : β) (H' : Hp), Same H H' → o = some b → R H' y b → Q (some y) H') → turnOf g tt te ws σ x H Q)
    (done : ∀ (H : Hp) (acc : List V), Same H1 H → H D = some (.lst acc) → Paired (R H) acc (os.filterMap id) → Qd H) :
    ∃ W : Nat → Nat → Hp → Prop, (∃ m, W 0 m (upd H1 D (.lst []))) ∧ ∀ i m H, W i m H →
      ((Itl K a).stop i H ∧ Qd H) ∨ ((Itl K a).go i H ∧ ∃ Nx : Hp → Prop, (∀ H', Nx H' → ∃ m', m' < m ∧ W (i + 1) m' H') ∧ ∀ x H', (Itl K a).yld i H x H' → g x (wipe σ ws) H' fun σ2 H2 => wipe σ2 ws = wipe σ ws ∧ tt σ2 H2 fun b H3 =>
        if b = true then te σ2 H3 fun y H4 => ∃ acc, H4 D = some (.lst acc) ∧ acc.length < sizeLine ∧ Nx (upd H4 D (.lst (acc ++ [y]))) else Nx H3) := by
  refine lc_list (K := K) (a := a) (xs := xs) (CInv R H1 D os) (cinv_start hD) (fun i H _ I => I.1.seq ha) (fun i x H hx I => ?_) (fun H I => ?_)
  · have hi : i < xs.length := (List.getElem?_eq_some_iff.mp hx).1
    obtain ⟨o, ho⟩ : ∃ o, os[i]? = some o := ⟨os[i]'(by omega), List.getElem?_eq_getElem (by omega)⟩
    exact turn_to (cinv_turn hS hU hD hsz ho I (Same.refl H) (turn i x o H hx ho I.1) fun _ _ _ => trivial)
  · rw [← hlen] at I
    obtain ⟨s, acc, a1, _, c⟩ := cinv_end I
    exact done H acc s a1 c
/-- over a tuple -/
theorem comp_tup {K : PySem.W.Frag} {a : Addr} {xs : List V} (R : Hp → V → β → Prop) (os : List (Option β)) (hlen : os.length = xs.length) (hsz : os.length < sizeLine)
    (hS : ∀ (H H' : Hp), Same H H' → ∀ v b, R H v b → R H' v b) (hU : ∀ (H : Hp) (acc acc' : List V), H D = some (.lst acc) → ∀ v b, R H v b → R (upd H D (.lst acc')) v b)
    (hD : H1 D = none) (ha : SqT K H1 a xs)
    (turn : ∀ (i : Nat) (x : V) (o : Option β) (H : Hp), xs[i]? = some x → os[i]? = some o → Same H1 H → ∀ Q : QT, (∀ H', Same H H' → o = none → Q none H') → (∀ (y : V) (b : β) (H' : Hp), Same H H' → o = some b → R H' y b → Q (some y) H') → turnOf g tt te ws σ x H Q)
    (done : ∀ (H : Hp) (acc : List V), Same H1 H → H D = some (.lst acc) → Paired (R H) acc (os.filterMap id) → Qd H) :
    ∃ W : Nat → Nat → Hp → Prop, (∃ m, W 0 m (upd H1 D (.lst []))) ∧ ∀ i m H, W i m H →
      ((Itt K a).stop i H ∧ Qd H) ∨ ((Itt K a).go i H ∧ ∃ Nx : Hp → Prop, (∀ H', Nx H' → ∃ m', m' < m ∧ W (i + 1) m' H') ∧ ∀ x H', (Itt K a).yld i H x H' → g x (wipe σ ws) H' fun σ2 H2 => wipe σ2 ws = wipe σ ws ∧ tt σ2 H2 fun b H3 =>
        if b = true then te σ2 H3 fun y H4 => ∃ acc, H4 D = some (.lst acc) ∧ acc.length < sizeLine ∧ Nx (upd H4 D (.lst (acc ++ [y]))) else Nx H3) := by
  refine lc_tup (K := K) (a := a) (xs := xs) (CInv R H1 D os) (cinv_start hD) (fun i H _ I => same_seqT I.1 ha) (fun i x H hx I => ?_) (fun H I => ?_)
  · have hi : i < xs.length := (List.getElem?_eq_some_iff.mp hx).1
    obtain ⟨o, ho⟩ : ∃ o, os[i]? = some o := ⟨os[i]'(by omega), List.getElem?_eq_getElem (by omega)⟩
    exact turn_to (cinv_turn hS hU hD hsz ho I (Same.refl H) (turn i x o H hx ho I.1) fun _ _ _ => trivial)
  · rw [← hlen] at I
    obtain ⟨s, acc, a1, _, c⟩ := cinv_end I
    exact done H acc s a1 c
/-- over range(n) -/
theorem comp_range {lo : Int} {n : Nat} (R : Hp → V → β → Prop) (os : List (Option β)) (hlen : os.length = n) (hsz : os.length < sizeLine)
    (hS : ∀ (H H' : Hp), Same H H' → ∀ v b, R H v b → R H' v b) (hU : ∀ (H : Hp) (acc acc' : List V), H D = some (.lst acc) → ∀ v b, R H v b → R (upd H D (.lst acc')) v b)
    (hD : H1 D = none)
    (turn : ∀ (i : Nat) (o : Option β) (H : Hp), i < n → os[i]? = some o → Same H1 H → ∀ Q : QT, (∀ H', Same H H' → o = none → Q none H') → (∀ (y : V) (b : β) (H' : Hp), Same H H' → o = some b → R H' y b → Q (some y) H') → turnOf g tt te ws σ (.int (lo + i)) H Q)
    (done : ∀ (H : Hp) (acc : List V), Same H1 H → H D = some (.lst acc) → Paired (R H) acc (os.filterMap id) → Qd H) :
    ∃ W : Nat → Nat → Hp → Prop, (∃ m, W 0 m (upd H1 D (.lst []))) ∧ ∀ i m H, W i m H →
      ((Itr lo n).stop i H ∧ Qd H) ∨ ((Itr lo n).go i H ∧ ∃ Nx : Hp → Prop, (∀ H', Nx H' → ∃ m', m' < m ∧ W (i + 1) m' H') ∧ ∀ x H', (Itr lo n).yld i H x H' → g x (wipe σ ws) H' fun σ2 H2 => wipe σ2 ws = wipe σ ws ∧ tt σ2 H2 fun b H3 =>
        if b = true then te σ2 H3 fun y H4 => ∃ acc, H4 D = some (.lst acc) ∧ acc.length < sizeLine ∧ Nx (upd H4 D (.lst (acc ++ [y]))) else Nx H3) := by
  refine lc_range (lo := lo) (n := n) (CInv R H1 D os) (cinv_start hD) (fun i H hi I => ?_) (fun H I => ?_)
  · obtain ⟨o, ho⟩ : ∃ o, os[i]? = some o := ⟨os[i]'(by omega), List.getElem?_eq_getElem (by omega)⟩
    exact turn_to (cinv_turn hS hU hD hsz ho I (Same.refl H) (turn i o H hi ho I.1) fun _ _ _ => trivial)
  · rw [← hlen] at I
    obtain ⟨s, acc, a1, _, c⟩ := cinv_end I
    exact done H acc s a1 c
/-- over enumerate(list) -/
theorem comp_enum {K : PySem.W.Frag} {a : Addr} {xs : List V} (R : Hp → V → β → Prop) (os : List (Option β)) (hlen : os.length = xs.length) (hsz : os.length < sizeLine)
    (hS : ∀ (H H' : Hp), Same H H' → ∀ v b, R H v b → R H' v b) (hU : ∀ (H : Hp) (acc acc' : List V), H D = some (.lst acc) → ∀ v b, R H v b → R (upd H D (.lst acc')) v b)
    (hD : H1 D = none) (ha : SqL K H1 a xs)
    (turn : ∀ (i : Nat) (x : V) (o : Option β) (H : Hp) (T : Addr), xs[i]? = some x → os[i]? = some o → Same H1 H → H T = some (.tup [vn i, x]) → ∀ Q : QT, (∀ H', Same H H' → o = none → Q none H') → (∀ (y : V) (b : β) (H' : Hp), Same H H' → o = some b → R H' y b → Q (some y) H') → turnOf g tt te ws σ (.ref T) H Q)
    (done : ∀ (H : Hp) (acc : List V), Same H1 H → H D = some (.lst acc) → Paired (R H) acc (os.filterMap id) → Qd H) :
    ∃ W : Nat → Nat → Hp → Prop, (∃ m, W 0 m (upd H1 D (.lst []))) ∧ ∀ i m H, W i m H →
      ((Ite K a).stop i H ∧ Qd H) ∨ ((Ite K a).go i H ∧ ∃ Nx : Hp → Prop, (∀ H', Nx H' → ∃ m', m' < m ∧ W (i + 1) m' H') ∧ ∀ x H', (Ite K a).yld i H x H' → g x (wipe σ ws) H' fun σ2 H2 => wipe σ2 ws = wipe σ ws ∧ tt σ2 H2 fun b H3 =>
        if b = true then te σ2 H3 fun y H4 => ∃ acc, H4 D = some (.lst acc) ∧ acc.length < sizeLine ∧ Nx (upd H4 D (.lst (acc ++ [y]))) else Nx H3) := by
  refine ⟨fun i m H => m = xs.length - i ∧ i ≤ xs.length ∧ CInv R H1 D os i H, ⟨xs.length, by simp, Nat.zero_le _, cinv_start hD⟩, ?_⟩
  rintro i m H ⟨rfl, hi, I⟩
  have q := I.1.seq ha
  by_cases hlt : i < xs.length
  · refine .inr ⟨⟨xs, xs[i], q, by simp [hlt]⟩, CInv R H1 D os (i + 1), fun H' p' => ⟨xs.length - (i + 1), by omega, rfl, hlt, p'⟩, fun x H' y => ?_⟩
    obtain ⟨T, z, rfl, hT, rfl, hz⟩ := y
    have hx := hz xs q
    obtain ⟨o, ho⟩ : ∃ o, os[i]? = some o := ⟨os[i]'(by omega), List.getElem?_eq_getElem (by omega)⟩
    have s0 : Same H (upd H T (.tup [.int (i : Nat), z])) := same_new hT
    exact turn_to (cinv_turn hS hU hD hsz ho I s0 (fun Q h1 h2 => turn i z o _ T hx ho (I.1.trans s0) upd_same Q (fun H' s' e => h1 H' (s0.trans s') e) fun y b H' s' e r => h2 y b H' (s0.trans s') e r) fun _ _ _ => trivial)
  · have e : i = xs.length := by omega
    subst e
    refine .inl ⟨⟨xs, q, Nat.le_refl _⟩, ?_⟩
    rw [← hlen] at I
    obtain ⟨s, acc, a1, _, c⟩ := cinv_end I
    exact done H acc s a1 c
end
/-- a for over enumerate(list), the list left as it is -/
theorem for_enum {K : PySem.W.Frag} {a : Addr} {xs : List V} {g : TG} {tb : TS} {D : Ends} {σ : St} {H : Hp} (Pv : Nat → St → Hp → Prop) (h0 : Pv 0 σ H) (hl : ∀ i σ H, i ≤ xs.length → Pv i σ H → SqL K H a xs)
    (hs : ∀ (i : Nat) (x : V) (σ : St) (H : Hp) (T : Addr), xs[i]? = some x → Pv i σ H → H T = none → g (.ref T) σ (upd H T (.tup [vn i, x])) fun σ2 H2 => tb { D with nx := Pv (i + 1), ct := Pv (i + 1), bk := D.nx } σ2 H2) (hd : ∀ σ H, Pv xs.length σ H → D.nx σ H) :
    ∃ W : Nat → Nat → St → Hp → Prop, (∃ m, W 0 m σ H) ∧ ∀ i m σ H, W i m σ H →
      ((Ite K a).stop i H ∧ D.nx σ H) ∨ ((Ite K a).go i H ∧ ∃ N : St → Hp → Prop, (∀ σ' H', N σ' H' → ∃ m', m' < m ∧ W (i + 1) m' σ' H') ∧ ∀ x H', (Ite K a).yld i H x H' → g x σ H' fun σ2 H2 => tb { D with nx := N, ct := N, bk := D.nx } σ2 H2) := by
  refine ⟨fun i m σ H => m = xs.length - i ∧ i ≤ xs.length ∧ Pv i σ H, ⟨xs.length, by simp, Nat.zero_le _, h0⟩, ?_⟩
  rintro i m σ H ⟨rfl, hi, p⟩
  have q := hl i σ H hi p
  by_cases hlt : i < xs.length
  · refine .inr ⟨⟨xs, xs[i], q, by simp [hlt]⟩, Pv (i + 1), fun σ' H' p' => ⟨xs.length - (i + 1), by omega, rfl, hlt, p'⟩, fun x H' y => ?_⟩
    obtain ⟨T, z, rfl, hT, rfl, hz⟩ := y
    exact hs i z σ _ T (hz xs q) p hT
  · have e : i = xs.length := by omega
    subst e
    exact .inl ⟨⟨xs, q, Nat.le_refl _⟩, hd σ H p⟩
/-- a for over the keys of a locked dict -/
theorem for_keys {d : Addr} {o : Obj} {kvs : List (Key × V)} {g : TG} {tb : TS} {D : Ends} {σ : St} {H : Hp} (Pv : Nat → St → Hp → Prop) (h0 : Pv 0 σ H) (hl : ∀ i σ H, i ≤ kvs.length → Pv i σ H → H d = some (.frz o (.dK kvs)))
    (hs : ∀ (i : Nat) (k : Key) (v : V) (σ : St) (H : Hp), kvs[i]? = some (k, v) → Pv i σ H → g (kV k) σ H fun σ2 H2 => tb { D with nx := Pv (i + 1), ct := Pv (i + 1), bk := D.nx } σ2 H2) (hd : ∀ σ H, Pv kvs.length σ H → D.nx σ H) :
    ∃ W : Nat → Nat → St → Hp → Prop, (∃ m, W 0 m σ H) ∧ ∀ i m σ H, W i m σ H →
      ((Itk d o kvs).stop i H ∧ D.nx σ H) ∨ ((Itk d o kvs).go i H ∧ ∃ N : St → Hp → Prop, (∀ σ' H', N σ' H' → ∃ m', m' < m ∧ W (i + 1) m' σ' H') ∧ ∀ x H', (Itk d o kvs).yld i H x H' → g x σ H' fun σ2 H2 => tb { D with nx := N, ct := N, bk := D.nx } σ2 H2) := by
  refine ⟨fun i m σ H => m = kvs.length - i ∧ i ≤ kvs.length ∧ Pv i σ H, ⟨kvs.length, by simp, Nat.zero_le _, h0⟩, ?_⟩
  rintro i m σ H ⟨rfl, hi, p⟩
  have q := hl i σ H hi p
  by_cases hlt : i < kvs.length
  · refine .inr ⟨⟨q, hlt⟩, Pv (i + 1), fun σ' H' p' => ⟨kvs.length - (i + 1), by omega, rfl, hlt, p'⟩, fun x H' y => ?_⟩
    obtain ⟨rfl, k, v, hk, rfl⟩ := y
    exact hs i k v σ _ hk p
  · have e : i = kvs.length := by omega
    subst e
    exact .inl ⟨⟨q, Nat.le_refl _⟩, hd σ H p⟩
theorem Tups.same {β : Type} {R : Hp → V → β → Prop} (r : Tups R) : ∀ H H', Same H H' → ∀ v b, R H v b → R H' v b := fun _ _ s v b h => r _ _ (tk_of s) v b h
theorem Tups.updL {β : Type} {R : Hp → V → β → Prop} (r : Tups R) {D : Addr} : ∀ H acc acc', H D = some (.lst acc) → ∀ v b, R H v b → R (upd H D (.lst acc')) v b := fun _ _ _ h v b q => r _ _ (tk_lst h) v b q
end BL
set_option Elab.async false
set_option linter.all false
set_option maxRecDepth 100000
set_option maxHeartbeats 4000000
namespace BL
open PySem L2
abbrev s_pairs_among : Stmt := top 4
abbrev N_pairs_among : List Str := ["holders", "low", "high"]
theorem sc_pairs_among : FnScope N_pairs_among ["holders"] (defScope s_pairs_among) := ⟨rfl, rfl, rfl, by decide +kernel, rfl, by decide +kernel, by decide +kernel⟩
abbrev s_has_twice : Stmt := top 5
abbrev N_has_twice : List Str := ["numbers"]
theorem sc_has_twice : FnScope N_has_twice ["numbers"] (defScope s_has_twice) := ⟨rfl, rfl, rfl, by decide +kernel, rfl, by decide +kernel, by decide +kernel⟩
abbrev s_are_below : Stmt := top 6
abbrev N_are_below : List Str := ["numbers", "limit", "number"]
theorem sc_are_below : FnScope N_are_below ["numbers", "limit"] (defScope s_are_below) := ⟨rfl, rfl, rfl, by decide +kernel, rfl, by decide +kernel, by decide +kernel⟩
abbrev s_clean_holders : Stmt := top 7
abbrev N_clean_holders : List Str := ["holders", "seats"]
theorem sc_clean_holders : FnScope N_clean_holders ["holders", "seats"] (defScope s_clean_holders) := ⟨rfl, rfl, rfl, by decide +kernel, rfl, by decide +kernel, by decide +kernel⟩
abbrev s_pool : Stmt := inClass (top 9) 0
abbrev N_pool : List Str := ["self", "caps", "holders", "rows", "row"]
theorem sc_pool : FnScope N_pool ["self", "caps", "holders"] (defScope s_pool) := ⟨rfl, rfl, rfl, by decide +kernel, rfl, by decide +kernel, by decide +kernel⟩
abbrev s_pair_room : Stmt := top 10
abbrev N_pair_room : List Str := ["pool", "pair"]
theorem sc_pair_room : FnScope N_pair_room ["pool", "pair"] (defScope s_pair_room) := ⟨rfl, rfl, rfl, by decide +kernel, rfl, by decide +kernel, by decide +kernel⟩
abbrev s_held_pairs : Stmt := top 11
abbrev N_held_pairs : List Str := ["pool", "piece", "pair"]
theorem sc_held_pairs : FnScope N_held_pairs ["pool", "piece"] (defScope s_held_pairs) := ⟨rfl, rfl, rfl, by decide +kernel, rfl, by decide +kernel, by decide +kernel⟩
abbrev s_pieces_on : Stmt := top 13
abbrev N_pieces_on : List Str := ["dealing", "found", "piece", "pair"]
theorem sc_pieces_on : FnScope N_pieces_on ["dealing"] (defScope s_pieces_on) := ⟨rfl, rfl, rfl, by decide +kernel, rfl, by decide +kernel, by decide +kernel⟩
abbrev s_forest : Stmt := top 14
abbrev N_forest : List Str := ["pool", "dealt", "roots", "before", "root", "row", "looked", "current", "pair", "piece"]
theorem sc_forest : FnScope N_forest ["pool", "dealt", "roots"] (defScope s_forest) := ⟨rfl, rfl, rfl, by decide +kernel, rfl, by decide +kernel, by decide +kernel⟩
abbrev s_free_pair : Stmt := top 15
abbrev N_free_pair : List Str := ["pool", "dealt", "piece", "pair"]
theorem sc_free_pair : FnScope N_free_pair ["pool", "dealt", "piece"] (defScope s_free_pair) := ⟨rfl, rfl, rfl, by decide +kernel, rfl, by decide +kernel, by decide +kernel⟩
abbrev s_walk_back : Stmt := top 16
abbrev N_walk_back : List Str := ["dealing", "before", "piece", "pair", "steps"]
theorem sc_walk_back : FnScope N_walk_back ["dealing", "before", "piece", "pair"] (defScope s_walk_back) := ⟨rfl, rfl, rfl, by decide +kernel, rfl, by decide +kernel, by decide +kernel⟩
abbrev s_find_walk : Stmt := top 17
abbrev N_find_walk : List Str := ["pool", "dealing", "pieces", "roots", "piece", "pair", "dealt", "before"]
theorem sc_find_walk : FnScope N_find_walk ["pool", "dealing", "pieces"] (defScope s_find_walk) := ⟨rfl, rfl, rfl, by decide +kernel, rfl, by decide +kernel, by decide +kernel⟩
abbrev s_take_walk : Stmt := top 18
abbrev N_take_walk : List Str := ["dealing", "walk", "after", "piece", "pair"]
theorem sc_take_walk : FnScope N_take_walk ["dealing", "walk"] (defScope s_take_walk) := ⟨rfl, rfl, rfl, by decide +kernel, rfl, by decide +kernel, by decide +kernel⟩
abbrev s_by_worth : Stmt := top 20
abbrev N_by_worth : List Str := ["worths", "rank", "piece", "worth"]
theorem sc_by_worth : FnScope N_by_worth ["worths"] (defScope s_by_worth) := ⟨rfl, rfl, rfl, by decide +kernel, rfl, by decide +kernel, by decide +kernel⟩
abbrev s_best_lot : Stmt := top 21
abbrev N_best_lot : List Str := ["pool", "worths", "dealing", "piece", "walk", "pair"]
theorem sc_best_lot : FnScope N_best_lot ["pool", "worths"] (defScope s_best_lot) := ⟨rfl, rfl, rfl, by decide +kernel, rfl, by decide +kernel, by decide +kernel⟩
abbrev s_l_cell : Stmt := top 23
abbrev N_l_cell : List Str := ["_law_script", "_law_k"]
theorem sc_l_cell : FnScope N_l_cell ["_law_script", "_law_k"] (defScope s_l_cell) := ⟨rfl, rfl, rfl, by decide +kernel, rfl, by decide +kernel, by decide +kernel⟩
abbrev s_l_draws : Stmt := top 24
abbrev N_l_draws : List Str := ["_law_cell_here", "_law_sizes", "_law_left", "_law_digits", "_law_drawn", "_law_k", "_law_size", "_law_mixed"]
theorem sc_l_draws : FnScope N_l_draws ["_law_cell_here", "_law_sizes"] (defScope s_l_draws) := ⟨rfl, rfl, rfl, by decide +kernel, rfl, by decide +kernel, by decide +kernel⟩
abbrev s_l_bits : Stmt := top 25
abbrev N_l_bits : List Str := ["_law_mask", "_law_count", "_law_k"]
theorem sc_l_bits : FnScope N_l_bits ["_law_mask", "_law_count"] (defScope s_l_bits) := ⟨rfl, rfl, rfl, by decide +kernel, rfl, by decide +kernel, by decide +kernel⟩
abbrev s_l_pairs : Stmt := top 26
abbrev N_l_pairs : List Str := ["_law_seats", "_law_pairs_here", "_law_low", "_law_high"]
theorem sc_l_pairs : FnScope N_l_pairs ["_law_seats"] (defScope s_l_pairs) := ⟨rfl, rfl, rfl, by decide +kernel, rfl, by decide +kernel, by decide +kernel⟩
abbrev s_l_pool : Stmt := top 27
abbrev N_l_pool : List Str := ["_law_cell_here", "_law_most", "_law_drawn", "_law_seats", "_law_caps", "_law_k", "_law_pairs_here", "_law_holders", "_law_p", "_law_held", "_law_pair"]
theorem sc_l_pool : FnScope N_l_pool ["_law_cell_here", "_law_most"] (defScope s_l_pool) := ⟨rfl, rfl, rfl, by decide +kernel, rfl, by decide +kernel, by decide +kernel⟩
abbrev s_l_lots : Stmt := top 28
abbrev N_l_lots : List Str := ["_law_count", "_law_lots_here", "_law_p", "_law_lot"]
theorem sc_l_lots : FnScope N_l_lots ["_law_count"] (defScope s_l_lots) := ⟨rfl, rfl, rfl, by decide +kernel, rfl, by decide +kernel, by decide +kernel⟩
abbrev s_l_places : Stmt := top 29
abbrev N_l_places : List Str := ["_law_caps", "_law_holders", "_law_lot", "_law_total", "_law_pair", "_law_p"]
theorem sc_l_places : FnScope N_l_places ["_law_caps", "_law_holders", "_law_lot"] (defScope s_l_places) := ⟨rfl, rfl, rfl, by decide +kernel, rfl, by decide +kernel, by decide +kernel⟩
abbrev s_l_is_integer : Stmt := top 30
abbrev N_l_is_integer : List Str := ["_law_actual"]
theorem sc_l_is_integer : FnScope N_l_is_integer ["_law_actual"] (defScope s_l_is_integer) := ⟨rfl, rfl, rfl, by decide +kernel, rfl, by decide +kernel, by decide +kernel⟩
abbrev s_l_apart : Stmt := top 31
abbrev N_l_apart : List Str := ["_law_cell_here", "_law_drawn", "_law_seats", "_law_pairs_here", "_law_caps", "_law_k", "_law_holders", "_law_p"]
theorem sc_l_apart : FnScope N_l_apart ["_law_cell_here"] (defScope s_l_apart) := ⟨rfl, rfl, rfl, by decide +kernel, rfl, by decide +kernel, by decide +kernel⟩
abbrev s_l_worths : Stmt := top 32
abbrev N_l_worths : List Str := ["_law_script", "_law_k", "_law_count", "_law_drawn", "_law_great", "_law_menu", "_law_p"]
theorem sc_l_worths : FnScope N_l_worths ["_law_script", "_law_k", "_law_count"] (defScope s_l_worths) := ⟨rfl, rfl, rfl, by decide +kernel, rfl, by decide +kernel, by decide +kernel⟩
abbrev s_l_order : Stmt := top 33
abbrev N_l_order : List Str := ["_law_worths_here", "_law_left", "_law_order_here", "_law_k", "_law_best", "_law_p"]
theorem sc_l_order : FnScope N_l_order ["_law_worths_here"] (defScope s_l_order) := ⟨rfl, rfl, rfl, by decide +kernel, rfl, by decide +kernel, by decide +kernel⟩
abbrev s_l_dealable : Stmt := top 34
abbrev N_l_dealable : List Str := ["_law_caps", "_law_holders", "_law_dealable_here", "_law_lot", "_law_mask", "_law_p", "_law_fine"]
theorem sc_l_dealable : FnScope N_l_dealable ["_law_caps", "_law_holders"] (defScope s_l_dealable) := ⟨rfl, rfl, rfl, by decide +kernel, rfl, by decide +kernel, by decide +kernel⟩
abbrev s_l_collected : Stmt := top 35
abbrev N_l_collected : List Str := ["_law_worths_here", "_law_dealable_here", "_law_mask", "_law_p"]
theorem sc_l_collected : FnScope N_l_collected ["_law_worths_here", "_law_dealable_here"] (defScope s_l_collected) := ⟨rfl, rfl, rfl, by decide +kernel, rfl, by decide +kernel, by decide +kernel⟩
abbrev s_l_collected_apart : Stmt := top 36
abbrev N_l_collected_apart : List Str := ["_law_caps", "_law_holders", "_law_worths_here", "_law_lot", "_law_p", "_law_alike", "_law_q"]
theorem sc_l_collected_apart : FnScope N_l_collected_apart ["_law_caps", "_law_holders", "_law_worths_here"] (defScope s_l_collected_apart) := ⟨rfl, rfl, rfl, by decide +kernel, rfl, by decide +kernel, by decide +kernel⟩
abbrev s_l_is_best : Stmt := top 37
abbrev N_l_is_best : List Str := ["_law_worths_here", "_law_best", "_law_lot", "_law_p", "_law_worth"]
theorem sc_l_is_best : FnScope N_l_is_best ["_law_worths_here", "_law_best", "_law_lot"] (defScope s_l_is_best) := ⟨rfl, rfl, rfl, by decide +kernel, rfl, by decide +kernel, by decide +kernel⟩
abbrev s_l_joined : Stmt := top 38
abbrev N_l_joined : List Str := ["_law_first", "_law_second", "_law_caps", "_law_shift", "_law_holders", "_law_owners", "_law_p", "_law_k"]
theorem sc_l_joined : FnScope N_l_joined ["_law_first", "_law_second"] (defScope s_l_joined) := ⟨rfl, rfl, rfl, by decide +kernel, rfl, by decide +kernel, by decide +kernel⟩
abbrev s_l_collected_in_groups : Stmt := top 39
abbrev N_l_collected_in_groups : List Str := ["_law_groups", "_law_owners", "_law_worths_here", "_law_lot", "_law_g", "_law_mine", "_law_q", "_law_kept"]
theorem sc_l_collected_in_groups : FnScope N_l_collected_in_groups ["_law_groups", "_law_owners", "_law_worths_here"] (defScope s_l_collected_in_groups) := ⟨rfl, rfl, rfl, by decide +kernel, rfl, by decide +kernel, by decide +kernel⟩
abbrev s_l_is_right : Stmt := top 40
abbrev N_l_is_right : List Str := ["_law_caps", "_law_holders", "_law_asked", "_law_pool_here", "_law_row", "_law_one", "_law_handed", "_law_actual", "_law_p"]
theorem sc_l_is_right : FnScope N_l_is_right ["_law_caps", "_law_holders", "_law_asked"] (defScope s_l_is_right) := ⟨rfl, rfl, rfl, by decide +kernel, rfl, by decide +kernel, by decide +kernel⟩
abbrev s_law : Stmt := top 41
abbrev N_law : List Str := ["_law_script", "_law_caps", "_law_holders", "_law_worths_here", "_law_turned", "_law_dealable_here", "_law_best", "_law_lots_here", "_law_k", "_law_groups", "_law_owners", "_law_other"]
theorem sc_law : FnScope N_law ["_law_script"] (defScope s_law) := ⟨rfl, rfl, rfl, by decide +kernel, rfl, by decide +kernel, by decide +kernel⟩
end BL
set_option Elab.async false
set_option linter.all false
set_option maxRecDepth 100000
set_option maxHeartbeats 4000000
namespace BL
open PySem L2
/-! pairs_among, pair_room, held_pairs -/
def pairsA (h : List Nat) : List (Nat × Nat) := h.flatMap fun a => (h.filter (fun b => decide (a < b))).map fun b => (a, b)
theorem flat_len {α β : Type} (f : α → List β) (n : Nat) : ∀ l : List α, (∀ a ∈ l, (f a).length ≤ n) → (l.flatMap f).length ≤ l.length * n
  | [], _ => by simp
  | a :: l, h => by
    have h1 := h a (List.mem_cons_self ..)
    have h2 := flat_len f n l fun b hb => h b (List.mem_cons_of_mem _ hb)
    rw [List.flatMap_cons, List.length_append, List.length_cons, Nat.succ_mul]
    omega
theorem pairsA_len (h : List Nat) : (pairsA h).length ≤ h.length * h.length := flat_len _ _ _ fun a _ => by
  rw [List.length_map]; exact List.length_filter_le _ _
def pairsRow (hs : List Nat) (a : Nat) (j : Nat) : List (Nat × Nat) := ((hs.take j).filter (fun b => decide (a < b))).map fun b => (a, b)
def pairsTo (hs : List Nat) (i : Nat) : List (Nat × Nat) := (hs.take i).flatMap fun a => (hs.filter (fun b => decide (a < b))).map fun b => (a, b)
def paI (H : Hp) (D : Addr) (l : List (Nat × Nat)) (H2 : Hp) : Prop := Same H H2 ∧ ∃ acc, H2 D = some (.lst acc) ∧ Paired (IsP H2) acc l
theorem pairsTo_succ {hs : List Nat} {i : Nat} (h : i < hs.length) : pairsTo hs (i + 1) = pairsTo hs i ++ pairsRow hs hs[i] hs.length := by
  unfold pairsTo pairsRow
  rw [take_snoc (List.getElem?_eq_getElem h), List.flatMap_append]
  simp
theorem pairsRow_yes {hs : List Nat} {a j : Nat} (h : j < hs.length) (hc : a < hs[j]) : pairsRow hs a (j + 1) = pairsRow hs a j ++ [(a, hs[j])] := by
  unfold pairsRow
  rw [take_snoc (List.getElem?_eq_getElem h), List.filter_append, List.map_append]
  simp [hc]
theorem pairsRow_no {hs : List Nat} {a j : Nat} (h : j < hs.length) (hc : ¬ a < hs[j]) : pairsRow hs a (j + 1) = pairsRow hs a j := by
  unfold pairsRow
  rw [take_snoc (List.getElem?_eq_getElem h), List.filter_append, List.map_append]
  simp [hc]
theorem pairs_small {hs : List Nat} (hl : hs.length ≤ 100) (i j a : Nat) (hi : i < hs.length) : (pairsTo hs i ++ pairsRow hs a j).length < sizeLine := by
  have h1 := flat_len (fun a : Nat => (hs.filter (fun b => decide (a < b))).map fun b => (a, b)) hs.length (hs.take i) fun a _ => by rw [List.length_map]; exact List.length_filter_le _ _
  have h2 : (pairsRow hs a j).length ≤ hs.length := by
    unfold pairsRow
    rw [List.length_map]; exact Nat.le_trans (List.length_filter_le _ _) (by rw [List.length_take]; omega)
  rw [List.length_append]
  have h3 : (hs.take i).length * hs.length ≤ 100 * 100 := Nat.mul_le_mul (by rw [List.length_take]; omega) hl
  unfold pairsTo
  exact sz_le (by omega)
def spPairsAmong (K : PySem.W.Frag) : Sp := fun vs H Q _ => ∃ (a : Addr) (h : List Nat), vs = [.ref a] ∧ SqT K H a (h.map vn) ∧ h.length ≤ 100 ∧
  ∀ (p : Addr) (ws : List V) (H' : Hp), H p = none → Same H H' → H' p = some (.lst ws) → Paired (IsP H') ws (pairsA h) → Q (.ref p) H'
section
variable {P : Program} {w : World} {K : PySem.W.Frag} {mg : Str → Option Value} {base : Heap}
theorem ok_pairs_among {f : Addr} {fd : FuncData} (B : Bt mg) (F : FnP K "pairs_among" s_pairs_among f fd) : FnOk P w K mg base CX0 1 f fd ["holders"] (spPairsAmong K) := by
  refine F.ok sc_pairs_among (fun vs H Q E h => ?_) (fun cdv A outer s H vs Q E hr h => ?_)
  · obtain ⟨a, h, rfl, _⟩ := h; rfl
  · obtain ⟨a, hs, rfl, ha, hl, k⟩ := h
    refine ⟨_, PSs.nox (pss_one
      (ps_ret (pe_lc2 (own := [("low", 1), ("high", 2)]) (vs1 := [2]) rfl sc_pairs_among.nd (pi_tupK K (pv 0)) (blkOk_by (own := [("low", 1), ("high", 2)]) (N := N_pairs_among) (sc := defScope s_pairs_among) (by decide +kernel)) (by decide) (fun _ _ _ _ _ => (pg_name (i := 1) sc_pairs_among.nd rfl (Or.inl rfl))) (fun _ _ _ _ _ => pts_nil) (fun _ _ _ _ _ => (pi_tupK K (pv 0))) (fun _ _ _ _ _ => (pg_name (i := 2) sc_pairs_among.nd rfl (Or.inl rfl))) (fun _ _ _ _ _ => pts_one (pt_cmpR op_lt (pv 1) (pv 2) (nomark _))) (fun _ _ _ _ _ => (pe_tup (pa_cons (pv 1) (pa_cons (pv 2) pa_nil))))))), ?_⟩
    refine ⟨_, rfl, a, rfl, ⟨_, ha⟩, fun D hD => ?_⟩
    refine ⟨fun i m H2 => m = hs.length - i ∧ i ≤ hs.length ∧ paI H D (pairsTo hs i) H2, ⟨hs.length, by simp, Nat.zero_le _, same_new hD, [], upd_same, .nil⟩, ?_⟩
    rintro i m H2 ⟨rfl, hi, I⟩
    by_cases hlt : i < hs.length
    · refine .inr ⟨⟨hs.map vn, vn hs[i], same_seqT I.1 ha, by simp [hlt]⟩, paI H D (pairsTo hs (i + 1)), fun H' n' => ⟨hs.length - (i + 1), by omega, rfl, hlt, n'⟩, fun x H' y => ?_⟩
      obtain ⟨rfl, y⟩ := y
      have hx : x = vn hs[i] := by
        have := y _ (same_seqT I.1 ha)
        simpa [hlt] using this.symm
      subst hx
      refine ⟨rfl, ?_⟩
      refine yesT ?_
      refine ⟨_, rfl, a, rfl, ⟨_, same_seqT I.1 ha⟩, ?_⟩
      refine ⟨fun j k H3 => k = hs.length - j ∧ j ≤ hs.length ∧ paI H D (pairsTo hs i ++ pairsRow hs hs[i] j) H3, ⟨hs.length, by simp, Nat.zero_le _, by simpa [pairsRow] using I⟩, ?_⟩
      rintro j kk H3 ⟨rfl, hj, J⟩
      by_cases hjl : j < hs.length
      · refine .inr ⟨⟨hs.map vn, vn hs[j], same_seqT J.1 ha, by simp [hjl]⟩, paI H D (pairsTo hs i ++ pairsRow hs hs[i] (j + 1)), fun H' n' => ⟨hs.length - (j + 1), by omega, rfl, hjl, n'⟩, fun x H' y => ?_⟩
        obtain ⟨rfl, y⟩ := y
        have hx : x = vn hs[j] := by
          have := y _ (same_seqT J.1 ha)
          simpa [hjl] using this.symm
        subst hx
        obtain ⟨s3, acc3, hacc3, pa3⟩ := J
        refine ⟨rfl, _, rfl, _, rfl, _, _, rfl, rfl, _, rfl, ?_⟩
        refine ite2 (fun hc => ?_) (fun hc => ?_)
        · have hc' : hs[i] < hs[j] := by simpa using hc
          refine ⟨_, rfl, _, rfl, by show 2 ≤ sizeLine; decide, fun t ht => ?_⟩
          have hl3 : acc3.length < sizeLine := by rw [pa3.length]; exact pairs_small hl i j _ hlt
          have s4 : Same H' (upd H' t (.tup [vn hs[i], vn hs[j]])) := same_new ht
          refine ⟨acc3, s4 _ _ hacc3, hl3, same_put (s3.trans s4) hD, acc3 ++ [.ref t], upd_same, ?_⟩
          rw [pairsRow_yes hjl hc', ← List.append_assoc]
          have k4 : TK (upd H' t (.tup [vn hs[i], vn hs[j]])) (upd (upd H' t (.tup [vn hs[i], vn hs[j]])) D (.lst (acc3 ++ [.ref t]))) := tk_lst (s4 _ _ hacc3)
          exact Paired.snoc (tups_P.all (TK.trans (tk_of s4) k4) pa3) ⟨t, rfl, k4 _ _ upd_same⟩
        · have hc' : ¬ hs[i] < hs[j] := by simpa using hc
          rw [pairsRow_no hjl hc']
          exact ⟨s3, acc3, hacc3, pa3⟩
      · have e : j = hs.length := by omega
        subst e
        refine .inl ⟨⟨_, same_seqT J.1 ha, by simp⟩, ?_⟩
        rw [pairsTo_succ hlt]
        exact J
    · have e : i = hs.length := by omega
      subst e
      refine .inl ⟨⟨_, same_seqT I.1 ha, by simp⟩, ?_⟩
      obtain ⟨s2, acc, hacc, pa⟩ := I
      refine k D acc H2 hD s2 hacc ?_
      simpa [pairsA, pairsTo] using pa
end
end BL
set_option Elab.async false
set_option linter.all false
set_option maxRecDepth 100000
set_option maxHeartbeats 4000000
namespace BL
open PySem L2
/-! pools: pair_room, held_pairs -/
theorem s_ch : ¬ (("caps" : Str) = "holders") := by decide +kernel
theorem s_cs : ¬ (("caps" : Str) = "seats") := by decide +kernel
theorem s_cp : ¬ (("caps" : Str) = "pieces") := by decide +kernel
theorem s_hs : ¬ (("holders" : Str) = "seats") := by decide +kernel
theorem s_hp : ¬ (("holders" : Str) = "pieces") := by decide +kernel
theorem s_sp : ¬ (("seats" : Str) = "pieces") := by decide +kernel
def poolF (ct ht : Addr) (s p : Nat) : List (Str × V) := putF "pieces" (vn p) (putF "seats" (vn s) (putF "holders" (.ref ht) (putF "caps" (.ref ct) [])))
theorem poolF_caps (ct ht : Addr) (s p : Nat) : (poolF ct ht s p).lookup ("caps" : Str) = some (.ref ct) := by
  unfold poolF; rw [lookup_putF, if_neg s_cp, lookup_putF, if_neg s_cs, lookup_putF, if_neg s_ch, lookup_putF, if_pos rfl]
theorem poolF_holders (ct ht : Addr) (s p : Nat) : (poolF ct ht s p).lookup ("holders" : Str) = some (.ref ht) := by
  unfold poolF; rw [lookup_putF, if_neg s_hp, lookup_putF, if_neg s_hs, lookup_putF, if_pos rfl]
theorem poolF_pieces (ct ht : Addr) (s p : Nat) : (poolF ct ht s p).lookup ("pieces" : Str) = some (vn p) := by
  unfold poolF; rw [lookup_putF, if_pos rfl]
/-- the class Pool -/
structure Cp (K : PySem.W.Frag) (C : Addr) : Prop where
  cl : Cls K C
  nc : NoAttr K C "caps"
  nh : NoAttr K C "holders"
  ns : NoAttr K C "seats"
  np : NoAttr K C "pieces"
/-- caps and holders of a pool that Python accepts -/
structure PoolOk (caps : List Nat) (hs : List (List Nat)) : Prop where
  few : hs.length ≤ 100
  row : ∀ h ∈ hs, h.length ≤ 100 ∧ h.Pairwise (· < ·) ∧ ∀ x ∈ h, x < caps.length
/-- v is a pool -/
def PoolAt (C : Addr) (H : Hp) (v : V) (caps : List Nat) (hs : List (List Nat)) : Prop :=
  ∃ p dx ct ht rows, v = .ref p ∧ H p = some (.ins C dx (poolF ct ht caps.length hs.length)) ∧ H ct = some (.tup (caps.map vn)) ∧ H ht = some (.tup rows) ∧ Paired (IsT H) rows hs ∧ PoolOk caps hs
theorem PoolAt.same {C : Addr} {H H' : Hp} {v : V} {caps : List Nat} {hs : List (List Nat)} (h : PoolAt C H v caps hs) (s : Same H H') : PoolAt C H' v caps hs := by
  obtain ⟨p, dx, ct, ht, rows, e, h1, h2, h3, h4, ok⟩ := h
  exact ⟨p, dx, ct, ht, rows, e, s _ _ h1, s _ _ h2, s _ _ h3, tups_T.all (tk_of s) h4, ok⟩
theorem PoolAt.ok {C : Addr} {H : Hp} {v : V} {caps : List Nat} {hs : List (List Nat)} (h : PoolAt C H v caps hs) : PoolOk caps hs := by
  obtain ⟨p, dx, ct, ht, rows, e, h1, h2, h3, h4, ok⟩ := h
  exact ok
/-- the room of a pair -/
def roomA (caps : List Nat) (p : Nat × Nat) : Nat := min (caps.getD p.1 0) (caps.getD p.2 0)
def heldA (caps : List Nat) (h : List Nat) : List (Nat × Nat) := (pairsA h).filter fun p => decide (0 < roomA caps p)
def heldP (caps : List Nat) (hs : List (List Nat)) (i : Nat) : List (Nat × Nat) := heldA caps (hs.getD i [])
theorem mem_pairsA {h : List Nat} {p : Nat × Nat} : p ∈ pairsA h ↔ p.1 ∈ h ∧ p.2 ∈ h ∧ p.1 < p.2 := by
  unfold pairsA
  simp only [List.mem_flatMap, List.mem_map, List.mem_filter, decide_eq_true_eq]
  constructor
  · rintro ⟨a, ha, b, ⟨hb, hc⟩, rfl⟩
    exact ⟨ha, hb, hc⟩
  · rintro ⟨h1, h2, h3⟩
    exact ⟨p.1, h1, p.2, ⟨h2, h3⟩, rfl⟩
theorem mem_heldA {caps h : List Nat} {p : Nat × Nat} : p ∈ heldA caps h ↔ p.1 ∈ h ∧ p.2 ∈ h ∧ p.1 < p.2 ∧ 0 < roomA caps p := by
  unfold heldA
  simp only [List.mem_filter, mem_pairsA, decide_eq_true_eq]
  constructor
  · rintro ⟨⟨a, b, c⟩, d⟩; exact ⟨a, b, c, d⟩
  · rintro ⟨a, b, c, d⟩; exact ⟨⟨a, b, c⟩, d⟩
theorem filterMap_if {α : Type} (c : α → Bool) : ∀ l : List α, (l.map fun a => if c a then some a else none).filterMap id = l.filter c
  | [] => rfl
  | a :: l => by
    rw [List.map_cons, List.filter_cons, List.filterMap_cons, filterMap_if c l]
    cases c a <;> rfl
def spPairRoom (C : Addr) : Sp := fun vs H Q _ => ∃ (v u : V) (caps : List Nat) (hs : List (List Nat)) (p : Nat × Nat), vs = [v, u] ∧ PoolAt C H v caps hs ∧ IsP H u p ∧ p.1 < caps.length ∧ p.2 < caps.length ∧ Q (vn (roomA caps p)) H
def spHeldPairs (C : Addr) : Sp := fun vs H Q _ => ∃ (v : V) (caps : List Nat) (hs : List (List Nat)) (i : Nat), vs = [v, vn i] ∧ PoolAt C H v caps hs ∧ i < hs.length ∧
  ∀ (p : Addr) (ws : List V) (H' : Hp), H p = none → Same H H' → H' p = some (.lst ws) → Paired (IsP H') ws (heldP caps hs i) → Q (.ref p) H'
section
variable {P : Program} {w : World} {K : PySem.W.Frag} {mg : Str → Option Value} {base : Heap} {C : Addr}
theorem ok_pair_room {f : Addr} {fd : FuncData} (B : Bt mg) (T : Cp K C) (F : FnP K "pair_room" s_pair_room f fd) : FnOk P w K mg base CX0 1 f fd ["pool", "pair"] (spPairRoom C) := by
  refine F.ok sc_pair_room (fun vs H Q E h => ?_) (fun cdv A outer s H vs Q E hr h => ?_)
  · obtain ⟨v, u, caps, hs, p, rfl, _⟩ := h; rfl
  · obtain ⟨v, u, caps, hs, p, rfl, ⟨pa, dx, ct, ht, rows, rfl, h1, h2, h3, h4, ok⟩, ⟨t, rfl, ht2⟩, hp1, hp2, k⟩ := h
    refine ⟨_, PSs.nox (pss_one
      (ps_ret (pe_callB (call_min2 rfl) (by rfl) B.min (by decide +kernel) (pa_cons (pe_ix (ix_tupK K) (fldK K (pv 0) rfl) (pe_ix (ix_tupK K) (pv 1) pe_int (fun _ _ => rfl)) (fun _ _ => rfl)) (pa_cons (pe_ix (ix_tupK K) (fldK K (pv 0) rfl) (pe_ix (ix_tupK K) (pv 1) pe_int (fun _ _ => rfl)) (fun _ _ => rfl)) pa_nil))))), ?_⟩
    have e1 : (caps.map vn)[p.1]? = some (vn (caps.getD p.1 0)) := by simp [hp1]
    have e2 : (caps.map vn)[p.2]? = some (vn (caps.getD p.2 0)) := by simp [hp2]
    refine ⟨_, rfl, pa, C, dx, _, _, rfl, h1, T.cl, T.nc, poolF_caps _ _ _ _, _, rfl, t, _, _, _, rfl, rfl, SqT.of ht2, atN (j := 0) rfl, ct, _, _, _, rfl, rfl, SqT.of h2, atN e1, ?_⟩
    refine ⟨_, rfl, pa, C, dx, _, _, rfl, h1, T.cl, T.nc, poolF_caps _ _ _ _, _, rfl, t, _, _, _, rfl, rfl, SqT.of ht2, atN (j := 1) rfl, ct, _, _, _, rfl, rfl, SqT.of h2, atN e2, ?_⟩
    refine ⟨_, _, rfl, ?_⟩
    have e : (if ((caps.getD p.2 0 : Nat) : Int) < ((caps.getD p.1 0 : Nat) : Int) then ((caps.getD p.2 0 : Nat) : Int) else ((caps.getD p.1 0 : Nat) : Int)) = ((roomA caps p : Nat) : Int) := by
      unfold roomA; split <;> omega
    rw [e]
    exact k
theorem ok_held_pairs {f : Addr} {fd : FuncData} (B : Bt mg) (T : Cp K C) (F : FnP K "held_pairs" s_held_pairs f fd) (h_pairs_among : Has P w K mg base 1 "pairs_among" ["holders"] (spPairsAmong K)) (h_pair_room : Has P w K mg base 1 "pair_room" ["pool", "pair"] (spPairRoom C)) :
    FnOk P w K mg base CX0 2 f fd ["pool", "piece"] (spHeldPairs C) := by
  refine F.ok sc_held_pairs (fun vs H Q E h => ?_) (fun cdv A outer s H vs Q E hr h => ?_)
  · obtain ⟨v, caps, hs, i, rfl, _⟩ := h; rfl
  · obtain ⟨v, caps, hs, i, rfl, hpool, hi, k⟩ := h
    obtain ⟨pa, dx, ct, ht, rows, rfl, h1, h2, h3, h4, ok⟩ := id hpool
    refine ⟨_, PSs.nox (pss_one
      (ps_ret (pe_lc (own := [("pair", 2)]) rfl sc_held_pairs.nd (pi_listK K (pe_fn h_pairs_among (hr.mono (by decide)) rfl (pa_cons (pe_ix (ix_tupK K) (fldK K (pv 0) rfl) (pv 1) (fun _ _ => rfl)) pa_nil))) (blkOk_by (own := [("pair", 2)]) (N := N_held_pairs) (sc := defScope s_held_pairs) (by decide +kernel)) (fun _ _ _ _ _ => (pg_name (i := 2) sc_held_pairs.nd rfl (Or.inl rfl))) (fun _ _ _ _ _ => pts_one (pt_cmpR op_gt (pe_fn h_pair_room (hr.mono (by decide)) rfl (pa_cons (pv 0) (pa_cons (pv 2) pa_nil))) pe_int (nomark _))) (fun _ _ _ _ _ => (pv 2))))), ?_⟩
    obtain ⟨hrow, hh⟩ : ∃ h, hs[i]? = some h := ⟨hs[i], List.getElem?_eq_getElem hi⟩
    obtain ⟨rv, hrv, t, rfl, htv⟩ := paired_at' h4 hh
    obtain ⟨okl, oks, okb⟩ := ok.row hrow (List.mem_of_getElem? hh)
    refine ⟨_, rfl, pa, C, dx, _, _, rfl, h1, T.cl, T.nh, poolF_holders _ _ _ _, _, rfl, ht, _, _, _, rfl, rfl, SqT.of h3, atN hrv, t, hrow, rfl, SqT.of htv, okl, fun p ws H1 hp0 s1 hp pw => ?_⟩
    refine ⟨p, rfl, ⟨_, SqL.of hp⟩, fun D hD => ?_⟩
    have hg : heldP caps hs i = heldA caps hrow := by unfold heldP; rw [List.getD_eq_getElem?_getD, hh]; rfl
    refine comp_list IsP ((pairsA hrow).map fun p => if decide (0 < roomA caps p) then some p else none) (by rw [List.length_map, pw.length]) (by rw [List.length_map]; exact sz_le (Nat.le_trans (pairsA_len hrow) (Nat.le_trans (Nat.mul_le_mul okl okl) (by decide)))) tups_P.same tups_P.updL hD (SqL.of hp) (fun j x o H2 hx ho s2 Q' q1 q2 => ?_) (fun H2 acc s2 hacc pacc => ?_)
    · obtain ⟨pr, hpr, hxp⟩ := paired_at pw hx
      have ho' : (if decide (0 < roomA caps pr) then some pr else none) = o := by
        rw [List.getElem?_map, hpr] at ho
        exact Option.some.inj ho
      have hm := mem_pairsA.mp (List.mem_of_getElem? hpr)
      refine ⟨rfl, _, rfl, _, rfl, .ref pa, x, caps, hs, pr, rfl, hpool.same (s1.trans s2), tups_P _ _ (tk_of s2) _ _ hxp, okb _ hm.1, okb _ hm.2.1, ?_⟩
      refine ⟨_, _, rfl, rfl, _, rfl, ?_⟩
      refine ite2 (fun hc => ?_) (fun hc => ?_)
      · have hc' : 0 < roomA caps pr := by simpa using hc
        refine ⟨x, rfl, q2 x pr H2 (Same.refl _) ?_ (tups_P _ _ (tk_of s2) _ _ hxp)⟩
        rw [← ho', if_pos (by simpa using hc')]
      · have hc' : ¬ 0 < roomA caps pr := by simpa using hc
        refine q1 H2 (Same.refl _) ?_
        rw [← ho', if_neg (by simpa using hc')]
    · refine k D acc H2 (s1.free hD) (s1.trans s2) hacc ?_
      rw [hg]
      rw [filterMap_if] at pacc
      exact pacc
end
end BL
set_option Elab.async false
set_option linter.all false
set_option maxRecDepth 100000
set_option maxHeartbeats 4000000
namespace BL
open PySem L2
/-! data that are compared -/
def dN (n : Nat) : PyData := .int (n : Int)
def dL (ns : List Nat) : PyData := .list (ns.map dN)
def dT (ns : List Nat) : PyData := .tuple (ns.map dN)
theorem lay_dN : ∀ ns : List Nat, PyData.canLayAll0 (ns.map dN) = true
  | [] => by simp [PyData.canLayAll0]
  | n :: ns => by simp [PyData.canLayAll0, dN, PyData.canLay0, lay_dN ns]
theorem dep_dN : ∀ ns : List Nat, PyData.depthAll (ns.map dN) ≤ 2
  | [] => by simp [PyData.depthAll]
  | n :: ns => by
    have := dep_dN ns
    simp only [List.map_cons, PyData.depthAll, dN, PyData.depth]
    omega
theorem shaped_of {d : PyData} (h1 : d.canLay0 = true) (h2 : d.depth ≤ 64) : SeqAt.shaped d = true := by
  show (d.canLay0 && decide (d.depth ≤ 64)) = true
  rw [h1, decide_eq_true h2]; rfl
theorem lay_dL (ns : List Nat) : (dL ns).canLay0 = true := by unfold dL; simp only [PyData.canLay0]; exact lay_dN ns
theorem lay_dT (ns : List Nat) : (dT ns).canLay0 = true := by unfold dT; simp only [PyData.canLay0]; exact lay_dN ns
theorem dep_dL (ns : List Nat) : (dL ns).depth ≤ 3 := by unfold dL; simp only [PyData.depth]; have := dep_dN ns; omega
theorem dep_dT (ns : List Nat) : (dT ns).depth ≤ 3 := by unfold dT; simp only [PyData.depth]; have := dep_dN ns; omega
theorem shaped_dL (ns : List Nat) : SeqAt.shaped (dL ns) = true := shaped_of (lay_dL ns) (Nat.le_trans (dep_dL ns) (by decide))
theorem lay_all {α : Type} {f : α → PyData} (h : ∀ a, (f a).canLay0 = true) : ∀ l : List α, PyData.canLayAll0 (l.map f) = true
  | [] => by simp [PyData.canLayAll0]
  | a :: l => by simp [PyData.canLayAll0, h a, lay_all h l]
theorem dep_all {α : Type} {f : α → PyData} {k : Nat} (h : ∀ a, (f a).depth ≤ k) : ∀ l : List α, PyData.depthAll (l.map f) ≤ k + 1
  | [] => by simp [PyData.depthAll]
  | a :: l => by
    have h1 := h a
    have h2 := dep_all h l
    simp only [List.map_cons, PyData.depthAll]
    omega
theorem lay_list {α : Type} {f : α → PyData} (h : ∀ a, (f a).canLay0 = true) (l : List α) : (PyData.list (l.map f)).canLay0 = true := by
  simp only [PyData.canLay0]; exact lay_all h l
theorem shaped_list {α : Type} {f : α → PyData} {k : Nat} (h : ∀ a, (f a).canLay0 = true) (h' : ∀ a, (f a).depth ≤ k) (hk : k ≤ 40) (l : List α) : SeqAt.shaped (.list (l.map f)) = true := by
  refine shaped_of (lay_list h l) ?_
  have := dep_all h' l
  simp only [PyData.depth]
  omega
theorem dpAll_N {K : PySem.W.Frag} {H : Hp} : ∀ ns : List Nat, DpAll K H (ns.map vn) (ns.map dN)
  | [] => .nil
  | n :: ns => .cons (.int _) (dpAll_N ns)
theorem dp_L {K : PySem.W.Frag} {H : Hp} {a : Addr} {ns : List Nat} (h : SqL K H a (ns.map vn)) : Dp K H (.ref a) (dL ns) := .lst h (dpAll_N ns)
theorem dp_T {K : PySem.W.Frag} {H : Hp} {a : Addr} {ns : List Nat} (h : SqT K H a (ns.map vn)) : Dp K H (.ref a) (dT ns) := .tup h (dpAll_N ns)
theorem dpAll_of {K : PySem.W.Frag} {H : Hp} {β : Type} {f : β → PyData} {F : V → β → Prop} (h : ∀ v b, F v b → Dp K H v (f b)) : ∀ {vs : List V} {bs : List β}, Paired F vs bs → DpAll K H vs (bs.map f)
  | _, _, .nil => .nil
  | _, _, .cons r t => .cons (h _ _ r) (dpAll_of h t)
theorem eqvAll_N : ∀ ns ms : List Nat, PyData.eqvAll (ns.map dN) (ms.map dN) = decide (ns = ms)
  | [], [] => by simp [PyData.eqvAll]
  | [], m :: ms => by simp [PyData.eqvAll]
  | n :: ns, [] => by simp [PyData.eqvAll]
  | n :: ns, m :: ms => by
    have e : PyData.eqvAll ((n :: ns).map dN) ((m :: ms).map dN) = (((n : Int) == (m : Int)) && PyData.eqvAll (ns.map dN) (ms.map dN)) := by simp only [List.map_cons, PyData.eqvAll, dN, PyData.eqv]
    rw [e, eqvAll_N ns ms]
    by_cases h : n = m
    · subst h; simp
    · have q : ((n : Int) == (m : Int)) = false := beq_eq_false_iff_ne.mpr (by omega)
      rw [q, Bool.false_and]
      exact (decide_eq_false fun z => h (by injection z)).symm
theorem eqv_L (ns ms : List Nat) : PyData.eqv (dL ns) (dL ms) = decide (ns = ms) := by
  unfold dL; simp only [PyData.eqv]; exact eqvAll_N ns ms
theorem eqv_Tn (ns : List Nat) : PyData.eqv (dT ns) .none = false := by unfold dT; simp only [PyData.eqv]
/-! has_twice, are_below, clean_holders, Pool.__init__ -/
theorem nodup_of_lt {ns : List Nat} (h : ns.Pairwise (· < ·)) : ns.Nodup := h.imp fun h => Nat.ne_of_lt h
theorem nodup_ints {ns : List Nat} (h : ns.Nodup) : (ns.map fun n : Nat => (n : Int)).Nodup := List.pairwise_map.mpr (h.imp fun h e => h (by omega))
def spHasTwice (K : PySem.W.Frag) : Sp := fun vs H Q _ => ∃ (a : Addr) (ns : List Nat), vs = [.ref a] ∧ SqL K H a (ns.map vn) ∧ ns.Nodup ∧ ns.length ≤ 4000 ∧ Q (.bl false) H
def spAreBelow (K : PySem.W.Frag) : Sp := fun vs H Q _ => ∃ (a : Addr) (ns : List Nat) (m : Nat), vs = [.ref a, vn m] ∧ SqL K H a (ns.map vn) ∧ (∀ n ∈ ns, n < m) ∧ Q (.bl true) H
def spClean (K : PySem.W.Frag) : Sp := fun vs H Q _ => ∃ (a : Addr) (ns : List Nat) (m : Nat), vs = [.ref a, vn m] ∧ SqL K H a (ns.map vn) ∧ ns.Pairwise (· < ·) ∧ ns.length ≤ 4000 ∧ (∀ n ∈ ns, n < m) ∧
  ∀ (v : V) (H' : Hp), Same H H' → IsT H' v ns → Q v H'
section
variable {P : Program} {w : World} {K : PySem.W.Frag} {mg : Str → Option Value} {base : Heap} {C : Addr}
theorem ok_has_twice {f : Addr} {fd : FuncData} (B : Bt mg) (F : FnP K "has_twice" s_has_twice f fd) : FnOk P w K mg base CX0 1 f fd ["numbers"] (spHasTwice K) := by
  refine F.ok sc_has_twice (fun vs H Q E h => ?_) (fun cdv A outer s H vs Q E hr h => ?_)
  · obtain ⟨a, ns, rfl, _⟩ := h; rfl
  · obtain ⟨a, ns, rfl, ha, hn, hl, k⟩ := h
    refine ⟨_, PSs.nox (pss_one
      (ps_ret (pe_cmpR op_lt (lenSetK K rfl B.len rfl B.set (pv 0)) (pe_callB (lenK K) (by rfl) B.len PySem.boot_len (pa_cons (pv 0) pa_nil)) (nomark _)))), ?_⟩
    have ha' := ha
    rw [vmap_ints] at ha'
    refine ⟨_, rfl, a, _, rfl, ha', nodup_ints hn, by rw [List.length_map]; exact hl, _, rfl, a, _, rfl, .inl ha, _, _, rfl, rfl, ?_⟩
    rw [List.length_map, List.length_map]
    show Q (.bl (decide (((ns.length : Nat) : Int) < ((ns.length : Nat) : Int)))) H
    rw [decide_eq_false (Int.lt_irrefl _)]
    exact k
theorem ok_are_below {f : Addr} {fd : FuncData} (B : Bt mg) (F : FnP K "are_below" s_are_below f fd) : FnOk P w K mg base CX0 1 f fd ["numbers", "limit"] (spAreBelow K) := by
  refine F.ok sc_are_below (fun vs H Q E h => ?_) (fun cdv A outer s H vs Q E hr h => ?_)
  · obtain ⟨a, ns, m, rfl, _⟩ := h; rfl
  · obtain ⟨a, ns, m, rfl, ha, hb, k⟩ := h
    refine ⟨_, PSs.nox (pss_cons
      (ps_for PassesOwn.never rfl (pi_listK K (pv 0)) (pg_name (i := 2) sc_are_below.nd rfl (Or.inl rfl))
      (pss_one
        (ps_if (PW.pt (pw_or (pt_cmpR op_lt (pv 2) pe_int (nomark _)) (pw_or1 (pt_cmpR op_ge (pv 2) (pv 1) (nomark _)))))
        (pss_one
          (ps_ret pe_bl))
        pss_nil)))
    (pss_one
      (ps_ret pe_bl))), ?_⟩
    refine ⟨_, rfl, a, rfl, ⟨_, ha⟩, for_list (K := K) (a := a) (xs := ns.map vn) (fun i σ H' => H' = H ∧ ∃ v, σ = [some (.ref a), some (vn m), v]) ⟨rfl, none, rfl⟩ (fun i σ H' _ ⟨e, _⟩ => by rw [e]; exact ha) ?_ ?_⟩
    · rintro i x σ H' hx ⟨rfl, v, rfl⟩
      obtain ⟨n, hn, rfl⟩ := vmap_at hx
      have hlt := hb n (List.mem_of_getElem? hn)
      refine ⟨_, rfl, _, _, rfl, rfl, _, rfl, ?_⟩
      rw [decide_eq_false (by omega)]
      refine iteF ?_
      refine ⟨_, rfl, _, rfl, _, _, rfl, rfl, _, rfl, ?_⟩
      rw [decide_eq_false (by omega)]
      exact iteF ⟨rfl, _, rfl⟩
    · rintro σ H' ⟨rfl, v, rfl⟩
      exact k
theorem ok_clean_holders {f : Addr} {fd : FuncData} (B : Bt mg) (F : FnP K "clean_holders" s_clean_holders f fd) (h_has_twice : Has P w K mg base 1 "has_twice" ["numbers"] (spHasTwice K)) (h_are_below : Has P w K mg base 1 "are_below" ["numbers", "limit"] (spAreBelow K)) :
    FnOk P w K mg base CX0 2 f fd ["holders", "seats"] (spClean K) := by
  refine F.ok sc_clean_holders (fun vs H Q E h => ?_) (fun cdv A outer s H vs Q E hr h => ?_)
  · obtain ⟨a, ns, m, rfl, _⟩ := h; rfl
  · obtain ⟨a, ns, m, rfl, ha, hs, hl, hb, k⟩ := h
    refine ⟨_, PSs.nox (pss_cons
      (ps_if (PW.pt (pw_or (pt_val (pe_fn h_has_twice (hr.mono (by decide)) rfl (pa_cons (pv 0) pa_nil))) (pw_or1 (pt_not (pt_val (pe_fn h_are_below (hr.mono (by decide)) rfl (pa_cons (pv 0) (pa_cons (pv 1) pa_nil))))))))
      (pss_one
        (ps_ret pe_non))
      pss_nil)
    (pss_one
      (ps_ret (pe_callTy (tupOfK K) (by rfl) B.tuple (by decide +kernel) (pa_cons (pe_callB (sortedIK K) (by rfl) B.sorted (by decide +kernel) (pa_cons (pv 0) pa_nil)) pa_nil))))), ?_⟩
    refine ⟨_, rfl, a, ns, rfl, ha, nodup_of_lt hs, hl, false, rfl, ?_⟩
    refine iteF ?_
    refine ⟨_, rfl, _, rfl, a, ns, m, rfl, ha, hb, true, rfl, ?_⟩
    refine iteF ?_
    have ha' := ha
    rw [vmap_ints] at ha'
    refine ⟨_, rfl, a, _, rfl, ha', fun ns' p hp hq hn => ?_⟩
    have e : ns' = ns.map fun n : Nat => (n : Int) := PySem.W.ksm_same hp hq (List.pairwise_map.mpr (hs.imp fun h => by omega))
    subst e
    refine ⟨p, _, rfl, SqL.of upd_same, fun l hl' => ?_⟩
    exact k _ _ ((same_new hn).trans (same_new hl')) ⟨l, rfl, by rw [upd_same, ← vmap_ints]⟩
end
def spInit (K : PySem.W.Frag) (C : Addr) : Sp := fun vs H Q _ => ∃ (p dx a b : Addr) (caps : List Nat) (ws : List V) (hs : List (List Nat)), vs = [.ref p, .ref a, .ref b] ∧ H p = some (.ins C dx []) ∧ SqL K H a (caps.map vn) ∧ 0 < caps.length ∧ SqL K H b ws ∧
  Paired (fun v h => ∃ t, v = .ref t ∧ SqL K H t (h.map vn)) ws hs ∧ PoolOk caps hs ∧
  ∀ H' : Hp, PoolAt C H' (.ref p) caps hs → (∀ c o, H c = some o → c ≠ p → H' c = some o) → Q .non H'
section
variable {P : Program} {w : World} {K : PySem.W.Frag} {mg : Str → Option Value} {base : Heap} {C : Addr}
theorem putF_len (f : Str) (v : V) (fs : List (Str × V)) : (putF f v fs).length ≤ fs.length + 1 := length_putF f v fs
theorem ok_init {f : Addr} {fd : FuncData} (B : Bt mg) (T : Cp K C) (F : FunD K "__init__" "Pool.__init__" (defArgs s_pool) (defBody s_pool) (defScope s_pool) [] [] f fd) (h_clean_holders : Has P w K mg base 2 "clean_holders" ["holders", "seats"] (spClean K)) :
    FnOk P w K mg base CX0 3 f fd ["self", "caps", "holders"] (spInit K C) := by
  refine F.ok sc_pool (fun vs H Q E h => ?_) (fun cdv A outer s H vs Q E hr h => ?_)
  · obtain ⟨p, dx, a, b, caps, ws, hs, rfl, _⟩ := h; rfl
  · obtain ⟨p, dx, a, b, caps, ws, hs, rfl, hp, ha, hc0, hb, pw, ok, k⟩ := h
    have hu65 := l65 hr
    refine ⟨_, PSs.nox (pss_cons
      (ps_if (PW.pt (pw_or (pt_cmpR op_eq (pe_callB (lenK K) (by rfl) B.len PySem.boot_len (pa_cons (pv 1) pa_nil)) pe_int (nomark _)) (pw_or1 (pt_cmpR op_lt (pe_callB (minK K rfl) (by rfl) B.min (by decide +kernel) (pa_cons (pv 1) pa_nil)) pe_int (nomark _)))))
      (pss_one
        ps_never)
      pss_nil)
    (pss_cons
      (ps_setLc (i := 3) (own := [("row", 4)]) rfl sc_pool.nd rfl rfl (sw_true rfl rfl rfl (by decide +kernel)) (pi_listK K (pv 2)) (blkOk_by (own := [("row", 4)]) (N := N_pool) (sc := defScope s_pool) (by decide +kernel)) (fun _ _ _ _ _ => (pg_name (i := 4) sc_pool.nd rfl (Or.inl rfl))) (fun _ _ _ _ _ => pts_nil) (fun _ _ _ _ _ => (pe_fn h_clean_holders (hr.mono (by decide)) rfl (pa_cons (pv 4) (pa_cons (pe_callB (lenK K) (by rfl) B.len PySem.boot_len (pa_cons (pv 1) pa_nil)) pa_nil)))))
    (pss_cons
      (ps_if (pt_cmpR (inDK K hu65) pe_non (pv 3) (by rfl))
      (pss_one
        ps_never)
      pss_nil)
    (pss_cons
      (ps_fld (pv 0) (pe_callTy (tupOfK K) (by rfl) B.tuple (by decide +kernel) (pa_cons (pv 1) pa_nil)) rfl)
    (pss_cons
      (ps_fld (pv 0) (pe_callTy (tupOfK K) (by rfl) B.tuple (by decide +kernel) (pa_cons (pv 3) pa_nil)) rfl)
    (pss_cons
      (ps_fld (pv 0) (pe_callB (lenK K) (by rfl) B.len PySem.boot_len (pa_cons (fldK K (pv 0) rfl) pa_nil)) rfl)
    (pss_one
      (ps_fld (pv 0) (pe_callB (lenK K) (by rfl) B.len PySem.boot_len (pa_cons (fldK K (pv 0) rfl) pa_nil)) rfl)))))))), ?_⟩
    have ha' := ha
    rw [vmap_ints] at ha'
    refine ⟨_, rfl, a, _, rfl, .inl ha, rfl, _, rfl, ?_⟩
    rw [decide_eq_false (by rw [List.length_map]; intro e; injection e with e; omega)]
    refine iteF ?_
    refine ⟨_, rfl, a, _, rfl, ha', by rw [List.length_map]; exact hc0, fun m hm hle => ?_⟩
    obtain ⟨n, _, rfl⟩ := List.mem_map.mp hm
    refine ⟨_, _, rfl, rfl, _, rfl, ?_⟩
    rw [decide_eq_false (by omega)]
    refine iteF ?_
    refine ⟨_, rfl, b, rfl, ⟨_, hb⟩, fun D hD => ?_⟩
    refine comp_list IsT (hs.map some) (by rw [List.length_map, pw.length]) (by rw [List.length_map]; exact sz_le (Nat.le_trans ok.few (by decide))) tups_T.same tups_T.updL hD hb (fun j x o H2 hx ho s2 Q' q1 q2 => ?_) (fun H2 acc s2 hacc pacc => ?_)
    · obtain ⟨h, hh, t, rfl, ht⟩ := paired_at pw hx
      rw [List.getElem?_map, hh] at ho
      cases ho
      obtain ⟨r1, r2, r3⟩ := ok.row h (List.mem_of_getElem? hh)
      refine ⟨rfl, yesT ?_⟩
      refine ⟨_, rfl, _, rfl, a, _, rfl, .inl (s2.seq ha), t, h, caps.length, by rw [List.length_map] <;> rfl, s2.seq ht, r2, Nat.le_trans r1 (by decide), r3, fun v H3 s3 hv => ?_⟩
      exact q2 v h H3 s3 rfl hv
    · have e : (hs.map some).filterMap id = hs := by rw [List.filterMap_map]; exact List.filterMap_some
      rw [e] at pacc
      have nDp : D ≠ p := fun e => by rw [e, hp] at hD; cases hD
      refine ⟨_, rfl, .none, hs.map dT, .non, .lst (SqL.of hacc) (dpAll_of (fun v h ⟨t, e, ht⟩ => by rw [e]; exact dp_T (SqT.of ht)) pacc), rfl, shaped_list lay_dT dep_dT (by decide) hs, _, rfl, ?_⟩
      have hany : ((hs.map dT).any fun z => PyData.eqv z .none) = false := by
        rw [List.any_map, List.any_eq_false]
        intro h _
        simp [eqv_Tn]
      rw [hany]
      refine iteF ?_
      have hp2 := s2 _ _ hp
      refine ⟨_, rfl, a, _, rfl, s2.seq ha, fun ct hct => ?_⟩
      have npc : p ≠ ct := ne_of_none hp2 hct
      refine ⟨_, rfl, p, C, dx, [], rfl, by rw [upd_ne npc]; exact hp2, T.cl, T.nc, (by show 0 < 1000; decide), ?_⟩
      have nDc : D ≠ ct := ne_of_none hacc hct
      refine ⟨_, rfl, D, acc, rfl, SqL.of (by rw [upd_ne nDp, upd_ne nDc]; exact hacc), fun ht hht => ?_⟩
      have nph : p ≠ ht := fun e => by rw [← e, upd_same] at hht; cases hht
      have nch : ct ≠ ht := fun e => by rw [← e, upd_ne npc.symm, upd_same] at hht; cases hht
      refine ⟨_, rfl, p, C, dx, _, rfl, by rw [upd_ne nph, upd_same], T.cl, T.nh, (by show 1 < 1000; decide), ?_⟩
      refine ⟨_, rfl, p, C, dx, _, _, rfl, upd_same, T.cl, T.nc, by rw [lookup_putF, if_neg s_ch, lookup_putF, if_pos rfl], ct, _, rfl, .inr (SqT.of (by rw [upd_ne npc.symm, upd_ne nch, upd_ne npc.symm, upd_same])), ?_⟩
      refine ⟨_, rfl, p, C, dx, _, rfl, upd_same, T.cl, T.ns, (Nat.lt_of_le_of_lt (putF_len _ _ _) (Nat.lt_of_le_of_lt (Nat.succ_le_succ (putF_len _ _ _)) (by show 2 < 1000; decide))), ?_⟩
      refine ⟨_, rfl, p, C, dx, _, _, rfl, upd_same, T.cl, T.nh, by rw [lookup_putF, if_neg s_hs, lookup_putF, if_pos rfl], ht, _, rfl, .inr (SqT.of (by rw [upd_ne nph.symm, upd_ne nph.symm, upd_same])), ?_⟩
      refine ⟨_, rfl, p, C, dx, _, rfl, upd_same, T.cl, T.np, (Nat.lt_of_le_of_lt (putF_len _ _ _) (Nat.lt_of_le_of_lt (Nat.succ_le_succ (putF_len _ _ _)) (Nat.lt_of_le_of_lt (Nat.succ_le_succ (Nat.succ_le_succ (putF_len _ _ _))) (by show 3 < 1000; decide)))), ?_⟩
      have hne : ∀ c o, H c = some o → c ≠ ct ∧ c ≠ ht := fun c o e => by
        have e2 := s2 _ _ e
        have h1 : c ≠ ct := ne_of_none e2 hct
        refine ⟨h1, fun z => ?_⟩
        subst z
        by_cases hcp : c = p
        · exact nph hcp.symm
        · rw [upd_ne hcp, upd_ne h1, e2] at hht
          cases hht
      refine k _ ⟨p, dx, ct, ht, acc, rfl, ?_, ?_, ?_, ?_, ok⟩ fun c o e ne => ?_
      · rw [upd_same]
        unfold poolF
        rw [List.length_map, pacc.length]
      · rw [upd_ne npc.symm, upd_ne npc.symm, upd_ne npc.symm, upd_ne nch, upd_ne npc.symm, upd_same]
      · rw [upd_ne nph.symm, upd_ne nph.symm, upd_ne nph.symm, upd_same]
      · refine tups_T.all ?_ pacc
        intro t xs et
        have t1 : t ≠ p := ne_of et hp2 (by intro z; cases z)
        have t2 : t ≠ ct := ne_of_none et hct
        have t3 : t ≠ ht := fun z => by
          subst z
          rw [upd_ne t1, upd_ne t2, et] at hht
          cases hht
        rw [upd_ne t1, upd_ne t1, upd_ne t1, upd_ne t3, upd_ne t1, upd_ne t2]
        exact et
      · obtain ⟨n1, n2⟩ := hne c o e
        rw [upd_ne ne, upd_ne ne, upd_ne ne, upd_ne n2, upd_ne ne, upd_ne n1]
        exact s2 _ _ e
end
end BL
set_option Elab.async false
set_option linter.all false
set_option maxRecDepth 100000
set_option maxHeartbeats 4000000
namespace BL
open PySem L2
/-! dealings: pieces_on, free_pair, take_walk -/
abbrev Deal := List (Option (Nat × Nat))
/-- the pieces below n that are dealt to p -/
def onT (ds : Deal) (n : Nat) (p : Nat × Nat) : List Nat := (List.range n).filter fun i => decide (ds[i]? = some (some p))
def on (ds : Deal) (p : Nat × Nat) : List Nat := onT ds ds.length p
def keyP (p : Nat × Nat) : List Key := [Sum.inl (p.1 : Int), Sum.inl (p.2 : Int)]
theorem keyP_inj {p q : Nat × Nat} (h : keyP p = keyP q) : p = q := by
  unfold keyP at h
  injection h with h1 h2
  injection h2 with h2 _
  injection h1 with h1
  injection h2 with h2
  exact Prod.ext (by omega) (by omega)
theorem keyP_map (p : Nat × Nat) : (keyP p).map kV = [vn p.1, vn p.2] := rfl
theorem onT_succ (ds : Deal) (n : Nat) (p : Nat × Nat) : onT ds (n + 1) p = onT ds n p ++ if ds[n]? = some (some p) then [n] else [] := by
  unfold onT
  rw [List.range_succ, List.filter_append]
  congr 1
  by_cases h : ds[n]? = some (some p)
  · rw [if_pos h, List.filter_cons, if_pos (by simpa using h)]; rfl
  · rw [if_neg h, List.filter_cons, if_neg (by simpa using h)]; rfl
theorem onT_len (ds : Deal) (n : Nat) (p : Nat × Nat) : (onT ds n p).length ≤ n := by
  unfold onT
  exact Nat.le_trans (List.length_filter_le _ _) (by rw [List.length_range]; exact Nat.le_refl _)
/-- at a stands the dict from each pair to its pieces -/
def DealtAt (H : Hp) (a : Addr) (ds : Deal) : Prop := ∃ kvs, H a = some (.dT kvs) ∧ ∀ p : Nat × Nat,
  (valV kvs (keyP p) = none ∧ on ds p = []) ∨ ∃ l, valV kvs (keyP p) = some (.ref l) ∧ H l = some (.lst ((on ds p).map vn))
theorem DealtAt.same {H H' : Hp} {a : Addr} {ds : Deal} (h : DealtAt H a ds) (s : Same H H') : DealtAt H' a ds := by
  obtain ⟨kvs, h1, h2⟩ := h
  refine ⟨kvs, s _ _ h1, fun p => ?_⟩
  rcases h2 p with h | ⟨l, h3, h4⟩
  · exact .inl h
  · exact .inr ⟨l, h3, s _ _ h4⟩
/-- between two turns of pieces_on -/
structure PoI (H0 : Hp) (d : Addr) (ds : Deal) (i : Nat) (H : Hp) (kvs : List (List Key × V)) : Prop where
  same : Same H0 H
  dict : H d = some (.dT kvs)
  few : kvs.length ≤ i
  val : ∀ p : Nat × Nat, (valV kvs (keyP p) = none ∧ onT ds i p = []) ∨ ∃ l, valV kvs (keyP p) = some (.ref l) ∧ H0 l = none ∧ H l = some (.lst ((onT ds i p).map vn))
  inj : ∀ (p q : Nat × Nat) (l : Addr), valV kvs (keyP p) = some (.ref l) → valV kvs (keyP q) = some (.ref l) → p = q
def spPiecesOn (K : PySem.W.Frag) : Sp := fun vs H Q _ => ∃ (a : Addr) (us : List V) (ds : Deal), vs = [.ref a] ∧ SqL K H a us ∧ Paired (IsO H) us ds ∧ ds.length ≤ 1000 ∧
  ∀ (d : Addr) (H' : Hp), Same H H' → DealtAt H' d ds → Q (.ref d) H'
def spFreePair (C : Addr) : Sp := fun vs H Q _ => ∃ (v : V) (d : Addr) (caps : List Nat) (hs : List (List Nat)) (ds : Deal) (i : Nat), vs = [v, .ref d, vn i] ∧ PoolAt C H v caps hs ∧ DealtAt H d ds ∧ i < hs.length ∧
  (∀ H', Same H H' → (∀ p ∈ heldP caps hs i, roomA caps p ≤ (on ds p).length) → Q .non H') ∧
  (∀ (u : V) (p : Nat × Nat) (H' : Hp), Same H H' → IsP H' u p → p ∈ heldP caps hs i → (on ds p).length < roomA caps p → Q u H')
/-- the dealing after the steps of a walk -/
def walkD (ds : Deal) (W : List (Nat × (Nat × Nat))) : Deal := W.foldl (fun d s => d.set s.1 (some s.2)) ds
theorem walkD_len : ∀ (W : List (Nat × (Nat × Nat))) (ds : Deal), (walkD ds W).length = ds.length
  | [], _ => rfl
  | s :: W, ds => by
    show (walkD (ds.set s.1 (some s.2)) W).length = _
    rw [walkD_len W, List.length_set]
def spTakeWalk (K : PySem.W.Frag) : Sp := fun vs H Q _ => ∃ (a b : Addr) (us ws : List V) (ds : Deal) (W : List (Nat × (Nat × Nat))), vs = [.ref a, .ref b] ∧ SqL K H a us ∧ Paired (IsO H) us ds ∧ SqL K H b ws ∧ Paired (IsS H) ws W ∧ (∀ s ∈ W, s.1 < ds.length) ∧
  ∀ (p : Addr) (vs' : List V) (H' : Hp), Same H H' → H' p = some (.lst vs') → Paired (IsO H') vs' (walkD ds W) → Q (.ref p) H'
theorem paired_set {F : V → Option (Nat × Nat) → Prop} {v : V} {o : Option (Nat × Nat)} (h : F v o) : ∀ {vs : List V} {bs : Deal} (i : Nat), Paired F vs bs → Paired F (vs.set i v) (bs.set i o)
  | _, _, _, .nil => .nil
  | _, _, 0, .cons r t => .cons h t
  | _, _, i + 1, .cons r t => .cons r (paired_set h i t)
section
variable {P : Program} {w : World} {K : PySem.W.Frag} {mg : Str → Option Value} {base : Heap} {C : Addr}
theorem ok_pieces_on {f : Addr} {fd : FuncData} (B : Bt mg) (F : FnP K "pieces_on" s_pieces_on f fd) : FnOk P w K mg base CX0 1 f fd ["dealing"] (spPiecesOn K) := by
  refine F.ok sc_pieces_on (fun vs H Q E h => ?_) (fun cdv A outer s H vs Q E hr h => ?_)
  · obtain ⟨a, us, ds, rfl, _⟩ := h; rfl
  · obtain ⟨a, us, ds, rfl, ha, pu, hl, k⟩ := h
    have hu := hu_of hr
    refine ⟨_, PSs.nox (pss_cons
      (ps_set (i := 1) sc_pieces_on.nd rfl (Or.inl rfl) pe_dnewT)
    (pss_cons
      (ps_for PassesOwn.never rfl (enumK K (by rfl) B.enumerate (pa_cons (pv 0) pa_nil)) (gtupK K 2 rfl (pgs_cons (pg_name (i := 2) sc_pieces_on.nd rfl (Or.inl rfl)) (pgs_cons (pg_name (i := 3) sc_pieces_on.nd rfl (Or.inl rfl)) pgs_nil)))
      (pss_one
        (ps_if (pt_cmpR op_notN (pv 3) pe_non (nomark _))
        (pss_one
          (ps_expr (appK K (bmK K PySem.F.plainAttrs_dict PySem.F.slot_dict_setdefault PySem.F.type_dict_setdefault (mt_setdefaultT hu) (pv 1) (pa_cons (pv 3) (pa_cons (pe_lst pa_nil) pa_nil))) (pv 2))))
        pss_nil)))
    (pss_one
      (ps_ret (pv 1))))), ?_⟩
    intro d hd
    refine ⟨_, rfl, a, us, rfl, (same_new hd).seq ha, for_enum (K := K) (a := a) (xs := us) (fun i σ H' => ∃ v1 v2 kvs, σ = [some (.ref a), some (.ref d), v1, v2] ∧ PoI H d ds i H' kvs)
      ⟨none, none, [], rfl, same_new hd, upd_same, Nat.le_refl _, fun p => .inl ⟨rfl, rfl⟩, fun p q l h => by cases h⟩ (fun i σ H' _ ⟨_, _, _, _, I⟩ => I.same.seq ha) ?_ ?_⟩
    · rintro i x σ H' T hx ⟨v1, v2, kvs, rfl, I⟩ hT
      obtain ⟨o, ho, rx⟩ := paired_at pu hx
      have hi : i < ds.length := (List.getElem?_eq_some_iff.mp ho).1
      have sT : Same H' (upd H' T (.tup [vn i, x])) := same_new hT
      have hT0 : H T = none := I.same.free hT
      refine ⟨T, _, rfl, SqT.of upd_same, rfl, ?_⟩
      refine ⟨_, _, rfl, _, _, rfl, rfl, ?_⟩
      refine ⟨_, rfl, rfl, _, rfl, ?_⟩
      cases o with
      | none =>
        have e : x = .non := rx
        subst e
        refine ite2 (fun hc => absurd hc (by decide)) (fun _ => ?_)
        refine ⟨_, _, kvs, rfl, I.same.trans sT, sT _ _ I.dict, Nat.le_succ_of_le I.few, fun p => ?_, I.inj⟩
        rw [onT_succ, if_neg (by rw [ho]; simp), List.append_nil]
        rcases I.val p with h | ⟨l, h1, h2, h3⟩
        · exact .inl h
        · exact .inr ⟨l, h1, h2, sT _ _ h3⟩
      | some p =>
        obtain ⟨t, rfl, ht⟩ := (show IsP H x p from rx)
        refine ite2 (fun _ => ?_) (fun hc => absurd (by simp) hc)
        have ht' : (upd H' T (.tup [vn i, .ref t])) t = some (.tup ((keyP p).map kV)) := sT _ _ (I.same _ _ ht)
        have hd' := sT _ _ I.dict
        refine ⟨_, rfl, .inr (.inr (.inl ⟨rfl, .inr ⟨kvs, hd'⟩⟩)), _, rfl, Nat.zero_le _, fun l0 hl0 => ?_⟩
        have s0 : Same (upd H' T (.tup [vn i, .ref t])) (upd (upd H' T (.tup [vn i, .ref t])) l0 (.lst [])) := same_new hl0
        have hl00 : H l0 = none := I.same.free (sT.free hl0)
        have hkl : kvs.length < sizeLine := sz_le (by have := I.few; omega)
        refine ⟨d, kvs, keyP p, t, .ref l0, rfl, rfl, s0 _ _ hd', s0 _ _ ht', hkl, fun v hv => ?_, fun hn => ?_⟩
        ·
          rcases I.val p with h | ⟨l, h1, h2, h3⟩
          · rw [h.1] at hv; cases hv
          · rw [h1] at hv; cases hv
            have h3' := s0 _ _ (sT _ _ h3)
            refine ⟨.inl ⟨rfl, _, SqL.of h3'⟩, _, rfl, l, _, _, rfl, rfl, h3', by rw [List.length_map]; exact sz_le (by have := onT_len ds i p; omega), ?_⟩
            refine ⟨_, _, kvs, rfl, same_put (I.same.trans (sT.trans s0)) h2, ?_, Nat.le_succ_of_le I.few, fun q => ?_, I.inj⟩
            · rw [upd_ne (ne_of hd' (sT _ _ h3) (by intro z; cases z))]; exact s0 _ _ hd'
            · by_cases hq : q = p
              · subst hq
                refine .inr ⟨l, h1, h2, ?_⟩
                rw [upd_same, onT_succ, if_pos ho, List.map_append]; rfl
              · rw [onT_succ, if_neg (by rw [ho]; intro z; injection z with z; injection z with z; exact hq z.symm), List.append_nil]
                rcases I.val q with h | ⟨m, g1, g2, g3⟩
                · exact .inl h
                · refine .inr ⟨m, g1, g2, ?_⟩
                  have nm : m ≠ l := fun z => by subst z; exact hq (I.inj q p m g1 h1)
                  rw [upd_ne nm]
                  exact s0 _ _ (sT _ _ g3)
        ·
          have nl0 : l0 ≠ d := fun z => by rw [z, hd'] at hl0; cases hl0
          have hL : (upd (upd (upd H' T (.tup [vn i, .ref t])) l0 (.lst [])) d (.dT (putK kvs (keyP p) (.ref l0)))) l0 = some (.lst []) := by rw [upd_ne nl0, upd_same]
          refine ⟨.inl ⟨rfl, _, SqL.of hL⟩, _, rfl, l0, _, _, rfl, rfl, hL, (by show 0 < sizeLine; exact sz_le (Nat.zero_le _)), ?_⟩
          refine ⟨_, _, putK kvs (keyP p) (.ref l0), rfl, same_put (same_put (I.same.trans (sT.trans s0)) hd) hl00, by rw [upd_ne nl0.symm, upd_same], Nat.le_trans (length_putK _ _ _) (Nat.succ_le_succ I.few), fun q => ?_, fun q q' l g1 g2 => ?_⟩
          · rw [valV_put]
            by_cases hq : q = p
            · subst hq
              rw [if_pos rfl]
              refine .inr ⟨l0, rfl, hl00, ?_⟩
              rw [upd_same, onT_succ, if_pos ho]
              rcases I.val q with h | ⟨m, g1, _⟩
              · rw [h.2]; rfl
              · rw [hn] at g1; cases g1
            · rw [if_neg (fun z => hq (keyP_inj z)), onT_succ, if_neg (by rw [ho]; intro z; injection z with z; injection z with z; exact hq z.symm), List.append_nil]
              rcases I.val q with h | ⟨m, g1, g2, g3⟩
              · exact .inl h
              · refine .inr ⟨m, g1, g2, ?_⟩
                have nm : m ≠ l0 := ne_of_none (sT _ _ g3) hl0
                have nmd : m ≠ d := ne_of g3 I.dict (by intro z; cases z)
                rw [upd_ne nm, upd_ne nmd]
                exact s0 _ _ (sT _ _ g3)
          · rw [valV_put] at g1 g2
            have old : ∀ q, valV kvs (keyP q) ≠ some (.ref l0) := fun q z => by
              rcases I.val q with h | ⟨m, z1, z2, z3⟩
              · rw [h.1] at z; cases z
              · rw [z1] at z; cases z
                rw [sT _ _ z3] at hl0; cases hl0
            by_cases e1 : keyP q = keyP p
            · rw [if_pos e1] at g1
              cases g1
              by_cases e2 : keyP q' = keyP p
              · exact (keyP_inj e1).trans (keyP_inj e2).symm
              · rw [if_neg e2] at g2
                exact absurd g2 (old q')
            · rw [if_neg e1] at g1
              by_cases e2 : keyP q' = keyP p
              · rw [if_pos e2] at g2
                cases g2
                exact absurd g1 (old q)
              · rw [if_neg e2] at g2
                exact I.inj q q' l g1 g2
    · rintro σ H' ⟨v1, v2, kvs, rfl, I⟩
      refine ⟨_, rfl, ?_⟩
      have e : us.length = ds.length := pu.length
      refine k d H' I.same ⟨kvs, I.dict, fun p => ?_⟩
      have iv := I.val p
      rw [e] at iv
      rcases iv with h | ⟨l, h1, _, h3⟩
      · exact .inl h
      · exact .inr ⟨l, h1, h3⟩
theorem ok_free_pair {f : Addr} {fd : FuncData} (B : Bt mg) (F : FnP K "free_pair" s_free_pair f fd) (h_held_pairs : Has P w K mg base 2 "held_pairs" ["pool", "piece"] (spHeldPairs C)) (h_pair_room : Has P w K mg base 1 "pair_room" ["pool", "pair"] (spPairRoom C)) :
    FnOk P w K mg base CX0 3 f fd ["pool", "dealt", "piece"] (spFreePair C) := by
  refine F.ok sc_free_pair (fun vs H Q E h => ?_) (fun cdv A outer s H vs Q E hr h => ?_)
  · obtain ⟨v, d, caps, hs, ds, i, rfl, _⟩ := h; rfl
  · obtain ⟨v, d, caps, hs, ds, i, rfl, hp, hd, hi, k1, k2⟩ := h
    have hu := hu_of hr
    refine ⟨_, PSs.nox (pss_cons
      (ps_for PassesOwn.never rfl (pi_listK K (pe_fn h_held_pairs (hr.mono (by decide)) rfl (pa_cons (pv 0) (pa_cons (pv 2) pa_nil)))) (pg_name (i := 3) sc_free_pair.nd rfl (Or.inl rfl))
      (pss_one
        (ps_if (pt_cmpR op_lt (pe_callB (lenK K) (by rfl) B.len PySem.boot_len (pa_cons (pe_dget2 hu (pv 1) (pv 3) (pe_lst pa_nil) ⟨rfl, rfl, rfl, rfl⟩) pa_nil)) (pe_fn h_pair_room (hr.mono (by decide)) rfl (pa_cons (pv 0) (pa_cons (pv 3) pa_nil))) (nomark _))
        (pss_one
          (ps_ret (pv 3)))
        pss_nil)))
    (pss_one
      (ps_ret pe_non))), ?_⟩
    refine ⟨_, rfl, _, rfl, v, caps, hs, i, rfl, hp, hi, fun p ws H1 hp0 s1 hpl pw => ?_⟩
    refine ⟨p, rfl, ⟨_, SqL.of hpl⟩, for_list (K := K) (a := p) (xs := ws) (fun j σ H' => Same H1 H' ∧ (∃ v3, σ = [some v, some (.ref d), some (vn i), v3]) ∧ ∀ q ∈ (heldP caps hs i).take j, roomA caps q ≤ (on ds q).length)
      ⟨Same.refl _, ⟨none, rfl⟩, fun q hq => by simp at hq⟩ (fun j σ H' _ ⟨s', _⟩ => SqL.of (s' _ _ hpl)) ?_ ?_⟩
    · rintro j x σ H' hx ⟨s', ⟨v3, rfl⟩, hq⟩
      obtain ⟨pr, hpr, rx⟩ := paired_at pw hx
      have hm := List.mem_of_getElem? hpr
      have hrow := mem_heldA.mp hm
      have rx' := tups_P _ _ (tk_of s') _ _ rx
      obtain ⟨t, rfl, ht⟩ := id rx'
      have sA := s1.trans s'
      obtain ⟨kvs, hk, hv⟩ := hd.same sA
      have hin : ∃ h, hs[i]? = some h := ⟨hs[i], List.getElem?_eq_getElem hi⟩
      obtain ⟨h, hh⟩ := hin
      have hb := (hp.ok.row h (List.mem_of_getElem? hh)).2.2
      rw [List.getD_eq_getElem?_getD, hh] at hrow
      refine ⟨_, rfl, d, rfl, .inr ⟨kvs, .inl hk⟩, _, rfl, Nat.zero_le _, fun l0 hl0 => ?_⟩
      have s0 : Same H' (upd H' l0 (.lst [])) := same_new hl0
      refine ⟨valV kvs (keyP pr), DGet.t (s0 _ _ hk) (s0 _ _ ht), ?_⟩
      have hlist : ∃ l, (valV kvs (keyP pr)).getD (.ref l0) = .ref l ∧ (upd H' l0 (.lst [])) l = some (.lst ((on ds pr).map vn)) := by
        rcases hv pr with ⟨e, e2⟩ | ⟨l, e, e2⟩
        · exact ⟨l0, by rw [e]; rfl, by rw [upd_same, e2]; rfl⟩
        · exact ⟨l, by rw [e]; rfl, s0 _ _ e2⟩
      obtain ⟨l, e1, e2⟩ := hlist
      rw [e1]
      refine ⟨l, _, rfl, .inl (SqL.of e2), ?_⟩
      refine ⟨_, rfl, _, rfl, v, .ref t, caps, hs, pr, rfl, hp.same (sA.trans s0), tups_P _ _ (tk_of s0) _ _ rx', hb _ hrow.1, hb _ hrow.2.1, ?_⟩
      refine ⟨_, _, rfl, rfl, _, rfl, ?_⟩
      rw [List.length_map]
      refine ite2 (fun hc => ?_) (fun hc => ?_)
      · have hc' : (on ds pr).length < roomA caps pr := by simpa using hc
        exact ⟨_, rfl, k2 (.ref t) pr _ (sA.trans s0) (tups_P _ _ (tk_of s0) _ _ rx') hm hc'⟩
      · have hc' : ¬ (on ds pr).length < roomA caps pr := by simpa using hc
        refine ⟨s'.trans s0, ⟨_, rfl⟩, fun q hq' => ?_⟩
        rw [take_snoc hpr] at hq'
        rcases List.mem_append.mp hq' with z | z
        · exact hq q z
        · rw [List.mem_singleton.mp z]; omega
    · rintro σ H' ⟨s', ⟨v3, rfl⟩, hq⟩
      rw [pw.length, List.take_length] at hq
      exact k1 H' (s1.trans s') hq
theorem ok_take_walk {f : Addr} {fd : FuncData} (B : Bt mg) (F : FnP K "take_walk" s_take_walk f fd) : FnOk P w K mg base CX0 1 f fd ["dealing", "walk"] (spTakeWalk K) := by
  refine F.ok sc_take_walk (fun vs H Q E h => ?_) (fun cdv A outer s H vs Q E hr h => ?_)
  · obtain ⟨a, b, us, ws, ds, W, rfl, _⟩ := h; rfl
  · obtain ⟨a, b, us, ws, ds, W, rfl, ha, pu, hb, pw, hw, k⟩ := h
    refine ⟨_, PSs.nox (pss_cons
      (ps_set (i := 2) sc_take_walk.nd rfl (Or.inl rfl) (pe_callTy (lstOfK K) (by rfl) B.list (by decide +kernel) (pa_cons (pv 0) pa_nil)))
    (pss_cons
      (ps_for PassesOwn.never rfl (pi_listK K (pv 1)) (gtupK K 2 rfl (pgs_cons (pg_name (i := 3) sc_take_walk.nd rfl (Or.inl rfl)) (pgs_cons (pg_name (i := 4) sc_take_walk.nd rfl (Or.inl rfl)) pgs_nil)))
      (pss_one
        (ps_asg (pv 4) (pg_sub (pv 2) (pv 3) set_list))))
    (pss_one
      (ps_ret (pv 2))))), ?_⟩
    refine ⟨_, rfl, a, _, rfl, .inl ha, fun l hl => ?_⟩
    refine ⟨_, rfl, b, rfl, ⟨_, (same_new hl).seq hb⟩, for_list (K := K) (a := b) (xs := ws) (fun j σ H' => ∃ v3 v4 vs', σ = [some (.ref a), some (.ref b), some (.ref l), v3, v4] ∧ Same H H' ∧ H' l = some (.lst vs') ∧ Paired (IsO H') vs' (walkD ds (W.take j)))
      ⟨none, none, us, rfl, same_new hl, upd_same, tups_O.all (tk_of (same_new hl)) pu⟩ (fun j σ H' _ ⟨_, _, _, _, s', _⟩ => s'.seq hb) ?_ ?_⟩
    · rintro j x σ H' hx ⟨v3, v4, vs', rfl, s', hl', pv'⟩
      obtain ⟨st, hst, t, q, rfl, ht, hq⟩ := paired_at pw hx
      have hlt := hw st (List.mem_of_getElem? hst)
      refine ⟨t, _, rfl, SqT.of (s' _ _ ht), rfl, ?_⟩
      refine ⟨_, _, rfl, _, _, rfl, rfl, ?_⟩
      have hlen : vs'.length = ds.length := by rw [pv'.length, walkD_len]
      refine ⟨_, rfl, _, rfl, _, rfl, l, vs', (st.1 : Int), st.1, rfl, rfl, hl', ?_, ?_⟩
      · unfold ixN
        rw [if_pos (by omega), if_pos (by rw [hlen]; omega)]; rfl
      · refine ⟨_, _, _, rfl, same_put s' hl, upd_same, ?_⟩
        have kt : TK H' (upd H' l (.lst (vs'.set st.1 (.ref q)))) := tk_lst hl'
        rw [take_snoc hst]
        unfold walkD
        rw [List.foldl_append]
        exact paired_set (F := IsO (upd H' l (.lst (vs'.set st.1 (.ref q))))) (v := .ref q) (o := some st.2) ⟨q, rfl, kt _ _ (s' _ _ hq)⟩ st.1 (tups_O.all kt pv')
    · rintro σ H' ⟨v3, v4, vs', rfl, s', hl', pv'⟩
      rw [pw.length, List.take_length] at pv'
      exact ⟨_, rfl, k l vs' H' s' hl' pv'⟩
end
end BL
set_option Elab.async false
set_option linter.all false
set_option maxRecDepth 100000
set_option maxHeartbeats 4000000
namespace BL
open PySem L2
/-! forest -/
theorem sub_len : ∀ {l m : List Nat}, l.Nodup → (∀ x ∈ l, x ∈ m) → l.length ≤ m.length
  | [], _, _, _ => Nat.zero_le _
  | a :: l, m, hn, hs => by
    obtain ⟨h1, h2⟩ := List.nodup_cons.mp hn
    have ha := hs a (List.mem_cons_self ..)
    have ih := sub_len (m := m.erase a) h2 fun x hx => (List.mem_erase_of_ne (fun e => h1 (by rw [← e]; exact hx))).mpr (hs x (List.mem_cons_of_mem _ hx))
    rw [List.length_erase_of_mem ha] at ih
    have := List.length_pos_of_mem ha
    rw [List.length_cons]
    omega
theorem below_len {l : List Nat} {n : Nat} (hn : l.Nodup) (hb : ∀ x ∈ l, x < n) : l.length ≤ n := by
  have := sub_len (m := List.range n) hn fun x hx => List.mem_range.mpr (hb x hx)
  rwa [List.length_range] at this
abbrev Ents := List (Nat × Option Nat)
def vO : Option Nat → V
  | none => .non
  | some b => vn b
def kvsOf (es : Ents) : List (Key × V) := es.map fun e => (Sum.inl (e.1 : Int), vO e.2)
def ksOf (es : Ents) : List Nat := es.map (·.1)
theorem valV_kvs : ∀ (es : Ents) (k : Nat), valV (kvsOf es) (Sum.inl (k : Int)) = (es.find? fun e => decide (e.1 = k)).map fun e => vO e.2
  | [], _ => rfl
  | e :: es, k => by
    by_cases h : e.1 = k
    · rw [show kvsOf (e :: es) = (Sum.inl (e.1 : Int), vO e.2) :: kvsOf es from rfl, valV_pos (by rw [h]), List.find?_cons_of_pos (by simp [h])]; rfl
    · rw [show kvsOf (e :: es) = (Sum.inl (e.1 : Int), vO e.2) :: kvsOf es from rfl, valV_neg (fun z => h (by injection z with z; omega)), List.find?_cons_of_neg (by simp [h]), valV_kvs es k]
theorem valV_kvs_none {es : Ents} {k : Nat} (h : k ∉ ksOf es) : valV (kvsOf es) (Sum.inl (k : Int)) = none := by
  rw [valV_kvs, List.find?_eq_none.mpr]; rfl
  intro e he z
  exact h (List.mem_map.mpr ⟨e, he, by simpa using z⟩)
theorem valV_kvs_mem {es : Ents} {k : Nat} (h : k ∈ ksOf es) : (valV (kvsOf es) (Sum.inl (k : Int))).isSome = true := by
  rw [valV_kvs, Option.isSome_map]
  obtain ⟨e, he, rfl⟩ := List.mem_map.mp h
  rw [List.find?_isSome]
  exact ⟨e, he, by simp⟩
theorem valV_kvs_at : ∀ {es : Ents} {i k : Nat} {o : Option Nat}, (ksOf es).Nodup → es[i]? = some (k, o) → valV (kvsOf es) (Sum.inl (k : Int)) = some (vO o)
  | [], i, k, o, _, h => by simp at h
  | e :: es, 0, k, o, _, h => by
    simp at h; subst h
    rw [show kvsOf ((k, o) :: es) = (Sum.inl (k : Int), vO o) :: kvsOf es from rfl, valV_pos rfl]
  | e :: es, i + 1, k, o, hn, h => by
    obtain ⟨h1, h2⟩ := List.nodup_cons.mp (show (e.1 :: ksOf es).Nodup from hn)
    have h' : es[i]? = some (k, o) := by simpa using h
    have hne : e.1 ≠ k := fun z => h1 (by rw [z]; exact List.mem_map.mpr ⟨_, List.mem_of_getElem? h', rfl⟩)
    rw [show kvsOf (e :: es) = (Sum.inl (e.1 : Int), vO e.2) :: kvsOf es from rfl, valV_neg (fun z => hne (by injection z with z; omega))]
    exact valV_kvs_at h2 h'
theorem ksOf_len (es : Ents) : (ksOf es).length = es.length := List.length_map ..
theorem kvsOf_keys (es : Ents) : (kvsOf es).map (fun kv => kV kv.1) = (ksOf es).map vn := by
  unfold kvsOf ksOf; rw [List.map_map, List.map_map]; rfl
theorem ksOf_at {es : Ents} {i k : Nat} {o : Option Nat} (h : es[i]? = some (k, o)) : (ksOf es)[i]? = some k := by
  unfold ksOf; rw [List.getElem?_map, h]; rfl
theorem kvsOf_app (es fs : Ents) : kvsOf (es ++ fs) = kvsOf es ++ kvsOf fs := List.map_append ..
theorem ksOf_app (es fs : Ents) : ksOf (es ++ fs) = ksOf es ++ ksOf fs := List.map_append ..
/-- what a forest keeps while it grows -/
structure FI (caps : List Nat) (hs : List (List Nat)) (ds : Deal) (r : Nat) (es : Ents) : Prop where
  head : es[0]? = some (r, none)
  nd : (ksOf es).Nodup
  back : ∀ i k o, es[i]? = some (k, o) → i = 0 ∨ ∃ b j p, o = some b ∧ j < i ∧ (ksOf es)[j]? = some b ∧ ds[k]? = some (some p) ∧ p ∈ heldP caps hs b
  bound : ∀ k ∈ ksOf es, k < hs.length
/-- all pieces that are dealt to one of these pairs are found -/
def Cov (ds : Deal) (es : Ents) (ps : List (Nat × Nat)) : Prop := ∀ p ∈ ps, ∀ j ∈ on ds p, j ∈ ksOf es
theorem Cov.grow {ds : Deal} {es fs : Ents} {ps : List (Nat × Nat)} (h : Cov ds es ps) : Cov ds (es ++ fs) ps := fun p hp j hj => by
  rw [ksOf_app]; exact List.mem_append_left _ (h p hp j hj)
theorem mem_on {ds : Deal} {p : Nat × Nat} {j : Nat} : j ∈ on ds p ↔ ds[j]? = some (some p) := by
  unfold on onT
  rw [List.mem_filter, List.mem_range, decide_eq_true_eq]
  constructor
  · exact fun h => h.2
  · exact fun h => ⟨(List.getElem?_eq_some_iff.mp h).1, h⟩
theorem FI.add {caps : List Nat} {hs : List (List Nat)} {ds : Deal} {r : Nat} {es : Ents} (h : FI caps hs ds r es) (hlen : ds.length = hs.length) {lk cur j : Nat} {p : Nat × Nat} (hc : (ksOf es)[lk]? = some cur) (hp : p ∈ heldP caps hs cur) (hj : j ∈ on ds p) (hn : j ∉ ksOf es) :
    FI caps hs ds r (es ++ [(j, some cur)]) := by
  have hlt : lk < es.length := by have := (List.getElem?_eq_some_iff.mp hc).1; rwa [ksOf_len] at this
  have hd := mem_on.mp hj
  refine ⟨?_, ?_, fun i k o hi => ?_, fun k hk => ?_⟩
  · rw [List.getElem?_append_left (by omega)]; exact h.head
  · rw [ksOf_app]; exact nd_snoc h.nd hn
  · by_cases hi' : i < es.length
    · rw [List.getElem?_append_left hi'] at hi
      rcases h.back i k o hi with z | ⟨b, j', q, e, hj', hb, hq, hm⟩
      · exact .inl z
      · refine .inr ⟨b, j', q, e, hj', ?_, hq, hm⟩
        rw [ksOf_app, List.getElem?_append_left (by rw [ksOf_len]; omega)]; exact hb
    · have e : i = es.length := by
        have := (List.getElem?_eq_some_iff.mp hi).1
        rw [List.length_append, List.length_singleton] at this
        omega
      subst e
      rw [List.getElem?_append_right (Nat.le_refl _), Nat.sub_self] at hi
      cases hi
      refine .inr ⟨cur, lk, p, rfl, hlt, ?_, hd, hp⟩
      rw [ksOf_app, List.getElem?_append_left (by rw [ksOf_len]; omega)]; exact hc
  · rw [ksOf_app] at hk
    rcases List.mem_append.mp hk with z | z
    · exact h.bound k z
    · rw [show k = j from by simpa [ksOf] using z, ← hlen]
      exact (List.getElem?_eq_some_iff.mp hd).1
/-- the forest, its search done -/
structure Forest (caps : List Nat) (hs : List (List Nat)) (ds : Deal) (r : Nat) (es : Ents) : Prop where
  fi : FI caps hs ds r es
  cov : ∀ k ∈ ksOf es, Cov ds es (heldP caps hs k)
/-- the two growing objects -/
structure FS (H0 : Hp) (d rw : Addr) (es : Ents) (H : Hp) : Prop where
  same : Same H0 H
  dict : H d = some (.dK (kvsOf es))
  row : H rw = some (.lst ((ksOf es).map vn))
theorem FS.later {H0 H H' : Hp} {d rw : Addr} {es : Ents} (h : FS H0 d rw es H) (s : Same H H') : FS H0 d rw es H' := ⟨h.same.trans s, s _ _ h.dict, s _ _ h.row⟩
def spForest (K : PySem.W.Frag) (C : Addr) : Sp := fun vs H Q _ => ∃ (v : V) (dl a : Addr) (caps : List Nat) (hs : List (List Nat)) (ds : Deal) (r : Nat), vs = [v, .ref dl, .ref a] ∧ PoolAt C H v caps hs ∧ DealtAt H dl ds ∧ SqL K H a [vn r] ∧ r < hs.length ∧ ds.length = hs.length ∧
  ∀ (d : Addr) (es : Ents) (H' : Hp), H d = none → Same H H' → H' d = some (.dK (kvsOf es)) → Forest caps hs ds r es → Q (.ref d) H'
section
variable {P : Program} {w : World} {K : PySem.W.Frag} {mg : Str → Option Value} {base : Heap} {C : Addr}
theorem ok_forest {f : Addr} {fd : FuncData} (B : Bt mg) (F : FnP K "forest" s_forest f fd) (h_held_pairs : Has P w K mg base 2 "held_pairs" ["pool", "piece"] (spHeldPairs C)) :
    FnOk P w K mg base CX0 3 f fd ["pool", "dealt", "roots"] (spForest K C) := by
  refine F.ok sc_forest (fun vs H Q E h => ?_) (fun cdv A outer s H vs Q E hr h => ?_)
  · obtain ⟨v, dl, a, caps, hs, ds, r, rfl, _⟩ := h; rfl
  · obtain ⟨v, dl, a, caps, hs, ds, r, rfl, hp, hdl, ha, hrl, hlen, k⟩ := h
    have hu := hu_of hr
    refine ⟨_, PSs.nox (pss_cons
      (ps_setDc (i := 3) (own := [("root", 4)]) rfl sc_forest.nd rfl rfl (swd_true rfl rfl rfl (by decide +kernel)) (pi_listK K (pv 2)) (blkOk_by (own := [("root", 4)]) (N := N_forest) (sc := defScope s_forest) (by decide +kernel)) (fun _ _ _ _ _ => (pg_name (i := 4) sc_forest.nd rfl (Or.inl rfl))) (fun _ _ _ _ _ => pts_nil) (fun _ _ _ _ _ => (pv 4)) (fun _ _ _ _ _ => pe_non))
    (pss_cons
      (ps_set (i := 5) sc_forest.nd rfl (Or.inl rfl) (pe_callTy (call_list_dK rfl) (by rfl) B.list (by decide +kernel) (pa_cons (pv 3) pa_nil)))
    (pss_cons
      (ps_set (i := 6) sc_forest.nd rfl (Or.inl rfl) pe_int)
    (pss_cons
      (ps_while PassesOwn.never (pt_cmpR op_lt (pv 6) (pe_callB (lenK K) (by rfl) B.len PySem.boot_len (pa_cons (pv 5) pa_nil)) (nomark _))
      (pss_cons
        (ps_set (i := 7) sc_forest.nd rfl (Or.inl rfl) (pe_ix (ix_listK K) (pv 5) (pv 6) (fun _ _ => rfl)))
      (pss_cons
        (ps_for PassesOwn.never rfl (pi_listK K (pe_fn h_held_pairs (hr.mono (by decide)) rfl (pa_cons (pv 0) (pa_cons (pv 7) pa_nil)))) (pg_name (i := 8) sc_forest.nd rfl (Or.inl rfl))
        (pss_one
          (ps_for PassesOwn.never rfl (pi_listK K (pe_dget2 hu (pv 1) (pv 8) (pe_lst pa_nil) ⟨rfl, rfl, rfl, rfl⟩)) (pg_name (i := 9) sc_forest.nd rfl (Or.inl rfl))
          (pss_one
            (ps_if (pt_cmp (pc_dnotin hu (pv 9) (pv 3)))
            (pss_cons
              (ps_dput hu (pv 3) (pv 9) (pv 7) rfl)
            (pss_one
              (ps_expr (appK K (pv 5) (pv 9)))))
            pss_nil)))))
      (pss_one
        (ps_aug (i := 6) sc_forest.nd rfl (Or.inl rfl) pe_int ip_add)))))
    (pss_one
      (ps_ret (pv 3))))))), ?_⟩
    refine ⟨_, rfl, a, rfl, ⟨_, ha⟩, fun d hd => ?_⟩
    refine dc_list (K := K) (a := a) (xs := [vn r]) (fun i H' => Same H H' ∧ H' d = some (.dK (kvsOf (([(r, none)] : Ents).take i)))) ⟨same_new hd, upd_same⟩ (fun i H' _ I => I.1.seq ha) (fun i x H' hx I => ?_) (fun H1 I => ?_)
    · have hi : i = 0 := by have := (List.getElem?_eq_some_iff.mp hx).1; simp at this; exact this
      subst hi
      have e : x = vn r := by simpa using hx.symm
      subst e
      refine ⟨rfl, ?_⟩
      refine yesT ?_
      refine ⟨_, rfl, _, Sum.inl (r : Int), rfl, I.2, sz_le (Nat.zero_le _), same_put I.1 hd, ?_⟩
      rw [upd_same]; rfl
    obtain ⟨s1, hd1⟩ := I
    have hd1 : H1 d = some (.dK (kvsOf [(r, none)])) := hd1
    refine ⟨_, rfl, d, _, rfl, hd1, fun rw_ hrw => ?_⟩
    rw [kvsOf_keys]
    have nrd : rw_ ≠ d := fun z => by rw [z, hd1] at hrw; cases hrw
    have hrw0 : H rw_ = none := s1.free hrw
    have hd0 := hd
    have fs0 : FS H d rw_ [(r, none)] (upd H1 rw_ (.lst ((ksOf [(r, none)]).map vn))) := ⟨same_put s1 hrw0, by rw [upd_ne nrd.symm]; exact hd1, upd_same⟩
    have fi0 : FI caps hs ds r [(r, none)] := ⟨rfl, by simp [ksOf], fun i k' o hi => by
      have : i = 0 := by have := (List.getElem?_eq_some_iff.mp hi).1; simp at this; exact this
      exact .inl this, fun k' hk => by rw [show k' = r from by simpa [ksOf] using hk]; exact hrl⟩
    refine ⟨fun m σ H' => ∃ (lk : Nat) (es : Ents) (v7 v8 v9 : Option V), m = hs.length - lk ∧ lk ≤ es.length ∧ σ = [some v, some (.ref dl), some (.ref a), some (.ref d), none, some (.ref rw_), some (vn lk), v7, v8, v9] ∧
      FS H d rw_ es H' ∧ FI caps hs ds r es ∧ ∀ k' ∈ (ksOf es).take lk, Cov ds es (heldP caps hs k'), ⟨_, 0, [(r, none)], none, none, none, rfl, Nat.zero_le _, rfl, fs0, fi0, fun k' hk => by simp at hk⟩, ?_⟩
    rintro m σ H2 ⟨lk, es, v7, v8, v9, rfl, hlk, rfl, fs, fi, cov⟩
    have hes : es.length ≤ hs.length := by rw [← ksOf_len]; exact below_len fi.nd fi.bound
    refine ⟨_, rfl, _, rfl, rw_, _, rfl, .inl (SqL.of fs.row), _, _, rfl, rfl, _, rfl, ?_⟩
    rw [List.length_map, ksOf_len]
    refine ite2 (fun hc => ?_) (fun hc => ?_)
    · have hc' : lk < es.length := by simpa using hc
      refine ⟨fun σ' H' => ∃ (es' : Ents) (v7 v8 v9 : Option V), lk + 1 ≤ es'.length ∧ σ' = [some v, some (.ref dl), some (.ref a), some (.ref d), none, some (.ref rw_), some (vn (lk + 1)), v7, v8, v9] ∧
        FS H d rw_ es' H' ∧ FI caps hs ds r es' ∧ ∀ k' ∈ (ksOf es').take (lk + 1), Cov ds es' (heldP caps hs k'), fun σ' H' ⟨es', a7, a8, a9, q1, q2, q3, q4, q5⟩ => ⟨hs.length - (lk + 1), by omega, lk + 1, es', a7, a8, a9, rfl, q1, q2, q3, q4, q5⟩, ?_⟩
      obtain ⟨⟨cur, oc⟩, hcur⟩ : ∃ e, es[lk]? = some e := ⟨es[lk], List.getElem?_eq_getElem hc'⟩
      have hck := ksOf_at hcur
      have hcl : cur < hs.length := fi.bound cur (List.mem_of_getElem? hck)
      refine ⟨_, rfl, _, rfl, rw_, _, _, _, rfl, rfl, SqL.of fs.row, at_map hck, ?_⟩
      refine ⟨_, rfl, _, rfl, v, caps, hs, cur, rfl, hp.same fs.same, hcl, fun p ws H3 hp0 s3 hpl pw => ?_⟩
      have npd : p ≠ d := fun z => by rw [z, fs.dict] at hp0; cases hp0
      have npr : p ≠ rw_ := fun z => by rw [z, fs.row] at hp0; cases hp0
      refine ⟨p, rfl, ⟨_, SqL.of hpl⟩, for_list (K := K) (a := p) (xs := ws) (fun j σ' H' => ∃ (fs' : Ents) (b8 b9 : Option V), σ' = [some v, some (.ref dl), some (.ref a), some (.ref d), none, some (.ref rw_), some (vn lk), some (vn cur), b8, b9] ∧
        H' p = some (.lst ws) ∧ Paired (IsP H') ws (heldP caps hs cur) ∧ FS H d rw_ (es ++ fs') H' ∧ FI caps hs ds r (es ++ fs') ∧ Cov ds (es ++ fs') ((heldP caps hs cur).take j))
        ⟨[], v8, v9, rfl, hpl, pw, by rw [List.append_nil]; exact fs.later s3, by rw [List.append_nil]; exact fi, fun q hq => by simp at hq⟩ (fun j σ' H' _ ⟨_, _, _, _, q, _⟩ => SqL.of q) ?_ ?_⟩
      · rintro j x σ' H' hx ⟨fs', b8, b9, rfl, hpl', pw', fst, fi', cov'⟩
        obtain ⟨pr, hpr, rx⟩ := paired_at pw' hx
        have hmem := List.mem_of_getElem? hpr
        obtain ⟨t, rfl, ht⟩ := id rx
        obtain ⟨kvs, hk, hv⟩ := hdl.same fst.same
        refine ⟨_, rfl, dl, rfl, .inr ⟨kvs, .inl hk⟩, _, rfl, Nat.zero_le _, fun l0 hl0 => ?_⟩
        have s0 : Same H' (upd H' l0 (.lst [])) := same_new hl0
        refine ⟨valV kvs (keyP pr), DGet.t (s0 _ _ hk) (s0 _ _ ht), ?_⟩
        have hlist : ∃ l, (valV kvs (keyP pr)).getD (.ref l0) = .ref l ∧ (upd H' l0 (.lst [])) l = some (.lst ((on ds pr).map vn)) ∧ l ≠ rw_ := by
          obtain ⟨kvs0, hk0, hv0⟩ := hdl
          have ek : kvs = kvs0 := by
            have := fst.same _ _ hk0
            rw [hk] at this
            injection this with this; injection this
          subst ek
          rcases hv0 pr with ⟨e, e2⟩ | ⟨l, e, e2⟩
          · exact ⟨l0, by rw [e]; rfl, by rw [upd_same, e2]; rfl, fun z => by rw [z, fst.row] at hl0; cases hl0⟩
          · exact ⟨l, by rw [e]; rfl, s0 _ _ (fst.same _ _ e2), ne_of_none e2 hrw0⟩
        obtain ⟨l, e1, e2, nlr⟩ := hlist
        rw [e1]
        refine ⟨l, rfl, ⟨_, SqL.of e2⟩, for_list (K := K) (a := l) (xs := (on ds pr).map vn) (fun m' σ'' H'' => ∃ (gs : Ents) (c9 : Option V), σ'' = [some v, some (.ref dl), some (.ref a), some (.ref d), none, some (.ref rw_), some (vn lk), some (vn cur), some (.ref t), c9] ∧
          H'' p = some (.lst ws) ∧ Paired (IsP H'') ws (heldP caps hs cur) ∧ H'' l = some (.lst ((on ds pr).map vn)) ∧ FS H d rw_ (es ++ gs) H'' ∧ FI caps hs ds r (es ++ gs) ∧ Cov ds (es ++ gs) ((heldP caps hs cur).take j) ∧ ∀ q ∈ (on ds pr).take m', q ∈ ksOf (es ++ gs))
          ⟨fs', b9, rfl, s0 _ _ hpl', tups_P.all (tk_of s0) pw', e2, fst.later s0, fi', cov', fun q hq => by simp at hq⟩ (fun m' σ'' H'' _ ⟨_, _, _, _, _, q, _⟩ => SqL.of q) ?_ ?_⟩
        · rintro m' y σ'' H'' hy ⟨gs, c9, rfl, hp2, pw2, hl2, fs2, fi2, cov2, seen⟩
          obtain ⟨q, hq, rfl⟩ := vmap_at hy
          have hqon := List.mem_of_getElem? hq
          refine ⟨_, rfl, _, rfl, d, _, rfl, DGet.k (k := Sum.inl (q : Int)) fs2.dict, _, rfl, ?_⟩
          by_cases hin : q ∈ ksOf (es ++ gs)
          · have e := valV_kvs_mem hin
            rw [e]
            refine iteF ?_
            refine ⟨gs, _, rfl, hp2, pw2, hl2, fs2, fi2, cov2, fun q' hq' => ?_⟩
            rw [take_snoc hq] at hq'
            rcases List.mem_append.mp hq' with z | z
            · exact seen q' z
            · rw [List.mem_singleton.mp z]; exact hin
          · have e := valV_kvs_none hin
            rw [e]
            refine iteT ?_
            have hck' : (ksOf (es ++ gs))[lk]? = some cur := by rw [ksOf_app, List.getElem?_append_left (by rw [ksOf_len]; exact hc')]; exact hck
            have fi3 := fi2.add hlen hck' hmem hqon hin
            have hsz : (es ++ gs).length ≤ hs.length := by rw [← ksOf_len]; exact below_len fi2.nd fi2.bound
            have hfew := hp.ok.few
            refine ⟨_, rfl, _, rfl, _, rfl, d, _, rfl, DPut.k (k := Sum.inl (q : Int)) fs2.dict (by unfold kvsOf; rw [List.length_map]; exact sz_le (by omega)), ?_⟩
            have ekv : putK (kvsOf (es ++ gs)) (Sum.inl (q : Int)) (vn cur) = kvsOf (es ++ gs ++ [(q, some cur)]) := by
              rw [putK_new _ e, kvsOf_app (es ++ gs)]; rfl
            rw [ekv]
            have hrow3 : (upd H'' d (.dK (kvsOf (es ++ gs ++ [(q, some cur)])))) rw_ = some (.lst ((ksOf (es ++ gs)).map vn)) := by rw [upd_ne nrd]; exact fs2.row
            refine ⟨_, rfl, .inl ⟨rfl, _, SqL.of hrow3⟩, _, rfl, rw_, _, _, rfl, rfl, hrow3, (by rw [List.length_map, ksOf_len]; exact sz_le (by omega)), ?_⟩
            have nld : l ≠ d := ne_of hl2 fs2.dict (by intro z; cases z)
            refine ⟨gs ++ [(q, some cur)], _, rfl, ?_, ?_, ?_, ⟨same_put (same_put fs2.same hd0) hrw0, ?_, ?_⟩, ?_, ?_, fun q' hq' => ?_⟩
            · rw [upd_ne npr, upd_ne npd]; exact hp2
            · exact tups_P.all ((tk_dK fs2.dict).trans (tk_lst hrow3)) pw2
            · rw [upd_ne nlr, upd_ne nld]; exact hl2
            · rw [upd_ne nrd.symm, upd_same, List.append_assoc]
            · rw [upd_same, ← List.append_assoc, ksOf_app (es ++ gs), List.map_append]; rfl
            · rw [← List.append_assoc]; exact fi3
            · rw [← List.append_assoc]; exact cov2.grow
            · rw [← List.append_assoc, ksOf_app]
              rw [take_snoc hq] at hq'
              rcases List.mem_append.mp hq' with z | z
              · exact List.mem_append_left _ (seen q' z)
              · rw [List.mem_singleton.mp z]; exact List.mem_append_right _ (by simp [ksOf])
        · rintro σ'' H'' ⟨gs, c9, rfl, hp2, pw2, hl2, fs2, fi2, cov2, seen⟩
          refine ⟨gs, _, _, rfl, hp2, pw2, fs2, fi2, fun p' hp' => ?_⟩
          rw [take_snoc hpr] at hp'
          rcases List.mem_append.mp hp' with z | z
          · exact cov2 p' z
          · rw [List.mem_singleton.mp z]
            intro q' hq'
            refine seen q' ?_
            rw [List.length_map, List.take_length]
            exact hq'
      · rintro σ' H' ⟨fs', b8, b9, rfl, hpl', pw', fst, fi', cov'⟩
        rw [pw'.length, List.take_length] at cov'
        refine ⟨_, rfl, _, _, rfl, rfl, ?_⟩
        refine ⟨es ++ fs', _, _, _, by rw [List.length_append]; omega, rfl, fst, fi', fun k' hk' => ?_⟩
        have hck' : (ksOf (es ++ fs'))[lk]? = some cur := by rw [ksOf_app, List.getElem?_append_left (by rw [ksOf_len]; exact hc')]; exact hck
        rw [take_snoc hck'] at hk'
        rcases List.mem_append.mp hk' with z | z
        · rw [ksOf_app, List.take_append_of_le_length (by rw [ksOf_len]; omega)] at z
          exact (cov k' z).grow
        · rw [List.mem_singleton.mp z]; exact cov'
    · have hc' : ¬ lk < es.length := by simpa using hc
      have e : lk = (ksOf es).length := by rw [ksOf_len]; omega
      rw [e, List.take_length] at cov
      exact ⟨_, rfl, k d es H2 hd0 fs.same fs.dict ⟨fi, cov⟩⟩
end
end BL
set_option Elab.async false
set_option linter.all false
set_option maxRecDepth 100000
set_option maxHeartbeats 4000000
namespace BL
open PySem L2
/-! walk_back, find_walk -/
theorem paired_rev {α β : Type} {F : α → β → Prop} : ∀ {vs : List α} {bs : List β}, Paired F vs bs → Paired F vs.reverse bs.reverse
  | _, _, .nil => .nil
  | _, _, .cons (a := a) (b := b) (l₁ := l1) (l₂ := l2) r t => by
    rw [List.reverse_cons, List.reverse_cons]
    exact Paired.snoc (paired_rev t) r
/-- a walk from a piece whose entry is e -/
def WalkFrom (caps : List Nat) (hs : List (List Nat)) (ds : Deal) : Option (Nat × Nat) → List (Nat × (Nat × Nat)) → Prop
  | none, [] => False
  | some p, [] => (on ds p).length < roomA caps p
  | e, (k, p) :: W => ds[k]? = some e ∧ k < hs.length ∧ p ∈ heldP caps hs k ∧ (∀ s ∈ W, s.1 ≠ k) ∧ WalkFrom caps hs ds (some p) W
theorem walk_cons {caps : List Nat} {hs : List (List Nat)} {ds : Deal} {e : Option (Nat × Nat)} {k : Nat} {p : Nat × Nat} {W : List (Nat × (Nat × Nat))} :
    WalkFrom caps hs ds e ((k, p) :: W) ↔ (ds[k]? = some e ∧ k < hs.length ∧ p ∈ heldP caps hs k ∧ (∀ s ∈ W, s.1 ≠ k) ∧ WalkFrom caps hs ds (some p) W) := by cases e <;> exact Iff.rfl
theorem walk_nodup {caps : List Nat} {hs : List (List Nat)} {ds : Deal} : ∀ {L : List (Nat × (Nat × Nat))} {e : Option (Nat × Nat)}, WalkFrom caps hs ds e L → (L.map (·.1)).Nodup ∧ ∀ x ∈ L.map (·.1), x < hs.length
  | [], e, _ => ⟨List.nodup_nil, fun x hx => by simp at hx⟩
  | (k1, p1) :: L, e, hw => by
    obtain ⟨_, h2, _, h4, h5⟩ := walk_cons.mp hw
    obtain ⟨i1, i2⟩ := walk_nodup h5
    refine ⟨?_, fun x hx => ?_⟩
    · rw [List.map_cons, List.nodup_cons]
      exact ⟨fun z => by obtain ⟨s, hs', e'⟩ := List.mem_map.mp z; exact h4 s hs' e', i1⟩
    · rw [List.map_cons] at hx
      rcases List.mem_cons.mp hx with z | z
      · rw [z]; exact h2
      · exact i2 x z
def Stuck (caps : List Nat) (hs : List (List Nat)) (ds : Deal) (es : Ents) : Prop := ∀ k ∈ ksOf es, ∀ p ∈ heldP caps hs k, roomA caps p ≤ (on ds p).length
def spWalkBack (K : PySem.W.Frag) : Sp := fun vs H Q _ => ∃ (a b : Addr) (u : V) (us : List V) (caps : List Nat) (hs : List (List Nat)) (ds : Deal) (r i k : Nat) (o : Option Nat) (es : Ents) (f : Nat × Nat), vs = [.ref a, .ref b, vn k, u] ∧
  SqL K H a us ∧ Paired (IsO H) us ds ∧ ds.length = hs.length ∧ hs.length ≤ 1000 ∧ ds[r]? = some none ∧ Rd H b (.dK (kvsOf es)) ∧ FI caps hs ds r es ∧ es[i]? = some (k, o) ∧ IsP H u f ∧ f ∈ heldP caps hs k ∧ (on ds f).length < roomA caps f ∧
  ∀ (p : Addr) (ws : List V) (q : Nat × Nat) (W : List (Nat × (Nat × Nat))) (H' : Hp), Same H H' → H' p = some (.lst ws) → Paired (IsS H') ws ((r, q) :: W) → WalkFrom caps hs ds none ((r, q) :: W) → Q (.ref p) H'
def spFindWalk (K : PySem.W.Frag) (C : Addr) : Sp := fun vs H Q _ => ∃ (v : V) (a c : Addr) (us : List V) (caps : List Nat) (hs : List (List Nat)) (ds : Deal) (r : Nat), vs = [v, .ref a, .ref c] ∧
  PoolAt C H v caps hs ∧ SqL K H a us ∧ Paired (IsO H) us ds ∧ ds.length = hs.length ∧ SqL K H c [vn r] ∧ ds[r]? = some none ∧
  (∀ (es : Ents) (H' : Hp), Same H H' → Forest caps hs ds r es → Stuck caps hs ds es → Q .non H') ∧
  ∀ (p : Addr) (ws : List V) (q : Nat × Nat) (W : List (Nat × (Nat × Nat))) (H' : Hp), Same H H' → H' p = some (.lst ws) → Paired (IsS H') ws ((r, q) :: W) → WalkFrom caps hs ds none ((r, q) :: W) → Q (.ref p) H'
theorem tk_frz {H : Hp} {D : Addr} {ob : Obj} {u o : HO} (h : H D = some (.frz ob u)) : TK H (upd H D o) := fun t ys e => by
  rw [upd_ne (ne_of e h (by intro z; cases z))]; exact e
theorem filter_eq_range {r : Nat} : ∀ n : Nat, r < n → (List.range n).filter (fun i => decide (i = r)) = [r]
  | 0, h => absurd h (Nat.not_lt_zero _)
  | n + 1, h => by
    rw [List.range_succ, List.filter_append]
    by_cases e : r = n
    · subst e
      have : (List.range r).filter (fun i => decide (i = r)) = [] := List.filter_eq_nil_iff.mpr fun a ha => by
        have := List.mem_range.mp ha
        simp; omega
      rw [this]; simp
    · rw [filter_eq_range n (by omega)]
      have : [n].filter (fun i => decide (i = r)) = [] := by simp; omega
      rw [this]; rfl
section
variable {P : Program} {w : World} {K : PySem.W.Frag} {mg : Str → Option Value} {base : Heap} {C : Addr}
theorem ok_walk_back {f : Addr} {fd : FuncData} (B : Bt mg) (F : FnP K "walk_back" s_walk_back f fd) : FnOk P w K mg base CX0 1 f fd ["dealing", "before", "piece", "pair"] (spWalkBack K) := by
  refine F.ok sc_walk_back (fun vs H Q E h => ?_) (fun cdv A outer s H vs Q E hr h => ?_)
  · obtain ⟨a, b, u, us, caps, hs, ds, r, i, k, o, es, f, rfl, _⟩ := h; rfl
  · obtain ⟨a, b, u, us, caps, hs, ds, r, i, k, o, es, f, rfl, ha, pu, hlen, hfew, hr0, hb, fi, hik, hu1, hf, hfree, kk⟩ := h
    have hu := hu_of hr
    refine ⟨_, PSs.nox (pss_cons
      (ps_set (i := 4) sc_walk_back.nd rfl (Or.inl rfl) (pe_lst (pa_cons (pe_tup (pa_cons (pv 2) (pa_cons (pv 3) pa_nil))) pa_nil)))
    (pss_cons
      (ps_while PassesOwn.never (pt_cmpR op_notN (pe_dget hu (pv 1) (pv 2) (fun _ _ => rfl)) pe_non (nomark _))
      (pss_cons
        (ps_expr (appK K (pv 4) (pe_tup (pa_cons (pe_dget hu (pv 1) (pv 2) (fun _ _ => rfl)) (pa_cons (pe_ix (ix_listK K) (pv 0) (pv 2) (fun _ _ => rfl)) pa_nil)))))
      (pss_one
        (ps_set (i := 2) sc_walk_back.nd rfl (Or.inl rfl) (pe_dget hu (pv 1) (pv 2) (fun _ _ => rfl))))))
    (pss_one
      (ps_ret (revLK K (pv 4)))))), ?_⟩
    refine ⟨_, rfl, _, rfl, by show 2 ≤ sizeLine; decide, fun t ht => ?_⟩
    refine ⟨by show 1 ≤ sizeLine; decide, fun st hst => ?_⟩
    obtain ⟨tu, rfl, htu⟩ := hu1
    have s1 : Same H (upd H t (.tup [vn k, .ref tu])) := same_new ht
    have hst0 : H st = none := s1.free hst
    have hkl : k < hs.length := fi.bound k (List.mem_of_getElem? (ksOf_at hik))
    refine ⟨fun m σ H' => ∃ (k' : Nat) (o' : Option Nat) (e : Option (Nat × Nat)) (p : Nat × Nat) (W : List (Nat × (Nat × Nat))) (vs' : List V), σ = [some (.ref a), some (.ref b), some (vn k'), some (.ref tu), some (.ref st)] ∧ es[m]? = some (k', o') ∧
      Same H H' ∧ H' st = some (.lst vs') ∧ Paired (IsS H') vs' ((k', p) :: W).reverse ∧ WalkFrom caps hs ds e ((k', p) :: W) ∧ ∀ s ∈ ((k', p) :: W), ∃ j, m ≤ j ∧ (ksOf es)[j]? = some s.1,
      ⟨i, k, o, ds[k]'(by omega), f, [], _, rfl, hik, same_put s1 hst0, upd_same, .cons ⟨t, tu, rfl, (same_new hst) _ _ upd_same, (same_new hst) _ _ (s1 _ _ htu)⟩ .nil, walk_cons.mpr ⟨List.getElem?_eq_getElem (by omega), hkl, hf, fun s hs' => by simp at hs', hfree⟩, fun s hs' => ⟨i, Nat.le_refl _, by rw [show s = (k, f) from by simpa using hs']; exact ksOf_at hik⟩⟩, ?_⟩
    rintro m σ H2 ⟨k', o', e, p, W, vs', rfl, hm, s2, hst2, pv, hw, hdist⟩
    have hv := valV_kvs_at fi.nd hm
    have hg : DGet H2 b (vn k') (some (vO o')) := .inl ⟨kvsOf es, Sum.inl (k' : Int), same_rd s2 hb, rfl, hv.symm⟩
    refine ⟨_, rfl, _, rfl, b, _, rfl, hg, rfl, _, rfl, ?_⟩
    cases o' with
    | none =>
      refine ite2 (fun hc => absurd hc (by decide)) (fun _ => ?_)
      have h0 : m = 0 := by
        rcases fi.back m k' none hm with z | ⟨_, _, _, z, _⟩
        · exact z
        · cases z
      subst h0
      have hk : k' = r := by
        have := fi.head
        rw [hm] at this
        injection this with this; injection this
      subst hk
      have he : e = none := by
        have : ds[k']? = some e := (walk_cons.mp hw).1
        rw [hr0] at this
        injection this with this; exact this.symm
      subst he
      refine ⟨_, rfl, st, vs', rfl, SqL.of hst2, fun q hq => ?_⟩
      have sq : Same H2 (upd H2 q (.lst vs'.reverse)) := same_new hq
      refine kk q _ p W _ (s2.trans sq) upd_same ?_ hw
      have := paired_rev (tups_S.all (tk_of sq) pv)
      rwa [List.reverse_reverse] at this
    | some b' =>
      refine ite2 (fun _ => ?_) (fun hc => absurd (by simp [vO]) hc)
      obtain ⟨j, p', hjm, hbj, hdk, hp'⟩ : ∃ j p', j < m ∧ (ksOf es)[j]? = some b' ∧ ds[k']? = some (some p') ∧ p' ∈ heldP caps hs b' := by
        rcases fi.back m k' (some b') hm with z | ⟨b2, j, p', z, h1, h2, h3, h4⟩
        · subst z
          have := fi.head
          rw [hm] at this
          injection this with this; injection this with _ this; cases this
        · cases z; exact ⟨j, p', h1, h2, h3, h4⟩
      have he : e = some p' := by
        have : ds[k']? = some e := (walk_cons.mp hw).1
        rw [hdk] at this
        injection this with this; exact this.symm
      subst he
      obtain ⟨o2, hes⟩ : ∃ o2, es[j]? = some (b', o2) := by
        unfold ksOf at hbj
        rw [List.getElem?_map] at hbj
        cases q : es[j]? with
        | none => rw [q] at hbj; cases hbj
        | some ent =>
          rw [q] at hbj
          injection hbj with hbj
          exact ⟨ent.2, by rw [← hbj]⟩
      have hbl : b' < hs.length := fi.bound b' (List.mem_of_getElem? hbj)
      refine ⟨fun σ' H' => ∃ (e : Option (Nat × Nat)) (p : Nat × Nat) (W : List (Nat × (Nat × Nat))) (vs' : List V), σ' = [some (.ref a), some (.ref b), some (vn b'), some (.ref tu), some (.ref st)] ∧
        Same H H' ∧ H' st = some (.lst vs') ∧ Paired (IsS H') vs' ((b', p) :: W).reverse ∧ WalkFrom caps hs ds e ((b', p) :: W) ∧ ∀ s ∈ ((b', p) :: W), ∃ j', j ≤ j' ∧ (ksOf es)[j']? = some s.1,
        fun σ' H' ⟨e, p, W, vs', q1, q2, q3, q4, q5, q6⟩ => ⟨j, hjm, b', o2, e, p, W, vs', q1, hes, q2, q3, q4, q5, q6⟩, ?_⟩
      have hdl : k' < ds.length := (List.getElem?_eq_some_iff.mp hdk).1
      obtain ⟨x, hx, rx⟩ := paired_at' pu hdk
      obtain ⟨tq, rfl, htq⟩ := (show IsP H x p' from rx)
      refine ⟨_, rfl, .inl ⟨rfl, _, SqL.of hst2⟩, _, rfl, _, rfl, b, _, rfl, hg, _, rfl, _, rfl, a, us, _, _, rfl, rfl, s2.seq ha, atN hx, by show 2 ≤ sizeLine; decide, fun tn htn => ?_⟩
      have s3 : Same H2 (upd H2 tn (.tup [vn b', .ref tq])) := same_new htn
      have hst3 := s3 _ _ hst2
      have hsz : vs'.length < sizeLine := by
        refine sz_le ?_
        rw [pv.length, List.length_reverse]
        obtain ⟨n1, n2⟩ := walk_nodup hw
        have := below_len n1 n2
        rw [List.length_map] at this
        omega
      refine ⟨st, vs', _, rfl, rfl, hst3, hsz, ?_⟩
      have k4 : TK (upd H2 tn (.tup [vn b', .ref tq])) (upd (upd H2 tn (.tup [vn b', .ref tq])) st (.lst (vs' ++ [.ref tn]))) := tk_lst hst3
      have s4 : Same H (upd (upd H2 tn (.tup [vn b', .ref tq])) st (.lst (vs' ++ [.ref tn]))) := same_put (s2.trans s3) hst0
      have hg2 : DGet (upd (upd H2 tn (.tup [vn b', .ref tq])) st (.lst (vs' ++ [.ref tn]))) b (vn k') (some (vO (some b'))) := .inl ⟨kvsOf es, Sum.inl (k' : Int), same_rd s4 hb, rfl, hv.symm⟩
      refine ⟨_, rfl, _, rfl, b, _, rfl, hg2, ?_⟩
      refine ⟨ds[b']'(by omega), p', (k', p) :: W, _, rfl, s4, upd_same, ?_, ?_, fun s hs' => ?_⟩
      · rw [List.reverse_cons]
        exact Paired.snoc (tups_S.all ((tk_of s3).trans k4) pv) ⟨tn, tq, rfl, k4 _ _ upd_same, s4 _ _ htq⟩
      · have hd' : ds[b']? = some (ds[b']'(by omega)) := List.getElem?_eq_getElem (by omega)
        have hne : ∀ s ∈ ((k', p) :: W), s.1 ≠ b' := fun s hs' z => by
          obtain ⟨j', hj', hkj⟩ := hdist s hs'
          rw [z] at hkj
          have := nd_ix fi.nd hkj hbj
          omega
        exact walk_cons.mpr ⟨hd', hbl, hp', hne, hw⟩
      · rcases List.mem_cons.mp hs' with z | z
        · subst z; exact ⟨j, Nat.le_refl _, hbj⟩
        · obtain ⟨j', hj', hkj⟩ := hdist s z
          exact ⟨j', by omega, hkj⟩
end
end BL
set_option Elab.async false
set_option linter.all false
set_option maxRecDepth 100000
set_option maxHeartbeats 4000000
namespace BL
open PySem L2
section
variable {P : Program} {w : World} {K : PySem.W.Frag} {mg : Str → Option Value} {base : Heap} {C : Addr}
theorem ok_find_walk {f : Addr} {fd : FuncData} (B : Bt mg) (F : FunD K "find_walk" "find_walk" (defArgs s_find_walk) (defBody s_find_walk) (defScope s_find_walk) [] [("pieces", .non)] f fd) (h_pieces_on : Has P w K mg base 1 "pieces_on" ["dealing"] (spPiecesOn K)) (h_forest : Has P w K mg base 3 "forest" ["pool", "dealt", "roots"] (spForest K C))
    (h_free_pair : Has P w K mg base 3 "free_pair" ["pool", "dealt", "piece"] (spFreePair C)) (h_walk_back : Has P w K mg base 1 "walk_back" ["dealing", "before", "piece", "pair"] (spWalkBack K)) :
    FnOk P w K mg base CX0 4 f fd ["pool", "dealing", "pieces"] (spFindWalk K C) := by
  refine F.ok sc_find_walk (fun vs H Q E h => ?_) (fun cdv A outer s H vs Q E hr h => ?_)
  · obtain ⟨v, a, c, us, caps, hs, ds, r, rfl, _⟩ := h; rfl
  · obtain ⟨v, a, c, us, caps, hs, ds, r, rfl, hp, ha, pu, hlen, hc, hr0, k1, k2⟩ := h
    have hu := hu_of hr
    refine ⟨_, PSs.nox (pss_cons
      (ps_setLc (i := 3) (own := [("piece", 4), ("pair", 5)]) rfl sc_find_walk.nd rfl rfl (sw_true rfl rfl rfl (by decide +kernel)) (enumK K (by rfl) B.enumerate (pa_cons (pv 1) pa_nil)) (blkOk_by (own := [("piece", 4), ("pair", 5)]) (N := N_find_walk) (sc := defScope s_find_walk) (by decide +kernel)) (fun _ _ _ _ _ => (gtupK K 2 rfl (pgs_cons (pg_name (i := 4) sc_find_walk.nd rfl (Or.inl rfl)) (pgs_cons (pg_name (i := 5) sc_find_walk.nd rfl (Or.inl rfl)) pgs_nil)))) (fun _ _ _ _ _ => pts_one (PW.pt (pw_and (pt_cmpR op_isN (pv 5) pe_non (nomark _)) (pw_and1 (PW.pt (pw_or (pt_cmpR op_isN (pv 2) pe_non (nomark _)) (pw_or1 (pt_cmpR (inK K) (pv 4) (pv 2) (by rfl))))))))) (fun _ _ _ _ _ => (pv 4)))
    (pss_cons
      (ps_set (i := 6) sc_find_walk.nd rfl (Or.inl rfl) (pe_fn h_pieces_on (hr.mono (by decide)) rfl (pa_cons (pv 1) pa_nil)))
    (pss_cons
      (ps_set (i := 7) sc_find_walk.nd rfl (Or.inl rfl) (pe_fn h_forest (hr.mono (by decide)) rfl (pa_cons (pv 0) (pa_cons (pv 6) (pa_cons (pv 3) pa_nil)))))
    (pss_cons
      (ps_lock (ps_for PassesOwn.never rfl (pi_keys (pv 7)) (pg_name (i := 4) sc_find_walk.nd rfl (Or.inl rfl))
      (pss_cons
        (ps_set (i := 5) sc_find_walk.nd rfl (Or.inl rfl) (pe_fn h_free_pair (hr.mono (by decide)) rfl (pa_cons (pv 0) (pa_cons (pv 6) (pa_cons (pv 4) pa_nil)))))
      (pss_one
        (ps_if (pt_cmpR op_notN (pv 5) pe_non (nomark _))
        (pss_one
          (ps_ret (pe_fn h_walk_back (hr.mono (by decide)) rfl (pa_cons (pv 1) (pa_cons (pv 7) (pa_cons (pv 4) (pa_cons (pv 5) pa_nil)))))))
        pss_nil)))))
    (pss_one
      (ps_ret pe_non)))))), ?_⟩
    have hfew := hp.ok.few
    have hul : us.length = ds.length := pu.length
    have hrl : r < hs.length := by have := (List.getElem?_eq_some_iff.mp hr0).1; omega
    refine ⟨_, rfl, a, us, rfl, ha, fun D hD => ?_⟩
    refine comp_enum IsN ((List.range us.length).map fun i => if decide (i = r) then some i else none) (by rw [List.length_map, List.length_range]) (by rw [List.length_map, List.length_range]; exact sz_le (by omega)) tups_N.same tups_N.updL hD ha (fun i x o H2 T hx ho s2 hT Q' q1 q2 => ?_) (fun H1 acc s1 hacc pacc => ?_)
    · have hil : i < us.length := (List.getElem?_eq_some_iff.mp hx).1
      have ho' : (if decide (i = r) then some i else none) = o := by
        rw [List.getElem?_map, List.getElem?_range hil] at ho
        exact Option.some.inj ho
      obtain ⟨ob, hob, rx⟩ := paired_at pu hx
      refine ⟨T, _, rfl, SqT.of hT, rfl, ?_⟩
      refine ⟨_, _, rfl, _, _, rfl, rfl, ?_⟩
      refine ⟨rfl, ?_⟩
      refine ⟨_, rfl, rfl, _, rfl, ?_⟩
      cases ob with
      | none =>
        have e : x = .non := rx
        subst e
        refine ite2 (fun _ => ?_) (fun hc' => absurd (by simp) hc')
        refine ⟨_, rfl, rfl, _, rfl, ?_⟩
        refine ite2 (fun hc' => absurd hc' (by simp)) (fun _ => ?_)
        refine ⟨_, rfl, _, rfl, c, _, rfl, .inl (s2.seq hc), rfl, rfl, _, rfl, ?_⟩
        by_cases hir : i = r
        · subst hir
          refine ite2 (fun _ => ?_) (fun hc' => absurd (by simp [inV, eqV]) hc')
          exact ⟨_, rfl, q2 _ i H2 (Same.refl _) (by rw [← ho', if_pos (by simp)]) rfl⟩
        · refine ite2 (fun hc' => ?_) (fun _ => ?_)
          · exfalso
            have : (inV (V.int (i : Int)) [vn r]) = true := hc'
            simp [inV, eqV] at this
            omega
          · exact q1 H2 (Same.refl _) (by rw [← ho', if_neg (by simpa using hir)])
      | some p =>
        obtain ⟨t, rfl, _⟩ := (show IsP H x p from rx)
        refine ite2 (fun hc' => absurd hc' (by simp)) (fun _ => ?_)
        have hir : i ≠ r := fun z => by subst z; rw [hr0] at hob; cases hob
        exact q1 H2 (Same.refl _) (by rw [← ho', if_neg (by simpa using hir)])
    rw [filterMap_if, filter_eq_range us.length (by omega)] at pacc
    have eacc := paired_N pacc
    subst eacc
    refine ⟨_, rfl, a, us, ds, rfl, s1.seq ha, tups_O.all (tk_of s1) pu, by omega, fun dl H2 s2 hdl => ?_⟩
    have s02 := s1.trans s2
    refine ⟨_, rfl, _, rfl, _, rfl, v, dl, D, caps, hs, ds, r, rfl, hp.same s02, hdl, s2.seq (SqL.of hacc), hrl, hlen, fun d es H3 hd0 s3 hd3 fo => ?_⟩
    have s03 := s02.trans s3
    have hdH : H d = none := s02.free hd0
    have hdl3 := hdl.same s3
    refine ⟨d, _, hd3, trivial, fun od => ?_⟩
    have sL : Same H2 (upd H3 d (.frz od (.dK (kvsOf es)))) := same_put s3 hd0
    refine ⟨_, rfl, d, od, rfl, .inl ⟨_, upd_same, ?_⟩⟩
    refine for_keys (o := od) (Pv := fun i σ H' => (∃ v4 v5, σ = [some v, some (.ref a), some (.ref c), some (.ref D), v4, v5, some (.ref dl), some (.ref d)]) ∧ Same (upd H3 d (.frz od (.dK (kvsOf es)))) H' ∧ ∀ k ∈ (ksOf es).take i, ∀ p ∈ heldP caps hs k, roomA caps p ≤ (on ds p).length)
      ⟨⟨none, none, rfl⟩, Same.refl _, fun k hk => by simp at hk⟩ (fun i σ H' _ I => I.2.1 _ _ upd_same) ?_ ?_
    · rintro i key vv σ H' hk ⟨⟨v4, v5, rfl⟩, sH, hst⟩
      obtain ⟨⟨k, o⟩, hek⟩ : ∃ e, es[i]? = some e := by
        unfold kvsOf at hk
        rw [List.getElem?_map] at hk
        cases q : es[i]? with
        | none => rw [q] at hk; cases hk
        | some ent => exact ⟨ent, rfl⟩
      have ekey : key = Sum.inl (k : Int) := by
        unfold kvsOf at hk
        rw [List.getElem?_map, hek] at hk
        injection hk with hk; injection hk with hk _; exact hk.symm
      subst ekey
      have hkl : k < hs.length := fo.fi.bound k (List.mem_of_getElem? (ksOf_at hek))
      have sB := s02.trans (sL.trans sH)
      refine ⟨_, rfl, _, rfl, _, rfl, v, dl, caps, hs, ds, k, rfl, hp.same sB, ?_, hkl, fun H4 s4 hno => ?_, fun u p H4 s4 hup hpm hpf => ?_⟩
      · exact hdl.same (sL.trans sH)
      · refine ⟨_, rfl, rfl, _, rfl, ?_⟩
        refine ite2 (fun hc' => absurd hc' (by decide)) (fun _ => ?_)
        refine ⟨⟨_, _, rfl⟩, sH.trans s4, fun k' hk' => ?_⟩
        rw [take_snoc (ksOf_at hek)] at hk'
        rcases List.mem_append.mp hk' with z | z
        · exact hst k' z
        · rw [List.mem_singleton.mp z]; exact hno
      · obtain ⟨tu, rfl, htu⟩ := hup
        refine ⟨_, rfl, rfl, _, rfl, ?_⟩
        refine ite2 (fun _ => ?_) (fun hc' => absurd (by simp) hc')
        have sC := sB.trans s4
        refine ⟨_, rfl, _, rfl, _, rfl, _, rfl, a, d, .ref tu, us, caps, hs, ds, r, i, k, o, es, p, rfl, sC.seq ha, tups_O.all (tk_of sC) pu, hlen, Nat.le_trans hfew (by decide), hr0, .inr ⟨od, s4 _ _ (sH _ _ upd_same)⟩, fo.fi, hek, ⟨tu, rfl, htu⟩, hpm, hpf, fun pp ws q W H5 s5 hpp pws hw => ?_⟩
        have hdf : H5 d = some (.frz od (.dK (kvsOf es))) := s5 _ _ (s4 _ _ (sH _ _ upd_same))
        refine ⟨hdf, ?_⟩
        have npd : pp ≠ d := ne_of hpp hdf (by intro z; cases z)
        refine k2 pp ws q W _ (same_put (sC.trans s5) hdH) (by rw [upd_ne npd]; exact hpp) (tups_S.all (tk_frz hdf) pws) hw
    · rintro σ H' ⟨⟨v4, v5, rfl⟩, sH, hst⟩
      have hkl : (kvsOf es).length = (ksOf es).length := by unfold kvsOf ksOf; rw [List.length_map, List.length_map]
      rw [hkl, List.take_length] at hst
      exact ⟨sH _ _ upd_same, k1 es _ (same_put (s02.trans (sL.trans sH)) hdH) fo hst⟩
end
end BL
set_option Elab.async false
set_option linter.all false
set_option maxRecDepth 100000
set_option maxHeartbeats 4000000
/-! The plain law, first part: walks, Hall's condition, violators. -/
namespace BL
/-! sums and counts -/
theorem sum_le {α : Type} {f g : α → Nat} : ∀ l : List α, (∀ a ∈ l, f a ≤ g a) → (l.map f).sum ≤ (l.map g).sum
  | [], _ => Nat.le_refl _
  | a :: l, h => by
    have h1 := h a (List.mem_cons_self ..)
    have h2 := sum_le l fun b hb => h b (List.mem_cons_of_mem _ hb)
    simp only [List.map_cons, List.sum_cons]
    omega
theorem sum_add {α : Type} {f g : α → Nat} : ∀ l : List α, (l.map fun a => f a + g a).sum = (l.map f).sum + (l.map g).sum
  | [] => rfl
  | a :: l => by
    have := sum_add (f := f) (g := g) l
    simp only [List.map_cons, List.sum_cons]
    omega
theorem sum_zero {α : Type} {f : α → Nat} : ∀ l : List α, (∀ a ∈ l, f a = 0) → (l.map f).sum = 0
  | [], _ => rfl
  | a :: l, h => by
    have h1 := h a (List.mem_cons_self ..)
    have h2 := sum_zero l fun b hb => h b (List.mem_cons_of_mem _ hb)
    simp only [List.map_cons, List.sum_cons]
    omega
theorem sum_one {α : Type} [DecidableEq α] {a : α} : ∀ l : List α, l.Nodup → a ∈ l → (l.map fun b => if a = b then 1 else 0).sum = 1
  | [], _, h => by simp at h
  | b :: l, hn, h => by
    obtain ⟨h1, h2⟩ := List.nodup_cons.mp hn
    simp only [List.map_cons, List.sum_cons]
    by_cases e : a = b
    · subst e
      rw [if_pos rfl, sum_zero]
      intro c hc
      rw [if_neg]
      intro z; subst z; exact h1 hc
    · rw [if_neg e, sum_one l h2]
      rcases List.mem_cons.mp h with z | z
      · exact absurd z e
      · exact z
theorem count_split {α : Type} [DecidableEq α] {T : Nat → Bool} {e : Nat → Option α} {ps : List α} (hn : ps.Nodup) : ∀ l : List Nat, (∀ i ∈ l, T i = true → ∃ p ∈ ps, e i = some p) →
    l.countP T = (ps.map fun p => l.countP fun i => T i && decide (e i = some p)).sum
  | [], _ => by simp only [List.countP_nil]; rw [sum_zero]; intro _ _; rfl
  | i :: l, h => by
    have ih := count_split hn l fun j hj => h j (List.mem_cons_of_mem _ hj)
    simp only [List.countP_cons]
    rw [sum_add, ← ih]
    congr 1
    cases hT : T i with
    | false => rw [sum_zero]; rfl; intro p _; simp
    | true =>
      obtain ⟨p, hp, hep⟩ := h i (List.mem_cons_self ..) hT
      rw [hep]
      rw [show (ps.map fun q => if (true && decide ((some p : Option α) = some q)) = true then 1 else 0) = ps.map fun q => if p = q then 1 else 0 from List.map_congr_left fun q _ => by simp]
      rw [sum_one ps hn hp]; rfl
def cnt (n : Nat) (S : Nat → Bool) : Nat := (List.range n).countP S
theorem cnt_mono {n : Nat} {S T : Nat → Bool} (h : ∀ i, i < n → S i = true → T i = true) : cnt n S ≤ cnt n T := List.countP_mono_left fun i hi => h i (List.mem_range.mp hi)
theorem cnt_congr {n : Nat} {S T : Nat → Bool} (h : ∀ i, i < n → S i = T i) : cnt n S = cnt n T := List.countP_congr fun i hi => by rw [h i (List.mem_range.mp hi)]
theorem cnt_succ (n : Nat) (S : Nat → Bool) : cnt (n + 1) S = cnt n S + if S n = true then 1 else 0 := by
  unfold cnt; rw [List.range_succ, List.countP_append]; simp [List.countP_cons]
theorem cnt_lt {k : Nat} {S T : Nat → Bool} : ∀ {n : Nat}, (∀ i, i < n → S i = true → T i = true) → k < n → S k = false → T k = true → cnt n S < cnt n T
  | 0, _, hk, _, _ => absurd hk (Nat.not_lt_zero _)
  | n + 1, h, hk, h1, h2 => by
    rw [cnt_succ, cnt_succ]
    by_cases e : k = n
    · subst e
      have := cnt_mono (n := k) fun i hi => h i (by omega)
      rw [h1, h2]; simp; omega
    · have := cnt_lt (n := n) (fun i hi => h i (by omega)) (by omega) h1 h2
      have h3 := h n (by omega)
      cases hS : S n <;> cases hT : T n <;> simp [hS, hT] at h3 ⊢ <;> omega
/-- two sets that differ at k alone -/
theorem cnt_change {k : Nat} {f g : Nat → Bool} : ∀ {n : Nat}, k < n → (∀ i, i ≠ k → f i = g i) → cnt n f + (if g k = true then 1 else 0) = cnt n g + if f k = true then 1 else 0
  | 0, hk, _ => absurd hk (Nat.not_lt_zero _)
  | n + 1, hk, h => by
    rw [cnt_succ, cnt_succ]
    by_cases e : k = n
    · subst e
      rw [cnt_congr (n := k) fun i hi => h i (by omega)]
      omega
    · have := cnt_change (n := n) (by omega) h
      rw [h n (by omega)]
      omega
/-! sets of pieces -/
def touch (hs : List (List Nat)) (S : Nat → Bool) (p : Nat × Nat) : Bool := (List.range hs.length).any fun i => S i && ((hs.getD i []).contains p.1 && (hs.getD i []).contains p.2)
theorem touch_iff {hs : List (List Nat)} {S : Nat → Bool} {p : Nat × Nat} : touch hs S p = true ↔ ∃ i, i < hs.length ∧ S i = true ∧ p.1 ∈ hs.getD i [] ∧ p.2 ∈ hs.getD i [] := by
  unfold touch
  rw [List.any_eq_true]
  constructor
  · rintro ⟨i, hi, h⟩
    simp only [Bool.and_eq_true, List.contains_iff_mem] at h
    exact ⟨i, List.mem_range.mp hi, h.1, h.2.1, h.2.2⟩
  · rintro ⟨i, hi, h1, h2, h3⟩
    exact ⟨i, List.mem_range.mpr hi, by simp only [Bool.and_eq_true, List.contains_iff_mem]; exact ⟨h1, h2, h3⟩⟩
/-- all pairs of the seats below m -/
def pairsN (m : Nat) : List (Nat × Nat) := pairsA (List.range m)
theorem mem_pairsN {m : Nat} {p : Nat × Nat} : p ∈ pairsN m ↔ p.1 < p.2 ∧ p.2 < m := by
  unfold pairsN; rw [mem_pairsA, List.mem_range, List.mem_range]
  constructor
  · exact fun h => ⟨h.2.2, h.2.1⟩
  · exact fun h => ⟨by omega, h.2, h.1⟩
theorem nodup_flat {α β : Type} {f : α → List β} (g : β → α) (hg : ∀ a, ∀ b ∈ f a, g b = a) : ∀ l : List α, l.Nodup → (∀ a ∈ l, (f a).Nodup) → (l.flatMap f).Nodup
  | [], _, _ => by simp
  | a :: l, hn, h => by
    obtain ⟨h1, h2⟩ := List.nodup_cons.mp hn
    rw [List.flatMap_cons]
    refine List.nodup_append.mpr ⟨h a (List.mem_cons_self ..), nodup_flat g hg l h2 fun b hb => h b (List.mem_cons_of_mem _ hb), fun b hb c hc z => ?_⟩
    subst z
    obtain ⟨a', ha', hb'⟩ := List.mem_flatMap.mp hc
    have e1 := hg a b hb
    have e2 := hg a' b hb'
    rw [e1] at e2
    subst e2
    exact h1 ha'
theorem pairsA_nodup {h : List Nat} (hn : h.Nodup) : (pairsA h).Nodup := by
  unfold pairsA
  refine nodup_flat (fun p => p.1) (fun a b hb => ?_) h hn fun a _ => ?_
  · obtain ⟨c, _, rfl⟩ := List.mem_map.mp hb; rfl
  · refine List.pairwise_map.mpr ((List.Pairwise.filter _ hn).imp fun hne z => hne ?_)
    injection z
theorem pairsN_nodup (m : Nat) : (pairsN m).Nodup := pairsA_nodup List.nodup_range
def places (caps : List Nat) (hs : List (List Nat)) (S : Nat → Bool) : Nat := ((pairsN caps.length).map fun p => if touch hs S p = true then roomA caps p else 0).sum
/-- no sublot has more pieces than places -/
def Hall (caps : List Nat) (hs : List (List Nat)) (S : Nat → Bool) : Prop := ∀ T : Nat → Bool, (∀ i, T i = true → S i = true) → cnt hs.length T ≤ places caps hs T
theorem Hall.sub {caps : List Nat} {hs : List (List Nat)} {S T : Nat → Bool} (h : Hall caps hs S) (hT : ∀ i, T i = true → S i = true) : Hall caps hs T := fun U hU => h U fun i hi => hT i (hU i hi)
theorem Hall.congr {caps : List Nat} {hs : List (List Nat)} {S T : Nat → Bool} (e : ∀ i, S i = T i) : Hall caps hs S ↔ Hall caps hs T :=
  ⟨fun h => h.sub fun i hi => by rw [e]; exact hi, fun h => h.sub fun i hi => by rw [← e]; exact hi⟩
/-! dealings -/
structure Valid (caps : List Nat) (hs : List (List Nat)) (ds : Deal) : Prop where
  len : ds.length = hs.length
  held : ∀ i p, ds[i]? = some (some p) → p ∈ heldP caps hs i
  room : ∀ p, (on ds p).length ≤ roomA caps p
def ent (ds : Deal) (i : Nat) : Option (Nat × Nat) := (ds[i]?).getD none
def dealt (ds : Deal) (i : Nat) : Bool := (ent ds i).isSome
theorem ent_some {ds : Deal} {i : Nat} {p : Nat × Nat} : ent ds i = some p ↔ ds[i]? = some (some p) := by
  unfold ent
  cases h : ds[i]? with
  | none => simp
  | some o => simp
theorem on_cnt (ds : Deal) (p : Nat × Nat) : (on ds p).length = cnt ds.length fun i => decide (ent ds i = some p) := by
  unfold on onT cnt
  rw [List.countP_eq_length_filter]
  congr 2
  funext i
  exact decide_eq_decide.mpr ent_some.symm
theorem held_pairsN {caps : List Nat} {hs : List (List Nat)} (ok : PoolOk caps hs) {i : Nat} {p : Nat × Nat} (h : p ∈ heldP caps hs i) : p ∈ pairsN caps.length ∧ i < hs.length ∧ p.1 ∈ hs.getD i [] ∧ p.2 ∈ hs.getD i [] := by
  obtain ⟨h1, h2, h3, h4⟩ := mem_heldA.mp h
  by_cases hi : i < hs.length
  · have e : hs.getD i [] = hs[i] := by rw [List.getD_eq_getElem?_getD, List.getElem?_eq_getElem hi]; rfl
    have hb := (ok.row (hs[i]) (List.getElem_mem hi)).2.2
    exact ⟨mem_pairsN.mpr ⟨h3, hb _ (by rw [← e]; exact h2)⟩, hi, h1, h2⟩
  · rw [List.getD_eq_getElem?_getD, List.getElem?_eq_none (by omega)] at h1
    simp at h1
/-- what is dealt meets Hall's condition -/
theorem valid_hall {caps : List Nat} {hs : List (List Nat)} {ds : Deal} (ok : PoolOk caps hs) (v : Valid caps hs ds) : Hall caps hs (dealt ds) := by
  intro T hT
  have hsome : ∀ i, T i = true → ∃ p, ent ds i = some p := fun i hi => Option.isSome_iff_exists.mp (hT i hi)
  unfold cnt
  rw [count_split (e := ent ds) (pairsN_nodup caps.length) (List.range hs.length) fun i _ hi => by
    obtain ⟨p, hp⟩ := hsome i hi
    exact ⟨p, (held_pairsN ok (v.held i p (ent_some.mp hp))).1, hp⟩]
  refine sum_le _ fun p _ => ?_
  by_cases ht : touch hs T p = true
  · rw [if_pos ht]
    refine Nat.le_trans ?_ (v.room p)
    rw [on_cnt, v.len]
    exact cnt_mono fun i _ h => by simp only [Bool.and_eq_true] at h; exact h.2
  · rw [if_neg ht]
    refine Nat.le_of_eq (List.countP_eq_zero.mpr fun i _ h => ht ?_)
    simp only [Bool.and_eq_true, decide_eq_true_eq] at h
    obtain ⟨_, h2, h3, h4⟩ := held_pairsN ok (v.held i p (ent_some.mp h.2))
    exact touch_iff.mpr ⟨i, h2, h.1, h3, h4⟩
theorem cnt_list {l : List Nat} {n : Nat} (hn : l.Nodup) (hb : ∀ x ∈ l, x < n) : cnt n (fun i => l.contains i) = l.length := by
  unfold cnt
  rw [List.countP_eq_length_filter]
  refine Nat.le_antisymm ?_ ?_
  · refine sub_len (List.Pairwise.filter _ List.nodup_range) fun x hx => ?_
    have := (List.mem_filter.mp hx).2
    simpa using this
  · refine sub_len hn fun x hx => List.mem_filter.mpr ⟨List.mem_range.mpr (hb x hx), by simpa using hx⟩
/-- a forest without a free place shows a lot with more pieces than places -/
theorem stuck_not {caps : List Nat} {hs : List (List Nat)} {ds : Deal} {r : Nat} {es : Ents} (ok : PoolOk caps hs) (v : Valid caps hs ds) (hr : ds[r]? = some none) (fo : Forest caps hs ds r es) (st : Stuck caps hs ds es) :
    ¬ Hall caps hs (fun i => dealt ds i || i == r) := by
  intro H
  have hkey : ∀ k ∈ ksOf es, k = r ∨ ∃ p, ds[k]? = some (some p) := fun k hk => by
    obtain ⟨i, hi⟩ := List.getElem?_of_mem hk
    unfold ksOf at hi
    rw [List.getElem?_map] at hi
    cases q : es[i]? with
    | none => rw [q] at hi; cases hi
    | some e =>
      rw [q] at hi
      injection hi with hi
      obtain ⟨k', o⟩ := e
      have hi : k' = k := hi
      subst hi
      rcases fo.fi.back i k' o q with z | ⟨b, j, p, _, _, _, hp, _⟩
      · subst z
        have := fo.fi.head
        rw [q] at this
        injection this with this; injection this with this _
        exact .inl this
      · exact .inr ⟨p, hp⟩
  have hT := H (fun i => (ksOf es).contains i) fun i hi => by
    have hi : i ∈ ksOf es := by simpa using hi
    rcases hkey i hi with z | ⟨p, hp⟩
    · simp [z]
    · simp [dealt, ent_some.mpr hp]
  have hrl : r < hs.length := by rw [← v.len]; exact (List.getElem?_eq_some_iff.mp hr).1
  have hrk : r ∈ ksOf es := List.mem_of_getElem? (ksOf_at fo.fi.head)
  have h1 : cnt hs.length (fun i => (ksOf es).contains i && dealt ds i) < cnt hs.length fun i => (ksOf es).contains i :=
    cnt_lt (k := r) (fun i _ h => by simp only [Bool.and_eq_true] at h; exact h.1) hrl (by simp [dealt, ent, hr]) (by simpa using hrk)
  have h2 : cnt hs.length (fun i => (ksOf es).contains i && dealt ds i) = ((pairsN caps.length).map fun p => cnt hs.length fun i => ((ksOf es).contains i && dealt ds i) && decide (ent ds i = some p)).sum :=
    count_split (e := ent ds) (pairsN_nodup caps.length) (List.range hs.length) fun i _ hi => by
      simp only [Bool.and_eq_true] at hi
      obtain ⟨p, hp⟩ := Option.isSome_iff_exists.mp hi.2
      exact ⟨p, (held_pairsN ok (v.held i p (ent_some.mp hp))).1, hp⟩
  have h3 : places caps hs (fun i => (ksOf es).contains i) ≤ ((pairsN caps.length).map fun p => cnt hs.length fun i => ((ksOf es).contains i && dealt ds i) && decide (ent ds i = some p)).sum := by
    refine sum_le _ fun p hp => ?_
    by_cases ht : touch hs (fun i => (ksOf es).contains i) p = true
    · rw [if_pos ht]
      obtain ⟨k, hk, hkc, m1, m2⟩ := touch_iff.mp ht
      have hkm : k ∈ ksOf es := by simpa using hkc
      by_cases hroom : 0 < roomA caps p
      · have hm : p ∈ heldP caps hs k := mem_heldA.mpr ⟨m1, m2, (mem_pairsN.mp hp).1, hroom⟩
        refine Nat.le_trans (st k hkm p hm) ?_
        rw [on_cnt, v.len]
        refine cnt_mono fun i _ hi => ?_
        have hi' := of_decide_eq_true hi
        have hmem := fo.cov k hkm p hm i (mem_on.mpr (ent_some.mp hi'))
        simp [hmem, dealt, hi']
      · omega
    · rw [if_neg ht]; exact Nat.zero_le _
  omega
/-! walks -/
theorem ent_set {ds : Deal} {k : Nat} (hk : k < ds.length) (o : Option (Nat × Nat)) (i : Nat) : ent (ds.set k o) i = if i = k then o else ent ds i := by
  unfold ent
  rw [List.getElem?_set]
  by_cases e : k = i
  · subst e; rw [if_pos rfl, if_pos hk, if_pos rfl]; rfl
  · rw [if_neg e, if_neg (Ne.symm e)]
theorem on_set {ds : Deal} {k : Nat} (hk : k < ds.length) (p q : Nat × Nat) : (on (ds.set k (some p)) q).length + (if ent ds k = some q then 1 else 0) = (on ds q).length + if p = q then 1 else 0 := by
  rw [on_cnt, on_cnt, List.length_set]
  have := cnt_change (k := k) (f := fun i => decide (ent (ds.set k (some p)) i = some q)) (g := fun i => decide (ent ds i = some q)) hk fun i hi => by
    rw [ent_set hk, if_neg hi]
  rw [ent_set hk, if_pos rfl] at this
  simpa using this
theorem walk_run {caps : List Nat} {hs : List (List Nat)} {ds : Deal} (hlen : ds.length = hs.length) (hroom : ∀ p, (on ds p).length ≤ roomA caps p) : ∀ (W : List (Nat × (Nat × Nat))) (e : Option (Nat × Nat)) (d : Deal), WalkFrom caps hs ds e W →
    d.length = hs.length → (∀ i p, ent d i = some p → p ∈ heldP caps hs i) → (∀ s ∈ W, ent d s.1 = ent ds s.1) → (∀ q, (on d q).length = (on ds q).length + if e = some q then 1 else 0) →
    Valid caps hs (walkD d W) ∧ ∀ i, dealt (walkD d W) i = (dealt d i || W.any fun s => s.1 == i)
  | [], none, d, hw, _, _, _, _ => hw.elim
  | [], some p, d, hw, h1, h2, h3, h4 => by
    refine ⟨⟨h1, fun i p hp => h2 i p (ent_some.mpr hp), fun q => ?_⟩, fun i => by simp [walkD]⟩
    show (on d q).length ≤ _
    rw [h4 q]
    by_cases e : p = q
    · subst e; rw [if_pos rfl]; exact hw
    · rw [if_neg (fun z => e (Option.some.inj z))]; exact hroom q
  | (k, p) :: W, e, d, hw, h1, h2, h3, h4 => by
    obtain ⟨w1, w2, w3, w4, w5⟩ := walk_cons.mp hw
    have hk : k < d.length := by rw [h1]; exact w2
    have hek : ent d k = e := by
      rw [h3 (k, p) (List.mem_cons_self ..)]
      unfold ent; rw [w1]; rfl
    obtain ⟨i1, i2⟩ := walk_run hlen hroom W (some p) (d.set k (some p)) w5 (by rw [List.length_set]; exact h1) (fun i q hq => by
        rw [ent_set hk] at hq
        by_cases z : i = k
        · subst z; rw [if_pos rfl] at hq; rw [← Option.some.inj hq]; exact w3
        · rw [if_neg z] at hq; exact h2 i q hq)
      (fun s hs' => by rw [ent_set hk, if_neg (w4 s hs')]; exact h3 s (List.mem_cons_of_mem _ hs'))
      (fun q => by
        have a := on_set hk p q
        have b := h4 q
        rw [hek] at a
        by_cases z : p = q
        · subst z; rw [if_pos rfl] at a ⊢; omega
        · rw [if_neg z] at a
          rw [if_neg (fun y => z (Option.some.inj y))]
          omega)
    refine ⟨i1, fun i => ?_⟩
    show dealt (walkD (d.set k (some p)) W) i = _
    rw [i2 i]
    unfold dealt
    rw [ent_set hk]
    by_cases z : i = k
    · subst z; rw [if_pos rfl]; simp
    · rw [if_neg z]
      have : (k == i) = false := by simpa using fun y => z y.symm
      simp [this]
theorem walk_tail_dealt {caps : List Nat} {hs : List (List Nat)} {ds : Deal} : ∀ (W : List (Nat × (Nat × Nat))) (p : Nat × Nat), WalkFrom caps hs ds (some p) W → ∀ s ∈ W, dealt ds s.1 = true
  | [], _, _, s, hs' => by simp at hs'
  | (k, q) :: W, p, hw, s, hs' => by
    obtain ⟨w1, w2, w3, w4, w5⟩ := walk_cons.mp hw
    rcases List.mem_cons.mp hs' with z | z
    · subst z; unfold dealt; rw [ent_some.mpr w1]; rfl
    · exact walk_tail_dealt W q w5 s z
/-- behind a walk one more piece is dealt -/
theorem walk_valid {caps : List Nat} {hs : List (List Nat)} {ds : Deal} {r : Nat} {q : Nat × Nat} {W : List (Nat × (Nat × Nat))} (v : Valid caps hs ds) (hw : WalkFrom caps hs ds none ((r, q) :: W)) :
    Valid caps hs (walkD ds ((r, q) :: W)) ∧ ∀ i, dealt (walkD ds ((r, q) :: W)) i = (dealt ds i || i == r) := by
  obtain ⟨h1, h2⟩ := walk_run v.len v.room ((r, q) :: W) none ds hw v.len (fun i p hp => v.held i p (ent_some.mp hp)) (fun _ _ => rfl) (fun p => by simp)
  refine ⟨h1, fun i => ?_⟩
  rw [h2 i]
  have ht := walk_tail_dealt W q (walk_cons.mp hw).2.2.2.2
  cases hd : dealt ds i with
  | true => simp
  | false =>
    simp only [Bool.false_or, List.any_cons]
    have : (W.any fun s => s.1 == i) = false := by
      rw [List.any_eq_false]
      intro s hs' z
      have := ht s hs'
      rw [show s.1 = i from by simpa using z, hd] at this
      cases this
    rw [this, Bool.or_false]
    exact Bool.beq_comm ..
end BL
set_option Elab.async false
set_option linter.all false
set_option maxRecDepth 100000
set_option maxHeartbeats 4000000
/-! The plain law, second part: what falling worths collect. -/
namespace BL
/-- a stands ahead of b -/
def Bef (w : Nat → Nat) (a b : Nat) : Prop := w b < w a ∨ (w a = w b ∧ a < b)
theorem Bef.irr {w : Nat → Nat} {a b : Nat} (h : Bef w a b) : ¬ Bef w b a := by unfold Bef at *; omega
structure OrdOf (w : Nat → Nat) (n : Nat) (ord : List Nat) : Prop where
  perm : ord.Perm (List.range n)
  srt : ord.Pairwise (Bef w)
theorem OrdOf.uniq {w : Nat → Nat} {n : Nat} {a b : List Nat} (ha : OrdOf w n a) (hb : OrdOf w n b) : a = b :=
  List.Perm.eq_of_pairwise (fun x y _ _ h1 h2 => absurd h2 h1.irr) ha.srt hb.srt (ha.perm.trans hb.perm.symm)
theorem OrdOf.mem {w : Nat → Nat} {n : Nat} {ord : List Nat} (h : OrdOf w n ord) {x : Nat} : x ∈ ord ↔ x < n := by rw [h.perm.mem_iff, List.mem_range]
theorem OrdOf.nodup {w : Nat → Nat} {n : Nat} {ord : List Nat} (h : OrdOf w n ord) : ord.Nodup := h.perm.nodup_iff.mpr List.nodup_range
theorem OrdOf.len {w : Nat → Nat} {n : Nat} {ord : List Nat} (h : OrdOf w n ord) : ord.length = n := by rw [h.perm.length_eq, List.length_range]
/-- what is collected: a piece joins if the earlier ones that joined, with it, are fine -/
structure Greedy (Ok : (Nat → Bool) → Prop) (ord : List Nat) (G : Nat → Bool) : Prop where
  sub : ∀ x, G x = true → x ∈ ord
  join : ∀ j p, ord[j]? = some p → (G p = true ↔ Ok fun x => ((ord.take j).contains x && G x) || x == p)
theorem Greedy.uniq {Ok : (Nat → Bool) → Prop} {ord : List Nat} {G G' : Nat → Bool} (h : Greedy Ok ord G) (h' : Greedy Ok ord G') : ∀ x, G x = G' x := by
  have key : ∀ (j i p : Nat), i < j → ord[i]? = some p → G p = G' p := by
    intro j
    induction j with
    | zero => intro i p hi; omega
    | succ j ih =>
      intro i p hi hp
      by_cases e : i < j
      · exact ih i p e hp
      · have : i = j := by omega
        subst this
        have e : (fun x => ((ord.take i).contains x && G x) || x == p) = fun x => ((ord.take i).contains x && G' x) || x == p := by
          funext x
          cases hc : (ord.take i).contains x with
          | false => rfl
          | true =>
            have hm : x ∈ ord.take i := by simpa using hc
            obtain ⟨m, hm'⟩ := List.getElem?_of_mem hm
            have hlt : m < i := by
              have := (List.getElem?_eq_some_iff.mp hm').1
              rw [List.length_take] at this; omega
            rw [List.getElem?_take_of_lt hlt] at hm'
            rw [ih m x hlt hm']
        have a := h.join i p hp
        have b := h'.join i p hp
        rw [e] at a
        cases h1 : G p <;> cases h2 : G' p <;> simp [h1, h2] at a b ⊢ <;> simp_all
  intro x
  cases h1 : G x with
  | true =>
    obtain ⟨m, hm⟩ := List.getElem?_of_mem (h.sub x h1)
    rw [← key (m + 1) m x (Nat.lt_succ_self m) hm, h1]
  | false =>
    cases h2 : G' x with
    | false => rfl
    | true =>
      obtain ⟨m, hm⟩ := List.getElem?_of_mem (h'.sub x h2)
      rw [← key (m + 1) m x (Nat.lt_succ_self m) hm, h1] at h2
      cases h2
section
variable {caps : List Nat} {hs : List (List Nat)}
theorem hall_empty : Hall caps hs fun _ => false := fun T hT => by
  have : cnt hs.length T = 0 := List.countP_eq_zero.mpr fun i _ h => by have := hT i h; cases this
  rw [this]; exact Nat.zero_le _
theorem greedy_take {ord : List Nat} {G : Nat → Bool} (h : Greedy (Hall caps hs) ord G) : ∀ j, Hall caps hs fun x => (ord.take j).contains x && G x
  | 0 => hall_empty.sub fun i hi => by simp at hi
  | j + 1 => by
    have ih := greedy_take h j
    cases hp : ord[j]? with
    | none => rw [List.take_add_one, hp]; simpa using ih
    | some p =>
      rw [take_snoc hp]
      cases hG : G p with
      | true =>
        refine ((h.join j p hp).mp hG).sub fun i hi => ?_
        simp only [Bool.and_eq_true, List.contains_append, Bool.or_eq_true] at hi
        rcases hi.1 with z | z
        · rw [z, hi.2]; rfl
        · have : i = p := by simpa using z
          simp [this]
      | false =>
        refine ih.sub fun i hi => ?_
        simp only [Bool.and_eq_true, List.contains_append, Bool.or_eq_true] at hi
        rcases hi.1 with z | z
        · rw [z, hi.2]; rfl
        · have : i = p := by simpa using z
          rw [this, hG] at hi
          cases hi.2
theorem greedy_hall {ord : List Nat} {G : Nat → Bool} (h : Greedy (Hall caps hs) ord G) : Hall caps hs G := by
  have := greedy_take h ord.length
  rw [List.take_length] at this
  exact this.sub fun i hi => by simp [h.sub i hi, hi]
/-! places grow, and do so ever less -/
theorem touch_mono {S T : Nat → Bool} {p : Nat × Nat} (h : ∀ i, S i = true → T i = true) (ht : touch hs S p = true) : touch hs T p = true := by
  obtain ⟨i, h1, h2, h3⟩ := touch_iff.mp ht
  exact touch_iff.mpr ⟨i, h1, h i h2, h3⟩
theorem places_mono {S T : Nat → Bool} (h : ∀ i, S i = true → T i = true) : places caps hs S ≤ places caps hs T := by
  refine sum_le _ fun p _ => ?_
  by_cases hs' : touch hs S p = true
  · rw [if_pos hs', if_pos (touch_mono h hs')]; exact Nat.le_refl _
  · rw [if_neg hs']; exact Nat.zero_le _
def cup (S T : Nat → Bool) : Nat → Bool := fun i => S i || T i
def cap (S T : Nat → Bool) : Nat → Bool := fun i => S i && T i
theorem touch_cup {S T : Nat → Bool} {p : Nat × Nat} : touch hs (cup S T) p = (touch hs S p || touch hs T p) := by
  rw [Bool.eq_iff_iff, Bool.or_eq_true]
  constructor
  · intro h
    obtain ⟨i, h1, h2, h3⟩ := touch_iff.mp h
    rcases Bool.or_eq_true_iff.mp h2 with z | z
    · exact .inl (touch_iff.mpr ⟨i, h1, z, h3⟩)
    · exact .inr (touch_iff.mpr ⟨i, h1, z, h3⟩)
  · rintro (h | h)
    · exact touch_mono (fun i hi => by simp [cup, hi]) h
    · exact touch_mono (fun i hi => by simp [cup, hi]) h
theorem places_sub (S T : Nat → Bool) : places caps hs (cup S T) + places caps hs (cap S T) ≤ places caps hs S + places caps hs T := by
  unfold places
  rw [← sum_add, ← sum_add]
  refine sum_le _ fun p _ => ?_
  have h1 : touch hs (cap S T) p = true → touch hs S p = true ∧ touch hs T p = true := fun h =>
    ⟨touch_mono (fun i hi => (Bool.and_eq_true_iff.mp hi).1) h, touch_mono (fun i hi => (Bool.and_eq_true_iff.mp hi).2) h⟩
  rw [touch_cup]
  cases hS : touch hs S p <;> cases hT : touch hs T p <;> cases hC : touch hs (cap S T) p <;> simp [hS, hT, hC] at h1 ⊢
theorem cnt_cup (n : Nat) (S T : Nat → Bool) : cnt n (cup S T) + cnt n (cap S T) = cnt n S + cnt n T := by
  induction n with
  | zero => rfl
  | succ n ih =>
    rw [cnt_succ, cnt_succ, cnt_succ, cnt_succ]
    unfold cup cap at *
    cases S n <;> cases T n <;> simp <;> omega
/-- sets that violate, each by one piece, have a common tight set behind them -/
theorem tight {G : Nat → Bool} (hG : Hall caps hs G) : ∀ L : List Nat, (∀ i ∈ L, i < hs.length ∧ G i = false ∧ ∃ V : Nat → Bool, (∀ x, V x = true → G x = true ∨ x = i) ∧ places caps hs V < cnt hs.length V) →
    ∃ A : Nat → Bool, (∀ x, A x = true → G x = true) ∧ places caps hs (cup A fun x => L.contains x) ≤ cnt hs.length A
  | [], _ => by
    refine ⟨fun _ => false, fun x h => (by cases h), ?_⟩
    have : places caps hs (cup (fun _ => false) fun x => ([] : List Nat).contains x) = 0 := sum_zero _ fun p _ => by
      rw [if_neg]
      intro h
      obtain ⟨i, _, h2, _⟩ := touch_iff.mp h
      simp [cup] at h2
    rw [this]; exact Nat.zero_le _
  | i :: L, h => by
    obtain ⟨A, hA, hp⟩ := tight hG L fun j hj => h j (List.mem_cons_of_mem _ hj)
    obtain ⟨hi, hGi, V, hV, hlt⟩ := h i (List.mem_cons_self ..)
    have hVi : V i = true := by
      cases q : V i with
      | true => rfl
      | false =>
        have := hG V fun x hx => by
          rcases hV x hx with z | z
          · exact z
          · rw [z, q] at hx; cases hx
        omega
    let B : Nat → Bool := fun x => V x && !(x == i)
    have hBG : ∀ x, B x = true → G x = true := fun x hx => by
      simp only [B, Bool.and_eq_true, Bool.not_eq_true', beq_eq_false_iff_ne] at hx
      rcases hV x hx.1 with z | z
      · exact z
      · exact absurd z hx.2
    have hBc : cnt hs.length V = cnt hs.length B + 1 := by
      have := cnt_change (k := i) (f := V) (g := B) hi fun x hx => by
        have : (x == i) = false := by simpa using hx
        simp [B, this]
      have hBi : B i = false := by simp [B]
      rw [hVi, hBi] at this
      simpa using this
    refine ⟨cup A B, fun x hx => ?_, ?_⟩
    · rcases Bool.or_eq_true_iff.mp hx with z | z
      · exact hA x z
      · exact hBG x z
    ·
      have s1 := places_sub (caps := caps) (hs := hs) (cup A fun x => L.contains x) V
      have m1 : places caps hs (cup (cup A B) fun x => (i :: L).contains x) ≤ places caps hs (cup (cup A fun x => L.contains x) V) := places_mono fun x hx => by
        simp only [cup, Bool.or_eq_true, List.contains_cons] at hx ⊢
        rcases hx with (z | z) | (z | z)
        · exact .inl (.inl z)
        · exact .inr (Bool.and_eq_true_iff.mp z).1
        · rw [show x = i from by simpa using z]; exact .inr hVi
        · exact .inl (.inr z)
      have m2 : cnt hs.length (cap A B) ≤ places caps hs (cap (cup A fun x => L.contains x) V) := Nat.le_trans (hG (cap A B) fun x hx => hA x (Bool.and_eq_true_iff.mp hx).1) (places_mono fun x hx => by
        simp only [cup, cap, Bool.and_eq_true, Bool.or_eq_true] at hx ⊢
        exact ⟨.inl hx.1, (Bool.and_eq_true_iff.mp hx.2).1⟩)
      have c1 := cnt_cup hs.length A B
      omega
/-- no set that meets the condition has more pieces of a worth of at least c -/
theorem greedy_best {w : Nat → Nat} {ord : List Nat} {G T : Nat → Bool} (ho : OrdOf w hs.length ord) (h : Greedy (Hall caps hs) ord G) (hT : Hall caps hs T) (c : Nat) :
    cnt hs.length (fun i => T i && decide (c ≤ w i)) ≤ cnt hs.length fun i => G i && decide (c ≤ w i) := by
  let G' : Nat → Bool := fun i => G i && decide (c ≤ w i)
  let T' : Nat → Bool := fun i => T i && decide (c ≤ w i)
  have hG' : Hall caps hs G' := (greedy_hall h).sub fun i hi => (Bool.and_eq_true_iff.mp hi).1
  have hT' : Hall caps hs T' := hT.sub fun i hi => (Bool.and_eq_true_iff.mp hi).1
  let L := (List.range hs.length).filter fun i => decide (c ≤ w i) && !G i
  obtain ⟨A, hA, hp⟩ := tight hG' L fun i hi => by
    obtain ⟨h1, h2⟩ := List.mem_filter.mp hi
    have hin : i < hs.length := List.mem_range.mp h1
    simp only [Bool.and_eq_true, decide_eq_true_eq, Bool.not_eq_true'] at h2
    refine ⟨hin, by simp [G', h2.2], ?_⟩
    obtain ⟨j, hj⟩ := List.getElem?_of_mem (ho.mem.mpr hin)
    have hno : ¬ Hall caps hs fun x => ((ord.take j).contains x && G x) || x == i := fun z => by
      have := (h.join j i hj).mpr z
      rw [h2.2] at this; cases this
    have hex : ∃ V : Nat → Bool, (∀ x, V x = true → (((ord.take j).contains x && G x) || x == i) = true) ∧ places caps hs V < cnt hs.length V := Classical.byContradiction fun z => hno fun V hV => by
      refine Nat.le_of_not_lt fun hlt => z ⟨V, hV, hlt⟩
    obtain ⟨V, hV, hlt⟩ := hex
    refine ⟨V, fun x hx => ?_, hlt⟩
    rcases Bool.or_eq_true_iff.mp (hV x hx) with z | z
    · obtain ⟨z1, z2⟩ := Bool.and_eq_true_iff.mp z
      refine .inl ?_
      have hm : x ∈ ord.take j := by simpa using z1
      obtain ⟨m, hm'⟩ := List.getElem?_of_mem hm
      have hmj : m < j := by
        have := (List.getElem?_eq_some_iff.mp hm').1
        rw [List.length_take] at this; omega
      rw [List.getElem?_take_of_lt hmj] at hm'
      have hb : Bef w x i := by
        obtain ⟨a1, a2⟩ := List.getElem?_eq_some_iff.mp hm'
        obtain ⟨b1, b2⟩ := List.getElem?_eq_some_iff.mp hj
        have := List.pairwise_iff_getElem.mp ho.srt m j a1 b1 hmj
        rwa [a2, b2] at this
      have : c ≤ w x := by unfold Bef at hb; omega
      simp [G', z2, this]
    · exact .inr (by simpa using z)
  have c1 := cnt_cup hs.length (cap T' (cup A fun x => L.contains x)) (fun i => T' i && !(cup A (fun x => L.contains x) i))
  have e1 : cnt hs.length (cup (cap T' (cup A fun x => L.contains x)) (fun i => T' i && !(cup A (fun x => L.contains x) i))) = cnt hs.length T' := cnt_congr fun i _ => by
    simp only [cup, cap]
    cases T' i <;> cases A i <;> cases L.contains i <;> rfl
  have h1 : cnt hs.length (cap T' (cup A fun x => L.contains x)) ≤ cnt hs.length A := by
    refine Nat.le_trans (hT' _ fun i hi => (Bool.and_eq_true_iff.mp hi).1) (Nat.le_trans (places_mono fun i hi => (Bool.and_eq_true_iff.mp hi).2) hp)
  have h2 : cnt hs.length (fun i => T' i && !(cup A (fun x => L.contains x) i)) ≤ cnt hs.length fun i => G' i && !A i := cnt_mono fun i hi hx => by
    simp only [cup, Bool.and_eq_true, Bool.not_eq_true', Bool.or_eq_false_iff] at hx
    obtain ⟨x1, x2, x3⟩ := hx
    have hw : c ≤ w i := by
      have := (Bool.and_eq_true_iff.mp x1).2
      simpa using this
    have hGi : G i = true := by
      cases q : G i with
      | true => rfl
      | false =>
        exfalso
        have : i ∈ L := List.mem_filter.mpr ⟨List.mem_range.mpr hi, by simp [hw, q]⟩
        simp [this] at x3
    simp [G', hGi, hw, x2]
  have c2 := cnt_cup hs.length A (fun i => G' i && !A i)
  have e2 : cnt hs.length (cup A fun i => G' i && !A i) = cnt hs.length G' := cnt_congr fun i _ => by
    have := hA i
    simp only [cup]
    cases q : A i <;> cases q' : G' i <;> simp [q, q'] at this ⊢
  have e3 : cnt hs.length (cap A fun i => G' i && !A i) = 0 := List.countP_eq_zero.mpr fun i _ h => by
    simp only [cap] at h
    cases q : A i <;> simp [q] at h
  show cnt hs.length T' ≤ cnt hs.length G'
  omega
end
/-! sums of worths, layer by layer -/
def wsum (n : Nat) (w : Nat → Nat) (S : Nat → Bool) : Nat := ((List.range n).map fun i => if S i = true then w i else 0).sum
theorem wsum_layer (n : Nat) (w : Nat → Nat) (S : Nat → Bool) (M : Nat) : wsum n (fun i => min (w i) (M + 1)) S = wsum n (fun i => min (w i) M) S + cnt n fun i => S i && decide (M + 1 ≤ w i) := by
  induction n with
  | zero => rfl
  | succ n ih =>
    rw [cnt_succ]
    unfold wsum at *
    rw [List.range_succ, List.map_append, List.map_append, List.sum_append, List.sum_append, ih]
    cases hS : S n with
    | false => simp [hS] <;> omega
    | true =>
      by_cases hM : M + 1 ≤ w n
      · simp [hS, hM] <;> omega
      · simp [hS, hM] <;> omega
theorem wsum_le {n : Nat} {w : Nat → Nat} {S T : Nat → Bool} (h : ∀ c, cnt n (fun i => S i && decide (c ≤ w i)) ≤ cnt n fun i => T i && decide (c ≤ w i)) : wsum n w S ≤ wsum n w T := by
  have key : ∀ M, wsum n (fun i => min (w i) M) S ≤ wsum n (fun i => min (w i) M) T := fun M => by
    induction M with
    | zero => 
      have : wsum n (fun i => min (w i) 0) S = 0 := sum_zero _ fun i _ => by split <;> simp
      rw [this]; exact Nat.zero_le _
    | succ M ih =>
      rw [wsum_layer, wsum_layer]
      have := h (M + 1)
      omega
  have hM : ∀ i, i < n → w i ≤ ((List.range n).map w).sum := by
    clear key h
    induction n with
    | zero => intro i hi; omega
    | succ n ih =>
      intro i hi
      rw [List.range_succ, List.map_append, List.sum_append]
      by_cases e : i = n
      · subst e; simp
      · have := ih i (by omega); omega
  have e : ∀ U : Nat → Bool, wsum n (fun i => min (w i) ((List.range n).map w).sum) U = wsum n w U := fun U => by
    unfold wsum
    congr 1
    refine List.map_congr_left fun i hi => ?_
    have := hM i (List.mem_range.mp hi)
    by_cases hU : U i = true
    · rw [if_pos hU, if_pos hU]; exact Nat.min_eq_left this
    · rw [if_neg hU, if_neg hU]
  have := key ((List.range n).map w).sum
  rwa [e, e] at this
end BL
set_option Elab.async false
set_option linter.all false
set_option maxRecDepth 100000
set_option maxHeartbeats 4000000
namespace BL
open PySem L2
/-! by_worth, best_lot -/
def wOf (ws : List Nat) (i : Nat) : Nat := ws.getD i 0
/-- v is the tuple (- the worth of i, i) -/
def IsW (ws : List Nat) (H : Hp) (v : V) (i : Nat) : Prop := ∃ t, v = .ref t ∧ H t = some (.tup [.int (-((wOf ws i : Nat) : Int)), vn i])
theorem tups_W (ws : List Nat) : Tups (IsW ws) := fun _ _ k _ _ ⟨t, e, h⟩ => ⟨t, e, k _ _ h⟩
def kOf (H : Hp) (v : V) : Int × Int := match v with
  | .ref t => match H t with
    | some (.tup [.int a, .int b]) => (a, b)
    | _ => (0, 0)
  | _ => (0, 0)
theorem kOf_W {ws : List Nat} {H : Hp} {v : V} {i : Nat} (h : IsW ws H v i) : kOf H v = (-((wOf ws i : Nat) : Int), ((i : Nat) : Int)) := by
  obtain ⟨t, rfl, ht⟩ := h
  unfold kOf
  simp only [ht]
def iOf (H : Hp) (v : V) : Nat := (kOf H v).2.toNat
theorem iOf_W {ws : List Nat} {H : Hp} {v : V} {i : Nat} (h : IsW ws H v i) : iOf H v = i := by unfold iOf; rw [kOf_W h]; rfl
theorem paired_iOf {ws : List Nat} {H : Hp} : ∀ {vs : List V} {is : List Nat}, Paired (IsW ws H) vs is → vs.map (iOf H) = is
  | _, _, .nil => rfl
  | _, _, .cons r t => by rw [List.map_cons, iOf_W r, paired_iOf t]
theorem paired_of_mem {ws : List Nat} {H : Hp} : ∀ (vs : List V), (∀ v ∈ vs, ∃ i, IsW ws H v i) → Paired (IsW ws H) vs (vs.map (iOf H))
  | [], _ => .nil
  | v :: vs, h => by
    obtain ⟨i, hi⟩ := h v (List.mem_cons_self ..)
    rw [List.map_cons]
    exact .cons (by rw [iOf_W hi]; exact hi) (paired_of_mem vs fun u hu => h u (List.mem_cons_of_mem _ hu))
theorem paired_mem {α β : Type} {F : α → β → Prop} : ∀ {vs : List α} {bs : List β}, Paired F vs bs → ∀ v ∈ vs, ∃ b ∈ bs, F v b
  | _, _, .nil, v, h => by simp at h
  | _, _, .cons r t, v, h => by
    rcases List.mem_cons.mp h with z | z
    · subst z; exact ⟨_, List.mem_cons_self .., r⟩
    · obtain ⟨b, hb, hf⟩ := paired_mem t v z
      exact ⟨b, List.mem_cons_of_mem _ hb, hf⟩
theorem map_some_id {α : Type} (l : List α) : (l.map some).filterMap id = l := by rw [List.filterMap_map]; exact List.filterMap_some
def spByWorth (K : PySem.W.Frag) : Sp := fun vs H Q _ => ∃ (a : Addr) (ws : List Nat), vs = [.ref a] ∧ SqL K H a (ws.map vn) ∧ ws.length ≤ 1000 ∧
  ∀ (p : Addr) (ord : List Nat) (H' : Hp), Same H H' → H' p = some (.lst (ord.map vn)) → OrdOf (wOf ws) ws.length ord → Q (.ref p) H'
def spBestLot (K : PySem.W.Frag) (C : Addr) : Sp := fun vs H Q _ => ∃ (v : V) (a : Addr) (caps : List Nat) (hs : List (List Nat)) (ws : List Nat), vs = [v, .ref a] ∧ PoolAt C H v caps hs ∧ SqL K H a (ws.map vn) ∧ ws.length = hs.length ∧
  ∀ (p : Addr) (ord : List Nat) (G : Nat → Bool) (H' : Hp), H p = none → Same H H' → OrdOf (wOf ws) hs.length ord → Greedy (Hall caps hs) ord G → H' p = some (.lst (((List.range hs.length).filter G).map vn)) → Q (.ref p) H'
/-- find_walk(pool, dealing, pieces=..) -/
def HasW (P : Program) (w : World) (K : PySem.W.Frag) (mg : Str → Option Value) (base : Heap) (k : Nat) (sp : Sp) : Prop :=
  ∃ (f : Addr) (fd : FuncData) (g : List Value → List Value → List Value), FnOk P w K mg base CX0 k f fd ["pool", "dealing", "pieces"] sp ∧ mg "find_walk" = some (.ref f) ∧ PySem.W.keepIn K (.ref f) = true ∧ KBn K fd ["pool", "dealing", "pieces"] 2 ["pieces"] g (fun vs zs => vs ++ zs)
theorem valid_none {caps : List Nat} {hs : List (List Nat)} : Valid caps hs (List.replicate hs.length none) := by
  refine ⟨List.length_replicate, fun i p h => ?_, fun p => ?_⟩
  · rw [List.getElem?_replicate] at h
    split at h <;> cases h
  · rw [on_cnt, show (cnt _ fun i => decide (ent (List.replicate hs.length none) i = some p)) = 0 from List.countP_eq_zero.mpr fun i _ h => by
      have h := ent_some.mp (of_decide_eq_true h)
      rw [List.getElem?_replicate] at h
      split at h <;> cases h]
    exact Nat.zero_le _
/-- between two turns of best_lot -/
structure BlI (caps : List Nat) (hs : List (List Nat)) (ord : List Nat) (i : Nat) (ds : Deal) : Prop where
  valid : Valid caps hs ds
  sub : ∀ x, dealt ds x = true → x ∈ ord.take i
  join : ∀ j p, j < i → ord[j]? = some p → (dealt ds p = true ↔ Hall caps hs fun x => ((ord.take j).contains x && dealt ds x) || x == p)
theorem take_mem_lt {l : List Nat} {i x : Nat} (h : x ∈ l.take i) : ∃ j, j < i ∧ l[j]? = some x := by
  obtain ⟨m, hm⟩ := List.getElem?_of_mem h
  have hlt : m < i := by
    have := (List.getElem?_eq_some_iff.mp hm).1
    rw [List.length_take] at this; omega
  rw [List.getElem?_take_of_lt hlt] at hm
  exact ⟨m, hlt, hm⟩
theorem not_in_take {l : List Nat} (hn : l.Nodup) {i p : Nat} (h : l[i]? = some p) : p ∉ l.take i := fun z => by
  obtain ⟨j, hj, hp⟩ := take_mem_lt z
  have := nd_ix hn hp h
  omega
theorem BlI.no {caps : List Nat} {hs : List (List Nat)} {ord : List Nat} {i p : Nat} {ds : Deal} (I : BlI caps hs ord i ds) (hn : ord.Nodup) (hp : ord[i]? = some p) (hno : ¬ Hall caps hs (fun x => dealt ds x || x == p)) : BlI caps hs ord (i + 1) ds := by
  refine ⟨I.valid, fun x hx => by rw [take_snoc hp]; exact List.mem_append_left _ (I.sub x hx), fun j q hj hq => ?_⟩
  by_cases e : j < i
  · exact I.join j q e hq
  · have : j = i := by omega
    subst this
    rw [hp] at hq
    cases hq
    have hd : dealt ds p = false := by
      cases z : dealt ds p with
      | false => rfl
      | true => exact absurd (I.sub p z) (not_in_take hn hp)
    rw [hd]
    refine ⟨fun z => (by cases z), fun z => absurd ((Hall.congr fun x => ?_).mp z) hno⟩
    have := I.sub x
    cases q : dealt ds x with
    | false => simp
    | true => simp [this q]
theorem BlI.yes {caps : List Nat} {hs : List (List Nat)} {ord : List Nat} {i p : Nat} {ds ds' : Deal} (ok : PoolOk caps hs) (I : BlI caps hs ord i ds) (hn : ord.Nodup) (hp : ord[i]? = some p) (v : Valid caps hs ds') (hd : ∀ x, dealt ds' x = (dealt ds x || x == p)) : BlI caps hs ord (i + 1) ds' := by
  refine ⟨v, fun x hx => ?_, fun j q hj hq => ?_⟩
  · rw [take_snoc hp]
    rw [hd] at hx
    rcases Bool.or_eq_true_iff.mp hx with z | z
    · exact List.mem_append_left _ (I.sub x z)
    · rw [show x = p from by simpa using z]; exact List.mem_append_right _ (List.mem_singleton.mpr rfl)
  · by_cases e : j < i
    · have hqp : q ≠ p := fun z => by subst z; have := nd_ix hn hq hp; omega
      have hqb : (q == p) = false := by simpa using hqp
      have e1 : dealt ds' q = dealt ds q := by rw [hd, hqb, Bool.or_false]
      rw [e1, I.join j q e hq]
      refine Hall.congr fun x => ?_
      rw [hd]
      cases hc : (ord.take j).contains x with
      | false => rfl
      | true =>
        have hxp : (x == p) = false := by
          have hm : x ∈ ord.take j := by simpa using hc
          obtain ⟨m, hm1, hm2⟩ := take_mem_lt hm
          have : x ≠ p := fun z => by subst z; have := nd_ix hn hm2 hp; omega
          simpa using this
        rw [hxp]; simp
    · have : j = i := by omega
      subst this
      rw [hp] at hq
      cases hq
      have hdp : dealt ds' p = true := by rw [hd]; simp
      refine ⟨fun _ => (Hall.congr fun x => ?_).mp (valid_hall ok v), fun _ => hdp⟩
      rw [hd]
      have := I.sub x
      cases q : dealt ds x with
      | false => simp
      | true => simp [this q]
theorem BlI.done {caps : List Nat} {hs : List (List Nat)} {ord : List Nat} {ds : Deal} (I : BlI caps hs ord ord.length ds) : Greedy (Hall caps hs) ord (dealt ds) :=
  ⟨fun x hx => by have := I.sub x hx; rwa [List.take_length] at this, fun j p hp => I.join j p (List.getElem?_eq_some_iff.mp hp).1 hp⟩
section
variable {P : Program} {w : World} {K : PySem.W.Frag} {mg : Str → Option Value} {base : Heap} {C : Addr}
theorem ok_by_worth {f : Addr} {fd : FuncData} (B : Bt mg) (F : FnP K "by_worth" s_by_worth f fd) : FnOk P w K mg base CX0 1 f fd ["worths"] (spByWorth K) := by
  refine F.ok sc_by_worth (fun vs H Q E h => ?_) (fun cdv A outer s H vs Q E hr h => ?_)
  · obtain ⟨a, ws, rfl, _⟩ := h; rfl
  · obtain ⟨a, ws, rfl, ha, hl, k⟩ := h
    refine ⟨_, PSs.nox (pss_one
      (ps_ret (pe_lc (own := [("rank", 1), ("piece", 2)]) rfl sc_by_worth.nd (pi_listK K (pe_callB (sortedPK K) (by rfl) B.sorted (by decide +kernel) (pa_cons (pe_lc (own := [("piece", 2), ("worth", 3)]) rfl sc_by_worth.nd (enumK K (by rfl) B.enumerate (pa_cons (pv 0) pa_nil)) (blkOk_by (own := [("piece", 2), ("worth", 3)]) (N := N_by_worth) (sc := defScope s_by_worth) (by decide +kernel)) (fun _ _ _ _ _ => (gtupK K 2 rfl (pgs_cons (pg_name (i := 2) sc_by_worth.nd rfl (Or.inl rfl)) (pgs_cons (pg_name (i := 3) sc_by_worth.nd rfl (Or.inl rfl)) pgs_nil)))) (fun _ _ _ _ _ => pts_nil) (fun _ _ _ _ _ => (pe_tup (pa_cons (pe_un un_neg (pv 3)) (pa_cons (pv 2) pa_nil))))) pa_nil))) (blkOk_by (own := [("rank", 1), ("piece", 2)]) (N := N_by_worth) (sc := defScope s_by_worth) (by decide +kernel)) (fun _ _ _ _ _ => (gtupK K 2 rfl (pgs_cons (pg_name (i := 1) sc_by_worth.nd rfl (Or.inl rfl)) (pgs_cons (pg_name (i := 2) sc_by_worth.nd rfl (Or.inl rfl)) pgs_nil)))) (fun _ _ _ _ _ => pts_nil) (fun _ _ _ _ _ => (pv 2))))), ?_⟩
    refine ⟨_, rfl, a, _, rfl, ha, fun D hD => ?_⟩
    refine comp_enum (IsW ws) ((List.range ws.length).map some) (by simp) (by simp; exact sz_le (by omega)) (tups_W ws).same (tups_W ws).updL hD ha (fun i x o H2 T hx ho s2 hT Q' q1 q2 => ?_) (fun H1 acc s1 hacc pacc => ?_)
    · obtain ⟨n, hn, rfl⟩ := vmap_at hx
      have hil : i < ws.length := (List.getElem?_eq_some_iff.mp hn).1
      have ho' : some i = o := by
        rw [List.getElem?_map, List.getElem?_range hil] at ho
        exact Option.some.inj ho
      subst ho'
      refine ⟨T, _, rfl, SqT.of hT, rfl, ?_⟩
      refine ⟨_, _, rfl, _, _, rfl, rfl, ?_⟩
      refine ⟨rfl, yesT ?_⟩
      refine ⟨_, rfl, _, rfl, _, rfl, by show 2 ≤ sizeLine; decide, fun t ht => ?_⟩
      refine q2 _ i _ (same_new ht) rfl ⟨t, rfl, ?_⟩
      rw [upd_same]
      have : wOf ws i = n := by unfold wOf; rw [List.getD_eq_getElem?_getD, hn]; rfl
      rw [this]
    rw [map_some_id] at pacc
    have hall : ∀ x ∈ acc, ∃ t, x = V.ref t ∧ H1 t = some (.tup [.int (kOf H1 x).1, .int (kOf H1 x).2]) := fun x hx => by
      obtain ⟨i, _, hi⟩ := paired_mem pacc x hx
      have hk := kOf_W hi
      obtain ⟨t, rfl, ht⟩ := hi
      exact ⟨t, rfl, by rw [hk]; exact ht⟩
    refine ⟨D, acc, kOf H1, rfl, SqL.of hacc, hall, fun ys p hsrt hstb hp => ?_⟩
    have hmem : ∀ v ∈ ys, ∃ i, IsW ws H1 v i := fun v hv => by
      obtain ⟨i, _, hi⟩ := paired_mem pacc v (hstb.perm.mem_iff.mp hv)
      exact ⟨i, hi⟩
    have pys := paired_of_mem ys hmem
    have hperm : (ys.map (iOf H1)).Perm (List.range ws.length) := by
      rw [← paired_iOf pacc]; exact hstb.perm.map _
    have hnd : (ys.map (iOf H1)).Nodup := hperm.nodup_iff.mpr List.nodup_range
    have hord : OrdOf (wOf ws) ws.length (ys.map (iOf H1)) := by
      refine ⟨hperm, ?_⟩
      rw [List.pairwise_map]
      have hnd' : ys.Pairwise fun a b => iOf H1 a ≠ iOf H1 b := List.pairwise_map.mp hnd
      refine List.Pairwise.imp_of_mem (fun {x y} hx hy h => ?_) (hsrt.and hnd')
      obtain ⟨i, hi⟩ := hmem x hx
      obtain ⟨j, hj⟩ := hmem y hy
      obtain ⟨h1, h2⟩ := h
      rw [iOf_W hi, iOf_W hj] at h2 ⊢
      have h1 : SrtO.lexB (kOf H1 y) (kOf H1 x) = false := h1
      have h3 : ¬ SrtO.lexB (kOf H1 y) (kOf H1 x) = true := by rw [h1]; exact Bool.false_ne_true
      rw [SrtO.lexB_iff, kOf_W hi, kOf_W hj] at h3
      unfold Bef
      omega
    have sp : Same H1 (upd H1 p (.lst ys)) := same_new hp
    have pys' := (tups_W ws).all (tk_of sp) pys
    refine ⟨p, rfl, ⟨_, SqL.of upd_same⟩, fun D2 hD2 => ?_⟩
    refine comp_list IsN ((ys.map (iOf H1)).map some) (by simp) (by rw [List.length_map, hord.len]; exact sz_le (by omega)) tups_N.same tups_N.updL hD2 (SqL.of upd_same) (fun j x o H3 hx ho s3 Q' q1 q2 => ?_) (fun H3 acc2 s3 hacc2 pacc2 => ?_)
    · obtain ⟨i, hi, t, rfl, ht⟩ := paired_at pys' hx
      have ho' : some i = o := by
        rw [List.getElem?_map, hi] at ho
        exact Option.some.inj ho
      subst ho'
      refine ⟨t, _, rfl, SqT.of (s3 _ _ ht), rfl, ?_⟩
      refine ⟨_, _, rfl, _, _, rfl, rfl, ?_⟩
      refine ⟨rfl, yesT ?_⟩
      exact ⟨_, rfl, q2 _ i _ (Same.refl _) rfl rfl⟩
    · rw [map_some_id] at pacc2
      rw [paired_N pacc2] at hacc2
      exact k D2 _ H3 (s1.trans (sp.trans s3)) hacc2 hord
theorem ok_best_lot {f : Addr} {fd : FuncData} (B : Bt mg) (T : Cp K C) (F : FnP K "best_lot" s_best_lot f fd) (h_by_worth : Has P w K mg base 1 "by_worth" ["worths"] (spByWorth K)) (h_find_walk : HasW P w K mg base 4 (spFindWalk K C)) (h_take_walk : Has P w K mg base 1 "take_walk" ["dealing", "walk"] (spTakeWalk K)) :
    FnOk P w K mg base CX0 5 f fd ["pool", "worths"] (spBestLot K C) := by
  obtain ⟨fW, fdW, gg, GW, gW, kW, bW⟩ := h_find_walk
  refine F.ok sc_best_lot (fun vs H Q E h => ?_) (fun cdv A outer s H vs Q E hr h => ?_)
  · obtain ⟨v, a, caps, hs, ws, rfl, _⟩ := h; rfl
  · obtain ⟨v, a, caps, hs, ws, rfl, hp, ha, hwl, k⟩ := h
    have hrW : Room 4 _ := hr
    refine ⟨_, PSs.nox (pss_cons
      (ps_set (i := 2) sc_best_lot.nd rfl (Or.inl rfl) (pe_op op_rep (pe_lst (pa_cons pe_non pa_nil)) (fldK K (pv 0) rfl)))
    (pss_cons
      (ps_for PassesOwn.never rfl (pi_listK K (pe_fn h_by_worth (hr.mono (by decide)) rfl (pa_cons (pv 1) pa_nil))) (pg_name (i := 3) sc_best_lot.nd rfl (Or.inl rfl))
      (pss_cons
        (ps_set (i := 4) sc_best_lot.nd rfl (Or.inl rfl) (pe_callN GW hrW rfl gW kW bW pass0 (pa_cons (pv 0) (pa_cons (pv 2) pa_nil)) (pk_cons (pe_lst (pa_cons (pv 3) pa_nil)) pk_nil)))
      (pss_one
        (ps_if (pt_cmpR op_notN (pv 4) pe_non (nomark _))
        (pss_one
          (ps_set (i := 2) sc_best_lot.nd rfl (Or.inl rfl) (pe_fn h_take_walk (hr.mono (by decide)) rfl (pa_cons (pv 2) (pa_cons (pv 4) pa_nil)))))
        pss_nil))))
    (pss_one
      (ps_ret (pe_lc (own := [("piece", 3), ("pair", 5)]) rfl sc_best_lot.nd (enumK K (by rfl) B.enumerate (pa_cons (pv 2) pa_nil)) (blkOk_by (own := [("piece", 3), ("pair", 5)]) (N := N_best_lot) (sc := defScope s_best_lot) (by decide +kernel)) (fun _ _ _ _ _ => (gtupK K 2 rfl (pgs_cons (pg_name (i := 3) sc_best_lot.nd rfl (Or.inl rfl)) (pgs_cons (pg_name (i := 5) sc_best_lot.nd rfl (Or.inl rfl)) pgs_nil)))) (fun _ _ _ _ _ => pts_one (pt_cmpR op_notN (pv 5) pe_non (nomark _))) (fun _ _ _ _ _ => (pv 3))))))), ?_⟩
    have hfew := hp.ok.few
    obtain ⟨pa, dx, ct, ht, rows, rfl, h1, h2, h3, h4, ok⟩ := id hp
    refine ⟨by show 1 ≤ sizeLine; decide, fun l0 hl0 => ?_⟩
    have s0 : Same H (upd H l0 (.lst [.non])) := same_new hl0
    refine ⟨_, rfl, pa, C, dx, _, _, rfl, s0 _ _ h1, T.cl, T.np, poolF_pieces _ _ _ _, ?_⟩
    refine ⟨l0, _, _, rfl, rfl, upd_same, by omega, by omega, by show 1 * hs.length ≤ sizeLine; exact Nat.le_of_lt (sz_le (by omega)), fun dl hdl => ?_⟩
    have erep : (List.replicate ((hs.length : Nat) : Int).toNat [V.non]).flatten = List.replicate hs.length V.non := by
      rw [Int.toNat_natCast]
      generalize hs.length = n
      induction n with
      | zero => rfl
      | succ n ih => rw [List.replicate_succ, List.flatten_cons, ih, List.replicate_succ]; rfl
    rw [erep]
    have sd : Same H (upd (upd H l0 (.lst [.non])) dl (.lst (List.replicate hs.length V.non))) := s0.trans (same_new hdl)
    refine ⟨_, rfl, a, ws, rfl, sd.seq ha, by omega, fun po ord H1 s1 hpo hord => ?_⟩
    rw [hwl] at hord
    have hnd := hord.nodup
    refine ⟨po, rfl, ⟨_, SqL.of hpo⟩, for_list (K := K) (a := po) (xs := ord.map vn) (fun i σ H' => ∃ (d : Addr) (us : List V) (ds : Deal) (v3 v4 : Option V), σ = [some (.ref pa), some (.ref a), some (.ref d), v3, v4, none] ∧ Same H1 H' ∧ H' d = some (.lst us) ∧ Paired (IsO H') us ds ∧ BlI caps hs ord i ds)
      ⟨dl, _, List.replicate hs.length none, none, none, rfl, Same.refl _, s1 _ _ upd_same, ?_, valid_none, fun x hx => ?_, fun j p hj => (by omega)⟩ (fun i σ H' _ ⟨_, _, _, _, _, _, s', _⟩ => SqL.of (s' _ _ hpo)) ?_ ?_⟩
    · generalize hs.length = n
      induction n with
      | zero => exact .nil
      | succ n ih => rw [List.replicate_succ, List.replicate_succ]; exact .cons rfl ih
    · exfalso
      unfold dealt ent at hx
      rw [List.getElem?_replicate] at hx
      split at hx <;> cases hx
    · rintro i x σ H' hx ⟨d, us, ds, v3, v4, rfl, s', hd, pu, I⟩
      obtain ⟨p, hop, rfl⟩ := vmap_at hx
      have hpl : p < hs.length := hord.mem.mp (List.mem_of_getElem? hop)
      have sA := sd.trans (s1.trans s')
      refine ⟨_, rfl, _, rfl, _, rfl, by show 1 ≤ sizeLine; decide, fun lp hlp => ?_⟩
      refine ⟨rfl, rfl, ?_⟩
      have slp : Same H' (upd H' lp (.lst [vn p])) := same_new hlp
      have hnone : ds[p]? = some none := by
        have hlt : p < ds.length := by rw [I.valid.len]; exact hpl
        have hnd' : dealt ds p = false := by
          cases z : dealt ds p with
          | false => rfl
          | true => exact absurd (I.sub p z) (not_in_take hnd hop)
        rw [List.getElem?_eq_getElem hlt]
        unfold dealt ent at hnd'
        rw [List.getElem?_eq_getElem hlt] at hnd'
        cases q : ds[p] with
        | none => rfl
        | some z => rw [q] at hnd'; cases hnd'
      refine ⟨.ref pa, d, lp, us, caps, hs, ds, p, rfl, hp.same (sA.trans slp), SqL.of (slp _ _ hd), tups_O.all (tk_of slp) pu, I.valid.len, SqL.of upd_same, hnone, fun es H2 s2 fo st => ?_, fun pw wv q W H2 s2 hpw pws hw => ?_⟩
      · refine ⟨_, rfl, rfl, _, rfl, ?_⟩
        refine ite2 (fun hc => absurd hc (by decide)) (fun _ => ?_)
        exact ⟨d, us, ds, _, _, rfl, s'.trans (slp.trans s2), s2 _ _ (slp _ _ hd), tups_O.all (tk_of (slp.trans s2)) pu, I.no hnd hop (stuck_not ok I.valid hnone fo st)⟩
      · refine ⟨_, rfl, rfl, _, rfl, ?_⟩
        refine ite2 (fun _ => ?_) (fun hc => absurd (by simp) hc)
        have sB := slp.trans s2
        have hb : ∀ s ∈ ((p, q) :: W), s.1 < ds.length := fun s hs' => by
          rw [I.valid.len]; exact (walk_nodup hw).2 _ (List.mem_map.mpr ⟨s, hs', rfl⟩)
        refine ⟨_, rfl, _, rfl, d, pw, us, wv, ds, (p, q) :: W, rfl, SqL.of (sB _ _ hd), tups_O.all (tk_of sB) pu, SqL.of hpw, pws, hb, fun d' us' H3 s3 hd' pu' => ?_⟩
        obtain ⟨v1, v2⟩ := walk_valid I.valid hw
        exact ⟨d', us', _, _, _, rfl, s'.trans (sB.trans s3), hd', pu', I.yes ok hnd hop v1 v2⟩
    · rintro σ H' ⟨d, us, ds, v3, v4, rfl, s', hd, pu, I⟩
      rw [List.length_map] at I
      have sA := sd.trans (s1.trans s')
      have hul : us.length = hs.length := by rw [pu.length]; exact I.valid.len
      refine ⟨_, rfl, d, us, rfl, SqL.of hd, fun D hD => ?_⟩
      refine comp_enum IsN ((List.range us.length).map fun i => if dealt ds i then some i else none) (by simp) (by simp; exact sz_le (by omega)) tups_N.same tups_N.updL hD (SqL.of hd) (fun i x o H2 T hx ho s2 hT Q' q1 q2 => ?_) (fun H2 acc s2 hacc pacc => ?_)
      · obtain ⟨ob, hob, rx⟩ := paired_at pu hx
        have hil : i < us.length := (List.getElem?_eq_some_iff.mp hx).1
        have ho' : (if dealt ds i then some i else none) = o := by
          rw [List.getElem?_map, List.getElem?_range hil] at ho
          exact Option.some.inj ho
        refine ⟨T, _, rfl, SqT.of hT, rfl, ?_⟩
        refine ⟨_, _, rfl, _, _, rfl, rfl, ?_⟩
        refine ⟨rfl, ?_⟩
        refine ⟨_, rfl, rfl, _, rfl, ?_⟩
        have hdi : dealt ds i = ob.isSome := by unfold dealt ent; rw [hob]; rfl
        cases ob with
        | none =>
          have e : x = .non := rx
          subst e
          refine ite2 (fun hc => absurd hc (by decide)) (fun _ => ?_)
          exact q1 H2 (Same.refl _) (by rw [← ho', hdi]; rfl)
        | some pp =>
          obtain ⟨t, rfl, _⟩ := (show IsP H' x pp from rx)
          refine ite2 (fun _ => ?_) (fun hc => absurd (by simp) hc)
          exact ⟨_, rfl, q2 _ i H2 (Same.refl _) (by rw [← ho', hdi]; rfl) rfl⟩
      · rw [filterMap_if, hul] at pacc
        rw [paired_N pacc] at hacc
        exact k D ord (dealt ds) H2 (sA.free hD) (sA.trans s2) hord I.done hacc
end
end BL
set_option Elab.async false
set_option linter.all false
set_option maxRecDepth 100000
set_option maxHeartbeats 4000000
namespace BL
open PySem L2
/-! the law's small helpers -/
theorem zadd (i : Nat) : (0 : Int) + (i : Int) = (i : Int) := Int.zero_add _
theorem for_range0 {n : Nat} {g : TG} {tb : TS} {D : Ends} {σ : St} {H : Hp} (Pv : Nat → St → Hp → Prop) (h0 : Pv 0 σ H)
    (hs : ∀ (i : Nat) (σ : St) (H : Hp), i < n → Pv i σ H → g (vn i) σ H fun σ2 H2 => tb { D with nx := Pv (i + 1), ct := Pv (i + 1), bk := D.nx } σ2 H2) (hd : ∀ σ H, Pv n σ H → D.nx σ H) :
    ∃ W : Nat → Nat → St → Hp → Prop, (∃ m, W 0 m σ H) ∧ ∀ i m σ H, W i m σ H →
      ((Itr 0 n).stop i H ∧ D.nx σ H) ∨ ((Itr 0 n).go i H ∧ ∃ N : St → Hp → Prop, (∀ σ' H', N σ' H' → ∃ m', m' < m ∧ W (i + 1) m' σ' H') ∧ ∀ x H', (Itr 0 n).yld i H x H' → g x σ H' fun σ2 H2 => tb { D with nx := N, ct := N, bk := D.nx } σ2 H2) :=
  for_range (lo := 0) (n := n) Pv h0 (fun i σ H hi p => by rw [zadd]; exact hs i σ H hi p) hd
theorem comp_range0 {β : Type} {g : TG} {tt : TT} {te : TE} {ws : List Nat} {σ : St} {H1 : Hp} {D : Addr} {Qd : Hp → Prop} {n : Nat} (R : Hp → V → β → Prop) (os : List (Option β)) (hlen : os.length = n) (hsz : os.length < sizeLine)
    (hS : ∀ (H H' : Hp), Same H H' → ∀ v b, R H v b → R H' v b) (hU : ∀ (H : Hp) (acc acc' : List V), H D = some (.lst acc) → ∀ v b, R H v b → R (upd H D (.lst acc')) v b)
    (hD : H1 D = none)
    (turn : ∀ (i : Nat) (o : Option β) (H : Hp), i < n → os[i]? = some o → Same H1 H → ∀ Q : QT, (∀ H', Same H H' → o = none → Q none H') → (∀ (y : V) (b : β) (H' : Hp), Same H H' → o = some b → R H' y b → Q (some y) H') → turnOf g tt te ws σ (vn i) H Q)
    (done : ∀ (H : Hp) (acc : List V), Same H1 H → H D = some (.lst acc) → Paired (R H) acc (os.filterMap id) → Qd H) :
    ∃ W : Nat → Nat → Hp → Prop, (∃ m, W 0 m (upd H1 D (.lst []))) ∧ ∀ i m H, W i m H →
      ((Itr 0 n).stop i H ∧ Qd H) ∨ ((Itr 0 n).go i H ∧ ∃ Nx : Hp → Prop, (∀ H', Nx H' → ∃ m', m' < m ∧ W (i + 1) m' H') ∧ ∀ x H', (Itr 0 n).yld i H x H' → g x (wipe σ ws) H' fun σ2 H2 => wipe σ2 ws = wipe σ ws ∧ tt σ2 H2 fun b H3 =>
        if b = true then te σ2 H3 fun y H4 => ∃ acc, H4 D = some (.lst acc) ∧ acc.length < sizeLine ∧ Nx (upd H4 D (.lst (acc ++ [y]))) else Nx H3) :=
  comp_range (lo := 0) (n := n) R os hlen hsz hS hU hD (fun i o H hi ho s Q q1 q2 => by rw [zadd]; exact turn i o H hi ho s Q q1 q2) done
theorem range_ok {n : Nat} (h : n ≤ 100000) : -(2 ^ 62) ≤ ((n : Nat) : Int) ∧ ((n : Nat) : Int) < 2 ^ 62 := by omega
theorem map_range_at {α : Type} {f : Nat → α} {n i : Nat} {o : α} (hi : i < n) (h : ((List.range n).map f)[i]? = some o) : f i = o := by
  rw [List.getElem?_map, List.getElem?_range hi] at h
  exact Option.some.inj h
/-- the i-th value of a comprehension over a list of numbers -/
theorem map_at {α : Type} {f : Nat → α} {ns : List Nat} {i n : Nat} {o : α} (hn : ns[i]? = some n) (h : (ns.map f)[i]? = some o) : f n = o := by
  rw [List.getElem?_map, hn] at h
  exact Option.some.inj h
def spCell (K : PySem.W.Frag) : Sp := fun vs H Q _ => ∃ (a : Addr) (ns : List Int) (k : Nat), vs = [.ref a, vn k] ∧ SqL K H a (ns.map V.int) ∧ ∀ z : Int, Q (.int z) H
def spDraws (K : PySem.W.Frag) : Sp := fun vs H Q _ => ∃ (z : Int) (b : Addr) (sz : List Nat), vs = [.int z, .ref b] ∧ SqL K H b (sz.map vn) ∧ sz.length ≤ 100 ∧ (∀ s ∈ sz, 0 < s ∧ s ≤ 1000) ∧
  ∀ (p : Addr) (ds : List Nat) (H' : Hp), H p = none → Same H H' → H' p = some (.lst (ds.map vn)) → ds.length = sz.length → (∀ (i d s : Nat), ds[i]? = some d → sz[i]? = some s → d < s) → Q (.ref p) H'
def bitsA (mask count : Nat) : List Nat := (List.range count).filter fun k => decide (mask / 2 ^ k % 2 = 1)
def spBits : Sp := fun vs H Q _ => ∃ (m c : Nat), vs = [vn m, vn c] ∧ c ≤ 7 ∧ ∀ (p : Addr) (H' : Hp), H p = none → Same H H' → H' p = some (.lst ((bitsA m c).map vn)) → Q (.ref p) H'
def lawRow (a j : Nat) : List (Nat × Nat) := (List.range j).map fun b => (a, a + 1 + b)
def lawTo (m i : Nat) : List (Nat × Nat) := (List.range i).flatMap fun a => lawRow a (m - (a + 1))
theorem filter_gt (a : Nat) : ∀ m, (List.range m).filter (fun b => decide (a < b)) = (List.range (m - (a + 1))).map fun b => a + 1 + b
  | 0 => by simp
  | m + 1 => by
    rw [List.range_succ, List.filter_append, filter_gt a m]
    by_cases h : a < m
    · have e : m + 1 - (a + 1) = (m - (a + 1)) + 1 := by omega
      rw [e, List.range_succ, List.map_append]
      have e2 : a + 1 + (m - (a + 1)) = m := by omega
      simp [h, e2]
    · have e : m + 1 - (a + 1) = m - (a + 1) := by omega
      rw [e]
      simp [h]
theorem lawTo_pairs (m : Nat) : lawTo m m = pairsN m := by
  unfold lawTo pairsN pairsA lawRow
  congr 1
  funext a
  rw [filter_gt, List.map_map]; rfl
def spPairs : Sp := fun vs H Q _ => ∃ (m : Nat), vs = [vn m] ∧ m ≤ 100 ∧ ∀ (p : Addr) (ws : List V) (H' : Hp), H p = none → Same H H' → H' p = some (.lst ws) → Paired (IsP H') ws (pairsN m) → Q (.ref p) H'
def spIsInt : Sp := fun vs H Q _ => ∃ (n : Nat), vs = [vn n] ∧ Q (.bl true) H
theorem pow7 : ∀ i, i < 7 → ([V.int 1, V.int 2, V.int 4, V.int 8, V.int 16, V.int 32, V.int 64] : List V)[i]? = some (vn (2 ^ i)) := by decide
section
variable {P : Program} {w : World} {K : PySem.W.Frag} {mg : Str → Option Value} {base : Heap} {C : Addr}
theorem ok_l_cell {f : Addr} {fd : FuncData} (B : Bt mg) (F : FnP K "_law_cell" s_l_cell f fd) : FnOk P w K mg base CX0 1 f fd ["_law_script", "_law_k"] (spCell K) := by
  refine F.ok sc_l_cell (fun vs H Q E h => ?_) (fun cdv A outer s H vs Q E hr h => ?_)
  · obtain ⟨a, ns, k, rfl, _⟩ := h; rfl
  · obtain ⟨a, ns, kk, rfl, ha, k⟩ := h
    refine ⟨_, PSs.nox (pss_cons
      (ps_if (pt_cmpR op_lt (pv 1) (pe_callB (lenK K) (by rfl) B.len PySem.boot_len (pa_cons (pv 0) pa_nil)) (nomark _))
      (pss_one
        (ps_ret (pe_ix (ix_listK K) (pv 0) (pv 1) (fun _ _ => rfl))))
      pss_nil)
    (pss_one
      (ps_ret pe_int))), ?_⟩
    refine ⟨_, rfl, _, rfl, a, _, rfl, .inl ha, _, _, rfl, rfl, _, rfl, ?_⟩
    rw [List.length_map]
    refine ite2 (fun hc => ?_) (fun hc => ?_)
    · have hc' : kk < ns.length := by simpa using hc
      exact ⟨_, rfl, _, rfl, a, _, _, _, rfl, rfl, ha, atN (j := kk) (by rw [List.getElem?_map, List.getElem?_eq_getElem hc']; rfl), k _⟩
    · exact k 0
theorem ok_l_draws {f : Addr} {fd : FuncData} (B : Bt mg) (F : FnP K "_law_draws" s_l_draws f fd) : FnOk P w K mg base CX0 1 f fd ["_law_cell_here", "_law_sizes"] (spDraws K) := by
  refine F.ok sc_l_draws (fun vs H Q E h => ?_) (fun cdv A outer s H vs Q E hr h => ?_)
  · obtain ⟨z, b, sz, rfl, _⟩ := h; rfl
  · obtain ⟨z, b, sz, rfl, hb, hl, hs, k⟩ := h
    refine ⟨_, PSs.nox (pss_cons
      (ps_set (i := 2) sc_l_draws.nd rfl (Or.inl rfl) (pe_callB call_abs (by rfl) B.abs (by decide +kernel) (pa_cons (pe_callTy call_int1 (by rfl) B.int (by decide +kernel) (pa_cons (pv 0) pa_nil)) pa_nil)))
    (pss_cons
      (ps_set (i := 3) sc_l_draws.nd rfl (Or.inl rfl) (pe_cmpR op_ge (pv 2) (pe_op op_pow pe_int pe_int) (nomark _)))
    (pss_cons
      (ps_set (i := 4) sc_l_draws.nd rfl (Or.inl rfl) (pe_lst pa_nil))
    (pss_cons
      (ps_for PassesOwn.never rfl (pi_range1 rfl B.range (pa_cons (pe_callB (lenK K) (by rfl) B.len PySem.boot_len (pa_cons (pv 1) pa_nil)) pa_nil)) (pg_name (i := 5) sc_l_draws.nd rfl (Or.inl rfl))
      (pss_cons
        (ps_set (i := 6) sc_l_draws.nd rfl (Or.inl rfl) (pe_ix (ix_listK K) (pv 1) (pv 5) (fun _ _ => rfl)))
      (pss_one
        (ps_if (PW.pt (pw_and (pt_val (pv 3)) (pw_and1 (pt_cmpR op_gt (pv 2) pe_int (nomark _)))))
        (pss_cons
          (ps_expr (appK K (pv 4) (pe_op op_mod (pe_callTy call_int1 (by rfl) B.int (by decide +kernel) (pa_cons (pv 2) pa_nil)) (pv 6))))
        (pss_one
          (ps_set (i := 2) sc_l_draws.nd rfl (Or.inl rfl) (pe_op op_fdiv (pv 2) (pv 6)))))
        (pss_cons
          (ps_set (i := 7) sc_l_draws.nd rfl (Or.inl rfl) (pe_op op_mod (pe_callTy call_int1 (by rfl) B.int (by decide +kernel) (pa_cons (pe_op op_add (pe_op op_add (pe_callB call_abs (by rfl) B.abs (by decide +kernel) (pa_cons (pe_callTy call_int1 (by rfl) B.int (by decide +kernel) (pa_cons (pv 0) pa_nil)) pa_nil)) (pe_op op_mul pe_int (pv 5))) pe_int) pa_nil)) pe_int))
        (pss_cons
          (ps_set (i := 7) sc_l_draws.nd rfl (Or.inl rfl) (pe_op op_mod (pe_callTy call_int1 (by rfl) B.int (by decide +kernel) (pa_cons (pe_op op_mul (pv 7) (pe_op op_add (pv 7) pe_int)) pa_nil)) pe_int))
        (pss_cons
          (ps_set (i := 7) sc_l_draws.nd rfl (Or.inl rfl) (pe_op op_mod (pe_callTy call_int1 (by rfl) B.int (by decide +kernel) (pa_cons (pe_op op_add (pe_op op_mul (pv 7) (pe_op op_add (pv 7) pe_int)) (pe_op op_mul pe_int (pv 5))) pa_nil)) pe_int))
        (pss_one
          (ps_expr (appK K (pv 4) (pe_op op_mod (pe_callTy call_int1 (by rfl) B.int (by decide +kernel) (pa_cons (pe_op op_fdiv (pv 7) pe_int) pa_nil)) (pv 6))))))))))))
    (pss_one
      (ps_ret (pv 4))))))), ?_⟩
    refine ⟨_, rfl, .inl ⟨z, rfl, z, rfl, ?_⟩⟩
    refine ⟨_, rfl, _, _, rfl, rfl, (by constructor <;> decide), _, _, rfl, rfl, ?_⟩
    refine ⟨Nat.zero_le _, fun D hD => ?_⟩
    refine ⟨_, rfl, b, _, rfl, .inl ((same_new hD).seq hb), _, rfl, by rw [List.length_map]; exact (range_ok (by omega)).1, by rw [List.length_map]; exact (range_ok (by omega)).2, ?_⟩
    rw [List.length_map, Int.toNat_natCast]
    refine for_range0 (fun i σ H' => ∃ (left : Int) (dg : Bool) (ds : List Nat) (v5 v6 v7 : Option V), σ = [some (.int z), some (.ref b), some (.int left), some (.bl dg), some (.ref D), v5, v6, v7] ∧ Same H H' ∧ H' D = some (.lst (ds.map vn)) ∧ ds.length = i ∧ ∀ (j d s : Nat), ds[j]? = some d → sz[j]? = some s → d < s)
      ⟨_, _, [], none, none, none, rfl, same_new hD, upd_same, rfl, fun j d s h => by simp at h⟩ ?_ ?_
    · rintro i σ H' hi ⟨left, dg, ds, v5, v6, v7, rfl, s', hd, hdl, hds⟩
      obtain ⟨sv, hsv⟩ : ∃ sv, sz[i]? = some sv := ⟨sz[i], List.getElem?_eq_getElem hi⟩
      obtain ⟨hs0, hs1⟩ := hs sv (List.mem_of_getElem? hsv)
      have hz : ds.length < sizeLine := sz_le (by omega)
      have step : ∀ (x : Int) (left' : Int) (v7' : Option V), ∃ (left1 : Int) (dg1 : Bool) (ds' : List Nat) (v5 v6 v7 : Option V), [some (.int z), some (.ref b), some (.int left'), some (.bl dg), some (.ref D), some (vn i), some (vn sv), v7'] = [some (.int z), some (.ref b), some (.int left1), some (.bl dg1), some (.ref D), v5, v6, v7] ∧ Same H (upd H' D (.lst (ds.map vn ++ [.int (x % (sv : Int))]))) ∧ (upd H' D (.lst (ds.map vn ++ [.int (x % (sv : Int))]))) D = some (.lst (ds'.map vn)) ∧ ds'.length = i + 1 ∧ ∀ (j d s : Nat), ds'[j]? = some d → sz[j]? = some s → d < s := fun x left' v7' => by
        have hx0 : 0 ≤ x % (sv : Int) := Int.emod_nonneg _ (by omega)
        have hx1 : x % (sv : Int) < sv := Int.emod_lt_of_pos _ (by omega)
        refine ⟨left', _, ds ++ [(x % (sv : Int)).toNat], _, _, _, rfl, same_put s' hD, ?_, by rw [List.length_append, hdl]; rfl, fun j d s h1 h2 => ?_⟩
        · rw [upd_same, List.map_append]
          have : vn (x % (sv : Int)).toNat = V.int (x % (sv : Int)) := by show V.int _ = _; rw [Int.toNat_of_nonneg hx0]
          simp only [List.map_cons, List.map_nil, this]
        · by_cases hj : j < ds.length
          · rw [List.getElem?_append_left hj] at h1
            exact hds j d s h1 h2
          · have e : j = ds.length := by
              have := (List.getElem?_eq_some_iff.mp h1).1
              rw [List.length_append, List.length_singleton] at this
              omega
            subst e
            rw [List.getElem?_append_right (Nat.le_refl _), Nat.sub_self] at h1
            rw [hdl] at h2
            rw [hsv] at h2
            cases h1; cases h2
            omega
      refine ⟨_, rfl, _, rfl, b, _, _, _, rfl, rfl, s'.seq hb, at_map hsv, ?_⟩
      refine ⟨_, rfl, dg, rfl, ?_⟩
      have hsv1 : (0 : Int) < (sv : Int) := by omega
      have hsv2 : (sv : Int) < 1073741824 := by omega
      have em : (dg = true ∧ 0 < left) ∨ ¬ (dg = true ∧ 0 < left) := Classical.em _
      rcases em with ⟨rfl, hpos⟩ | hno
      · refine iteT ?_
        refine ⟨_, rfl, _, _, rfl, rfl, _, rfl, ?_⟩
        refine ite2 (fun _ => ?_) (fun hc => absurd (by simpa using hpos) hc)
        refine ⟨_, rfl, .inl ⟨rfl, _, SqL.of hd⟩, _, rfl, .inl ⟨_, rfl, _, rfl, _, _, rfl, rfl, hsv1, D, _, _, rfl, rfl, hd, by rw [List.length_map]; exact hz, ?_⟩⟩
        refine ⟨_, rfl, _, rfl, _, _, rfl, rfl, ⟨hsv1, hsv2⟩, ?_⟩
        exact step left (left / (sv : Int)) v7
      · cases dg
        case' false =>
          refine iteF ?_
          refine ite2 (fun hc => (by cases hc)) (fun _ => ?_)
        case' true =>
          refine iteT ?_
          refine ⟨_, rfl, _, _, rfl, rfl, _, rfl, ?_⟩
          refine ite2 (fun hc => absurd ⟨rfl, by simpa using hc⟩ hno) (fun _ => ?_)
        all_goals
          refine ⟨_, rfl, .inl ⟨z, rfl, z, rfl, _, rfl, _, _, rfl, rfl, .inl ⟨by decide, by decide⟩, _, _, rfl, rfl, _, _, rfl, rfl, .inl ⟨_, rfl, _, _, rfl, rfl, (by show (0 : Int) < 2147483647; decide), ?_⟩⟩⟩
          generalize hm1 : ((if z < 0 then -z else z) + 7919 * ((i : Nat) : Int) + 13) % 2147483647 = m1
          have h1a : 0 ≤ m1 := by rw [← hm1]; exact Int.emod_nonneg _ (by decide)
          have h1b : m1 < 2147483647 := by rw [← hm1]; exact Int.emod_lt_of_pos _ (by decide)
          refine ⟨_, rfl, _, rfl, _, _, rfl, rfl, _, _, rfl, rfl, .inl ⟨by omega, by omega⟩, .inl ⟨_, rfl, _, _, rfl, rfl, (by show (0 : Int) < 2147483629; decide), ?_⟩⟩
          generalize hm2 : (m1 * (m1 + 48271)) % 2147483629 = m2
          have h2a : 0 ≤ m2 := by rw [← hm2]; exact Int.emod_nonneg _ (by decide)
          have h2b : m2 < 2147483629 := by rw [← hm2]; exact Int.emod_lt_of_pos _ (by decide)
          refine ⟨_, rfl, _, rfl, _, _, rfl, rfl, _, _, rfl, rfl, .inl ⟨by omega, by omega⟩, _, rfl, _, _, rfl, rfl, .inl ⟨by decide, by decide⟩, _, _, rfl, rfl, .inl ⟨_, rfl, _, _, rfl, rfl, (by show (0 : Int) < 2147483647; decide), ?_⟩⟩
          refine ⟨_, rfl, .inl ⟨rfl, _, SqL.of hd⟩, _, rfl, _, _, rfl, rfl, ⟨by decide, by decide⟩, .inl ⟨_, rfl, _, rfl, _, _, rfl, rfl, hsv1, D, _, _, rfl, rfl, hd, by rw [List.length_map]; exact hz, ?_⟩⟩
          exact step _ left (some (.int _))
    · rintro σ H' ⟨left, dg, ds, v5, v6, v7, rfl, s', hd, hdl, hds⟩
      exact ⟨_, rfl, k D ds H' hD s' hd hdl hds⟩
theorem ok_l_bits {f : Addr} {fd : FuncData} (B : Bt mg) (F : FnP K "_law_bits" s_l_bits f fd) : FnOk P w K mg base CX0 1 f fd ["_law_mask", "_law_count"] spBits := by
  refine F.ok sc_l_bits (fun vs H Q E h => ?_) (fun cdv A outer s H vs Q E hr h => ?_)
  · obtain ⟨m, c, rfl, _⟩ := h; rfl
  · obtain ⟨m, c, rfl, hc, k⟩ := h
    refine ⟨_, PSs.nox (pss_one
      (ps_ret (pe_lc (own := [("_law_k", 2)]) rfl sc_l_bits.nd (pi_range1 rfl B.range (pa_cons (pv 1) pa_nil)) (blkOk_by (own := [("_law_k", 2)]) (N := N_l_bits) (sc := defScope s_l_bits) (by decide +kernel)) (fun _ _ _ _ _ => (pg_name (i := 2) sc_l_bits.nd rfl (Or.inl rfl))) (fun _ _ _ _ _ => pts_one (pt_cmpR op_eq (pe_op op_mod (pe_callTy call_int1 (by rfl) B.int (by decide +kernel) (pa_cons (pe_op op_fdiv (pv 0) (pe_ix (ix_tupK K) (pe_tup (pa_cons pe_int (pa_cons pe_int (pa_cons pe_int (pa_cons pe_int (pa_cons pe_int (pa_cons pe_int (pa_cons pe_int pa_nil)))))))) (pv 2) (fun _ _ => rfl))) pa_nil)) pe_int) pe_int (nomark _))) (fun _ _ _ _ _ => (pv 2))))), ?_⟩
    refine ⟨_, rfl, _, rfl, (range_ok (by omega)).1, (range_ok (by omega)).2, fun D hD => ?_⟩
    refine comp_range0 (n := c) IsN ((List.range c).map fun i => if decide (m / 2 ^ i % 2 = 1) then some i else none) (by simp) (by simp; exact sz_le (by omega)) tups_N.same tups_N.updL hD (fun i o H2 hi ho s2 Q' q1 q2 => ?_) (fun H2 acc s2 hacc pacc => ?_)
    · have ho' := map_range_at hi ho
      refine ⟨rfl, ?_⟩
      refine ⟨_, rfl, by show 7 ≤ sizeLine; decide, fun t ht => ?_⟩
      have st : Same H2 (upd H2 t (.tup [.int 1, .int 2, .int 4, .int 8, .int 16, .int 32, .int 64])) := same_new ht
      refine ⟨_, rfl, t, _, _, _, rfl, rfl, SqT.of upd_same, atN (pow7 i (by omega)), ?_⟩
      have hp1 : (0 : Int) < ((2 ^ i : Nat) : Int) := by have := Nat.pow_pos (n := i) (show 0 < 2 by decide); omega
      have hp2 : ((2 ^ i : Nat) : Int) < 1073741824 := by
        have : (2 : Nat) ^ i ≤ 2 ^ 7 := Nat.pow_le_pow_right (by decide) (by omega)
        omega
      refine ⟨_, _, rfl, rfl, ⟨hp1, hp2⟩, .inl ⟨_, rfl, ?_⟩⟩
      refine ⟨_, _, rfl, rfl, (by show (0 : Int) < 2; decide), rfl, _, rfl, ?_⟩
      have e : decide (V.int (((m : Nat) : Int) / ((2 ^ i : Nat) : Int) % 2) = V.int 1) = decide (m / 2 ^ i % 2 = 1) := by
        refine decide_eq_decide.mpr ?_
        have : ((m : Nat) : Int) / ((2 ^ i : Nat) : Int) % 2 = ((m / 2 ^ i % 2 : Nat) : Int) := by
          rw [Int.natCast_emod, Int.natCast_ediv]; rfl
        rw [this]
        constructor
        · intro h; injection h with h; omega
        · intro h; rw [h]; rfl
      rw [e]
      by_cases hm : m / 2 ^ i % 2 = 1
      · rw [decide_eq_true hm]
        refine iteT ?_
        exact ⟨_, rfl, q2 _ i _ st (by rw [← ho', decide_eq_true hm]; rfl) rfl⟩
      · rw [decide_eq_false hm]
        refine iteF ?_
        exact q1 _ st (by rw [← ho', decide_eq_false hm]; rfl)
    · rw [filterMap_if] at pacc
      rw [paired_N pacc] at hacc
      exact k D H2 hD s2 hacc
theorem ok_l_pairs {f : Addr} {fd : FuncData} (B : Bt mg) (F : FnP K "_law_pairs" s_l_pairs f fd) : FnOk P w K mg base CX0 1 f fd ["_law_seats"] spPairs := by
  refine F.ok sc_l_pairs (fun vs H Q E h => ?_) (fun cdv A outer s H vs Q E hr h => ?_)
  · obtain ⟨m, rfl, _⟩ := h; rfl
  · obtain ⟨m, rfl, hm, k⟩ := h
    refine ⟨_, PSs.nox (pss_cons
      (ps_set (i := 1) sc_l_pairs.nd rfl (Or.inl rfl) (pe_lst pa_nil))
    (pss_cons
      (ps_for PassesOwn.never rfl (pi_range1 rfl B.range (pa_cons (pv 0) pa_nil)) (pg_name (i := 2) sc_l_pairs.nd rfl (Or.inl rfl))
      (pss_one
        (ps_for PassesOwn.never rfl (pi_range2 rfl B.range (pa_cons (pe_op op_add (pv 2) pe_int) (pa_cons (pv 0) pa_nil))) (pg_name (i := 3) sc_l_pairs.nd rfl (Or.inl rfl))
        (pss_one
          (ps_expr (appK K (pv 1) (pe_tup (pa_cons (pv 2) (pa_cons (pv 3) pa_nil)))))))))
    (pss_one
      (ps_ret (pv 1))))), ?_⟩
    refine ⟨Nat.zero_le _, fun D hD => ?_⟩
    have hrowl : ∀ i j, i < m → j ≤ m → (lawTo m i ++ lawRow i j).length < sizeLine := fun i j hi hj => by
      have h1 : (lawTo m i).length ≤ (List.range i).length * m := flat_len _ _ _ fun a _ => by unfold lawRow; rw [List.length_map, List.length_range]; omega
      rw [List.length_range] at h1
      have h2 : i * m ≤ 100 * 100 := Nat.mul_le_mul (by omega) hm
      have h3 : (lawRow i j).length = j := by unfold lawRow; rw [List.length_map, List.length_range]
      rw [List.length_append, h3]
      exact sz_le (by omega)
    refine ⟨_, rfl, _, rfl, (range_ok (by omega)).1, (range_ok (by omega)).2, ?_⟩
    rw [Int.toNat_natCast]
    refine for_range0 (fun i σ H' => ∃ v2 v3, σ = [some (vn m), some (.ref D), v2, v3] ∧ paI H D (lawTo m i) H') ⟨none, none, rfl, same_new hD, [], upd_same, .nil⟩ ?_ ?_
    · rintro i σ H' hi ⟨v2, v3, rfl, I⟩
      refine ⟨_, rfl, _, _, rfl, rfl, _, rfl, _, _, rfl, ⟨by omega, by omega, by omega, by omega⟩, ?_⟩
      have en : (((m : Nat) : Int) - (((i : Nat) : Int) + 1)).toNat = m - (i + 1) := by omega
      rw [en]
      refine for_range (lo := ((i : Nat) : Int) + 1) (n := m - (i + 1)) (fun j σ H' => ∃ v3, σ = [some (vn m), some (.ref D), some (vn i), v3] ∧ paI H D (lawTo m i ++ lawRow i j) H') ⟨_, rfl, by simpa [lawRow] using I⟩ ?_ ?_
      · rintro j σ H2 hj ⟨v3, rfl, s2, acc, hacc, pacc⟩
        have ev : V.int (((i : Nat) : Int) + 1 + ((j : Nat) : Int)) = vn (i + 1 + j) := rfl
        rw [ev]
        refine ⟨_, rfl, .inl ⟨rfl, _, SqL.of hacc⟩, _, rfl, _, rfl, by show 2 ≤ sizeLine; decide, fun t ht => ?_⟩
        have st : Same H2 (upd H2 t (.tup [vn i, vn (i + 1 + j)])) := same_new ht
        have hacc' := st _ _ hacc
        refine ⟨D, acc, _, rfl, rfl, hacc', by rw [pacc.length]; exact hrowl i j hi (by omega), ?_⟩
        refine ⟨_, rfl, same_put (s2.trans st) hD, acc ++ [.ref t], upd_same, ?_⟩
        have k4 : TK (upd H2 t (.tup [vn i, vn (i + 1 + j)])) (upd (upd H2 t (.tup [vn i, vn (i + 1 + j)])) D (.lst (acc ++ [.ref t]))) := tk_lst hacc'
        have er : lawRow i (j + 1) = lawRow i j ++ [(i, i + 1 + j)] := by unfold lawRow; rw [List.range_succ, List.map_append]; rfl
        rw [er, ← List.append_assoc]
        exact Paired.snoc (tups_P.all (TK.trans (tk_of st) k4) pacc) ⟨t, rfl, k4 _ _ upd_same⟩
      · rintro σ H2 ⟨v3, rfl, I2⟩
        refine ⟨_, _, rfl, ?_⟩
        have er : lawTo m (i + 1) = lawTo m i ++ lawRow i (m - (i + 1)) := by unfold lawTo; rw [List.range_succ, List.flatMap_append]; simp
        rw [er]
        exact I2
    · rintro σ H' ⟨v2, v3, rfl, s', acc, hacc, pacc⟩
      rw [lawTo_pairs] at pacc
      exact ⟨_, rfl, k D acc H' hD s' hacc pacc⟩
theorem ok_l_is_integer {f : Addr} {fd : FuncData} (B : Bt mg) (F : FnP K "_law_is_integer" s_l_is_integer f fd) : FnOk P w K mg base CX0 1 f fd ["_law_actual"] spIsInt := by
  refine F.ok sc_l_is_integer (fun vs H Q E h => ?_) (fun cdv A outer s H vs Q E hr h => ?_)
  · obtain ⟨n, rfl, _⟩ := h; rfl
  · obtain ⟨n, rfl, k⟩ := h
    refine ⟨_, PSs.nox (pss_one
      (ps_ret (pe_and (pe_callB (isiK K) (by rfl) B.isinstance (by decide +kernel) (pa_cons (pv 0) (pa_cons (pe_bltn (v := .ty "int") rfl B.int (by decide +kernel) rfl) pa_nil))) (pe_one (pe_not (pe_callB (isiK K) (by rfl) B.isinstance (by decide +kernel) (pa_cons (pv 0) (pa_cons (pe_bltn (v := .ty "bool") rfl B.bool (by decide +kernel) rfl) pa_nil)))))))), ?_⟩
    refine ⟨_, rfl, _, _, _, _, true, rfl, .ty "int", .base (.int _), kit_ty (by decide +kernel), true, rfl, ?_⟩
    refine iteT ?_
    refine ⟨_, rfl, _, _, _, _, false, rfl, .ty "bool", .base (.int _), kit_ty (by decide +kernel), false, rfl, ?_⟩
    exact k
end
end BL
set_option Elab.async false
set_option linter.all false
set_option maxRecDepth 100000
set_option maxHeartbeats 4000000
namespace BL
open PySem L2
/-! _law_lots, _law_places -/
/-- v is a list of numbers, to be read -/
def IsLs (K : PySem.W.Frag) (H : Hp) (v : V) (h : List Nat) : Prop := ∃ t, v = .ref t ∧ SqL K H t (h.map vn)
/-- v is a tracked list of numbers -/
def IsLst (H : Hp) (v : V) (h : List Nat) : Prop := ∃ t, v = .ref t ∧ H t = some (.lst (h.map vn))
theorem lst_same {H H' : Hp} (s : Same H H') {v : V} {h : List Nat} (q : IsLst H v h) : IsLst H' v h := let ⟨t, e, z⟩ := q; ⟨t, e, s _ _ z⟩
theorem ls_same {K : PySem.W.Frag} {H H' : Hp} (s : Same H H') {v : V} {h : List Nat} (q : IsLs K H v h) : IsLs K H' v h := let ⟨t, e, z⟩ := q; ⟨t, e, s.seq z⟩
theorem ls_of {K : PySem.W.Frag} {H : Hp} {v : V} {h : List Nat} (q : IsLst H v h) : IsLs K H v h := let ⟨t, e, z⟩ := q; ⟨t, e, SqL.of z⟩
theorem lst_of {D : Addr} {H : Hp} {v : V} {h : List Nat} (q : IsL D H v h) : IsLst H v h := let ⟨t, e, _, z⟩ := q; ⟨t, e, z⟩
theorem isL_same {D : Addr} : ∀ (H H' : Hp), Same H H' → ∀ v b, IsL D H v b → IsL D H' v b := fun _ _ s _ _ ⟨t, e, n, h⟩ => ⟨t, e, n, s _ _ h⟩
theorem isL_upd {D : Addr} : ∀ (H : Hp) (acc acc' : List V), H D = some (.lst acc) → ∀ v b, IsL D H v b → IsL D (upd H D (.lst acc')) v b := fun _ _ _ _ _ _ ⟨t, e, n, h⟩ => ⟨t, e, n, by rw [upd_ne n]; exact h⟩
theorem paired_app {α β : Type} {F : α → β → Prop} : ∀ {a c : List α} {b d : List β}, Paired F a b → Paired F c d → Paired F (a ++ c) (b ++ d)
  | _, _, _, _, .nil, h => h
  | _, _, _, _, .cons r t, h => .cons r (paired_app t h)
/-- a comprehension over a list; the turn knows the place of the new list -/
theorem comp_listD {β : Type} {g : TG} {tt : TT} {te : TE} {ws : List Nat} {σ : St} {H1 : Hp} {D : Addr} {Qd : Hp → Prop} {K : PySem.W.Frag} {a : Addr} {xs : List V} (R : Hp → V → β → Prop) (os : List (Option β)) (hlen : os.length = xs.length) (hsz : os.length < sizeLine)
    (hS : ∀ (H H' : Hp), Same H H' → ∀ v b, R H v b → R H' v b) (hU : ∀ (H : Hp) (acc acc' : List V), H D = some (.lst acc) → ∀ v b, R H v b → R (upd H D (.lst acc')) v b)
    (hD : H1 D = none) (ha : SqL K H1 a xs)
    (turn : ∀ (i : Nat) (x : V) (o : Option β) (H : Hp), xs[i]? = some x → os[i]? = some o → Same H1 H → (∃ acc, H D = some (.lst acc)) → ∀ Q : QT, (∀ H', Same H H' → o = none → Q none H') → (∀ (y : V) (b : β) (H' : Hp), Same H H' → o = some b → R H' y b → Q (some y) H') → turnOf g tt te ws σ x H Q)
    (done : ∀ (H : Hp) (acc : List V), Same H1 H → H D = some (.lst acc) → Paired (R H) acc (os.filterMap id) → Qd H) :
    ∃ W : Nat → Nat → Hp → Prop, (∃ m, W 0 m (upd H1 D (.lst []))) ∧ ∀ i m H, W i m H →
      ((Itl K a).stop i H ∧ Qd H) ∨ ((Itl K a).go i H ∧ ∃ Nx : Hp → Prop, (∀ H', Nx H' → ∃ m', m' < m ∧ W (i + 1) m' H') ∧ ∀ x H', (Itl K a).yld i H x H' → g x (wipe σ ws) H' fun σ2 H2 => wipe σ2 ws = wipe σ ws ∧ tt σ2 H2 fun b H3 =>
        if b = true then te σ2 H3 fun y H4 => ∃ acc, H4 D = some (.lst acc) ∧ acc.length < sizeLine ∧ Nx (upd H4 D (.lst (acc ++ [y]))) else Nx H3) := by
  refine lc_list (K := K) (a := a) (xs := xs) (CInv R H1 D os) (cinv_start hD) (fun i H _ I => I.1.seq ha) (fun i x H hx I => ?_) (fun H I => ?_)
  · have hi : i < xs.length := (List.getElem?_eq_some_iff.mp hx).1
    obtain ⟨o, ho⟩ : ∃ o, os[i]? = some o := ⟨os[i]'(by omega), List.getElem?_eq_getElem (by omega)⟩
    obtain ⟨acc, hacc, _⟩ := I.2
    exact turn_to (cinv_turn hS hU hD hsz ho I (Same.refl H) (turn i x o H hx ho I.1 ⟨acc, hacc⟩) fun _ _ _ => trivial)
  · rw [← hlen] at I
    obtain ⟨s, acc, a1, _, c⟩ := cinv_end I
    exact done H acc s a1 c
/-- v is a list of numbers that was not there before -/
def IsLn (H0 : Hp) (H : Hp) (v : V) (h : List Nat) : Prop := ∃ t, v = .ref t ∧ H0 t = none ∧ H t = some (.lst (h.map vn))
theorem ln_same {H0 H H' : Hp} (s : Same H H') {v : V} {h : List Nat} (q : IsLn H0 H v h) : IsLn H0 H' v h := let ⟨t, e, n, z⟩ := q; ⟨t, e, n, s _ _ z⟩
theorem lst_ln {H0 H : Hp} {v : V} {h : List Nat} (q : IsLn H0 H v h) : IsLst H v h := let ⟨t, e, _, z⟩ := q; ⟨t, e, z⟩
theorem ln_upd {H0 H : Hp} {D : Addr} {o o' : HO} (hD : H0 D = some o') {v : V} {h : List Nat} (q : IsLn H0 H v h) : IsLn H0 (upd H D o) v h := let ⟨t, e, n, z⟩ := q; ⟨t, e, n, by rw [upd_ne (fun y => by rw [y, hD] at n; cases n)]; exact z⟩
def IsLD (H0 : Hp) (D : Addr) (H : Hp) (v : V) (h : List Nat) : Prop := ∃ t, v = .ref t ∧ H0 t = none ∧ t ≠ D ∧ H t = some (.lst (h.map vn))
theorem ln_of {H0 : Hp} {D : Addr} {H : Hp} {v : V} {h : List Nat} (q : IsLD H0 D H v h) : IsLn H0 H v h := let ⟨t, e, n, _, z⟩ := q; ⟨t, e, n, z⟩
theorem isLD_same {H0 : Hp} {D : Addr} : ∀ (H H' : Hp), Same H H' → ∀ v b, IsLD H0 D H v b → IsLD H0 D H' v b := fun _ _ s _ _ ⟨t, e, n, m, h⟩ => ⟨t, e, n, m, s _ _ h⟩
theorem isLD_upd {H0 : Hp} {D : Addr} : ∀ (H : Hp) (acc acc' : List V), H D = some (.lst acc) → ∀ v b, IsLD H0 D H v b → IsLD H0 D (upd H D (.lst acc')) v b := fun _ _ _ _ _ _ ⟨t, e, n, m, h⟩ => ⟨t, e, n, m, by rw [upd_ne m]; exact h⟩
def lotsA : Nat → List (List Nat)
  | 0 => [[]]
  | n + 1 => lotsA n ++ (lotsA n).map fun l => l ++ [n]
theorem lotsA_len : ∀ n, (lotsA n).length = 2 ^ n
  | 0 => rfl
  | n + 1 => by rw [lotsA, List.length_append, List.length_map, lotsA_len n, Nat.pow_succ]; omega
def spLots : Sp := fun vs H Q _ => ∃ (n : Nat), vs = [vn n] ∧ n ≤ 6 ∧ ∀ (p : Addr) (ws : List V) (H' : Hp), H p = none → Same H H' → H' p = some (.lst ws) → Paired (IsLn H H') ws (lotsA n) → Q (.ref p) H'
def spPlaces (K : PySem.W.Frag) : Sp := fun vs H Q _ => ∃ (a b c : Addr) (caps : List Nat) (ws : List V) (hs : List (List Nat)) (lot : List Nat), vs = [.ref a, .ref b, .ref c] ∧ SqL K H a (caps.map vn) ∧ SqL K H b ws ∧ Paired (IsLs K H) ws hs ∧ SqL K H c (lot.map vn) ∧
  (∀ i ∈ lot, i < hs.length) ∧ caps.length ≤ 100 ∧ ∀ H', Same H H' → Q (vn (places caps hs fun i => lot.contains i)) H'
theorem inV_map (a : Nat) : ∀ h : List Nat, inV (vn a) (h.map vn) = h.contains a
  | [] => rfl
  | b :: h => by
    have ih := inV_map a h
    unfold inV at *
    rw [List.map_cons, List.any_cons, ih, List.contains_cons]
    congr 1
    show ((b : Int) == (a : Int)) = (a == b)
    by_cases e : a = b
    · subst e; simp
    · have h1 : ((b : Int) == (a : Int)) = false := beq_eq_false_iff_ne.mpr (by omega)
      have h2 : (a == b) = false := beq_eq_false_iff_ne.mpr e
      rw [h1, h2]
theorem flat_map (h : List Nat) : (h.map vn).all flatV = true := by
  rw [List.all_map, List.all_eq_true]; intro _ _; rfl
theorem touch_lot {hs : List (List Nat)} {lot : List Nat} (hl : ∀ i ∈ lot, i < hs.length) {p : Nat × Nat} : touch hs (fun i => lot.contains i) p = true ↔ ∃ i ∈ lot, p.1 ∈ hs.getD i [] ∧ p.2 ∈ hs.getD i [] := by
  rw [touch_iff]
  constructor
  · rintro ⟨i, _, h2, h3⟩; exact ⟨i, by simpa using h2, h3⟩
  · rintro ⟨i, h1, h2⟩; exact ⟨i, hl i h1, by simpa using h1, h2⟩
section
variable {P : Program} {w : World} {K : PySem.W.Frag} {mg : Str → Option Value} {base : Heap} {C : Addr}
theorem ok_l_lots {f : Addr} {fd : FuncData} (B : Bt mg) (F : FnP K "_law_lots" s_l_lots f fd) : FnOk P w K mg base CX0 1 f fd ["_law_count"] spLots := by
  refine F.ok sc_l_lots (fun vs H Q E h => ?_) (fun cdv A outer s H vs Q E hr h => ?_)
  · obtain ⟨n, rfl, _⟩ := h; rfl
  · obtain ⟨n, rfl, hn, k⟩ := h
    refine ⟨_, PSs.nox (pss_cons
      (ps_set (i := 1) sc_l_lots.nd rfl (Or.inl rfl) (pe_lst (pa_cons (pe_lst pa_nil) pa_nil)))
    (pss_cons
      (ps_for PassesOwn.never rfl (pi_range1 rfl B.range (pa_cons (pv 0) pa_nil)) (pg_name (i := 2) sc_l_lots.nd rfl (Or.inr rfl))
      (pss_one
        (ps_set (i := 1) sc_l_lots.nd rfl (Or.inl rfl) (pe_op op_cat (pv 1) (pe_lc (own := [("_law_lot", 3)]) rfl sc_l_lots.nd (pi_listK K (pv 1)) (blkOk_by (own := [("_law_lot", 3)]) (N := N_l_lots) (sc := defScope s_l_lots) (by decide +kernel)) (fun _ _ _ _ _ => (pg_name (i := 3) sc_l_lots.nd rfl (Or.inl rfl))) (fun _ _ _ _ _ => pts_nil) (fun _ _ _ _ _ => (pe_op op_cat (pv 3) (pe_lst (pa_cons (pv 2) pa_nil)))))))))
    (pss_one
      (ps_ret (pv 1))))), ?_⟩
    refine ⟨Nat.zero_le _, fun l0 hl0 => ?_⟩
    refine ⟨by show 1 ≤ sizeLine; decide, fun L hL => ?_⟩
    have s0 : Same H (upd (upd H l0 (.lst [])) L (.lst [.ref l0])) := (same_new hl0).trans (same_new hL)
    have n0 : l0 ≠ L := fun z => by rw [← z, upd_same] at hL; cases hL
    refine ⟨_, rfl, _, rfl, (range_ok (by omega)).1, (range_ok (by omega)).2, ?_⟩
    rw [Int.toNat_natCast]
    refine for_range0 (fun i σ H' => ∃ (L : Addr) (ws : List V) (v2 : Option V), σ = [some (vn n), some (.ref L), v2, none] ∧ H L = none ∧ Same H H' ∧ H' L = some (.lst ws) ∧ Paired (IsLn H H') ws (lotsA i))
      ⟨L, _, none, rfl, (same_new hl0).free hL, s0, upd_same, .cons ⟨l0, rfl, hl0, by rw [upd_ne n0, upd_same]; rfl⟩ .nil⟩ ?_ ?_
    · rintro i σ H' hi ⟨L, ws, v2, rfl, hL0, s', hLs, pw⟩
      have hlen : (lotsA i).length ≤ 64 := by
        rw [lotsA_len]
        exact Nat.le_trans (Nat.pow_le_pow_right (by decide) (show i ≤ 6 by omega)) (by decide)
      refine ⟨_, rfl, _, rfl, L, rfl, ⟨_, SqL.of hLs⟩, fun D hD => ?_⟩
      refine comp_listD (IsLD H D) ((lotsA i).map fun l => some (l ++ [i])) (by rw [List.length_map, pw.length]) (by rw [List.length_map]; exact sz_le (by omega)) isLD_same isLD_upd hD (SqL.of hLs) (fun j x o H2 hx ho s2 hDa Q' q1 q2 => ?_) (fun H2 acc s2 hacc pacc => ?_)
      · obtain ⟨lot, hlot, t, rfl, _, ht⟩ := paired_at pw hx
        have ho' : some (lot ++ [i]) = o := by
          rw [List.getElem?_map, hlot] at ho
          exact Option.some.inj ho
        obtain ⟨acc, hacc⟩ := hDa
        refine ⟨rfl, yesT ?_⟩
        refine ⟨_, rfl, _, rfl, by show 1 ≤ sizeLine; decide, fun l1 hl1 => ?_⟩
        have s1 : Same H2 (upd H2 l1 (.lst [vn i])) := same_new hl1
        have hll : lot.length ≤ 100 := by
          have : ∀ (m : Nat) (l : List Nat), l ∈ lotsA m → l.length ≤ m := by
            intro m
            induction m with
            | zero => intro l hl; rw [show l = [] from by simpa [lotsA] using hl]; exact Nat.le_refl _
            | succ m ih =>
              intro l hl
              rw [lotsA] at hl
              rcases List.mem_append.mp hl with z | z
              · exact Nat.le_succ_of_le (ih l z)
              · obtain ⟨l', hl', rfl⟩ := List.mem_map.mp z
                rw [List.length_append]
                exact Nat.succ_le_succ (ih l' hl')
          have := this i lot (List.mem_of_getElem? hlot)
          omega
        refine ⟨t, l1, _, _, rfl, rfl, s1 _ _ (s2 _ _ ht), upd_same, by rw [List.length_map]; show lot.length + 1 ≤ sizeLine; exact Nat.le_of_lt (sz_le (by omega)), fun p hp => ?_⟩
        have sp := s1.trans (same_new (o := .lst (lot.map vn ++ [vn i])) hp)
        have npD : p ≠ D := fun z => by rw [z, s1 _ _ hacc] at hp; cases hp
        refine q2 _ (lot ++ [i]) _ sp ho'.symm ⟨p, rfl, (s'.trans (s2.trans s1)).free hp, npD, ?_⟩
        rw [upd_same, List.map_append]; rfl
      · have e : ((lotsA i).map fun l => some (l ++ [i])).filterMap id = (lotsA i).map fun l => l ++ [i] := by
          rw [← map_some_id ((lotsA i).map fun l => l ++ [i]), List.map_map]; rfl
        rw [e] at pacc
        have hL2 := s2 _ _ hLs
        refine ⟨L, D, _, _, rfl, rfl, hL2, hacc, by rw [pw.length, pacc.length, List.length_map]; exact Nat.le_of_lt (sz_le (by omega)), fun p hp => ?_⟩
        have sp : Same H2 (upd H2 p (.lst (ws ++ acc))) := same_new hp
        refine ⟨p, _, _, rfl, (s'.trans s2).free hp, s'.trans (s2.trans sp), upd_same, ?_⟩
        rw [lotsA]
        exact paired_app (Paired.mapP pw fun _ _ q => ln_same (s2.trans sp) q) (Paired.mapP pacc fun _ _ q => ln_same sp (ln_of q))
    · rintro σ H' ⟨L, ws, v2, rfl, hL0, s', hLs, pw⟩
      exact ⟨_, rfl, k L ws H' hL0 s' hLs pw⟩
theorem ok_l_places {f : Addr} {fd : FuncData} (B : Bt mg) (F : FnP K "_law_places" s_l_places f fd) (h_l_pairs : Has P w K mg base 1 "_law_pairs" ["_law_seats"] spPairs) : FnOk P w K mg base CX0 2 f fd ["_law_caps", "_law_holders", "_law_lot"] (spPlaces K) := by
  refine F.ok sc_l_places (fun vs H Q E h => ?_) (fun cdv A outer s H vs Q E hr h => ?_)
  · obtain ⟨a, b, c, caps, ws, hs, lot, rfl, _⟩ := h; rfl
  · obtain ⟨a, b, c, caps, ws, hs, lot, rfl, ha, hb, pw, hc, hl, hcl, k⟩ := h
    refine ⟨_, PSs.nox (pss_cons
      (ps_set (i := 3) sc_l_places.nd rfl (Or.inl rfl) pe_int)
    (pss_cons
      (ps_for PassesOwn.never rfl (pi_listK K (pe_fn h_l_pairs (hr.mono (by decide)) rfl (pa_cons (pe_callB (lenK K) (by rfl) B.len PySem.boot_len (pa_cons (pv 0) pa_nil)) pa_nil))) (pg_name (i := 4) sc_l_places.nd rfl (Or.inl rfl))
      (pss_one
        (ps_for PassesOwn.never rfl (pi_listK K (pv 2)) (pg_name (i := 5) sc_l_places.nd rfl (Or.inl rfl))
        (pss_one
          (ps_if (PW.pt (pw_and (pt_cmpR (inK K) (pe_ix (ix_tupK K) (pv 4) pe_int (fun _ _ => rfl)) (pe_ix (ix_listK K) (pv 1) (pv 5) (fun _ _ => rfl)) (by rfl)) (pw_and1 (pt_cmpR (inK K) (pe_ix (ix_tupK K) (pv 4) pe_int (fun _ _ => rfl)) (pe_ix (ix_listK K) (pv 1) (pv 5) (fun _ _ => rfl)) (by rfl)))))
          (pss_cons
            (ps_set (i := 3) sc_l_places.nd rfl (Or.inl rfl) (pe_op op_add (pv 3) (pe_callB (call_min2 rfl) (by rfl) B.min (by decide +kernel) (pa_cons (pe_ix (ix_listK K) (pv 0) (pe_ix (ix_tupK K) (pv 4) pe_int (fun _ _ => rfl)) (fun _ _ => rfl)) (pa_cons (pe_ix (ix_listK K) (pv 0) (pe_ix (ix_tupK K) (pv 4) pe_int (fun _ _ => rfl)) (fun _ _ => rfl)) pa_nil)))))
          (pss_one
            ps_break))
          pss_nil)))))
    (pss_one
      (ps_ret (pv 3))))), ?_⟩
    refine ⟨_, rfl, a, _, rfl, .inl ha, caps.length, by rw [List.length_map] <;> rfl, hcl, fun p us H1 hp0 s1 hp pu => ?_⟩
    let F : Nat × Nat → Nat := fun p => if touch hs (fun i => lot.contains i) p = true then roomA caps p else 0
    refine ⟨p, rfl, ⟨_, SqL.of hp⟩, for_list (K := K) (a := p) (xs := us) (fun i σ H' => ∃ v4 v5, σ = [some (.ref a), some (.ref b), some (.ref c), some (vn (((pairsN caps.length).take i).map F).sum), v4, v5] ∧ Same H1 H') ⟨none, none, rfl, Same.refl _⟩ (fun i σ H' _ ⟨_, _, _, s'⟩ => SqL.of (s' _ _ hp)) ?_ ?_⟩
    · rintro i x σ H' hx ⟨v4, v5, rfl, s'⟩
      obtain ⟨pr, hpr, rx⟩ := paired_at pu hx
      obtain ⟨t, rfl, ht⟩ := tups_P _ _ (tk_of s') _ _ rx
      have hmem := mem_pairsN.mp (List.mem_of_getElem? hpr)
      have sA := s1.trans s'
      have hsum : ((((pairsN caps.length).take (i + 1)).map F).sum) = (((pairsN caps.length).take i).map F).sum + F pr := by
        rw [take_snoc hpr, List.map_append, List.sum_append]; simp
      refine ⟨_, rfl, c, rfl, ⟨_, sA.seq hc⟩, for_list (K := K) (a := c) (xs := lot.map vn) (fun j σ H2 => ∃ v5, σ = [some (.ref a), some (.ref b), some (.ref c), some (vn (((pairsN caps.length).take i).map F).sum), some (.ref t), v5] ∧ H2 = H' ∧ ∀ q ∈ lot.take j, ¬ (pr.1 ∈ hs.getD q [] ∧ pr.2 ∈ hs.getD q []))
        ⟨v5, rfl, rfl, fun q hq => by simp at hq⟩ (fun j σ H2 _ ⟨_, _, e, _⟩ => by rw [e]; exact sA.seq hc) ?_ ?_⟩
      · rintro j y σ H2 hy ⟨v5, rfl, rfl, hno⟩
        obtain ⟨q, hq, rfl⟩ := vmap_at hy
        have hql := hl q (List.mem_of_getElem? hq)
        obtain ⟨hrow, hhrow⟩ : ∃ h, hs[q]? = some h := ⟨hs[q], List.getElem?_eq_getElem hql⟩
        obtain ⟨rv, hrv, tr, rfl, htr⟩ := paired_at' pw hhrow
        have eg : hs.getD q [] = hrow := by rw [List.getD_eq_getElem?_getD, hhrow]; rfl
        have hrowS := sA.seq htr
        have look0 : atI ([vn pr.1, vn pr.2] : List V) 0 = some (vn pr.1) := atN (j := 0) rfl
        have look1 : atI ([vn pr.1, vn pr.2] : List V) 1 = some (vn pr.2) := atN (j := 1) rfl
        have nono : ∀ (hx : ¬ (pr.1 ∈ hs.getD q [] ∧ pr.2 ∈ hs.getD q [])), ∀ q' ∈ lot.take (j + 1), ¬ (pr.1 ∈ hs.getD q' [] ∧ pr.2 ∈ hs.getD q' []) := fun hx q' hq' => by
          rw [take_snoc hq] at hq'
          rcases List.mem_append.mp hq' with z | z
          · exact hno q' z
          · rw [List.mem_singleton.mp z]; exact hx
        refine ⟨_, rfl, t, _, _, _, rfl, rfl, SqT.of ht, look0, _, rfl, _, rfl, b, _, _, _, rfl, rfl, sA.seq hb, atN hrv, tr, _, rfl, .inl hrowS, rfl, flat_map _, _, rfl, ?_⟩
        rw [inV_map]
        show (if (if false = true then !hrow.contains pr.1 else hrow.contains pr.1) = true then _ else _)
        rw [if_neg Bool.false_ne_true]
        refine ite2 (fun h1 => ?_) (fun h1 => ?_)
        · refine ⟨_, rfl, t, _, _, _, rfl, rfl, SqT.of ht, look1, _, rfl, _, rfl, b, _, _, _, rfl, rfl, sA.seq hb, atN hrv, tr, _, rfl, .inl hrowS, rfl, flat_map _, _, rfl, ?_⟩
          rw [inV_map]
          show (if (if false = true then !hrow.contains pr.2 else hrow.contains pr.2) = true then _ else _)
          rw [if_neg Bool.false_ne_true]
          refine ite2 (fun h2 => ?_) (fun h2 => ?_)
          ·
            have e1 : (caps.map vn)[pr.1]? = some (vn (caps.getD pr.1 0)) := by simp [show pr.1 < caps.length by omega]
            have e2 : (caps.map vn)[pr.2]? = some (vn (caps.getD pr.2 0)) := by simp [hmem.2]
            refine ⟨_, rfl, _, rfl, _, rfl, t, _, _, _, rfl, rfl, SqT.of ht, look0, a, _, _, _, rfl, rfl, sA.seq ha, atN e1, ?_⟩
            refine ⟨_, rfl, _, rfl, t, _, _, _, rfl, rfl, SqT.of ht, look1, a, _, _, _, rfl, rfl, sA.seq ha, atN e2, ?_⟩
            refine ⟨_, _, rfl, _, _, rfl, rfl, ?_⟩
            have e : (if ((caps.getD pr.2 0 : Nat) : Int) < ((caps.getD pr.1 0 : Nat) : Int) then ((caps.getD pr.2 0 : Nat) : Int) else ((caps.getD pr.1 0 : Nat) : Int)) = ((roomA caps pr : Nat) : Int) := by
              unfold roomA; split <;> omega
            have ht1 : touch hs (fun i => lot.contains i) pr = true := (touch_lot hl).mpr ⟨q, List.mem_of_getElem? hq, by rw [eg]; exact ⟨by simpa using h1, by simpa using h2⟩⟩
            have hF : F pr = roomA caps pr := if_pos ht1
            refine ⟨some (.ref t), some (vn q), ?_, s'⟩
            rw [hsum, hF]
            have ev : (V.int (((((((pairsN caps.length).take i).map F).sum : Nat)) : Int) + (if ((caps.getD pr.2 0 : Nat) : Int) < ((caps.getD pr.1 0 : Nat) : Int) then ((caps.getD pr.2 0 : Nat) : Int) else ((caps.getD pr.1 0 : Nat) : Int)))) = vn ((((pairsN caps.length).take i).map F).sum + roomA caps pr) := by rw [e]; rfl
            exact congrArg (fun z => ([some (.ref a), some (.ref b), some (.ref c), some z, some (.ref t), some (vn q)] : St)) ev
          · exact ⟨_, rfl, rfl, nono (by rw [eg]; intro z; exact h2 (by simpa using z.2))⟩
        · refine ite2 (fun z => (by cases z)) (fun _ => ?_)
          exact ⟨_, rfl, rfl, nono (by rw [eg]; intro z; exact h1 (by simpa using z.1))⟩
      · rintro σ H2 ⟨v5, rfl, rfl, hno⟩
        rw [List.length_map, List.take_length] at hno
        have hF : F pr = 0 := if_neg fun z => by
          obtain ⟨q, hq, hz⟩ := (touch_lot hl).mp z
          exact hno q hq hz
        refine ⟨some (.ref t), v5, ?_, s'⟩
        rw [hsum, hF, Nat.add_zero]
    · rintro σ H' ⟨v4, v5, rfl, s'⟩
      rw [pu.length, List.take_length]
      exact ⟨_, rfl, k H' (s1.trans s')⟩
end
end BL
set_option Elab.async false
set_option linter.all false
set_option maxRecDepth 100000
set_option maxHeartbeats 4000000
namespace BL
open PySem L2
/-! _law_order, _law_worths -/
theorem rgV0 (n : Nat) : rgV 0 ((n : Nat) : Int) = (List.range n).map vn := by
  unfold rgV
  rw [show (((n : Nat) : Int) - 0).toNat = n by omega]
  refine List.map_congr_left fun i _ => ?_
  show V.int (0 + (i : Int)) = vn i
  rw [zadd]
theorem perm_front {l : List Nat} {b : Nat} (hn : l.Nodup) (hb : b ∈ l) : l.Perm (b :: l.filter fun x => x != b) := by
  have h := List.perm_cons_erase hb
  rwa [hn.erase_eq_filter b] at h
theorem dec_vn (a b : Nat) : decide (V.int (a : Int) = V.int (b : Int)) = decide (a = b) := by
  refine decide_eq_decide.mpr ⟨fun h => ?_, fun h => by rw [h]⟩
  injection h with h; omega
def spOrder (K : PySem.W.Frag) : Sp := fun vs H Q _ => ∃ (a : Addr) (ws : List Nat), vs = [.ref a] ∧ SqL K H a (ws.map vn) ∧ ws.length ≤ 100 ∧
  ∀ (p : Addr) (ord : List Nat) (H' : Hp), Same H H' → H' p = some (.lst (ord.map vn)) → OrdOf (wOf ws) ws.length ord → Q (.ref p) H'
def spWorths (K : PySem.W.Frag) : Sp := fun vs H Q _ => ∃ (a : Addr) (ns : List Int) (k c : Nat), vs = [.ref a, vn k, vn c] ∧ SqL K H a (ns.map V.int) ∧ c ≤ 17 ∧
  ∀ (p : Addr) (ws : List Nat) (H' : Hp), Same H H' → H' p = some (.lst (ws.map vn)) → ws.length = c → Q (.ref p) H'
/-- between two turns of _law_order -/
structure OrI (w : Nat → Nat) (n k : Nat) (o l : List Nat) : Prop where
  perm : (o ++ l).Perm (List.range n)
  len : o.length = k
  srt : o.Pairwise (Bef w)
  asc : l.Pairwise (· < ·)
  ahead : ∀ a ∈ o, ∀ b ∈ l, Bef w a b
theorem OrI.next {w : Nat → Nat} {n k : Nat} {o l : List Nat} (I : OrI w n k o l) {b : Nat} (hb : b ∈ l) (hm : ∀ x ∈ l, x = b ∨ Bef w b x) : OrI w n (k + 1) (o ++ [b]) (l.filter fun x => x != b) := by
  refine ⟨?_, by rw [List.length_append, I.len]; rfl, ?_, I.asc.filter _, fun a ha c hc => ?_⟩
  · refine List.Perm.trans ?_ I.perm
    rw [List.append_assoc]
    exact List.Perm.append_left o (perm_front (nodup_of_lt I.asc) hb).symm
  · refine List.pairwise_append.mpr ⟨I.srt, List.pairwise_singleton _ _, fun a ha c hc => ?_⟩
    rw [List.mem_singleton.mp hc]; exact I.ahead a ha b hb
  · obtain ⟨hc1, hc2⟩ := List.mem_filter.mp hc
    rcases List.mem_append.mp ha with z | z
    · exact I.ahead a z c hc1
    · rw [List.mem_singleton.mp z]
      rcases hm c hc1 with y | y
      · rw [y] at hc2; simp at hc2
      · exact y
section
variable {P : Program} {w : World} {K : PySem.W.Frag} {mg : Str → Option Value} {base : Heap} {C : Addr}
theorem ok_l_order {f : Addr} {fd : FuncData} (B : Bt mg) (F : FnP K "_law_order" s_l_order f fd) : FnOk P w K mg base CX0 1 f fd ["_law_worths_here"] (spOrder K) := by
  refine F.ok sc_l_order (fun vs H Q E h => ?_) (fun cdv A outer s H vs Q E hr h => ?_)
  · obtain ⟨a, ws, rfl, _⟩ := h; rfl
  · obtain ⟨a, ws, rfl, ha, hl, k⟩ := h
    refine ⟨_, PSs.nox (pss_cons
      (ps_set (i := 1) sc_l_order.nd rfl (Or.inl rfl) (pe_listRg rfl rfl B.list (prg_1 rfl B.range (pe_callB (lenK K) (by rfl) B.len PySem.boot_len (pa_cons (pv 0) pa_nil)))))
    (pss_cons
      (ps_set (i := 2) sc_l_order.nd rfl (Or.inl rfl) (pe_lst pa_nil))
    (pss_cons
      (ps_for PassesOwn.never rfl (pi_range1 rfl B.range (pa_cons (pe_callB (lenK K) (by rfl) B.len PySem.boot_len (pa_cons (pv 0) pa_nil)) pa_nil)) (pg_name (i := 3) sc_l_order.nd rfl (Or.inl rfl))
      (pss_cons
        (ps_set (i := 4) sc_l_order.nd rfl (Or.inr rfl) (pe_ix (ix_listK K) (pv 1) pe_int (fun _ _ => rfl)))
      (pss_cons
        (ps_for PassesOwn.never rfl (pi_listK K (pv 1)) (pg_name (i := 5) sc_l_order.nd rfl (Or.inl rfl))
        (pss_one
          (ps_if (pt_cmpR op_gt (pe_ix (ix_listK K) (pv 0) (pv 5) (fun _ _ => rfl)) (pe_ix (ix_listK K) (pv 0) (pv 4) (fun _ _ => rfl)) (nomark _))
          (pss_one
            (ps_set (i := 4) sc_l_order.nd rfl (Or.inr rfl) (pv 5)))
          pss_nil)))
      (pss_cons
        (ps_expr (appK K (pv 2) (pv 4)))
      (pss_one
        (ps_setLc (i := 1) (own := [("_law_p", 5)]) rfl sc_l_order.nd rfl rfl (sw_true rfl rfl rfl (by decide +kernel)) (pi_listK K (pv 1)) (blkOk_by (own := [("_law_p", 5)]) (N := N_l_order) (sc := defScope s_l_order) (by decide +kernel)) (fun _ _ _ _ _ => (pg_name (i := 5) sc_l_order.nd rfl (Or.inl rfl))) (fun _ _ _ _ _ => pts_one (pt_cmpR op_ne (pv 5) (pv 4) (nomark _))) (fun _ _ _ _ _ => (pv 5))))))))
    (pss_one
      (ps_ret (pv 2)))))), ?_⟩
    refine ⟨_, rfl, a, _, rfl, .inl ha, _, rfl, by rw [List.length_map]; exact RgOk.of_le (by omega) (by omega) (by omega) (by omega), fun L hL => ?_⟩
    rw [List.length_map, rgV0]
    refine ⟨Nat.zero_le _, fun O hO => ?_⟩
    have s1 : Same H (upd H L (.lst ((List.range ws.length).map vn))) := same_new hL
    have hO0 : H O = none := s1.free hO
    have nOL : O ≠ L := fun z => by rw [z, upd_same] at hO; cases hO
    have s2 := s1.trans (same_new (o := .lst []) hO)
    refine ⟨_, rfl, a, _, rfl, .inl (s2.seq ha), _, rfl, by rw [List.length_map]; exact (range_ok (by omega)).1, by rw [List.length_map]; exact (range_ok (by omega)).2, ?_⟩
    rw [List.length_map, Int.toNat_natCast]
    refine for_range0 (fun kk σ H' => ∃ (L : Addr) (o l : List Nat) (v3 v4 v5 : Option V), σ = [some (.ref a), some (.ref L), some (.ref O), v3, v4, v5] ∧ Same H H' ∧ L ≠ O ∧ H' L = some (.lst (l.map vn)) ∧ H' O = some (.lst (o.map vn)) ∧ OrI (wOf ws) ws.length kk o l)
      ⟨L, [], List.range ws.length, none, none, none, rfl, s2, nOL.symm, by rw [upd_ne nOL.symm, upd_same], upd_same, List.Perm.refl _, rfl, List.Pairwise.nil, List.pairwise_lt_range, fun a h => by simp at h⟩ ?_ ?_
    · rintro kk σ H' hk ⟨L, o, l, v3, v4, v5, rfl, s', nLO, hLl, hOo, I⟩
      have hlen := I.perm.length_eq
      rw [List.length_append, List.length_range, I.len] at hlen
      have hin : ∀ x ∈ l, x < ws.length := fun x hx => List.mem_range.mp (I.perm.mem_iff.mp (List.mem_append_right _ hx))
      obtain ⟨b0, hb0⟩ : ∃ b0, l[0]? = some b0 := ⟨l[0], List.getElem?_eq_getElem (by omega)⟩
      have wat : ∀ x, x < ws.length → (ws.map vn)[x]? = some (vn (wOf ws x)) := fun x hx => by unfold wOf; simp [hx]
      refine ⟨_, rfl, L, _, _, _, rfl, rfl, SqL.of hLl, atN (j := 0) (by rw [List.getElem?_map, hb0]; rfl), ?_⟩
      refine ⟨_, rfl, L, rfl, ⟨_, SqL.of hLl⟩, for_list (K := K) (a := L) (xs := l.map vn) (fun j σ H2 => ∃ (b i : Nat) (v5 : Option V), σ = [some (.ref a), some (.ref L), some (.ref O), some (vn kk), some (vn b), v5] ∧ H2 = H' ∧ l[i]? = some b ∧ (i < j ∨ i = 0) ∧ ∀ x ∈ l.take j, x = b ∨ Bef (wOf ws) b x)
        ⟨b0, 0, v5, rfl, rfl, hb0, .inr rfl, fun x hx => by simp at hx⟩ (fun j σ H2 _ ⟨_, _, _, _, e, _⟩ => by rw [e]; exact SqL.of hLl) ?_ ?_⟩
      · rintro j y σ H2 hy ⟨b, i, v5, rfl, rfl, hb, hij, hmin⟩
        obtain ⟨x, hx, rfl⟩ := vmap_at hy
        have hxl := hin x (List.mem_of_getElem? hx)
        have hbl := hin b (List.mem_of_getElem? hb)
        have hbx : b ≤ x := by
          obtain ⟨a1, a2⟩ := List.getElem?_eq_some_iff.mp hb
          obtain ⟨b1, b2⟩ := List.getElem?_eq_some_iff.mp hx
          by_cases e : i = j
          · subst e
            rw [hb] at hx
            cases hx; exact Nat.le_refl _
          · have := List.pairwise_iff_getElem.mp I.asc i j a1 b1 (by omega)
            rw [a2, b2] at this; omega
        refine ⟨_, rfl, _, rfl, a, _, _, _, rfl, rfl, s'.seq ha, atN (wat x hxl), _, rfl, _, rfl, a, _, _, _, rfl, rfl, s'.seq ha, atN (wat b hbl), _, _, rfl, rfl, _, rfl, ?_⟩
        refine ite2 (fun hc => ?_) (fun hc => ?_)
        · have hc' : wOf ws b < wOf ws x := by simpa using hc
          refine ⟨_, rfl, x, j, _, rfl, rfl, hx, .inl (Nat.lt_succ_self j), fun y hy => ?_⟩
          rw [take_snoc hx] at hy
          rcases List.mem_append.mp hy with z | z
          · refine .inr ?_
            rcases hmin y z with q | q
            · rw [q]; exact .inl hc'
            · unfold Bef at *; omega
          · exact .inl (List.mem_singleton.mp z)
        · have hc' : ¬ wOf ws b < wOf ws x := by simpa using hc
          refine ⟨b, i, _, rfl, rfl, hb, by omega, fun y hy => ?_⟩
          rw [take_snoc hx] at hy
          rcases List.mem_append.mp hy with z | z
          · exact hmin y z
          · rw [List.mem_singleton.mp z]
            by_cases e : x = b
            · exact .inl e
            · refine .inr ?_
              unfold Bef; omega
      · rintro σ H2 ⟨b, i, v5, rfl, rfl, hb, hij, hmin⟩
        rw [List.length_map, List.take_length] at hmin
        have hbm := List.mem_of_getElem? hb
        have I2 := I.next hbm hmin
        refine ⟨_, rfl, .inl ⟨rfl, _, SqL.of hOo⟩, _, rfl, O, _, _, rfl, rfl, hOo, by rw [List.length_map, I.len]; exact sz_le (by omega), ?_⟩
        have s3 : Same H (upd H2 O (.lst (o.map vn ++ [vn b]))) := same_put s' hO0
        have hL3 : (upd H2 O (.lst (o.map vn ++ [vn b]))) L = some (.lst (l.map vn)) := by rw [upd_ne nLO]; exact hLl
        refine ⟨_, rfl, L, rfl, ⟨_, SqL.of hL3⟩, fun D hD => ?_⟩
        refine comp_list IsN (l.map fun x => if x != b then some x else none) (by rw [List.length_map, List.length_map]) (by rw [List.length_map]; exact sz_le (by omega)) tups_N.same tups_N.updL hD (SqL.of hL3) (fun j y ob H4 hy ho s4 Q' q1 q2 => ?_) (fun H4 acc s4 hacc pacc => ?_)
        · obtain ⟨x, hx, rfl⟩ := vmap_at hy
          have ho' := map_at hx ho
          refine ⟨rfl, ?_⟩
          refine ⟨_, rfl, _, rfl, rfl, _, rfl, ?_⟩
          rw [dec_vn]
          refine ite2 (fun hc => ?_) (fun hc => ?_)
          · have hc' : x ≠ b := by simpa using hc
            exact ⟨_, rfl, q2 _ x _ (Same.refl _) (by rw [← ho', if_pos (by simpa using hc')]) rfl⟩
          · have hc' : x = b := by simpa using hc
            exact q1 _ (Same.refl _) (by rw [← ho', if_neg (by simpa using hc')])
        · rw [filterMap_if] at pacc
          rw [paired_N pacc] at hacc
          have nDO : D ≠ O := fun z => by rw [z, upd_same] at hD; cases hD
          exact ⟨D, o ++ [b], l.filter fun x => x != b, _, _, _, rfl, s3.trans s4, nDO, hacc, by rw [s4 _ _ upd_same, List.map_append]; rfl, I2⟩
    · rintro σ H' ⟨L, o, l, v3, v4, v5, rfl, s', nLO, hLl, hOo, I⟩
      have hlen := I.perm.length_eq
      rw [List.length_append, List.length_range, I.len] at hlen
      have hl0 : l = [] := List.eq_nil_of_length_eq_zero (by omega)
      have hp := I.perm
      rw [hl0, List.append_nil] at hp
      exact ⟨_, rfl, k O o H' s' hOo ⟨hp, I.srt⟩⟩
theorem e39 : ((10 : Int) ^ ((39 : Int).toNat)) = (((10 ^ 39 : Nat)) : Int) := by rfl
theorem ok_l_worths {f : Addr} {fd : FuncData} (B : Bt mg) (F : FnP K "_law_worths" s_l_worths f fd) (h_l_cell : Has P w K mg base 1 "_law_cell" ["_law_script", "_law_k"] (spCell K)) (h_l_draws : Has P w K mg base 1 "_law_draws" ["_law_cell_here", "_law_sizes"] (spDraws K)) :
    FnOk P w K mg base CX0 2 f fd ["_law_script", "_law_k", "_law_count"] (spWorths K) := by
  refine F.ok sc_l_worths (fun vs H Q E h => ?_) (fun cdv A outer s H vs Q E hr h => ?_)
  · obtain ⟨a, ns, k, c, rfl, _⟩ := h; rfl
  · obtain ⟨a, ns, kk, c, rfl, ha, hc, k⟩ := h
    refine ⟨_, PSs.nox (pss_cons
      (ps_set (i := 3) sc_l_worths.nd rfl (Or.inr rfl) (pe_fn h_l_draws (hr.mono (by decide)) rfl (pa_cons (pe_fn h_l_cell (hr.mono (by decide)) rfl (pa_cons (pv 0) (pa_cons (pv 1) pa_nil))) (pa_cons (pe_op op_rep (pe_lst (pa_cons pe_int pa_nil)) pe_int) pa_nil))))
    (pss_cons
      (ps_set (i := 4) sc_l_worths.nd rfl (Or.inl rfl) (pe_op op_mod (pe_callTy call_int1 (by rfl) B.int (by decide +kernel) (pa_cons (pe_callB call_abs (by rfl) B.abs (by decide +kernel) (pa_cons (pe_callTy call_int1 (by rfl) B.int (by decide +kernel) (pa_cons (pe_fn h_l_cell (hr.mono (by decide)) rfl (pa_cons (pv 0) (pa_cons (pe_op op_add (pv 1) pe_int) pa_nil))) pa_nil)) pa_nil)) pa_nil)) (pe_op op_pow pe_int pe_int)))
    (pss_cons
      (ps_set (i := 5) sc_l_worths.nd rfl (Or.inr rfl) (pe_lst (pa_cons pe_int (pa_cons pe_int (pa_cons pe_int (pa_cons pe_int (pa_cons pe_int (pa_cons pe_int (pa_cons (pv 4) (pa_cons (pv 4) (pa_cons (pe_op op_add (pv 4) pe_int) (pa_cons (pe_op op_pow pe_int pe_int) pa_nil))))))))))))
    (pss_one
      (ps_ret (pe_lc (own := [("_law_p", 6)]) rfl sc_l_worths.nd (pi_range1 rfl B.range (pa_cons (pv 2) pa_nil)) (blkOk_by (own := [("_law_p", 6)]) (N := N_l_worths) (sc := defScope s_l_worths) (by decide +kernel)) (fun _ _ _ _ _ => (pg_name (i := 6) sc_l_worths.nd rfl (Or.inl rfl))) (fun _ _ _ _ _ => pts_nil) (fun _ _ _ _ _ => (pe_ix (ix_listK K) (pv 5) (pe_ix (ix_listK K) (pv 3) (pv 6) (fun _ _ => rfl)) (fun _ _ => rfl))))))))), ?_⟩
    refine ⟨_, rfl, _, rfl, a, ns, kk, rfl, ha, fun z => ?_⟩
    refine ⟨by show 1 ≤ sizeLine; decide, fun l0 hl0 => ?_⟩
    refine ⟨l0, _, _, rfl, rfl, upd_same, by decide, by decide, by show 1 * 17 ≤ sizeLine; decide, fun l1 hl1 => ?_⟩
    have s1 : Same H (upd (upd H l0 (.lst [.int 10])) l1 (.lst (List.replicate ((17 : Int).toNat) [V.int 10]).flatten)) := (same_new hl0).trans (same_new hl1)
    refine ⟨z, l1, List.replicate 17 10, rfl, SqL.of upd_same, by simp, fun s hs => by rw [List.eq_of_mem_replicate hs]; decide, fun p ds H1 hp0 s2 hp hdl hds => ?_⟩
    have s3 := s1.trans s2
    rw [List.length_replicate] at hdl
    refine ⟨_, rfl, _, rfl, _, _, rfl, rfl, a, ns, kk + 1, rfl, s3.seq ha, fun z2 => ?_⟩
    refine .inl ⟨z2, rfl, z2, rfl, .inl ⟨_, rfl, _, _, rfl, rfl, (by constructor <;> decide), _, _, rfl, rfl, (show (0 : Int) < (10 : Int) ^ ((39 : Int).toNat) from by rw [e39]; decide), ?_⟩⟩
    dsimp only
    generalize hg : (if z2 < 0 then -z2 else z2) % (10 : Int) ^ ((39 : Int).toNat) = g
    have hg0 : 0 ≤ g := by rw [← hg]; exact Int.emod_nonneg _ (by rw [e39]; decide)
    obtain ⟨gn, rfl⟩ : ∃ gn : Nat, g = (gn : Int) := ⟨g.toNat, by omega⟩
    refine ⟨_, rfl, _, rfl, _, rfl, _, _, rfl, rfl, _, _, rfl, rfl, (by constructor <;> decide), by show 10 ≤ sizeLine; decide, fun m hm => ?_⟩
    let menu : List Nat := [0, 0, 1, 1, 2, 9, gn, gn, gn + 1, 10 ^ 39]
    have s4 : Same H1 (upd H1 m (.lst [.int 0, .int 0, .int 1, .int 1, .int 2, .int 9, .int (gn : Int), .int (gn : Int), .int ((gn : Int) + 1), .int ((10 : Int) ^ ((39 : Int).toNat))])) := same_new hm
    have hmenu : (upd H1 m (.lst [.int 0, .int 0, .int 1, .int 1, .int 2, .int 9, .int (gn : Int), .int (gn : Int), .int ((gn : Int) + 1), .int ((10 : Int) ^ ((39 : Int).toNat))])) m = some (.lst (menu.map vn)) := by
      rw [upd_same, e39]; rfl
    refine ⟨_, rfl, _, rfl, (range_ok (by omega)).1, (range_ok (by omega)).2, fun D hD => ?_⟩
    refine comp_range0 (n := c) IsN ((List.range c).map fun i => some (menu.getD (ds.getD i 0) 0)) (by simp) (by simp; exact sz_le (by omega)) tups_N.same tups_N.updL hD (fun i o H2 hi ho s5 Q' q1 q2 => ?_) (fun H2 acc s5 hacc pacc => ?_)
    · have ho' := map_range_at hi ho
      have hdi : ds[i]? = some (ds.getD i 0) := by simp [show i < ds.length by omega]
      have hlt : ds.getD i 0 < 10 := hds i _ 10 hdi (by rw [List.getElem?_replicate, if_pos (by omega)])
      have hmi : menu[ds.getD i 0]? = some (menu.getD (ds.getD i 0) 0) := by
        have hlm : ds.getD i 0 < menu.length := hlt
        rw [List.getD_eq_getElem?_getD (l := menu), List.getElem?_eq_getElem hlm]; rfl
      refine ⟨rfl, yesT ?_⟩
      refine ⟨_, rfl, _, rfl, _, rfl, p, _, _, _, rfl, rfl, SqL.of (s5 _ _ (s4 _ _ hp)), at_map hdi, m, _, _, _, rfl, rfl, SqL.of (s5 _ _ hmenu), at_map hmi, ?_⟩
      exact q2 _ _ _ (Same.refl _) ho'.symm rfl
    · have e : ((List.range c).map fun i => some (menu.getD (ds.getD i 0) 0)).filterMap id = (List.range c).map fun i => menu.getD (ds.getD i 0) 0 := by
        rw [← map_some_id ((List.range c).map fun i => menu.getD (ds.getD i 0) 0), List.map_map]; rfl
      rw [e] at pacc
      rw [paired_N pacc] at hacc
      exact k D _ H2 (s3.trans (s4.trans s5)) hacc (by simp)
end
end BL
set_option Elab.async false
set_option linter.all false
set_option maxRecDepth 100000
set_option maxHeartbeats 4000000
namespace BL
open PySem L2
/-! _law_apart, _law_pool -/
/-- a row of holders as the law makes it -/
def RowOk (m : Nat) (h : List Nat) : Prop := h.Pairwise (· < ·) ∧ ∀ x ∈ h, x < m
structure ApartOk (caps : List Nat) (hs : List (List Nat)) : Prop where
  two : 2 ≤ caps.length
  four : caps.length ≤ 4
  few : hs.length ≤ 17
  row : ∀ h ∈ hs, ∃ x y, h = [x, y] ∧ x < y ∧ y < caps.length
structure LawOk (most : Nat) (caps : List Nat) (hs : List (List Nat)) : Prop where
  one : 1 ≤ caps.length
  five : caps.length ≤ 5
  few : hs.length ≤ most
  row : ∀ h ∈ hs, RowOk caps.length h
def spApart : Sp := fun vs H Q _ => ∃ (z : Int), vs = [.int z] ∧ ∀ (t a b : Addr) (caps : List Nat) (ws : List V) (hs : List (List Nat)) (H' : Hp), Same H H' → H' t = some (.tup [.ref a, .ref b]) → H' a = some (.lst (caps.map vn)) → H' b = some (.lst ws) → Paired (IsLst H') ws hs → ApartOk caps hs → Q (.ref t) H'
def spPool : Sp := fun vs H Q _ => ∃ (z : Int) (most : Nat), vs = [.int z, vn most] ∧ most ≤ 6 ∧ ∀ (t a b : Addr) (caps : List Nat) (ws : List V) (hs : List (List Nat)) (H' : Hp), Same H H' → H' t = some (.tup [.ref a, .ref b]) → H' a = some (.lst (caps.map vn)) → H' b = some (.lst ws) → Paired (IsLst H') ws hs → LawOk most caps hs → Q (.ref t) H'
theorem pairsN_pos {m : Nat} (h : 2 ≤ m) : 0 < (pairsN m).length := List.length_pos_of_mem (mem_pairsN.mpr (show ((0, 1) : Nat × Nat).1 < ((0, 1) : Nat × Nat).2 ∧ _ from ⟨by decide, h⟩))
theorem pairsN_len (m : Nat) : (pairsN m).length ≤ m * m := by have := pairsA_len (List.range m); rwa [List.length_range] at this
theorem nmod (a b : Nat) : ((a : Nat) : Int) % ((b : Nat) : Int) = ((a % b : Nat) : Int) := (Int.natCast_emod a b).symm
theorem getD_at {l : List Nat} {i : Nat} (h : i < l.length) : l[i]? = some (l.getD i 0) := by simp [h]
section
variable {P : Program} {w : World} {K : PySem.W.Frag} {mg : Str → Option Value} {base : Heap} {C : Addr}
theorem ok_l_apart {f : Addr} {fd : FuncData} (B : Bt mg) (F : FnP K "_law_apart" s_l_apart f fd) (h_l_draws : Has P w K mg base 1 "_law_draws" ["_law_cell_here", "_law_sizes"] (spDraws K)) (h_l_pairs : Has P w K mg base 1 "_law_pairs" ["_law_seats"] spPairs) :
    FnOk P w K mg base CX0 2 f fd ["_law_cell_here"] spApart := by
  refine F.ok sc_l_apart (fun vs H Q E h => ?_) (fun cdv A outer s H vs Q E hr h => ?_)
  · obtain ⟨z, rfl, _⟩ := h; rfl
  · obtain ⟨z, rfl, k⟩ := h
    refine ⟨_, PSs.nox (pss_cons
      (ps_set (i := 1) sc_l_apart.nd rfl (Or.inr rfl) (pe_fn h_l_draws (hr.mono (by decide)) rfl (pa_cons (pv 0) (pa_cons (pe_op op_cat (pe_op op_cat (pe_lst (pa_cons pe_int (pa_cons pe_int pa_nil))) (pe_op op_rep (pe_lst (pa_cons pe_int pa_nil)) pe_int)) (pe_op op_rep (pe_lst (pa_cons pe_int pa_nil)) pe_int)) pa_nil))))
    (pss_cons
      (ps_set (i := 2) sc_l_apart.nd rfl (Or.inl rfl) (pe_op op_add pe_int (pe_ix (ix_listK K) (pv 1) pe_int (fun _ _ => rfl))))
    (pss_cons
      (ps_set (i := 3) sc_l_apart.nd rfl (Or.inl rfl) (pe_fn h_l_pairs (hr.mono (by decide)) rfl (pa_cons (pv 2) pa_nil)))
    (pss_cons
      (ps_setLc (i := 4) (own := [("_law_k", 5)]) rfl sc_l_apart.nd rfl rfl (sw_true rfl rfl rfl (by decide +kernel)) (pi_range1 rfl B.range (pa_cons (pv 2) pa_nil)) (blkOk_by (own := [("_law_k", 5)]) (N := N_l_apart) (sc := defScope s_l_apart) (by decide +kernel)) (fun _ _ _ _ _ => (pg_name (i := 5) sc_l_apart.nd rfl (Or.inl rfl))) (fun _ _ _ _ _ => pts_nil) (fun _ _ _ _ _ => (pe_op op_add pe_int (pe_ix (ix_listK K) (pv 1) (pe_op op_add pe_int (pv 5)) (fun _ _ => rfl)))))
    (pss_cons
      (ps_set (i := 6) sc_l_apart.nd rfl (Or.inl rfl) (pe_lst pa_nil))
    (pss_cons
      (ps_for PassesOwn.never rfl (pi_range1 rfl B.range (pa_cons (pe_op op_add pe_int (pe_ix (ix_listK K) (pv 1) pe_int (fun _ _ => rfl))) pa_nil)) (pg_name (i := 7) sc_l_apart.nd rfl (Or.inl rfl))
      (pss_one
        (ps_expr (appK K (pv 6) (pe_callTy (lstOfK K) (by rfl) B.list (by decide +kernel) (pa_cons (pe_ix (ix_listK K) (pv 3) (pe_op op_mod (pe_callTy call_int1 (by rfl) B.int (by decide +kernel) (pa_cons (pe_ix (ix_listK K) (pv 1) (pe_op op_add pe_int (pv 7)) (fun _ _ => rfl)) pa_nil)) (pe_callB (lenK K) (by rfl) B.len PySem.boot_len (pa_cons (pv 3) pa_nil))) (fun _ _ => rfl)) pa_nil))))))
    (pss_one
      (ps_ret (pe_tup (pa_cons (pv 4) (pa_cons (pv 6) pa_nil))))))))))), ?_⟩
    refine ⟨_, rfl, by show 2 ≤ sizeLine; decide, fun l0 h0 => ?_⟩
    refine ⟨by show 1 ≤ sizeLine; decide, fun l1 h1 => ?_⟩
    refine ⟨l1, _, _, rfl, rfl, upd_same, by decide, by decide, by show 1 * 4 ≤ sizeLine; decide, fun l2 h2 => ?_⟩
    refine ⟨l0, l2, _, _, rfl, rfl, ((same_new h1).trans (same_new h2)) _ _ upd_same, upd_same, by show 2 + 4 ≤ sizeLine; decide, fun l3 h3 => ?_⟩
    refine ⟨by show 1 ≤ sizeLine; decide, fun l4 h4 => ?_⟩
    refine ⟨l4, _, _, rfl, rfl, upd_same, by decide, by decide, by show 1 * 17 ≤ sizeLine; decide, fun l5 h5 => ?_⟩
    refine ⟨l3, l5, _, _, rfl, rfl, ((same_new h4).trans (same_new h5)) _ _ upd_same, upd_same, by show 6 + 17 ≤ sizeLine; decide, fun l6 h6 => ?_⟩
    refine ⟨z, l6, [3, 8] ++ List.replicate 4 4 ++ List.replicate 17 60, rfl, SqL.of (by rw [upd_same]; rfl), by decide, by decide, fun p ds H1 hp0 s1 hp hdl hds => ?_⟩
    have hdl : ds.length = 23 := hdl
    have s1 := ((((((same_new (o := .lst [.int 3, .int 8]) h0).trans (same_new h1)).trans (same_new h2)).trans (same_new h3)).trans (same_new h4)).trans (same_new h5)).trans ((same_new h6).trans s1)
    have d0 := hds 0 (ds.getD 0 0) 3 (getD_at (by omega)) rfl
    have d1 := hds 1 (ds.getD 1 0) 8 (getD_at (by omega)) rfl
    generalize hsd : ds.getD 0 0 = e0 at d0
    generalize hsd1 : ds.getD 1 0 = e1 at d1
    have g0 : ds[0]? = some e0 := by rw [← hsd]; exact getD_at (by omega)
    have g1 : ds[1]? = some e1 := by rw [← hsd1]; exact getD_at (by omega)
    refine ⟨_, rfl, p, _, _, _, rfl, rfl, SqL.of hp, at_map (j := 0) g0, _, _, rfl, rfl, ?_⟩
    refine ⟨_, rfl, 2 + e0, rfl, by omega, fun pp us H2 hpp0 s2 hpp pus => ?_⟩
    have hp2 := s2 _ _ hp
    have s12 := s1.trans s2
    have hpos := pairsN_pos (m := 2 + e0) (by omega)
    have hpl := pairsN_len (2 + e0)
    have hpl2 : (2 + e0) * (2 + e0) ≤ 4 * 4 := Nat.mul_le_mul (by omega) (by omega)
    refine ⟨_, rfl, _, rfl, (range_ok (n := 2 + e0) (by omega)).1, (range_ok (n := 2 + e0) (by omega)).2, fun cD hcD => ?_⟩
    show ∃ W, _
    refine comp_range0 (n := 2 + e0) IsN ((List.range (2 + e0)).map fun i => some (1 + ds.getD (2 + i) 0)) (by simp) (by simp; exact sz_le (by omega)) tups_N.same tups_N.updL hcD (fun i o H3 hi ho s3 Q' q1 q2 => ?_) (fun H3 acc s3 hacc pacc => ?_)
    · have ho' := map_range_at hi ho
      refine ⟨rfl, yesT ?_⟩
      refine ⟨_, rfl, _, rfl, _, _, rfl, rfl, p, _, _, _, rfl, rfl, SqL.of (s3 _ _ hp2), at_map' (j := 2 + i) rfl (getD_at (by omega)), _, _, rfl, rfl, ?_⟩
      exact q2 _ _ _ (Same.refl _) ho'.symm rfl
    have e : ((List.range (2 + e0)).map fun i => some (1 + ds.getD (2 + i) 0)).filterMap id = (List.range (2 + e0)).map fun i => 1 + ds.getD (2 + i) 0 := by
      rw [← map_some_id ((List.range (2 + e0)).map fun i => 1 + ds.getD (2 + i) 0), List.map_map]; rfl
    rw [e] at pacc
    rw [paired_N pacc] at hacc
    clear pacc e
    generalize hcaps : ((List.range (2 + e0)).map fun i => 1 + ds.getD (2 + i) 0) = caps at hacc
    have hcl : caps.length = 2 + e0 := by rw [← hcaps]; simp
    have s13 := s12.trans s3
    have hp3 := s3 _ _ hp2
    have hpp3 := s3 _ _ hpp
    have pus3 := tups_P.all (tk_of s3) pus
    refine ⟨Nat.zero_le _, fun Hd hHd => ?_⟩
    have hHd0 : H3 Hd = none := hHd
    refine ⟨_, rfl, p, _, _, _, rfl, rfl, SqL.of ((same_new hHd) _ _ hp3), at_map (j := 1) g1, _, _, rfl, rfl, _, rfl, (range_ok (n := 10 + e1) (by omega)).1, (range_ok (n := 10 + e1) (by omega)).2, ?_⟩
    show ∃ W, _
    refine for_range0 (n := 10 + e1) (fun i σ H' => ∃ (ws : List V) (hs : List (List Nat)) (v7 : Option V), σ = [some (.int z), some (.ref p), some (vn (2 + e0)), some (.ref pp), some (.ref cD), none, some (.ref Hd), v7] ∧ Same H3 H' ∧ H' Hd = some (.lst ws) ∧ Paired (IsL Hd H') ws hs ∧ hs.length = i ∧ ∀ h ∈ hs, ∃ x y, h = [x, y] ∧ x < y ∧ y < caps.length)
      ⟨[], [], none, rfl, same_new hHd, upd_same, .nil, rfl, fun h hh => by simp at hh⟩ ?_ ?_
    · rintro i σ H' hi ⟨ws, hs, v7, rfl, s', hHw, pw, hlen, hrow⟩
      generalize hdi : ds.getD (6 + i) 0 = d
      have gi : ds[6 + i]? = some d := by rw [← hdi]; exact getD_at (by omega)
      have hlt : d % (pairsN (2 + e0)).length < (pairsN (2 + e0)).length := Nat.mod_lt _ hpos
      obtain ⟨x, hx, rx⟩ := paired_at' (tups_P.all (tk_of s') pus3) (List.getElem?_eq_getElem hlt)
      obtain ⟨t, rfl, ht⟩ := rx
      have hm := mem_pairsN.mp (List.getElem_mem hlt)
      generalize (pairsN (2 + e0))[d % (pairsN (2 + e0)).length] = pr at ht hm
      have hul : us.length = (pairsN (2 + e0)).length := pus.length
      refine ⟨_, rfl, .inl ⟨rfl, _, SqL.of hHw⟩, ?_⟩
      refine ⟨_, rfl, _, rfl, _, rfl, _, _, rfl, rfl, p, _, _, _, rfl, rfl, SqL.of (s' _ _ hp3), at_map' (j := 6 + i) rfl gi, .inl ⟨_, rfl, _, rfl, pp, _, rfl, .inl (SqL.of (s' _ _ hpp3)), _, _, rfl, rfl, (by rw [hul]; show (0 : Int) < _; omega), pp, us, _, _, rfl, rfl, SqL.of (s' _ _ hpp3), ?_, t, _, rfl, .inr (SqT.of ht), fun l hl => ?_⟩⟩
      · show atI us (((d : Nat) : Int) % ((us.length : Nat) : Int)) = some (.ref t)
        rw [hul, nmod]
        exact atN hx
      · have sl : Same H' (upd H' l (.lst [vn pr.1, vn pr.2])) := same_new hl
        have nlH : l ≠ Hd := fun z => by rw [z, hHw] at hl; cases hl
        have hHw' := sl _ _ hHw
        refine ⟨Hd, ws, _, rfl, rfl, hHw', by rw [pw.length, hlen]; exact sz_le (by omega), ?_⟩
        refine ⟨ws ++ [.ref l], hs ++ [[pr.1, pr.2]], _, rfl, same_put (s'.trans sl) hHd0, upd_same, Paired.snoc (Paired.mapP pw fun v h q => isL_upd _ _ _ hHw' v h (isL_same _ _ sl v h q)) ⟨l, rfl, nlH, by rw [upd_ne nlH, upd_same]; rfl⟩, by rw [List.length_append, hlen]; rfl, fun h hh => ?_⟩
        rcases List.mem_append.mp hh with z | z
        · exact hrow h z
        · rw [List.mem_singleton.mp z]
          exact ⟨pr.1, pr.2, rfl, hm.1, by rw [hcl]; exact hm.2⟩
    · rintro σ H' ⟨ws, hs, v7, rfl, s', hHw, pw, hlen, hrow⟩
      refine ⟨_, rfl, _, rfl, by show 2 ≤ sizeLine; decide, fun t ht => ?_⟩
      have st : Same H' (upd H' t (.tup [.ref cD, .ref Hd])) := same_new ht
      exact k t cD Hd caps ws hs _ (s13.trans (s'.trans st)) upd_same (st _ _ (s' _ _ hacc)) (st _ _ hHw) (Paired.mapP pw fun v h q => lst_same st (lst_of q)) ⟨by omega, by omega, by omega, hrow⟩
end
end BL
set_option Elab.async false
set_option linter.all false
set_option maxRecDepth 100000
set_option maxHeartbeats 8000000
namespace BL
open PySem L2
/-- what stands in the loop of _law_pool between its statements: the holders so far, the row that is held -/
structure PlI (H3 : Hp) (Hd : Addr) (m i : Nat) (H : Hp) (ws : List V) (hs : List (List Nat)) : Prop where
  same : Same H3 H
  list : H Hd = some (.lst ws)
  rows : Paired (IsL Hd H) ws hs
  len : hs.length = i
  ok : ∀ h ∈ hs, RowOk m h
theorem PlI.later {H3 H H' : Hp} {Hd : Addr} {m i : Nat} {ws : List V} {hs : List (List Nat)} (I : PlI H3 Hd m i H ws hs) (s : Same H H') : PlI H3 Hd m i H' ws hs :=
  ⟨I.same.trans s, s _ _ I.list, Paired.mapP I.rows fun v h q => isL_same _ _ s v h q, I.len, I.ok⟩
theorem e12 : ((10 : Int) ^ ((12 : Int).toNat)) = (((10 ^ 12 : Nat)) : Int) := by rfl
theorem bits_ok (m c : Nat) : RowOk c (bitsA m c) := ⟨List.Pairwise.filter _ List.pairwise_lt_range, fun x hx => List.mem_range.mp (List.mem_filter.mp hx).1⟩
section
variable {P : Program} {w : World} {K : PySem.W.Frag} {mg : Str → Option Value} {base : Heap} {C : Addr}
theorem ok_l_pool {f : Addr} {fd : FuncData} (B : Bt mg) (F : FnP K "_law_pool" s_l_pool f fd) (h_l_draws : Has P w K mg base 1 "_law_draws" ["_law_cell_here", "_law_sizes"] (spDraws K)) (h_l_pairs : Has P w K mg base 1 "_law_pairs" ["_law_seats"] spPairs) (h_l_bits : Has P w K mg base 1 "_law_bits" ["_law_mask", "_law_count"] spBits) :
    FnOk P w K mg base CX0 2 f fd ["_law_cell_here", "_law_most"] spPool := by
  refine F.ok sc_l_pool (fun vs H Q E h => ?_) (fun cdv A outer s H vs Q E hr h => ?_)
  · obtain ⟨z, most, rfl, _⟩ := h; rfl
  · obtain ⟨z, most, rfl, hmost, k⟩ := h
    refine ⟨_, PSs.nox (pss_cons
      (ps_set (i := 2) sc_l_pool.nd rfl (Or.inr rfl) (pe_fn h_l_draws (hr.mono (by decide)) rfl (pa_cons (pv 0) (pa_cons (pe_op op_cat (pe_op op_cat (pe_op op_cat (pe_lst (pa_cons pe_int (pa_cons (pe_op op_add (pv 1) pe_int) (pa_cons pe_int pa_nil)))) (pe_op op_rep (pe_lst (pa_cons pe_int pa_nil)) pe_int)) (pe_op op_rep (pe_lst (pa_cons pe_int pa_nil)) pe_int)) (pe_op op_rep (pe_lst (pa_cons pe_int pa_nil)) pe_int)) pa_nil))))
    (pss_cons
      (ps_set (i := 3) sc_l_pool.nd rfl (Or.inl rfl) (pe_op op_add (pe_ix (ix_listK K) (pv 2) pe_int (fun _ _ => rfl)) pe_int))
    (pss_cons
      (ps_set (i := 4) sc_l_pool.nd rfl (Or.inr rfl) (pe_lc (own := [("_law_k", 5)]) rfl sc_l_pool.nd (pi_range1 rfl B.range (pa_cons (pv 3) pa_nil)) (blkOk_by (own := [("_law_k", 5)]) (N := N_l_pool) (sc := defScope s_l_pool) (by decide +kernel)) (fun _ _ _ _ _ => (pg_name (i := 5) sc_l_pool.nd rfl (Or.inl rfl))) (fun _ _ _ _ _ => pts_nil) (fun _ _ _ _ _ => (pe_ix (ix_tupK K) (pe_tup (pa_cons pe_int (pa_cons pe_int (pa_cons pe_int (pa_cons pe_int (pa_cons pe_int (pa_cons (pe_op op_add (pe_op op_pow pe_int pe_int) (pv 5)) pa_nil))))))) (pe_ix (ix_listK K) (pv 2) (pe_op op_add pe_int (pv 5)) (fun _ _ => rfl)) (fun _ _ => rfl)))))
    (pss_cons
      (ps_set (i := 6) sc_l_pool.nd rfl (Or.inl rfl) (pe_fn h_l_pairs (hr.mono (by decide)) rfl (pa_cons (pv 3) pa_nil)))
    (pss_cons
      (ps_set (i := 7) sc_l_pool.nd rfl (Or.inl rfl) (pe_lst pa_nil))
    (pss_cons
      (ps_for PassesOwn.never rfl (pi_range1 rfl B.range (pa_cons (pe_ix (ix_listK K) (pv 2) pe_int (fun _ _ => rfl)) pa_nil)) (pg_name (i := 8) sc_l_pool.nd rfl (Or.inl rfl))
      (pss_cons
        (ps_set (i := 9) sc_l_pool.nd rfl (Or.inr rfl) (pe_fn h_l_bits (hr.mono (by decide)) rfl (pa_cons (pe_ix (ix_listK K) (pv 2) (pe_op op_add pe_int (pv 8)) (fun _ _ => rfl)) (pa_cons (pv 3) pa_nil))))
      (C8.pss_cut
        (ps_if (PW.pt (pw_and (pt_cmpR op_eq (pe_ix (ix_listK K) (pv 2) pe_int (fun _ _ => rfl)) pe_int (nomark _)) (pw_and1 (pt_cmpR op_gt (pe_callB (lenK K) (by rfl) B.len PySem.boot_len (pa_cons (pv 6) pa_nil)) pe_int (nomark _)))))
        (pss_cons
          (ps_set (i := 10) sc_l_pool.nd rfl (Or.inr rfl) (pe_ix (ix_listK K) (pv 6) (pe_op op_mod (pe_callTy call_int1 (by rfl) B.int (by decide +kernel) (pa_cons (pe_ix (ix_listK K) (pv 2) (pe_op op_add pe_int (pv 8)) (fun _ _ => rfl)) pa_nil)) (pe_callB (lenK K) (by rfl) B.len PySem.boot_len (pa_cons (pv 6) pa_nil))) (fun _ _ => rfl)))
        (pss_one
          (ps_set (i := 9) sc_l_pool.nd rfl (Or.inr rfl) (pe_lc (own := [("_law_k", 5)]) rfl sc_l_pool.nd (pi_range1 rfl B.range (pa_cons (pv 3) pa_nil)) (blkOk_by (own := [("_law_k", 5)]) (N := N_l_pool) (sc := defScope s_l_pool) (by decide +kernel)) (fun _ _ _ _ _ => (pg_name (i := 5) sc_l_pool.nd rfl (Or.inl rfl))) (fun _ _ _ _ _ => pts_one (PW.pt (pw_or (pt_cmpR (inK K) (pv 5) (pv 9) (by rfl)) (pw_or1 (pt_cmpR (inK K) (pv 5) (pv 10) (by rfl)))))) (fun _ _ _ _ _ => (pv 5))))))
        pss_nil)
      (C8.pss_cut
        (ps_if (PW.pt (pw_and (pt_cmpR op_eq (pe_ix (ix_listK K) (pv 2) pe_int (fun _ _ => rfl)) pe_int (nomark _)) (pw_and1 (pt_cmpR op_gt (pe_callB (lenK K) (by rfl) B.len PySem.boot_len (pa_cons (pv 6) pa_nil)) pe_int (nomark _)))))
        (pss_one
          (ps_set (i := 9) sc_l_pool.nd rfl (Or.inr rfl) (pe_callTy (lstOfK K) (by rfl) B.list (by decide +kernel) (pa_cons (pe_ix (ix_listK K) (pv 6) (pe_op op_mod (pe_callTy call_int1 (by rfl) B.int (by decide +kernel) (pa_cons (pe_ix (ix_listK K) (pv 2) (pe_op op_add pe_int (pv 8)) (fun _ _ => rfl)) pa_nil)) (pe_callB (lenK K) (by rfl) B.len PySem.boot_len (pa_cons (pv 6) pa_nil))) (fun _ _ => rfl)) pa_nil))))
        pss_nil)
      (C8.pss_cut
        (ps_if (pt_cmpR op_eq (pe_ix (ix_listK K) (pv 2) pe_int (fun _ _ => rfl)) pe_int (nomark _))
        (pss_one
          (ps_set (i := 9) sc_l_pool.nd rfl (Or.inr rfl) (pe_fn h_l_bits (hr.mono (by decide)) rfl (pa_cons (pe_ix (ix_listK K) (pv 2) (pe_op op_add pe_int (pe_op op_fdiv (pv 8) pe_int)) (fun _ _ => rfl)) (pa_cons (pv 3) pa_nil)))))
        pss_nil)
      (pss_one
        (ps_expr (appK K (pv 7) (pv 9)))))))))
    (C8.pss_cut
      (ps_if (pt_cmpR op_eq (pe_ix (ix_listK K) (pv 2) pe_int (fun _ _ => rfl)) pe_int (nomark _))
      (pss_one
        (ps_set (i := 4) sc_l_pool.nd rfl (Or.inr rfl) (pe_lc (own := [("_law_k", 5)]) rfl sc_l_pool.nd (pi_range1 rfl B.range (pa_cons (pv 3) pa_nil)) (blkOk_by (own := [("_law_k", 5)]) (N := N_l_pool) (sc := defScope s_l_pool) (by decide +kernel)) (fun _ _ _ _ _ => (pg_name (i := 5) sc_l_pool.nd rfl (Or.inl rfl))) (fun _ _ _ _ _ => pts_nil) (fun _ _ _ _ _ => (pe_ix (ix_listK K) (pv 4) pe_int (fun _ _ => rfl))))))
      pss_nil)
    (pss_one
      (ps_ret (pe_tup (pa_cons (pv 4) (pa_cons (pv 7) pa_nil)))))))))))), ?_⟩
    refine ⟨_, rfl, _, rfl, _, _, rfl, rfl, by show 3 ≤ sizeLine; decide, fun l0 h0 => ?_⟩
    refine ⟨by show 1 ≤ sizeLine; decide, fun l1 h1 => ?_⟩
    refine ⟨l1, _, _, rfl, rfl, upd_same, by decide, by decide, by show 1 * 5 ≤ sizeLine; decide, fun l2 h2 => ?_⟩
    refine ⟨l0, l2, _, _, rfl, rfl, ((same_new h1).trans (same_new h2)) _ _ upd_same, upd_same, by show 3 + 5 ≤ sizeLine; decide, fun l3 h3 => ?_⟩
    refine ⟨by show 1 ≤ sizeLine; decide, fun l4 h4 => ?_⟩
    refine ⟨l4, _, _, rfl, rfl, upd_same, by decide, by decide, by show 1 * 8 ≤ sizeLine; decide, fun l5 h5 => ?_⟩
    refine ⟨l3, l5, _, _, rfl, rfl, ((same_new h4).trans (same_new h5)) _ _ upd_same, upd_same, by show 8 + 8 ≤ sizeLine; decide, fun l6 h6 => ?_⟩
    refine ⟨by show 1 ≤ sizeLine; decide, fun l7 h7 => ?_⟩
    refine ⟨l7, _, _, rfl, rfl, upd_same, by decide, by decide, by show 1 * 8 ≤ sizeLine; decide, fun l8 h8 => ?_⟩
    refine ⟨l6, l8, _, _, rfl, rfl, ((same_new h7).trans (same_new h8)) _ _ upd_same, upd_same, by show 16 + 8 ≤ sizeLine; decide, fun l9 h9 => ?_⟩
    refine ⟨z, l9, [5, most + 1, 5] ++ List.replicate 5 6 ++ List.replicate 8 32 ++ List.replicate 8 10, rfl, SqL.of (by rw [upd_same]; rfl), by show 3 + 5 + 8 + 8 ≤ 100; decide, fun x hx => ?_, fun p ds H1 hp0 s1 hp hdl hds => ?_⟩
    · have : x = 5 ∨ x = most + 1 ∨ x = 6 ∨ x = 32 ∨ x = 10 := by simp at hx; omega
      omega
    have hdl : ds.length = 24 := hdl
    have s1 := (((((((((same_new (o := .lst [.int 5, .int ((most : Int) + 1), .int 5]) h0).trans (same_new h1)).trans (same_new h2)).trans (same_new h3)).trans (same_new h4)).trans (same_new h5)).trans (same_new h6)).trans (same_new h7)).trans (same_new h8)).trans ((same_new h9).trans s1)
    have d0 := hds 0 (ds.getD 0 0) 5 (getD_at (by omega)) rfl
    have d1 := hds 1 (ds.getD 1 0) (most + 1) (getD_at (by omega)) rfl
    have dcap : ∀ i, i < 5 → ds.getD (3 + i) 0 < 6 := fun i hi => hds (3 + i) _ 6 (getD_at (by omega)) (by
      have : i = 0 ∨ i = 1 ∨ i = 2 ∨ i = 3 ∨ i = 4 := by omega
      rcases this with rfl | rfl | rfl | rfl | rfl <;> rfl)
    generalize hsd : ds.getD 0 0 = e0 at d0
    generalize hsd1 : ds.getD 1 0 = e1 at d1
    generalize hsd2 : ds.getD 2 0 = e2
    have g0 : ds[0]? = some e0 := by rw [← hsd]; exact getD_at (by omega)
    have g1 : ds[1]? = some e1 := by rw [← hsd1]; exact getD_at (by omega)
    have g2 : ds[2]? = some e2 := by rw [← hsd2]; exact getD_at (by omega)
    refine ⟨_, rfl, p, _, _, _, rfl, rfl, SqL.of hp, at_map (j := 0) g0, _, _, rfl, rfl, ?_⟩
    refine ⟨_, rfl, _, rfl, (range_ok (n := e0 + 1) (by omega)).1, (range_ok (n := e0 + 1) (by omega)).2, fun cD hcD => ?_⟩
    show ∃ W, _
    let menu : Nat → List Nat := fun i => [0, 1, 1, 2, 3, 10 ^ 12 + i]
    refine comp_range0 (n := e0 + 1) IsN ((List.range (e0 + 1)).map fun i => some ((menu i).getD (ds.getD (3 + i) 0) 0)) (by simp) (by simp; exact sz_le (by omega)) tups_N.same tups_N.updL hcD (fun i o H3 hi ho s3 Q' q1 q2 => ?_) (fun H2 acc s2 hacc pacc => ?_)
    · have ho' := map_range_at hi ho
      have hlt := dcap i (by omega)
      have hmi : (menu i)[ds.getD (3 + i) 0]? = some ((menu i).getD (ds.getD (3 + i) 0) 0) := getD_at (by show _ < 6; exact hlt)
      refine ⟨rfl, yesT ?_⟩
      refine ⟨_, _, rfl, rfl, (by constructor <;> decide), _, rfl, _, _, rfl, rfl, by show 6 ≤ sizeLine; decide, fun t ht => ?_⟩
      refine ⟨_, rfl, _, rfl, _, _, rfl, rfl, p, _, _, _, rfl, rfl, SqL.of ((same_new ht) _ _ (s3 _ _ hp)), at_map' (j := 3 + i) rfl (getD_at (by omega)), t, _, _, _, rfl, rfl, SqT.of upd_same, ?_, q2 _ _ _ (same_new ht) ho'.symm rfl⟩
      show atI ([V.int 0, V.int 1, V.int 1, V.int 2, V.int 3, V.int ((10 : Int) ^ ((12 : Int).toNat) + (i : Int))] : List V) _ = _
      rw [e12]
      exact at_map hmi
    have e : ((List.range (e0 + 1)).map fun i => some ((menu i).getD (ds.getD (3 + i) 0) 0)).filterMap id = (List.range (e0 + 1)).map fun i => (menu i).getD (ds.getD (3 + i) 0) 0 := by
      rw [← map_some_id ((List.range (e0 + 1)).map fun i => (menu i).getD (ds.getD (3 + i) 0) 0), List.map_map]; rfl
    rw [e] at pacc
    rw [paired_N pacc] at hacc
    clear pacc e
    generalize hcaps : ((List.range (e0 + 1)).map fun i => (menu i).getD (ds.getD (3 + i) 0) 0) = caps at hacc
    have hcl : caps.length = e0 + 1 := by rw [← hcaps]; simp
    have s12 := s1.trans s2
    have hp2 := s2 _ _ hp
    refine ⟨_, rfl, e0 + 1, rfl, by omega, fun pp us H3 hpp0 s3 hpp pus => ?_⟩
    have hp3 := s3 _ _ hp2
    have s13 := s12.trans s3
    have hc3 := s3 _ _ hacc
    have hpl := pairsN_len (e0 + 1)
    have hpl2 : (e0 + 1) * (e0 + 1) ≤ 5 * 5 := Nat.mul_le_mul (by omega) (by omega)
    have hul : us.length = (pairsN (e0 + 1)).length := pus.length
    refine ⟨Nat.zero_le _, fun Hd hHd => ?_⟩
    have hHd0 : H3 Hd = none := hHd
    have sH : Same H3 (upd H3 Hd (.lst [])) := same_new hHd
    refine ⟨_, rfl, p, _, _, _, rfl, rfl, SqL.of (sH _ _ hp3), at_map (j := 1) g1, _, rfl, (range_ok (n := e1) (by omega)).1, (range_ok (n := e1) (by omega)).2, ?_⟩
    show ∃ W, _
    refine for_range0 (n := e1) (fun i σ H' => ∃ (ws : List V) (hs : List (List Nat)) (v8 v9 v10 : Option V), σ = [some (.int z), some (vn most), some (.ref p), some (vn (e0 + 1)), some (.ref cD), none, some (.ref pp), some (.ref Hd), v8, v9, v10] ∧ PlI H3 Hd (e0 + 1) i H' ws hs)
      ⟨[], [], none, none, none, rfl, sH, upd_same, .nil, rfl, fun h hh => by simp at hh⟩ ?_ ?_
    · rintro i σ H' hi ⟨ws, hs, v8, v9, v10, rfl, I⟩
      have gi8 : ds[8 + i]? = some (ds.getD (8 + i) 0) := getD_at (by omega)
      refine ⟨_, rfl, _, rfl, _, _, rfl, rfl, p, _, _, _, rfl, rfl, SqL.of (I.same _ _ hp3), at_map' (j := 8 + i) rfl gi8, _, rfl, _, e0 + 1, rfl, by omega, fun hl H4 hhl0 s4 hhl => ?_⟩
      let MID : St → Hp → Prop := fun σ H' => ∃ (ws : List V) (hs : List (List Nat)) (hl : Addr) (h : List Nat) (v10 : Option V), σ = [some (.int z), some (vn most), some (.ref p), some (vn (e0 + 1)), some (.ref cD), none, some (.ref pp), some (.ref Hd), some (vn i), some (.ref hl), v10] ∧ PlI H3 Hd (e0 + 1) i H' ws hs ∧ H' hl = some (.lst (h.map vn)) ∧ hl ≠ Hd ∧ RowOk (e0 + 1) h
      refine ⟨MID, ?_, ?_⟩
      · have nHl : hl ≠ Hd := fun z => by rw [z, I.list] at hhl0; cases hhl0
        have I4 := I.later s4
        have hp4 := I4.same _ _ hp3
        have hpp4 := I4.same _ _ hpp
        refine ⟨_, rfl, p, _, _, _, rfl, rfl, SqL.of hp4, at_map (j := 2) g2, rfl, _, rfl, ?_⟩
        refine ite2 (fun _ => ?_) (fun _ => ?_)
        · refine ⟨_, rfl, pp, _, rfl, .inl (SqL.of hpp4), _, _, rfl, rfl, _, rfl, ?_⟩
          refine ite2 (fun hc => ?_) (fun _ => ?_)
          · have hpos : 0 < us.length := by simpa using hc
            rw [hul] at hpos
            generalize hdi : ds.getD (16 + i) 0 = d
            have gi : ds[16 + i]? = some d := by rw [← hdi]; exact getD_at (by omega)
            have hlt : d % (pairsN (e0 + 1)).length < (pairsN (e0 + 1)).length := Nat.mod_lt _ hpos
            obtain ⟨x, hx, rx⟩ := paired_at' (tups_P.all (tk_of I4.same) pus) (List.getElem?_eq_getElem hlt)
            obtain ⟨t, rfl, ht⟩ := rx
            generalize (pairsN (e0 + 1))[d % (pairsN (e0 + 1)).length] = pr at ht
            refine ⟨_, rfl, _, rfl, _, rfl, _, _, rfl, rfl, p, _, _, _, rfl, rfl, SqL.of hp4, at_map' (j := 16 + i) rfl gi, .inl ⟨_, rfl, _, rfl, pp, _, rfl, .inl (SqL.of hpp4), _, _, rfl, rfl, (by rw [hul]; show (0 : Int) < _; omega), pp, us, _, .ref t, rfl, rfl, SqL.of hpp4, ?_, ?_⟩⟩
            · show atI us (((d : Nat) : Int) % ((us.length : Nat) : Int)) = some (.ref t)
              rw [hul, nmod]
              exact atN hx
            ·
              refine ⟨_, rfl, _, rfl, (range_ok (n := e0 + 1) (by omega)).1, (range_ok (n := e0 + 1) (by omega)).2, fun D hD => ?_⟩
              show ∃ W, _
              let cc : Nat → Bool := fun x => (bitsA (ds.getD (8 + i) 0) (e0 + 1)).contains x || ([pr.1, pr.2] : List Nat).contains x
              refine comp_range0 (n := e0 + 1) IsN ((List.range (e0 + 1)).map fun x => if cc x then some x else none) (by simp) (by simp; exact sz_le (by omega)) tups_N.same tups_N.updL hD (fun x o H5 hx ho s5 Q' q1 q2 => ?_) (fun H5 acc5 s5 hacc5 pacc5 => ?_)
              · have ho' := map_range_at hx ho
                refine ⟨rfl, ?_⟩
                refine ⟨_, rfl, _, rfl, hl, _, rfl, .inl (SqL.of (s5 _ _ hhl)), rfl, flat_map _, _, rfl, ?_⟩
                rw [inV_map]
                show (if (if false = true then !_ else _) = true then _ else _)
                rw [if_neg Bool.false_ne_true]
                refine ite2 (fun h1 => ?_) (fun h1 => ?_)
                · refine iteT ?_
                  exact ⟨_, rfl, q2 _ x _ (Same.refl _) (by rw [← ho', if_pos (by simp only [cc, h1, Bool.true_or])]) rfl⟩
                · refine ⟨_, rfl, _, rfl, t, _, rfl, .inr (SqT.of (s5 _ _ ht)), rfl, flat_map [pr.1, pr.2], _, rfl, ?_⟩
                  have e2 : inV (V.int ((x : Nat) : Int)) [vn pr.1, vn pr.2] = ([pr.1, pr.2] : List Nat).contains x := inV_map x [pr.1, pr.2]
                  rw [e2]
                  show (if (if false = true then !_ else _) = true then _ else _)
                  rw [if_neg Bool.false_ne_true]
                  refine ite2 (fun h2 => ?_) (fun h2 => ?_)
                  · exact ⟨_, rfl, q2 _ x _ (Same.refl _) (by rw [← ho', if_pos (by simp only [cc, h2, Bool.or_true])]) rfl⟩
                  · exact q1 _ (Same.refl _) (by rw [← ho', if_neg (by simp only [cc]; intro z; rcases Bool.or_eq_true_iff.mp z with y | y; exact h1 y; exact h2 y)])
              · rw [filterMap_if] at pacc5
                rw [paired_N pacc5] at hacc5
                have nD : D ≠ Hd := fun z => by rw [z, I4.list] at hD; cases hD
                exact ⟨ws, hs, D, _, _, rfl, I4.later s5, hacc5, nD, List.Pairwise.filter _ List.pairwise_lt_range, fun y hy => List.mem_range.mp (List.mem_filter.mp hy).1⟩
          · exact ⟨ws, hs, hl, _, _, rfl, I4, hhl, nHl, bits_ok _ _⟩
        · refine ite2 (fun hc => (by cases hc)) (fun _ => ?_)
          exact ⟨ws, hs, hl, _, _, rfl, I4, hhl, nHl, bits_ok _ _⟩
      ·
        rintro σ H5 ⟨ws, hs, hl, h, v10, rfl, I5, hhl5, nHl, hrow⟩
        refine ⟨MID, ?_, ?_⟩
        · have hp5 := I5.same _ _ hp3
          have hpp5 := I5.same _ _ hpp
          refine ⟨_, rfl, p, _, _, _, rfl, rfl, SqL.of hp5, at_map (j := 2) g2, rfl, _, rfl, ?_⟩
          refine ite2 (fun _ => ?_) (fun _ => ?_)
          · refine ⟨_, rfl, pp, _, rfl, .inl (SqL.of hpp5), _, _, rfl, rfl, _, rfl, ?_⟩
            refine ite2 (fun hc => ?_) (fun _ => ?_)
            · have hpos : 0 < us.length := by simpa using hc
              rw [hul] at hpos
              generalize hdi : ds.getD (16 + i) 0 = d
              have gi : ds[16 + i]? = some d := by rw [← hdi]; exact getD_at (by omega)
              have hlt : d % (pairsN (e0 + 1)).length < (pairsN (e0 + 1)).length := Nat.mod_lt _ hpos
              obtain ⟨x, hx, rx⟩ := paired_at' (tups_P.all (tk_of I5.same) pus) (List.getElem?_eq_getElem hlt)
              obtain ⟨t, rfl, ht⟩ := rx
              have hm := mem_pairsN.mp (List.getElem_mem hlt)
              generalize (pairsN (e0 + 1))[d % (pairsN (e0 + 1)).length] = pr at ht hm
              refine ⟨_, rfl, _, rfl, _, rfl, _, _, rfl, rfl, p, _, _, _, rfl, rfl, SqL.of hp5, at_map' (j := 16 + i) rfl gi, .inl ⟨_, rfl, _, rfl, pp, _, rfl, .inl (SqL.of hpp5), _, _, rfl, rfl, (by rw [hul]; show (0 : Int) < _; omega), pp, us, _, _, rfl, rfl, SqL.of hpp5, ?_, t, _, rfl, .inr (SqT.of ht), fun l hl' => ?_⟩⟩
              · show atI us (((d : Nat) : Int) % ((us.length : Nat) : Int)) = some (.ref t)
                rw [hul, nmod]
                exact atN hx
              · have sl : Same H5 (upd H5 l (.lst [vn pr.1, vn pr.2])) := same_new hl'
                have nl : l ≠ Hd := fun z => by rw [z, I5.list] at hl'; cases hl'
                refine ⟨ws, hs, l, [pr.1, pr.2], _, rfl, I5.later sl, upd_same, nl, ?_, fun y hy => ?_⟩
                · simp [hm.1]
                · have : y = pr.1 ∨ y = pr.2 := by simpa using hy
                  omega
            · exact ⟨ws, hs, hl, h, _, rfl, I5, hhl5, nHl, hrow⟩
          · refine ite2 (fun hc => (by cases hc)) (fun _ => ?_)
            exact ⟨ws, hs, hl, h, _, rfl, I5, hhl5, nHl, hrow⟩
        ·
          rintro σ H6 ⟨ws, hs, hl, h, v10, rfl, I6, hhl6, nHl6, hrow6⟩
          refine ⟨MID, ?_, ?_⟩
          · have hp6 := I6.same _ _ hp3
            refine ⟨_, rfl, p, _, _, _, rfl, rfl, SqL.of hp6, at_map (j := 2) g2, rfl, _, rfl, ?_⟩
            refine ite2 (fun _ => ?_) (fun _ => ?_)
            · have gi : ds[8 + i / 4]? = some (ds.getD (8 + i / 4) 0) := getD_at (by omega)
              refine ⟨_, rfl, _, rfl, _, _, rfl, rfl, ⟨by decide, by decide⟩, _, _, rfl, rfl, p, _, _, _, rfl, rfl, SqL.of hp6, at_map' (j := 8 + i / 4) (by omega) gi, _, rfl, _, e0 + 1, rfl, by omega, fun hl7 H7 hhl70 s7 hhl7 => ?_⟩
              have n7 : hl7 ≠ Hd := fun z => by rw [z, I6.list] at hhl70; cases hhl70
              exact ⟨ws, hs, hl7, _, _, rfl, I6.later s7, hhl7, n7, bits_ok _ _⟩
            · exact ⟨ws, hs, hl, h, _, rfl, I6, hhl6, nHl6, hrow6⟩
          ·
            rintro σ H7 ⟨ws, hs, hl, h, v10, rfl, I7, hhl7, nHl7, hrow7⟩
            refine ⟨_, rfl, .inl ⟨rfl, _, SqL.of I7.list⟩, _, rfl, Hd, ws, _, rfl, rfl, I7.list, by rw [I7.rows.length, I7.len]; exact sz_le (by omega), ?_⟩
            refine ⟨ws ++ [.ref hl], hs ++ [h], _, _, _, rfl, same_put I7.same hHd0, upd_same, Paired.snoc (Paired.mapP I7.rows fun v h q => isL_upd _ _ _ I7.list v h q) ⟨hl, rfl, nHl7, by rw [upd_ne nHl7]; exact hhl7⟩, by rw [List.length_append, I7.len]; rfl, fun h' hh => ?_⟩
            rcases List.mem_append.mp hh with z | z
            · exact I7.ok h' z
            · rw [List.mem_singleton.mp z]; exact hrow7
    · rintro σ H' ⟨ws, hs, v8, v9, v10, rfl, I⟩
      refine ⟨fun σ H' => ∃ (cD : Addr) (caps : List Nat), σ = [some (.int z), some (vn most), some (.ref p), some (vn (e0 + 1)), some (.ref cD), none, some (.ref pp), some (.ref Hd), v8, v9, v10] ∧ PlI H3 Hd (e0 + 1) e1 H' ws hs ∧ H' cD = some (.lst (caps.map vn)) ∧ caps.length = e0 + 1, ?_, ?_⟩
      · have hp4 := I.same _ _ hp3
        have hc4 := I.same _ _ hc3
        refine ⟨_, rfl, p, _, _, _, rfl, rfl, SqL.of hp4, at_map (j := 2) g2, rfl, _, rfl, ?_⟩
        refine ite2 (fun _ => ?_) (fun _ => ?_)
        · refine ⟨_, rfl, _, rfl, (range_ok (n := e0 + 1) (by omega)).1, (range_ok (n := e0 + 1) (by omega)).2, fun D hD => ?_⟩
          show ∃ W, _
          refine comp_range0 (n := e0 + 1) IsN ((List.range (e0 + 1)).map fun _ => some (caps.getD 0 0)) (by simp) (by simp; exact sz_le (by omega)) tups_N.same tups_N.updL hD (fun x o H5 hx ho s5 Q' q1 q2 => ?_) (fun H5 acc5 s5 hacc5 pacc5 => ?_)
          · have ho' := map_range_at hx ho
            refine ⟨rfl, yesT ?_⟩
            refine ⟨_, rfl, cD, _, _, _, rfl, rfl, SqL.of (s5 _ _ hc4), at_map (j := 0) (getD_at (by omega)), ?_⟩
            exact q2 _ _ _ (Same.refl _) ho'.symm rfl
          · have e : ((List.range (e0 + 1)).map fun _ => some (caps.getD 0 0)).filterMap id = (List.range (e0 + 1)).map fun _ => caps.getD 0 0 := by
              rw [← map_some_id ((List.range (e0 + 1)).map fun _ => caps.getD 0 0), List.map_map]; rfl
            rw [e] at pacc5
            rw [paired_N pacc5] at hacc5
            exact ⟨D, _, rfl, I.later s5, hacc5, by simp⟩
        · exact ⟨cD, caps, rfl, I, hc4, hcl⟩
      · rintro σ H5 ⟨cD, caps, rfl, I5, hc5, hcl5⟩
        refine ⟨_, rfl, _, rfl, by show 2 ≤ sizeLine; decide, fun t ht => ?_⟩
        have st : Same H5 (upd H5 t (.tup [.ref cD, .ref Hd])) := same_new ht
        exact k t cD Hd caps ws hs _ (s13.trans (I5.same.trans st)) upd_same (st _ _ hc5) (st _ _ I5.list) (Paired.mapP I5.rows fun v h q => lst_same st (lst_of q)) ⟨by omega, by omega, by rw [I5.len]; omega, fun h hh => by rw [hcl5]; exact I5.ok h hh⟩
end
end BL
set_option Elab.async false
set_option linter.all false
set_option maxRecDepth 100000
set_option maxHeartbeats 4000000
/-! The plain law, third part: lots by their masks. -/
namespace BL
def mk (S : Nat → Bool) : Nat → Nat
  | 0 => 0
  | n + 1 => mk S n + if S n = true then 2 ^ n else 0
theorem mk_lt (S : Nat → Bool) : ∀ n, mk S n < 2 ^ n
  | 0 => by show 0 < 1; decide
  | n + 1 => by
    have := mk_lt S n
    unfold mk
    rw [Nat.pow_succ]
    split <;> omega
theorem mk_congr {S T : Nat → Bool} : ∀ n, (∀ k, k < n → S k = T k) → mk S n = mk T n
  | 0, _ => rfl
  | n + 1, h => by unfold mk; rw [mk_congr n fun k hk => h k (by omega), h n (by omega)]
theorem mk_bit (S : Nat → Bool) : ∀ n k, k < n → (mk S n / 2 ^ k % 2 = 1 ↔ S k = true)
  | 0, k, h => absurd h (Nat.not_lt_zero _)
  | n + 1, k, h => by
    by_cases e : k = n
    · subst e
      have hl := mk_lt S k
      have hp : 0 < 2 ^ k := Nat.pow_pos (by decide)
      show (mk S k + if S k = true then 2 ^ k else 0) / 2 ^ k % 2 = 1 ↔ _
      cases hS : S k with
      | false => rw [if_neg (by simp), Nat.add_zero, Nat.div_eq_of_lt hl]; simp
      | true => rw [if_pos rfl, Nat.add_div_right _ hp, Nat.div_eq_of_lt hl]; simp
    · have hk : k < n := by omega
      have ih := mk_bit S n k hk
      show (mk S n + if S n = true then 2 ^ n else 0) / 2 ^ k % 2 = 1 ↔ _
      rw [← ih]
      cases hS : S n with
      | false => rw [if_neg (by simp), Nat.add_zero]
      | true =>
        rw [if_pos rfl]
        have e2 : 2 ^ n = 2 ^ k * (2 * 2 ^ (n - k - 1)) := by
          rw [← Nat.mul_assoc, ← Nat.pow_succ, ← Nat.pow_add]
          congr 1; omega
        rw [e2, Nat.add_mul_div_left _ _ (Nat.pow_pos (by decide)), Nat.add_mul_mod_self_left]
theorem bitsA_mk (S : Nat → Bool) (n : Nat) : bitsA (mk S n) n = (List.range n).filter S := by
  unfold bitsA
  refine List.filter_congr fun k hk => ?_
  have := mk_bit S n k (List.mem_range.mp hk)
  cases hS : S k with
  | true => exact decide_eq_true (this.mpr hS)
  | false => exact decide_eq_false fun z => by rw [this.mp z] at hS; cases hS
theorem mk_add {S : Nat → Bool} {p : Nat} : ∀ n, p < n → S p = false → mk (fun x => S x || x == p) n = mk S n + 2 ^ p
  | 0, h, _ => absurd h (Nat.not_lt_zero _)
  | n + 1, h, hS => by
    unfold mk
    by_cases e : p = n
    · subst e
      rw [mk_congr (S := fun x => S x || x == p) (T := S) p fun k hk => by
        have : (k == p) = false := by simp; omega
        simp [this]]
      simp [hS]
    · rw [mk_add n (by omega) hS]
      have : (n == p) = false := by simp; omega
      simp only [this, Bool.or_false]
      omega
theorem lotsA_mk (S : Nat → Bool) : ∀ n, (lotsA n)[mk S n]? = some ((List.range n).filter S)
  | 0 => rfl
  | n + 1 => by
    have ih := lotsA_mk S n
    have hl := mk_lt S n
    have hlen := lotsA_len n
    rw [List.range_succ, List.filter_append]
    show (lotsA n ++ (lotsA n).map fun l => l ++ [n])[mk S n + if S n = true then 2 ^ n else 0]? = _
    cases hS : S n with
    | false =>
      rw [if_neg (by simp), Nat.add_zero, List.getElem?_append_left (by omega), ih]
      simp [hS]
    | true =>
      rw [if_pos rfl, List.getElem?_append_right (by omega), hlen, Nat.add_sub_cancel, List.getElem?_map, ih]
      simp [hS]
theorem mk_surj : ∀ n i, i < 2 ^ n → ∃ S : Nat → Bool, (∀ k, S k = true → k < n) ∧ mk S n = i
  | 0, i, h => ⟨fun _ => false, fun k hk => (by cases hk), by have : i = 0 := by simpa using h
                                                              rw [this]; rfl⟩
  | n + 1, i, h => by
    rw [Nat.pow_succ] at h
    by_cases hi : i < 2 ^ n
    · obtain ⟨S, h1, h2⟩ := mk_surj n i hi
      refine ⟨S, fun k hk => Nat.lt_succ_of_lt (h1 k hk), ?_⟩
      have : S n = false := by
        cases q : S n with
        | false => rfl
        | true => exact absurd (h1 n q) (Nat.lt_irrefl _)
      unfold mk; rw [h2, this]; simp
    · obtain ⟨S, h1, h2⟩ := mk_surj n (i - 2 ^ n) (by omega)
      refine ⟨fun x => S x || x == n, fun k hk => ?_, ?_⟩
      · rcases Bool.or_eq_true_iff.mp hk with z | z
        · exact Nat.lt_succ_of_lt (h1 k z)
        · rw [show k = n from by simpa using z]; exact Nat.lt_succ_self n
      · show mk (fun x => S x || x == n) n + _ = i
        rw [mk_congr (S := fun x => S x || x == n) (T := S) n fun k hk => by
          have : (k == n) = false := by simp; omega
          simp [this], h2]
        simp
        omega
theorem mk_sum (S : Nat → Bool) : ∀ n, (((List.range n).filter S).map fun i => 2 ^ i).sum = mk S n
  | 0 => rfl
  | n + 1 => by
    rw [List.range_succ, List.filter_append, List.map_append, List.sum_append, mk_sum S n]
    show mk S n + _ = mk S n + (if S n = true then 2 ^ n else 0)
    cases hS : S n <;> simp [hS]
theorem filter_len (S : Nat → Bool) (n : Nat) : ((List.range n).filter S).length = cnt n S := by unfold cnt; rw [List.countP_eq_length_filter]
theorem cast_sum (l : List Nat) : (l.map fun n : Nat => (n : Int)).sum = ((l.sum : Nat) : Int) := by
  induction l with
  | nil => rfl
  | cons a l ih => rw [List.map_cons, List.sum_cons, List.sum_cons, ih]; omega
section
variable {caps : List Nat} {hs : List (List Nat)}
theorem touch_congr {S T : Nat → Bool} (h : ∀ i, i < hs.length → S i = T i) (p : Nat × Nat) : touch hs S p = touch hs T p := by
  rw [Bool.eq_iff_iff, touch_iff, touch_iff]
  constructor
  · rintro ⟨i, h1, h2, h3⟩; exact ⟨i, h1, by rw [← h i h1]; exact h2, h3⟩
  · rintro ⟨i, h1, h2, h3⟩; exact ⟨i, h1, by rw [h i h1]; exact h2, h3⟩
theorem places_congr {S T : Nat → Bool} (h : ∀ i, i < hs.length → S i = T i) : places caps hs S = places caps hs T := by
  unfold places
  congr 1
  refine List.map_congr_left fun p _ => ?_
  rw [touch_congr h]
/-- Hall's condition, one piece less -/
theorem hall_rec {S : Nat → Bool} : Hall caps hs S ↔ cnt hs.length S ≤ places caps hs S ∧ ∀ p, p < hs.length → S p = true → Hall caps hs fun x => S x && !(x == p) := by
  constructor
  · intro h
    exact ⟨h S fun _ z => z, fun p _ _ => h.sub fun i hi => (Bool.and_eq_true_iff.mp hi).1⟩
  · rintro ⟨h1, h2⟩ T hT
    by_cases hex : ∃ p, p < hs.length ∧ S p = true ∧ T p = false
    · obtain ⟨p, hp, hS, hTp⟩ := hex
      refine h2 p hp hS T fun i hi => ?_
      have hne : i ≠ p := fun z => by rw [z, hTp] at hi; cases hi
      simp [hT i hi, hne]
    · have hall : ∀ i, i < hs.length → T i = S i := fun i hi => by
        cases hS : S i with
        | false =>
          cases hTi : T i with
          | false => rfl
          | true => rw [hT i hTi] at hS; cases hS
        | true =>
          cases hTi : T i with
          | true => rfl
          | false => exact absurd ⟨i, hi, hS, hTi⟩ hex
      rw [cnt_congr hall, places_congr hall]
      exact h1
theorem Hall.congr' {S T : Nat → Bool} (e : ∀ i, i < hs.length → S i = T i) : Hall caps hs S ↔ Hall caps hs T := by
  have key : ∀ {S T : Nat → Bool}, (∀ i, i < hs.length → S i = T i) → Hall caps hs S → Hall caps hs T := by
    intro S T e h U hU
    have := h (fun i => decide (i < hs.length) && U i) fun i hi => by
      simp only [Bool.and_eq_true, decide_eq_true_eq] at hi
      rw [e i hi.1]; exact hU i hi.2
    have e2 : ∀ i, i < hs.length → (decide (i < hs.length) && U i) = U i := fun i hi => by simp [hi]
    rwa [cnt_congr e2, places_congr e2] at this
  exact ⟨key e, key fun i hi => (e i hi).symm⟩
end
/-- bs tells of each mask whether its lot meets the condition -/
def Table (caps : List Nat) (hs : List (List Nat)) (k : Nat) (bs : List Bool) : Prop := bs.length = k ∧ ∀ S : Nat → Bool, (∀ i, S i = true → i < hs.length) → mk S hs.length < k → ∃ b, bs[mk S hs.length]? = some b ∧ (b = true ↔ Hall caps hs S)
theorem mk_del {S : Nat → Bool} {n p : Nat} (hp : p < n) (hS : S p = true) : mk (fun x => S x && !(x == p)) n + 2 ^ p = mk S n := by
  rw [← mk_add n hp (by simp)]
  refine mk_congr n fun k _ => ?_
  by_cases e : k = p
  · subst e; simp [hS]
  · have : (k == p) = false := by simpa using e
    simp [this]
theorem pow6 : ∀ i, i < 6 → ([L2.V.int 1, L2.V.int 2, L2.V.int 4, L2.V.int 8, L2.V.int 16, L2.V.int 32] : List L2.V)[i]? = some (vn (2 ^ i)) := by decide
end BL
set_option Elab.async false
set_option linter.all false
set_option maxRecDepth 100000
set_option maxHeartbeats 4000000
/-! The plain law, fourth part: the law's own collectors. -/
namespace BL
open L2
/-- what is collected after i pieces -/
structure GrI (Ok : (Nat → Bool) → Prop) (ord : List Nat) (i : Nat) (S : Nat → Bool) : Prop where
  sub : ∀ x, S x = true → x ∈ ord.take i
  join : ∀ j p, j < i → ord[j]? = some p → (S p = true ↔ Ok fun x => ((ord.take j).contains x && S x) || x == p)
theorem GrI.zero {Ok : (Nat → Bool) → Prop} {ord : List Nat} : GrI Ok ord 0 fun _ => false := ⟨fun x hx => (by cases hx), fun j p hj => (by omega)⟩
theorem GrI.notin {Ok : (Nat → Bool) → Prop} {ord : List Nat} {i : Nat} {S : Nat → Bool} {p : Nat} (I : GrI Ok ord i S) (hn : ord.Nodup) (hp : ord[i]? = some p) : S p = false := by
  cases z : S p with
  | false => rfl
  | true => exact absurd (I.sub p z) (not_in_take hn hp)
theorem GrI.step {Ok : (Nat → Bool) → Prop} {ord : List Nat} {i : Nat} {S : Nat → Bool} {p : Nat} (I : GrI Ok ord i S) (hn : ord.Nodup) (hp : ord[i]? = some p) (b : Bool) (hb : b = true ↔ Ok fun x => S x || x == p) :
    GrI Ok ord (i + 1) fun x => S x || (b && x == p) := by
  have hS := I.notin hn hp
  refine ⟨fun x hx => ?_, fun j q hj hq => ?_⟩
  · rw [take_snoc hp]
    rcases Bool.or_eq_true_iff.mp hx with z | z
    · exact List.mem_append_left _ (I.sub x z)
    · rw [show x = p from by simpa using (Bool.and_eq_true_iff.mp z).2]; exact List.mem_append_right _ (List.mem_singleton.mpr rfl)
  · by_cases e : j < i
    · have hqp : q ≠ p := fun z => by subst z; have := nd_ix hn hq hp; omega
      have hqb : (q == p) = false := by simpa using hqp
      show (S q || (b && q == p)) = true ↔ _
      rw [hqb, Bool.and_false, Bool.or_false, I.join j q e hq]
      rw [show (fun x => ((ord.take j).contains x && (S x || (b && x == p))) || x == q) = fun x => ((ord.take j).contains x && S x) || x == q from funext fun x => by
        cases hc : (ord.take j).contains x with
        | false => rfl
        | true =>
          have hxp : (x == p) = false := by
            have hm : x ∈ ord.take j := by simpa using hc
            obtain ⟨m, hm1, hm2⟩ := take_mem_lt hm
            have : x ≠ p := fun z => by subst z; have := nd_ix hn hm2 hp; omega
            simpa using this
          rw [hxp]; simp]
    · have : j = i := by omega
      subst this
      rw [hp] at hq
      cases hq
      show (S p || (b && p == p)) = true ↔ _
      rw [hS, Bool.false_or, beq_self_eq_true, Bool.and_true, hb]
      rw [show (fun x => ((ord.take j).contains x && (S x || (b && x == p))) || x == p) = fun x => S x || x == p from funext fun x => by
        by_cases e2 : x = p
        · subst e2; simp
        · have hxp : (x == p) = false := by simpa using e2
          simp only [hxp, Bool.and_false, Bool.or_false]
          cases q : S x with
          | false => simp
          | true => have := I.sub x q; simp [this]]
theorem GrI.done {Ok : (Nat → Bool) → Prop} {ord : List Nat} {S : Nat → Bool} (I : GrI Ok ord ord.length S) : Greedy Ok ord S :=
  ⟨fun x hx => by have := I.sub x hx; rwa [List.take_length] at this, fun j p hp => I.join j p (List.getElem?_eq_some_iff.mp hp).1 hp⟩
section
variable {caps : List Nat} {hs : List (List Nat)}
theorem Table.snoc {k : Nat} {bs : List Bool} (t : Table caps hs k bs) {S : Nat → Bool} (hS : ∀ i, S i = true → i < hs.length) (hm : mk S hs.length = k) {b : Bool} (hb : b = true ↔ Hall caps hs S) : Table caps hs (k + 1) (bs ++ [b]) := by
  refine ⟨by rw [List.length_append, t.1]; rfl, fun T hT hk => ?_⟩
  by_cases e : mk T hs.length < k
  · obtain ⟨c, hc, hc2⟩ := t.2 T hT e
    exact ⟨c, by rw [List.getElem?_append_left (by rw [t.1]; exact e)]; exact hc, hc2⟩
  · have e2 : mk T hs.length = k := by omega
    refine ⟨b, by rw [List.getElem?_append_right (by rw [t.1]; omega), t.1, e2, Nat.sub_self]; rfl, ?_⟩
    rw [hb]
    refine Hall.congr' fun i hi => ?_
    have h1 := mk_bit S hs.length i hi
    have h2 := mk_bit T hs.length i hi
    rw [hm] at h1; rw [e2] at h2
    have h3 := h1.symm.trans h2
    cases h : S i <;> cases h' : T i <;> simp_all
/-- the pair that a row of two tells -/
def prOf (h : List Nat) : Option (Nat × Nat) := match h with
  | [x, y] => some (x, y)
  | _ => none
theorem sum_only {α : Type} [DecidableEq α] {a : α} {f : α → Nat} {r : Nat} (ha : f a ≤ r) : ∀ l : List α, l.Nodup → (∀ b ∈ l, b ≠ a → f b = 0) → (l.map f).sum ≤ r
  | [], _, _ => Nat.zero_le _
  | b :: l, hn, h => by
    obtain ⟨h1, h2⟩ := List.nodup_cons.mp hn
    rw [List.map_cons, List.sum_cons]
    by_cases e : b = a
    · subst e
      rw [sum_zero l fun c hc => h c (List.mem_cons_of_mem _ hc) fun z => h1 (z ▸ hc)]
      omega
    · rw [h b (List.mem_cons_self ..) e, Nat.zero_add]
      exact sum_only ha l h2 fun c hc => h c (List.mem_cons_of_mem _ hc)
theorem apart_row (ok : ApartOk caps hs) {i : Nat} (hi : i < hs.length) : ∃ x y, hs.getD i [] = [x, y] ∧ x < y ∧ y < caps.length := by
  have : hs.getD i [] ∈ hs := by
    rw [List.getD_eq_getElem?_getD, List.getElem?_eq_getElem hi]; exact List.getElem_mem hi
  exact ok.row _ this
theorem apart_touch (ok : ApartOk caps hs) {T : Nat → Bool} {p : Nat × Nat} (hp : p.1 < p.2) : touch hs T p = true ↔ ∃ i, i < hs.length ∧ T i = true ∧ prOf (hs.getD i []) = some p := by
  rw [touch_iff]
  constructor
  · rintro ⟨i, hi, h1, h2, h3⟩
    obtain ⟨x, y, e, hxy, _⟩ := apart_row ok hi
    refine ⟨i, hi, h1, ?_⟩
    rw [e] at h2 h3 ⊢
    show some (x, y) = some p
    have h2 : p.1 = x ∨ p.1 = y := by simpa using h2
    have h3 : p.2 = x ∨ p.2 = y := by simpa using h3
    have h4 : p.1 = x := by omega
    have h5 : p.2 = y := by omega
    rw [← h4, ← h5]
  · rintro ⟨i, hi, h1, h2⟩
    obtain ⟨x, y, e, hxy, _⟩ := apart_row ok hi
    rw [e] at h2
    have h2 : some (x, y) = some p := h2
    cases h2
    exact ⟨i, hi, h1, by rw [e]; simp, by rw [e]; simp⟩
theorem apart_hall (ok : ApartOk caps hs) {S : Nat → Bool} : Hall caps hs S ↔ ∀ p ∈ pairsN caps.length, cnt hs.length (fun i => S i && decide (prOf (hs.getD i []) = some p)) ≤ roomA caps p := by
  constructor
  · intro h p hp
    refine Nat.le_trans (h (fun i => S i && decide (prOf (hs.getD i []) = some p)) fun i hi => (Bool.and_eq_true_iff.mp hi).1) ?_
    refine sum_only (a := p) ?_ _ (pairsN_nodup _) fun q hq hne => ?_
    · show (if _ then roomA caps p else 0) ≤ roomA caps p
      split
      · exact Nat.le_refl _
      · exact Nat.zero_le _
    · refine if_neg fun z => ?_
      obtain ⟨i, hi, h1, h2⟩ := (apart_touch ok (mem_pairsN.mp hq).1).mp z
      have h3 := of_decide_eq_true (Bool.and_eq_true_iff.mp h1).2
      rw [h2] at h3
      exact hne (Option.some.inj h3)
  · intro h T hT
    unfold cnt
    rw [count_split (e := fun i => prOf (hs.getD i [])) (ps := pairsN caps.length) (pairsN_nodup _) (List.range hs.length) fun i hi hTi => by
      obtain ⟨x, y, e, hxy, hy⟩ := apart_row ok (List.mem_range.mp hi)
      exact ⟨(x, y), mem_pairsN.mpr ⟨hxy, hy⟩, by rw [e]; rfl⟩]
    refine sum_le _ fun p hp => ?_
    by_cases ht : touch hs T p = true
    · rw [if_pos ht]
      refine Nat.le_trans ?_ (h p hp)
      refine cnt_mono (n := hs.length) fun i _ hi => ?_
      rw [Bool.and_eq_true_iff] at hi ⊢
      exact ⟨hT i hi.1, hi.2⟩
    · rw [if_neg ht, Nat.le_zero]
      refine List.countP_eq_zero.mpr fun i hi z => ht ?_
      rw [Bool.and_eq_true_iff] at z
      exact (apart_touch ok (mem_pairsN.mp hp).1).mpr ⟨i, List.mem_range.mp hi, z.1, of_decide_eq_true z.2⟩
theorem apart_step (ok : ApartOk caps hs) {S : Nat → Bool} (hS : Hall caps hs S) {p : Nat} (hp : p < hs.length) (hSp : S p = false) {pr : Nat × Nat} (hpr : prOf (hs.getD p []) = some pr) :
    cnt hs.length (fun i => S i && decide (hs.getD i [] = hs.getD p [])) < roomA caps pr ↔ Hall caps hs fun x => S x || x == p := by
  obtain ⟨x, y, e, hxy, hy⟩ := apart_row ok hp
  have epr : pr = (x, y) := by rw [e] at hpr; exact (Option.some.inj hpr).symm
  have hmem : pr ∈ pairsN caps.length := mem_pairsN.mpr (by rw [epr]; exact ⟨hxy, hy⟩)
  have ek : ∀ i, i < hs.length → decide (hs.getD i [] = hs.getD p []) = decide (prOf (hs.getD i []) = some pr) := fun i hi => by
    refine decide_eq_decide.mpr ⟨fun z => by rw [z, hpr], fun z => ?_⟩
    obtain ⟨x', y', e', _, _⟩ := apart_row ok hi
    rw [e'] at z
    have z : some (x', y') = some pr := z
    rw [epr] at z
    cases z
    rw [e', e]
  rw [cnt_congr (T := fun i => S i && decide (prOf (hs.getD i []) = some pr)) fun i hi => by
    show (S i && _) = (S i && _)
    rw [ek i hi]]
  have hch := cnt_change (n := hs.length) (k := p) (f := fun i => S i && decide (prOf (hs.getD i []) = some pr)) (g := fun i => (S i || i == p) && decide (prOf (hs.getD i []) = some pr)) hp fun i hi => by
    have : (i == p) = false := by simpa using hi
    simp [this]
  simp only [hSp, Bool.false_and, Bool.false_eq_true, if_false, Nat.add_zero, beq_self_eq_true, Bool.or_true, Bool.true_and, decide_eq_true hpr, if_true] at hch
  rw [apart_hall ok]
  constructor
  · intro h q hq
    by_cases eq : q = pr
    · subst eq; omega
    · rw [cnt_congr (T := fun i => S i && decide (prOf (hs.getD i []) = some q)) fun i hi => by
        by_cases ei : i = p
        · subst ei
          have : decide (prOf (hs.getD i []) = some q) = false := decide_eq_false fun z => by rw [hpr] at z; exact eq (Option.some.inj z).symm
          simp only [this, Bool.and_false]
        · have : (i == p) = false := by simpa using ei
          simp [this]]
      exact (apart_hall ok).mp hS q hq
  · intro h
    have := h pr hmem
    omega
end
theorem filter_split {ord : List Nat} {i p : Nat} {S : Nat → Bool} {b : Bool} (hn : ord.Nodup) (hp : ord[i]? = some p) (hS : S p = false) : (ord.take (i + 1)).filter (fun x => S x || (b && x == p)) = (ord.take i).filter S ++ if b = true then [p] else [] := by
  rw [take_snoc hp, List.filter_append]
  congr 1
  · refine List.filter_congr fun x hx => ?_
    have : x ≠ p := fun z => not_in_take hn hp (z ▸ hx)
    have : (x == p) = false := by simpa using this
    simp [this]
  · cases b <;> simp [hS]
/-- the collected pieces, in rising order -/
theorem sorted_lot {w : Nat → Nat} {n : Nat} {ord : List Nat} (ho : OrdOf w n ord) {G : Nat → Bool} {ns : List Int} (h1 : ns.Perm ((ord.filter G).map fun n : Nat => (n : Int))) (h2 : ns.Pairwise (· ≤ ·)) : ns = ((List.range n).filter G).map fun n : Nat => (n : Int) := by
  refine PySem.W.ksm_same (h1.trans ((ho.perm.filter G).map _)) h2 ?_
  rw [List.pairwise_map]
  refine List.Pairwise.imp (fun {a b} h => ?_) (List.Pairwise.filter _ List.pairwise_lt_range)
  omega
end BL
set_option Elab.async false
set_option linter.all false
set_option maxRecDepth 100000
set_option maxHeartbeats 8000000
namespace BL
open PySem L2
/-! _law_dealable, _law_collected, _law_collected_apart -/
def spDealable (K : PySem.W.Frag) : Sp := fun vs H Q _ => ∃ (a b : Addr) (caps : List Nat) (ws : List V) (hs : List (List Nat)), vs = [.ref a, .ref b] ∧ SqL K H a (caps.map vn) ∧ SqL K H b ws ∧ Paired (IsLs K H) ws hs ∧ hs.length ≤ 6 ∧ caps.length ≤ 100 ∧
  ∀ (p : Addr) (bs : List Bool) (H' : Hp), Same H H' → H' p = some (.lst (bs.map V.bl)) → Table caps hs (2 ^ hs.length) bs → Q (.ref p) H'
def spCollected (K : PySem.W.Frag) : Sp := fun vs H Q _ => ∃ (a b : Addr) (caps : List Nat) (hs : List (List Nat)) (bs : List Bool) (ws : List Nat), vs = [.ref a, .ref b] ∧ SqL K H a (ws.map vn) ∧ SqL K H b (bs.map V.bl) ∧ Table caps hs (2 ^ hs.length) bs ∧ ws.length = hs.length ∧ hs.length ≤ 6 ∧
  ∀ (p : Addr) (ord : List Nat) (G : Nat → Bool) (H' : Hp), Same H H' → OrdOf (wOf ws) hs.length ord → Greedy (Hall caps hs) ord G → H' p = some (.lst (((List.range hs.length).filter G).map vn)) → Q (.ref p) H'
def spCollectedApart (K : PySem.W.Frag) : Sp := fun vs H Q _ => ∃ (a b c : Addr) (caps : List Nat) (us : List V) (hs : List (List Nat)) (ws : List Nat), vs = [.ref a, .ref b, .ref c] ∧ SqL K H a (caps.map vn) ∧ SqL K H b us ∧ Paired (IsLs K H) us hs ∧ SqL K H c (ws.map vn) ∧ ws.length = hs.length ∧ ApartOk caps hs ∧
  ∀ (p : Addr) (ord : List Nat) (G : Nat → Bool) (H' : Hp), Same H H' → OrdOf (wOf ws) hs.length ord → Greedy (Hall caps hs) ord G → H' p = some (.lst (((List.range hs.length).filter G).map vn)) → Q (.ref p) H'
theorem bls_at {bs : List Bool} {j : Nat} {b : Bool} {z : Int} (hz : z = ((j : Nat) : Int)) (h : bs[j]? = some b) : atI (bs.map V.bl) z = some (.bl b) := by
  rw [hz]; exact atN (by rw [List.getElem?_map, h]; rfl)
section
variable {P : Program} {w : World} {K : PySem.W.Frag} {mg : Str → Option Value} {base : Heap} {C : Addr}
theorem ok_l_dealable {f : Addr} {fd : FuncData} (B : Bt mg) (F : FnP K "_law_dealable" s_l_dealable f fd) (h_l_lots : Has P w K mg base 1 "_law_lots" ["_law_count"] spLots) (h_l_places : Has P w K mg base 2 "_law_places" ["_law_caps", "_law_holders", "_law_lot"] (spPlaces K)) :
    FnOk P w K mg base CX0 3 f fd ["_law_caps", "_law_holders"] (spDealable K) := by
  refine F.ok sc_l_dealable (fun vs H Q E h => ?_) (fun cdv A outer s H vs Q E hr h => ?_)
  · obtain ⟨a, b, caps, ws, hs, rfl, _⟩ := h; rfl
  · obtain ⟨a, b, caps, ws, hs, rfl, ha, hb, pw, h6, hcl, k⟩ := h
    refine ⟨_, PSs.nox (pss_cons
      (ps_set (i := 2) sc_l_dealable.nd rfl (Or.inl rfl) (pe_lst pa_nil))
    (pss_cons
      (ps_for PassesOwn.never rfl (pi_listK K (pe_fn h_l_lots (hr.mono (by decide)) rfl (pa_cons (pe_callB (lenK K) (by rfl) B.len PySem.boot_len (pa_cons (pv 1) pa_nil)) pa_nil))) (pg_name (i := 3) sc_l_dealable.nd rfl (Or.inl rfl))
      (pss_cons
        (ps_set (i := 4) sc_l_dealable.nd rfl (Or.inl rfl) (pe_callB (sumK K rfl) (by rfl) B.sum (by decide +kernel) (pa_cons (pe_lc (own := [("_law_p", 5)]) rfl sc_l_dealable.nd (pi_listK K (pv 3)) (blkOk_by (own := [("_law_p", 5)]) (N := N_l_dealable) (sc := defScope s_l_dealable) (by decide +kernel)) (fun _ _ _ _ _ => (pg_name (i := 5) sc_l_dealable.nd rfl (Or.inl rfl))) (fun _ _ _ _ _ => pts_nil) (fun _ _ _ _ _ => (pe_ix (ix_tupK K) (pe_tup (pa_cons pe_int (pa_cons pe_int (pa_cons pe_int (pa_cons pe_int (pa_cons pe_int (pa_cons pe_int pa_nil))))))) (pv 5) (fun _ _ => rfl)))) pa_nil)))
      (pss_cons
        (ps_set (i := 6) sc_l_dealable.nd rfl (Or.inl rfl) (pe_cmpR op_le (pe_callB (lenK K) (by rfl) B.len PySem.boot_len (pa_cons (pv 3) pa_nil)) (pe_fn h_l_places (hr.mono (by decide)) rfl (pa_cons (pv 0) (pa_cons (pv 1) (pa_cons (pv 3) pa_nil)))) (nomark _)))
      (pss_cons
        (ps_for PassesOwn.never rfl (pi_listK K (pv 3)) (pg_name (i := 5) sc_l_dealable.nd rfl (Or.inl rfl))
        (pss_one
          (ps_set (i := 6) sc_l_dealable.nd rfl (Or.inl rfl) (pe_and (pv 6) (pe_one (pe_ix (ix_listK K) (pv 2) (pe_op op_sub (pv 4) (pe_ix (ix_tupK K) (pe_tup (pa_cons pe_int (pa_cons pe_int (pa_cons pe_int (pa_cons pe_int (pa_cons pe_int (pa_cons pe_int pa_nil))))))) (pv 5) (fun _ _ => rfl))) (fun _ _ => rfl)))))))
      (pss_one
        (ps_expr (appK K (pv 2) (pv 6))))))))
    (pss_one
      (ps_ret (pv 2))))), ?_⟩
    refine ⟨Nat.zero_le _, fun D hD => ?_⟩
    have sD : Same H (upd H D (.lst [])) := same_new hD
    have hD1 : (upd H D (.lst [])) D = some (.lst []) := upd_same
    refine ⟨_, rfl, b, _, rfl, .inl (sD.seq hb), hs.length, by rw [pw.length]; rfl, h6, fun p ls H1 hp0 s1 hp pl => ?_⟩
    have s01 := sD.trans s1
    refine ⟨p, rfl, ⟨_, SqL.of hp⟩, for_list (K := K) (a := p) (xs := ls) (fun i σ H' => ∃ (bs : List Bool) (v3 v4 v5 v6 : Option V), σ = [some (.ref a), some (.ref b), some (.ref D), v3, v4, v5, v6] ∧ Same H H' ∧ H' D = some (.lst (bs.map V.bl)) ∧ H' p = some (.lst ls) ∧ Paired (IsLn (upd H D (.lst [])) H') ls (lotsA hs.length) ∧ Table caps hs i bs)
      ⟨[], none, none, none, none, rfl, s01, s1 _ _ hD1, hp, pl, rfl, fun S _ h => (by omega)⟩ (fun i σ H' _ ⟨_, _, _, _, _, _, _, _, e, _⟩ => SqL.of e) ?_ ?_⟩
    · rintro i x σ H' hx ⟨bs, v3, v4, v5, v6, rfl, s', hDb, hp', pl', tb⟩
      obtain ⟨lot, hlot, t, rfl, ht0, ht⟩ := paired_at pl' hx
      have hil : i < 2 ^ hs.length := by rw [← lotsA_len]; exact (List.getElem?_eq_some_iff.mp hlot).1
      obtain ⟨S, hS, hmk⟩ := mk_surj hs.length i hil
      have elot : lot = (List.range hs.length).filter S := by
        have := lotsA_mk S hs.length
        rw [hmk, hlot] at this
        exact Option.some.inj this
      have hmem : ∀ q ∈ lot, q < hs.length ∧ S q = true := fun q hq => by
        rw [elot] at hq
        obtain ⟨h1, h2⟩ := List.mem_filter.mp hq
        exact ⟨List.mem_range.mp h1, h2⟩
      have hll : lot.length ≤ 6 := by rw [elot]; exact Nat.le_trans (List.length_filter_le _ _) (by rw [List.length_range]; exact h6)
      refine ⟨_, rfl, t, rfl, ⟨_, SqL.of ht⟩, fun D2 hD2 => ?_⟩
      refine comp_list IsN (lot.map fun q => some (2 ^ q)) (by simp) (by rw [List.length_map]; exact sz_le (by omega)) tups_N.same tups_N.updL hD2 (SqL.of ht) (fun j y o H2 hy ho s2 Q' q1 q2 => ?_) (fun H2 acc s2 hacc pacc => ?_)
      · obtain ⟨q, hq, rfl⟩ := vmap_at hy
        have ho' := map_at hq ho
        have hql := (hmem q (List.mem_of_getElem? hq)).1
        refine ⟨rfl, yesT ?_⟩
        refine ⟨by show 6 ≤ sizeLine; decide, fun t6 ht6 => ?_⟩
        exact ⟨_, rfl, t6, _, _, _, rfl, rfl, SqT.of upd_same, atN (pow6 q (by omega)), q2 _ (2 ^ q) _ (same_new ht6) ho'.symm rfl⟩
      have e : (lot.map fun q => some (2 ^ q)).filterMap id = lot.map fun q => 2 ^ q := by
        rw [← map_some_id (lot.map fun q => 2 ^ q), List.map_map]; rfl
      rw [e] at pacc
      rw [paired_N pacc, vmap_ints] at hacc
      refine ⟨D2, _, rfl, SqL.of hacc, ?_⟩
      rw [cast_sum, elot, mk_sum, hmk]
      have ht2 := s2 _ _ ht
      have sA := s'.trans s2
      refine ⟨_, rfl, t, _, rfl, .inl (SqL.of ht2), _, rfl, _, rfl, _, rfl, a, b, t, caps, ws, hs, lot, rfl, sA.seq ha, sA.seq hb, Paired.mapP pw fun _ _ q => ls_same sA q, SqL.of ht2, fun q hq => (hmem q hq).1, hcl, fun H3 s3 => ?_⟩
      refine ⟨_, _, rfl, rfl, ?_⟩
      have eplaces : places caps hs (fun q => lot.contains q) = places caps hs S := places_congr fun q hq => by
        rw [elot]
        cases h : S q with
        | true => simp [h, hq]
        | false => simp [h]
      have ecnt : (lot.map vn).length = cnt hs.length S := by rw [List.length_map, elot, filter_len]
      rw [eplaces, ecnt]
      have sB := s2.trans s3
      have sC := s'.trans sB
      have ht3 := sB _ _ ht
      have hD3 := sB _ _ hDb
      refine ⟨_, rfl, t, rfl, ⟨_, SqL.of ht3⟩, for_list (K := K) (a := t) (xs := lot.map vn) (fun j σ H4 => ∃ (v5 : Option V) (fb : Bool), σ = [some (.ref a), some (.ref b), some (.ref D), some (.ref t), some (vn i), v5, some (.bl fb)] ∧ Same H3 H4 ∧ (fb = true ↔ cnt hs.length S ≤ places caps hs S ∧ ∀ q ∈ lot.take j, Hall caps hs fun x => S x && !(x == q)))
        ⟨_, _, rfl, Same.refl _, ?_⟩ (fun j σ H4 _ ⟨_, _, _, s4, _⟩ => SqL.of (s4 _ _ ht3)) ?_ ?_⟩
      · rw [decide_eq_true_iff]
        constructor
        · intro z; exact ⟨by omega, fun q hq => by simp at hq⟩
        · intro z; have := z.1; omega
      · rintro j y σ H4 hy ⟨v5, fb, rfl, s4, hfb⟩
        obtain ⟨q, hq, rfl⟩ := vmap_at hy
        obtain ⟨hql, hSq⟩ := hmem q (List.mem_of_getElem? hq)
        refine ⟨_, rfl, fb, rfl, ?_⟩
        refine ite2 (fun hc => ?_) (fun hc => ?_)
        · obtain ⟨hc1, hc2⟩ := hfb.mp hc
          have hdel := mk_del (S := S) (n := hs.length) hql hSq
          have hpos : 0 < 2 ^ q := Nat.pow_pos (by decide)
          obtain ⟨b', hb', hb2⟩ := tb.2 (fun x => S x && !(x == q)) (fun x hx => hS x (Bool.and_eq_true_iff.mp hx).1) (by omega)
          refine ⟨_, rfl, _, rfl, by show 6 ≤ sizeLine; decide, fun t6 ht6 => ?_⟩
          have s6 := same_new (o := .tup [.int 1, .int 2, .int 4, .int 8, .int 16, .int 32]) ht6
          refine ⟨_, rfl, t6, _, _, _, rfl, rfl, SqT.of upd_same, atN (pow6 q (by omega)), _, _, rfl, rfl, D, _, _, _, rfl, rfl, SqL.of (s6 _ _ (s4 _ _ hD3)), bls_at (j := mk (fun x => S x && !(x == q)) hs.length) (by omega) hb', ?_⟩
          refine ⟨_, b', rfl, s4.trans s6, ?_⟩
          rw [hb2]
          constructor
          · intro z
            refine ⟨hc1, fun q' hq' => ?_⟩
            rw [take_snoc hq] at hq'
            rcases List.mem_append.mp hq' with y | y
            · exact hc2 q' y
            · rw [List.mem_singleton.mp y]; exact z
          · intro z
            exact z.2 q (by rw [take_snoc hq]; exact List.mem_append_right _ (List.mem_singleton.mpr rfl))
        · refine ⟨_, false, rfl, s4, ?_⟩
          constructor
          · intro z; cases z
          · intro z
            refine absurd (hfb.mpr ⟨z.1, fun q' hq' => z.2 q' ?_⟩) hc
            rw [take_snoc hq]; exact List.mem_append_left _ hq'
      · rintro σ H4 ⟨v5, fb, rfl, s4, hfb⟩
        rw [List.length_map, List.take_length] at hfb
        have hfb2 : fb = true ↔ Hall caps hs S := by
          rw [hfb, hall_rec]
          constructor
          · rintro ⟨z1, z2⟩
            refine ⟨z1, fun q hq hSq => z2 q ?_⟩
            rw [elot]; exact List.mem_filter.mpr ⟨List.mem_range.mpr hq, hSq⟩
          · rintro ⟨z1, z2⟩
            exact ⟨z1, fun q hq => z2 q (hmem q hq).1 (hmem q hq).2⟩
        have hD4 := s4 _ _ hD3
        have sE := sB.trans s4
        have npD : p ≠ D := fun z => by rw [z, hD1] at hp0; cases hp0
        have hbl : bs.length ≤ 64 := by
          rw [tb.1]
          exact Nat.le_of_lt (Nat.lt_of_lt_of_le hil (Nat.le_trans (Nat.pow_le_pow_right (by decide) h6) (by decide)))
        refine ⟨_, rfl, .inl ⟨rfl, _, SqL.of hD4⟩, _, rfl, D, _, _, rfl, rfl, hD4, by rw [List.length_map]; exact sz_le (by omega), ?_⟩
        refine ⟨bs ++ [fb], _, _, _, _, rfl, same_put (s'.trans sE) hD, by rw [upd_same, List.map_append]; rfl, by rw [upd_ne npD]; exact sE _ _ hp', Paired.mapP pl' fun v h q => ln_upd hD1 (ln_same sE q), tb.snoc hS hmk hfb2⟩
    · rintro σ H' ⟨bs, v3, v4, v5, v6, rfl, s', hDb, hp', pl', tb⟩
      rw [pl'.length, lotsA_len] at tb
      exact ⟨_, rfl, k D bs H' s' hDb tb⟩
theorem ok_l_collected {f : Addr} {fd : FuncData} (B : Bt mg) (F : FnP K "_law_collected" s_l_collected f fd) (h_l_order : Has P w K mg base 1 "_law_order" ["_law_worths_here"] (spOrder K)) (h_l_bits : Has P w K mg base 1 "_law_bits" ["_law_mask", "_law_count"] spBits) :
    FnOk P w K mg base CX0 2 f fd ["_law_worths_here", "_law_dealable_here"] (spCollected K) := by
  refine F.ok sc_l_collected (fun vs H Q E h => ?_) (fun cdv A outer s H vs Q E hr h => ?_)
  · obtain ⟨a, b, caps, hs, bs, ws, rfl, _⟩ := h; rfl
  · obtain ⟨a, b, caps, hs, bs, ws, rfl, ha, hb, tb, hwl, h6, k⟩ := h
    refine ⟨_, PSs.nox (pss_cons
      (ps_set (i := 2) sc_l_collected.nd rfl (Or.inl rfl) pe_int)
    (pss_cons
      (ps_for PassesOwn.never rfl (pi_listK K (pe_fn h_l_order (hr.mono (by decide)) rfl (pa_cons (pv 0) pa_nil))) (pg_name (i := 3) sc_l_collected.nd rfl (Or.inl rfl))
      (pss_one
        (ps_if (pt_val (pe_ix (ix_listK K) (pv 1) (pe_op op_add (pv 2) (pe_ix (ix_tupK K) (pe_tup (pa_cons pe_int (pa_cons pe_int (pa_cons pe_int (pa_cons pe_int (pa_cons pe_int (pa_cons pe_int pa_nil))))))) (pv 3) (fun _ _ => rfl))) (fun _ _ => rfl)))
        (pss_one
          (ps_set (i := 2) sc_l_collected.nd rfl (Or.inl rfl) (pe_op op_add (pv 2) (pe_ix (ix_tupK K) (pe_tup (pa_cons pe_int (pa_cons pe_int (pa_cons pe_int (pa_cons pe_int (pa_cons pe_int (pa_cons pe_int pa_nil))))))) (pv 3) (fun _ _ => rfl)))))
        pss_nil)))
    (pss_one
      (ps_ret (pe_fn h_l_bits (hr.mono (by decide)) rfl (pa_cons (pv 2) (pa_cons (pe_callB (lenK K) (by rfl) B.len PySem.boot_len (pa_cons (pv 0) pa_nil)) pa_nil))))))), ?_⟩
    refine ⟨_, rfl, a, ws, rfl, ha, by omega, fun p ord H1 s1 hp hord => ?_⟩
    rw [hwl] at hord
    have hnd := hord.nodup
    refine ⟨p, rfl, ⟨_, SqL.of hp⟩, for_list (K := K) (a := p) (xs := ord.map vn) (fun i σ H' => ∃ (S : Nat → Bool) (v3 : Option V), σ = [some (.ref a), some (.ref b), some (vn (mk S hs.length)), v3] ∧ Same H1 H' ∧ GrI (Hall caps hs) ord i S)
      ⟨fun _ => false, none, ?_, Same.refl _, GrI.zero⟩ (fun i σ H' _ ⟨_, _, _, s', _⟩ => SqL.of (s' _ _ hp)) ?_ ?_⟩
    · have : mk (fun _ => false) hs.length = 0 := by
        generalize hs.length = n
        induction n with
        | zero => rfl
        | succ n ih => unfold mk; rw [ih]; rfl
      rw [this]; rfl
    · rintro i x σ H' hx ⟨S, v3, rfl, s', I⟩
      obtain ⟨q, hq, rfl⟩ := vmap_at hx
      have hql := hord.mem.mp (List.mem_of_getElem? hq)
      have hSq := I.notin hnd hq
      have hin : ∀ x, (S x || x == q) = true → x < hs.length := fun x hx => by
        rcases Bool.or_eq_true_iff.mp hx with z | z
        · exact hord.mem.mp (List.mem_of_mem_take (I.sub x z))
        · rw [show x = q from by simpa using z]; exact hql
      have hadd := mk_add (S := S) hs.length hql hSq
      obtain ⟨c, hc, hc2⟩ := tb.2 (fun x => S x || x == q) hin (mk_lt _ _)
      rw [hadd] at hc
      refine ⟨_, rfl, _, rfl, by show 6 ≤ sizeLine; decide, fun t6 ht6 => ?_⟩
      have s6 := same_new (o := .tup [.int 1, .int 2, .int 4, .int 8, .int 16, .int 32]) ht6
      refine ⟨_, rfl, t6, _, _, _, rfl, rfl, SqT.of upd_same, atN (pow6 q (by omega)), _, _, rfl, rfl, b, _, _, _, rfl, rfl, (s1.trans (s'.trans s6)).seq hb, bls_at (j := mk S hs.length + 2 ^ q) (by omega) hc, c, rfl, ?_⟩
      have I2 := I.step hnd hq c hc2
      refine ite2 (fun hcc => ?_) (fun hcc => ?_)
      · subst hcc
        refine ⟨_, rfl, by show 6 ≤ sizeLine; decide, fun t7 ht7 => ?_⟩
        have s7 := same_new (o := .tup [.int 1, .int 2, .int 4, .int 8, .int 16, .int 32]) ht7
        refine ⟨_, rfl, t7, _, _, _, rfl, rfl, SqT.of upd_same, atN (pow6 q (by omega)), _, _, rfl, rfl, ?_⟩
        refine ⟨_, some (vn q), ?_, s'.trans (s6.trans s7), I2⟩
        have e : mk (fun x => S x || (true && x == q)) hs.length = mk S hs.length + 2 ^ q := by
          rw [← hadd]; exact mk_congr _ fun x _ => by rw [Bool.true_and]
        rw [e]; rfl
      · have hcf : c = false := by simpa using hcc
        subst hcf
        refine ⟨_, some (vn q), ?_, s'.trans s6, I2⟩
        have e : mk (fun x => S x || (false && x == q)) hs.length = mk S hs.length := mk_congr _ fun x _ => by rw [Bool.false_and, Bool.or_false]
        rw [e]; rfl
    · rintro σ H' ⟨S, v3, rfl, s', I⟩
      rw [List.length_map] at I
      refine ⟨_, rfl, _, rfl, a, _, rfl, .inl ((s1.trans s').seq ha), mk S hs.length, hs.length, ?_, by omega, fun p H2 hp0 s2 hp => ?_⟩
      · rw [List.length_map, hwl]; rfl
      · rw [bitsA_mk] at hp
        exact k p ord S H2 (s1.trans (s'.trans s2)) hord I.done hp
theorem ok_l_collected_apart {f : Addr} {fd : FuncData} (B : Bt mg) (F : FnP K "_law_collected_apart" s_l_collected_apart f fd) (h_l_order : Has P w K mg base 1 "_law_order" ["_law_worths_here"] (spOrder K)) :
    FnOk P w K mg base CX0 2 f fd ["_law_caps", "_law_holders", "_law_worths_here"] (spCollectedApart K) := by
  refine F.ok sc_l_collected_apart (fun vs H Q E h => ?_) (fun cdv A outer s H vs Q E hr h => ?_)
  · obtain ⟨a, b, c, caps, us, hs, ws, rfl, _⟩ := h; rfl
  · obtain ⟨a, b, c, caps, us, hs, ws, rfl, ha, hb, pu, hc, hwl, ok, k⟩ := h
    have hfew := ok.few
    have hu64 := hr.units
    refine ⟨_, PSs.nox (pss_cons
      (ps_set (i := 3) sc_l_collected_apart.nd rfl (Or.inl rfl) (pe_lst pa_nil))
    (pss_cons
      (ps_for PassesOwn.never rfl (pi_listK K (pe_fn h_l_order (hr.mono (by decide)) rfl (pa_cons (pv 2) pa_nil))) (pg_name (i := 4) sc_l_collected_apart.nd rfl (Or.inr rfl))
      (pss_cons
        (ps_setLc (i := 5) (own := [("_law_q", 6)]) rfl sc_l_collected_apart.nd rfl rfl (sw_true rfl rfl rfl (by decide +kernel)) (pi_listK K (pv 3)) (blkOk_by (own := [("_law_q", 6)]) (N := N_l_collected_apart) (sc := defScope s_l_collected_apart) (by decide +kernel)) (fun _ _ _ _ _ => (pg_name (i := 6) sc_l_collected_apart.nd rfl (Or.inl rfl))) (fun _ _ _ _ _ => pts_one (pt_cmpR (eqDK K hu64) (pe_ix (ix_listK K) (pv 1) (pv 6) (fun _ _ => rfl)) (pe_ix (ix_listK K) (pv 1) (pv 4) (fun _ _ => rfl)) (nomark _))) (fun _ _ _ _ _ => (pv 6)))
      (pss_one
        (ps_if (pt_cmpR op_lt (pe_callB (lenK K) (by rfl) B.len PySem.boot_len (pa_cons (pv 5) pa_nil)) (pe_callB (call_min2 rfl) (by rfl) B.min (by decide +kernel) (pa_cons (pe_ix (ix_listK K) (pv 0) (pe_ix (ix_listK K) (pe_ix (ix_listK K) (pv 1) (pv 4) (fun _ _ => rfl)) pe_int (fun _ _ => rfl)) (fun _ _ => rfl)) (pa_cons (pe_ix (ix_listK K) (pv 0) (pe_ix (ix_listK K) (pe_ix (ix_listK K) (pv 1) (pv 4) (fun _ _ => rfl)) pe_int (fun _ _ => rfl)) (fun _ _ => rfl)) pa_nil))) (nomark _))
        (pss_one
          (ps_expr (appK K (pv 3) (pv 4))))
        pss_nil))))
    (pss_one
      (ps_ret (pe_callB (sortedIK K) (by rfl) B.sorted (by decide +kernel) (pa_cons (pv 3) pa_nil)))))), ?_⟩
    refine ⟨Nat.zero_le _, fun D hD => ?_⟩
    have sD : Same H (upd H D (.lst [])) := same_new hD
    have hD1 : (upd H D (.lst [])) D = some (.lst []) := upd_same
    refine ⟨_, rfl, c, ws, rfl, sD.seq hc, by omega, fun p ord H1 s1 hp hord => ?_⟩
    rw [hwl] at hord
    have hnd := hord.nodup
    have hD2 := s1 _ _ hD1
    refine ⟨p, rfl, ⟨_, SqL.of hp⟩, for_list (K := K) (a := p) (xs := ord.map vn) (fun i σ H' => ∃ (S : Nat → Bool) (v4 v5 : Option V), σ = [some (.ref a), some (.ref b), some (.ref c), some (.ref D), v4, v5, none] ∧ Same H H' ∧ H' D = some (.lst (((ord.take i).filter S).map vn)) ∧ H' p = some (.lst (ord.map vn)) ∧ GrI (Hall caps hs) ord i S ∧ Hall caps hs S)
      ⟨fun _ => false, none, none, rfl, sD.trans s1, hD2, hp, GrI.zero, hall_empty⟩ (fun i σ H' _ ⟨_, _, _, _, _, _, e, _⟩ => SqL.of e) ?_ ?_⟩
    · rintro i x σ H' hx ⟨S, v4, v5, rfl, s', hDl, hp', I, hS⟩
      obtain ⟨q, hq, rfl⟩ := vmap_at hx
      have hql := hord.mem.mp (List.mem_of_getElem? hq)
      have hSq := I.notin hnd hq
      have npD : p ≠ D := fun z => by
        rw [z, hDl] at hp'
        have e := congrArg (fun o => match o with | some (.lst xs) => xs.length | _ => 0) hp'
        dsimp only at e
        rw [List.length_map, List.length_map] at e
        have h1 : ((ord.take i).filter S).length ≤ i := Nat.le_trans (List.length_filter_le _ _) (by rw [List.length_take]; omega)
        have h2 := (List.getElem?_eq_some_iff.mp hq).1
        omega
      generalize hlot : (ord.take i).filter S = lot at hDl
      have hlm : ∀ x, x ∈ lot ↔ S x = true := fun x => by
        rw [← hlot, List.mem_filter]
        exact ⟨fun z => z.2, fun z => ⟨I.sub x z, z⟩⟩
      have hln : lot.Nodup := by rw [← hlot]; exact (hnd.sublist (List.take_sublist _ _)).filter _
      have hlb : ∀ x ∈ lot, x < hs.length := fun x hx => hord.mem.mp (List.mem_of_mem_take (I.sub x ((hlm x).mp hx)))
      have hll : lot.length ≤ 100 := by
        rw [← cnt_list hln hlb]
        exact Nat.le_trans List.countP_le_length (by rw [List.length_range]; omega)
      have rowAt : ∀ x, x < hs.length → ∃ t, us[x]? = some (.ref t) ∧ SqL K H t ((hs.getD x []).map vn) := fun x hx => by
        have : hs[x]? = some (hs.getD x []) := by rw [List.getD_eq_getElem?_getD, List.getElem?_eq_getElem hx]; rfl
        obtain ⟨v, hv, t, rfl, ht⟩ := paired_at' pu this
        exact ⟨t, hv, ht⟩
      obtain ⟨tq, hvq, htq⟩ := rowAt q hql
      refine ⟨_, rfl, D, rfl, ⟨_, SqL.of hDl⟩, fun D2 hD2 => ?_⟩
      refine comp_list IsN (lot.map fun x => if decide (hs.getD x [] = hs.getD q []) then some x else none) (by simp) (by rw [List.length_map]; exact sz_le (by omega)) tups_N.same tups_N.updL hD2 (SqL.of hDl) (fun j y o H2 hy ho s2 Q' q1 q2 => ?_) (fun H2 acc s2 hacc pacc => ?_)
      · obtain ⟨x, hx, rfl⟩ := vmap_at hy
        have ho' := map_at hx ho
        obtain ⟨tx, hvx, htx⟩ := rowAt x (hlb x (List.mem_of_getElem? hx))
        have sA := s'.trans s2
        refine ⟨rfl, ?_⟩
        refine ⟨_, rfl, _, rfl, b, _, _, _, rfl, rfl, sA.seq hb, atN hvx, _, rfl, _, rfl, b, _, _, _, rfl, rfl, sA.seq hb, atN hvq, _, _, dp_L (sA.seq htx), dp_L (sA.seq htq), shaped_dL _, shaped_dL _, _, rfl, ?_⟩
        rw [eqv_L]
        refine ite2 (fun h1 => ?_) (fun h1 => ?_)
        · exact ⟨_, rfl, q2 _ x _ (Same.refl _) (by rw [← ho', if_pos h1]) rfl⟩
        · exact q1 _ (Same.refl _) (by rw [← ho', if_neg h1])
      rw [filterMap_if] at pacc
      rw [paired_N pacc] at hacc
      have sA := s'.trans s2
      obtain ⟨x, y, exy, hxy, hy⟩ := apart_row ok hql
      rw [exy] at htq
      have look0 : atI ([vn x, vn y] : List V) 0 = some (vn x) := atN (j := 0) rfl
      have look1 : atI ([vn x, vn y] : List V) 1 = some (vn y) := atN (j := 1) rfl
      have c0 : (caps.map vn)[x]? = some (vn (caps.getD x 0)) := by simp [show x < caps.length by omega]
      have c1 : (caps.map vn)[y]? = some (vn (caps.getD y 0)) := by simp [hy]
      refine ⟨_, rfl, D2, _, rfl, .inl (SqL.of hacc), ?_⟩
      refine ⟨_, rfl, _, rfl, _, rfl, b, _, _, _, rfl, rfl, sA.seq hb, atN hvq, tq, [vn x, vn y], _, _, rfl, rfl, sA.seq htq, look0, a, _, _, _, rfl, rfl, sA.seq ha, atN c0, ?_⟩
      refine ⟨_, rfl, _, rfl, _, rfl, b, _, _, _, rfl, rfl, sA.seq hb, atN hvq, tq, [vn x, vn y], _, _, rfl, rfl, sA.seq htq, look1, a, _, _, _, rfl, rfl, sA.seq ha, atN c1, ?_⟩
      refine ⟨_, _, rfl, _, _, rfl, rfl, _, rfl, ?_⟩
      have ecnt : (lot.filter fun x => decide (hs.getD x [] = hs.getD q [])).length = cnt hs.length (fun i => S i && decide (hs.getD i [] = hs.getD q [])) := by
        rw [← cnt_list (hln.filter _) fun x hx => hlb x (List.mem_filter.mp hx).1]
        refine cnt_congr fun i _ => ?_
        rw [Bool.eq_iff_iff, Bool.and_eq_true_iff, List.contains_iff_mem, List.mem_filter, hlm]
      have hst := apart_step ok hS hql hSq (pr := (x, y)) (by rw [exy]; rfl)
      rw [← ecnt] at hst
      have hrm : (if ((caps.getD y 0 : Nat) : Int) < ((caps.getD x 0 : Nat) : Int) then ((caps.getD y 0 : Nat) : Int) else ((caps.getD x 0 : Nat) : Int)) = ((roomA caps (x, y) : Nat) : Int) := by
        unfold roomA; dsimp only; split <;> omega
      rw [hrm, List.length_map]
      have hD3 := s2 _ _ hDl
      refine ite2 (fun hcc => ?_) (fun hcc => ?_)
      · have hlt : (lot.filter fun x => decide (hs.getD x [] = hs.getD q [])).length < roomA caps (x, y) := by have := of_decide_eq_true hcc; omega
        have hH := hst.mp hlt
        have I2 := I.step hnd hq true ⟨fun _ => hH, fun _ => rfl⟩
        refine ⟨_, rfl, .inl ⟨rfl, _, SqL.of hD3⟩, _, rfl, D, _, _, rfl, rfl, hD3, by rw [List.length_map]; exact sz_le (by omega), ?_⟩
        refine ⟨_, _, _, rfl, same_put sA hD, ?_, by rw [upd_ne npD]; exact s2 _ _ hp', I2, ?_⟩
        · rw [upd_same, filter_split hnd hq hSq, hlot, List.map_append]; rfl
        · exact (Hall.congr fun x => by rw [Bool.true_and]).mpr hH
      · have hnH : ¬ Hall caps hs fun x => S x || x == q := fun z => by
          have := hst.mpr z
          exact hcc (decide_eq_true (by omega))
        have I2 := I.step hnd hq false ⟨fun z => (by cases z), fun z => absurd z hnH⟩
        refine ⟨_, _, _, rfl, sA, ?_, s2 _ _ hp', I2, ?_⟩
        · rw [filter_split hnd hq hSq, hlot, hD3]; simp
        · exact (Hall.congr fun x => by rw [Bool.false_and, Bool.or_false]).mpr hS
    · rintro σ H' ⟨S, v4, v5, rfl, s', hDl, hp', I, hS⟩
      rw [List.length_map] at I hDl
      rw [List.take_length, vmap_ints] at hDl
      refine ⟨_, rfl, D, _, rfl, SqL.of hDl, fun ns p2 hpm hsr hp20 => ?_⟩
      have e := sorted_lot hord hpm hsr
      exact k p2 ord S _ (s'.trans (same_new hp20)) hord I.done (by rw [upd_same, e, ← vmap_ints])
end
end BL
set_option Elab.async false
set_option linter.all false
set_option maxRecDepth 100000
set_option maxHeartbeats 4000000
/-! The plain law, fifth part: two pools joined. -/
namespace BL
open L2
theorem fm_congr {α β : Type} {f g : α → Option β} : ∀ {l : List α}, (∀ a ∈ l, f a = g a) → l.filterMap f = l.filterMap g
  | [], _ => rfl
  | a :: l, h => by rw [List.filterMap_cons, List.filterMap_cons, h a (List.mem_cons_self ..), fm_congr (l := l) fun b hb => h b (List.mem_cons_of_mem _ hb)]
theorem getD_left {a b : List Nat} {i : Nat} (h : i < a.length) : (a ++ b).getD i 0 = a.getD i 0 := by rw [List.getD_eq_getElem?_getD, List.getD_eq_getElem?_getD, List.getElem?_append_left h]
theorem getD_right {a b : List Nat} {i j : Nat} (h : j = i + a.length) : (a ++ b).getD j 0 = b.getD i 0 := by
  rw [List.getD_eq_getElem?_getD, List.getD_eq_getElem?_getD, List.getElem?_append_right (by omega), show j - a.length = i by omega]
def secs (g : Nat) (os : List (Nat × Nat)) : List Nat := os.filterMap fun o => if o.1 = g then some o.2 else none
/-- whose each piece is: os names the pieces of two groups, each group's in rising order -/
structure Own (n : Nat → Nat) (os : List (Nat × Nat)) : Prop where
  grp : ∀ o ∈ os, o.1 < 2
  sec : ∀ g, g < 2 → secs g os = List.range (n g)
def own1 (na nb p : Nat) : List (Nat × Nat) := (if p < na then [(0, p)] else []) ++ if p < nb then [(1, p)] else []
def ownTo (na nb k : Nat) : List (Nat × Nat) := (List.range k).flatMap (own1 na nb)
theorem ownTo_succ (na nb k : Nat) : ownTo na nb (k + 1) = ownTo na nb k ++ own1 na nb k := by
  unfold ownTo
  rw [List.range_succ, List.flatMap_append]
  simp
theorem secs_app (g : Nat) (a b : List (Nat × Nat)) : secs g (a ++ b) = secs g a ++ secs g b := List.filterMap_append
theorem secs_own1 {na nb p g : Nat} (hg : g < 2) : secs g (own1 na nb p) = if p < (if g = 0 then na else nb) then [p] else [] := by
  have : g = 0 ∨ g = 1 := by omega
  unfold own1 secs
  rcases this with rfl | rfl <;> by_cases h1 : p < na <;> by_cases h2 : p < nb <;> simp [h1, h2]
theorem secs_ownTo {na nb g : Nat} (hg : g < 2) : ∀ k, secs g (ownTo na nb k) = List.range (min k (if g = 0 then na else nb))
  | 0 => by simp [ownTo, secs]
  | k + 1 => by
    rw [ownTo_succ, secs_app, secs_ownTo hg k, secs_own1 hg]
    generalize (if g = 0 then na else nb) = c
    by_cases h : k < c
    · rw [if_pos h, show min k c = k by omega, show min (k + 1) c = k + 1 by omega, List.range_succ]
    · rw [if_neg h, List.append_nil, show min (k + 1) c = min k c by omega]
theorem own_ok (na nb : Nat) : Own (fun g => if g = 0 then na else nb) (ownTo na nb (max na nb)) := by
  refine ⟨fun o ho => ?_, fun g hg => ?_⟩
  · unfold ownTo own1 at ho
    obtain ⟨p, _, hp⟩ := List.mem_flatMap.mp ho
    rcases List.mem_append.mp hp with z | z
    · split at z
      · rw [List.mem_singleton.mp z]; show 0 < 2; decide
      · simp at z
    · split at z
      · rw [List.mem_singleton.mp z]; show 1 < 2; decide
      · simp at z
  · rw [secs_ownTo hg]
    congr 1
    split <;> omega
theorem mem_secs {g p : Nat} {os : List (Nat × Nat)} : p ∈ secs g os ↔ (g, p) ∈ os := by
  unfold secs
  rw [List.mem_filterMap]
  constructor
  · rintro ⟨o, ho, h⟩
    split at h
    · rename_i e
      cases h
      rw [← e]; exact ho
    · cases h
  · intro h; exact ⟨(g, p), h, if_pos rfl⟩
section
variable {n : Nat → Nat} {os : List (Nat × Nat)}
theorem Own.lt (O : Own n os) {q g p : Nat} (h : os[q]? = some (g, p)) : q < os.length ∧ g < 2 ∧ p < n g := by
  have hg := O.grp _ (List.mem_of_getElem? h)
  refine ⟨(List.getElem?_eq_some_iff.mp h).1, hg, ?_⟩
  have : p ∈ secs g os := mem_secs.mpr (List.mem_of_getElem? h)
  rw [O.sec g hg] at this
  exact List.mem_range.mp this
theorem Own.ex (O : Own n os) {g p : Nat} (hg : g < 2) (hp : p < n g) : ∃ q, q < os.length ∧ os[q]? = some (g, p) := by
  have : p ∈ secs g os := by rw [O.sec g hg]; exact List.mem_range.mpr hp
  obtain ⟨q, hq⟩ := List.getElem?_of_mem (mem_secs.mp this)
  exact ⟨q, (List.getElem?_eq_some_iff.mp hq).1, hq⟩
theorem Own.mono (O : Own n os) {q q' g p p' : Nat} (h : os[q]? = some (g, p)) (h' : os[q']? = some (g, p')) (hlt : q < q') : p < p' := by
  obtain ⟨hq, hg, hp⟩ := O.lt h
  have hs : (secs g os).Pairwise (· < ·) := by rw [O.sec g hg]; exact List.pairwise_lt_range
  unfold secs at hs
  rw [List.pairwise_filterMap] at hs
  obtain ⟨a1, a2⟩ := List.getElem?_eq_some_iff.mp h
  obtain ⟨b1, b2⟩ := List.getElem?_eq_some_iff.mp h'
  have := List.pairwise_iff_getElem.mp hs q q' a1 b1 hlt
  rw [a2, b2] at this
  exact this p (if_pos rfl) p' (if_pos rfl)
theorem Own.inj (O : Own n os) {q q' : Nat} {o : Nat × Nat} (h : os[q]? = some o) (h' : os[q']? = some o) : q = q' := by
  obtain ⟨g, p⟩ := o
  rcases Nat.lt_trichotomy q q' with z | z | z
  · exact absurd (O.mono h h' z) (Nat.lt_irrefl _)
  · exact z
  · exact absurd (O.mono h' h z) (Nat.lt_irrefl _)
theorem as_range (os : List (Nat × Nat)) : os = (List.range os.length).map fun q => os.getD q (0, 0) := by
  refine List.ext_getElem? fun i => ?_
  rw [List.getElem?_map]
  by_cases h : i < os.length
  · rw [List.getElem?_range h, List.getElem?_eq_getElem h]
    show _ = some (os.getD i (0, 0))
    rw [List.getD_eq_getElem?_getD, List.getElem?_eq_getElem h]; rfl
  · rw [List.getElem?_eq_none (by omega), List.getElem?_eq_none (by rw [List.length_range]; omega)]; rfl
/-- the pieces of group g that T holds -/
def part (os : List (Nat × Nat)) (g : Nat) (T : Nat → Bool) (p : Nat) : Bool := (List.range os.length).any fun q => decide (os[q]? = some (g, p)) && T q
theorem part_iff {g p : Nat} {T : Nat → Bool} : part os g T p = true ↔ ∃ q, os[q]? = some (g, p) ∧ T q = true := by
  unfold part
  rw [List.any_eq_true]
  constructor
  · rintro ⟨q, _, h⟩
    rw [Bool.and_eq_true_iff] at h
    exact ⟨q, of_decide_eq_true h.1, h.2⟩
  · rintro ⟨q, h1, h2⟩
    exact ⟨q, List.mem_range.mpr (List.getElem?_eq_some_iff.mp h1).1, by rw [decide_eq_true h1, h2]; rfl⟩
theorem part_at (O : Own n os) {g p q : Nat} {T : Nat → Bool} (h : os[q]? = some (g, p)) : part os g T p = T q := by
  rw [Bool.eq_iff_iff, part_iff]
  constructor
  · rintro ⟨q', h1, h2⟩; rw [O.inj h h1]; exact h2
  · intro z; exact ⟨q, h, z⟩
theorem count_secs {F : Nat × Nat → Bool} : ∀ os : List (Nat × Nat), (∀ o ∈ os, o.1 < 2) → os.countP F = ((secs 0 os).countP fun p => F (0, p)) + (secs 1 os).countP fun p => F (1, p)
  | [], _ => rfl
  | (g, p) :: os, h => by
    have ih := count_secs (F := F) os fun o ho => h o (List.mem_cons_of_mem _ ho)
    have hg : g < 2 := h (g, p) (List.mem_cons_self ..)
    have : g = 0 ∨ g = 1 := by omega
    rw [List.countP_cons, ih]
    rcases this with rfl | rfl
    · rw [show secs 0 ((0, p) :: os) = p :: secs 0 os from rfl, show secs 1 ((0, p) :: os) = secs 1 os from rfl, List.countP_cons]; omega
    · rw [show secs 1 ((1, p) :: os) = p :: secs 1 os from rfl, show secs 0 ((1, p) :: os) = secs 0 os from rfl, List.countP_cons]; omega
theorem cnt_join (O : Own n os) (T : Nat → Bool) : cnt os.length T = cnt (n 0) (part os 0 T) + cnt (n 1) (part os 1 T) := by
  have h1 : cnt os.length T = os.countP fun o => part os o.1 T o.2 := by
    refine Eq.trans ?_ (congrArg (List.countP fun o => part os o.1 T o.2) (as_range os)).symm
    rw [List.countP_map]
    refine cnt_congr (n := os.length) fun q hq => ?_
    show T q = part os (os.getD q (0, 0)).1 T (os.getD q (0, 0)).2
    refine (part_at O ?_).symm
    rw [List.getD_eq_getElem?_getD, List.getElem?_eq_getElem hq]; rfl
  rw [h1, count_secs os O.grp, O.sec 0 (by decide), O.sec 1 (by decide)]
  rfl
end
structure Join (Cs : Nat → List Nat) (Hs : Nat → List (List Nat)) (os : List (Nat × Nat)) (caps : List Nat) (js : List (List Nat)) : Prop where
  own : Own (fun g => (Hs g).length) os
  len : js.length = os.length
  row : ∀ q g p, os[q]? = some (g, p) → js.getD q [] = ((Hs g).getD p []).map fun x => x + if g = 0 then 0 else (Cs 0).length
  caps : caps = Cs 0 ++ Cs 1
  ok : ∀ g, g < 2 → ∀ h ∈ Hs g, RowOk (Cs g).length h
section
variable {Cs : Nat → List Nat} {Hs : Nat → List (List Nat)} {os : List (Nat × Nat)} {caps : List Nat} {js : List (List Nat)}
theorem Join.rowOk (J : Join Cs Hs os caps js) {q g p : Nat} (h : os[q]? = some (g, p)) : ∀ x ∈ (Hs g).getD p [], x < (Cs g).length := by
  obtain ⟨_, hg, hp⟩ := J.own.lt h
  have : (Hs g).getD p [] ∈ Hs g := by
    rw [List.getD_eq_getElem?_getD, List.getElem?_eq_getElem hp]; exact List.getElem_mem hp
  exact (J.ok g hg _ this).2
theorem Join.touch_in (J : Join Cs Hs os caps js) {g : Nat} (hg : g < 2) {T : Nat → Bool} {a b : Nat} (hab : a < b) (hb : b < (Cs g).length) :
    touch js T (a + (if g = 0 then 0 else (Cs 0).length), b + if g = 0 then 0 else (Cs 0).length) = touch (Hs g) (part os g T) (a, b) := by
  rw [Bool.eq_iff_iff, touch_iff, touch_iff]
  constructor
  · rintro ⟨q, hq, h1, h2, h3⟩
    rw [J.len] at hq
    obtain ⟨g', p⟩ : Nat × Nat := os[q]
    have ho : os[q]? = some (os[q]) := List.getElem?_eq_getElem hq
    generalize os[q] = o at ho
    obtain ⟨g', p⟩ := o
    obtain ⟨_, hg', hp⟩ := J.own.lt ho
    rw [J.row q g' p ho] at h2 h3
    obtain ⟨x, hx, ex⟩ := List.mem_map.mp h2
    obtain ⟨y, hy, ey⟩ := List.mem_map.mp h3
    have hxl := J.rowOk ho x hx
    have hyl := J.rowOk ho y hy
    dsimp only at ex ey
    by_cases e : g' = g
    · subst e
      refine ⟨p, hp, by rw [part_at J.own ho]; exact h1, ?_, ?_⟩
      · show a ∈ _
        rw [show a = x by omega]; exact hx
      · show b ∈ _
        rw [show b = y by omega]; exact hy
    · exfalso
      have c : (g = 0 ∧ g' = 1) ∨ (g = 1 ∧ g' = 0) := by omega
      rcases c with ⟨rfl, rfl⟩ | ⟨rfl, rfl⟩
      · simp at ex ey; omega
      · simp at ex ey; omega
  · rintro ⟨p, hp, h1, h2, h3⟩
    obtain ⟨q, ho, hT⟩ := part_iff.mp h1
    refine ⟨q, by rw [J.len]; exact (J.own.lt ho).1, hT, ?_, ?_⟩
    · rw [J.row q g p ho]; exact List.mem_map.mpr ⟨a, h2, rfl⟩
    · rw [J.row q g p ho]; exact List.mem_map.mpr ⟨b, h3, rfl⟩
theorem Join.touch_out (J : Join Cs Hs os caps js) {T : Nat → Bool} {a b : Nat} (ha : a < (Cs 0).length) (hb : (Cs 0).length ≤ b) : ¬ touch js T (a, b) = true := by
  rw [touch_iff]
  rintro ⟨q, hq, h1, h2, h3⟩
  rw [J.len] at hq
  have ho : os[q]? = some (os[q]) := List.getElem?_eq_getElem hq
  generalize os[q] = o at ho
  obtain ⟨g', p⟩ := o
  obtain ⟨_, hg', hp⟩ := J.own.lt ho
  rw [J.row q g' p ho] at h2 h3
  obtain ⟨x, hx, ex⟩ := List.mem_map.mp h2
  obtain ⟨y, hy, ey⟩ := List.mem_map.mp h3
  have hxl := J.rowOk ho x hx
  have hyl := J.rowOk ho y hy
  dsimp only at ex ey
  have c : g' = 0 ∨ g' = 1 := by omega
  rcases c with rfl | rfl
  · simp at ex ey; omega
  · simp at ex ey; omega
theorem pairs_perm (m k : Nat) : (pairsN (m + k)).Perm (pairsN m ++ ((pairsN k).map (fun p => (p.1 + m, p.2 + m)) ++ (pairsN (m + k)).filter fun p => decide (p.1 < m) && decide (m ≤ p.2))) := by
  have n2 : ((pairsN k).map fun p : Nat × Nat => (p.1 + m, p.2 + m)).Nodup := by
    refine List.Pairwise.map _ (fun a b h e => h ?_) (pairsN_nodup k)
    have e1 := congrArg Prod.fst e
    have e2 := congrArg Prod.snd e
    dsimp only at e1 e2
    exact Prod.ext (by omega) (by omega)
  refine (List.perm_ext_iff_of_nodup (pairsN_nodup _) ?_).mpr fun p => ?_
  · refine List.nodup_append.mpr ⟨pairsN_nodup m, List.nodup_append.mpr ⟨n2, (pairsN_nodup _).filter _, fun a ha b hb e => ?_⟩, fun a ha b hb e => ?_⟩
    · subst e
      obtain ⟨p, _, rfl⟩ := List.mem_map.mp ha
      have := (List.mem_filter.mp hb).2
      simp at this; omega
    · subst e
      have h1 := mem_pairsN.mp ha
      rcases List.mem_append.mp hb with z | z
      · obtain ⟨p, _, rfl⟩ := List.mem_map.mp z
        dsimp only at h1; omega
      · have := (List.mem_filter.mp z).2
        simp at this; omega
  · rw [List.mem_append, List.mem_append, List.mem_filter, List.mem_map, mem_pairsN, mem_pairsN]
    constructor
    · rintro ⟨h1, h2⟩
      by_cases c1 : p.2 < m
      · exact .inl ⟨h1, c1⟩
      · by_cases c2 : p.1 < m
        · exact .inr (.inr ⟨⟨h1, h2⟩, by simp; omega⟩)
        · exact .inr (.inl ⟨(p.1 - m, p.2 - m), mem_pairsN.mpr (by dsimp only; omega), Prod.ext (by dsimp only; omega) (by dsimp only; omega)⟩)
    · rintro (⟨h1, h2⟩ | ⟨q, hq, rfl⟩ | ⟨h, _⟩)
      · omega
      · have := mem_pairsN.mp hq
        dsimp only; omega
      · exact h
theorem perm_sum {a b : List Nat} (h : a.Perm b) : a.sum = b.sum := by
  induction h with
  | nil => rfl
  | cons x _ ih => rw [List.sum_cons, List.sum_cons, ih]
  | swap x y l => simp only [List.sum_cons]; omega
  | trans _ _ h1 h2 => rw [h1, h2]
theorem Join.places (J : Join Cs Hs os caps js) (T : Nat → Bool) : places caps js T = places (Cs 0) (Hs 0) (part os 0 T) + places (Cs 1) (Hs 1) (part os 1 T) := by
  have hl : caps.length = (Cs 0).length + (Cs 1).length := by rw [J.caps, List.length_append]
  unfold BL.places
  rw [hl, perm_sum ((pairs_perm _ _).map _), List.map_append, List.map_append, List.sum_append, List.sum_append, List.map_map]
  rw [sum_zero (List.filter _ _) fun p hp => by
    have := (List.mem_filter.mp hp).2
    rw [Bool.and_eq_true_iff] at this
    exact if_neg (J.touch_out (T := T) (of_decide_eq_true this.1) (of_decide_eq_true this.2))]
  rw [Nat.add_zero]
  congr 2
  · refine List.map_congr_left fun p hp => ?_
    have h := mem_pairsN.mp hp
    have ht := J.touch_in (g := 0) (T := T) (by decide) h.1 h.2
    have ht : touch js T p = touch (Hs 0) (part os 0 T) p := ht
    have hr : roomA caps p = roomA (Cs 0) p := by
      unfold roomA
      rw [J.caps]
      congr 1
      · exact getD_left (by omega)
      · exact getD_left h.2
    rw [ht, hr]
  · refine List.map_congr_left fun p hp => ?_
    have h := mem_pairsN.mp hp
    have ht := J.touch_in (g := 1) (T := T) (by decide) h.1 h.2
    have ht : touch js T (p.1 + (Cs 0).length, p.2 + (Cs 0).length) = touch (Hs 1) (part os 1 T) p := ht
    have hr : roomA caps (p.1 + (Cs 0).length, p.2 + (Cs 0).length) = roomA (Cs 1) p := by
      unfold roomA
      rw [J.caps]
      congr 1
      · exact getD_right rfl
      · exact getD_right rfl
    show (if touch js T (p.1 + (Cs 0).length, p.2 + (Cs 0).length) = true then roomA caps (p.1 + (Cs 0).length, p.2 + (Cs 0).length) else 0) = _
    rw [ht, hr]
theorem Join.cnt (J : Join Cs Hs os caps js) (T : Nat → Bool) : cnt js.length T = cnt (Hs 0).length (part os 0 T) + cnt (Hs 1).length (part os 1 T) := by
  rw [J.len, cnt_join J.own T]
theorem cnt_none {n : Nat} : cnt n (fun _ => false) = 0 := List.countP_eq_zero.mpr fun i _ h => by cases h
theorem places_none {caps : List Nat} {hs : List (List Nat)} : places caps hs (fun _ => false) = 0 := sum_zero _ fun p _ => if_neg fun z => by
  obtain ⟨i, _, h, _⟩ := touch_iff.mp z
  cases h
theorem Join.part (J : Join Cs Hs os caps js) {T : Nat → Bool} (h : Hall caps js T) {g : Nat} (hg : g < 2) : Hall (Cs g) (Hs g) (part os g T) := by
  intro U hU
  let T' : Nat → Bool := fun q => match os[q]? with
    | some (g', p) => decide (g' = g) && U p
    | none => false
  have hsub : ∀ q, T' q = true → T q = true := fun q hq => by
    have hq' : (match os[q]? with
    | some (g', p) => decide (g' = g) && U p
    | none => false) = true := hq
    split at hq'
    · rename_i g' p e
      rw [Bool.and_eq_true_iff] at hq'
      have eg : g' = g := of_decide_eq_true hq'.1
      subst eg
      have := hU p hq'.2
      rwa [part_at J.own e] at this
    · cases hq'
  have hT := h T' hsub
  have at' : ∀ g', g' < 2 → ∀ p, p < (Hs g').length → BL.part os g' T' p = (decide (g' = g) && U p) := fun g' hg' p hp => by
    obtain ⟨q, _, ho⟩ := J.own.ex hg' hp
    rw [part_at J.own ho]
    show (match os[q]? with
    | some (g', p) => decide (g' = g) && U p
    | none => false) = _
    rw [ho]
  rw [J.cnt, J.places] at hT
  have c : g = 0 ∨ g = 1 := by omega
  rcases c with rfl | rfl
  · have a0 : ∀ p, p < (Hs 0).length → BL.part os 0 T' p = U p := fun p hp => by rw [at' 0 (by decide) p hp]; simp
    have a1 : ∀ p, p < (Hs 1).length → BL.part os 1 T' p = false := fun p hp => by rw [at' 1 (by decide) p hp]; simp
    rw [cnt_congr a0, cnt_congr a1, places_congr a0, places_congr a1, cnt_none, places_none] at hT
    exact hT
  · have a0 : ∀ p, p < (Hs 0).length → BL.part os 0 T' p = false := fun p hp => by rw [at' 0 (by decide) p hp]; simp
    have a1 : ∀ p, p < (Hs 1).length → BL.part os 1 T' p = U p := fun p hp => by rw [at' 1 (by decide) p hp]; simp
    rw [cnt_congr a0, cnt_congr a1, places_congr a0, places_congr a1, cnt_none, places_none, Nat.zero_add, Nat.zero_add] at hT
    exact hT
theorem Join.hall (J : Join Cs Hs os caps js) {T : Nat → Bool} : Hall caps js T ↔ ∀ g, g < 2 → Hall (Cs g) (Hs g) (BL.part os g T) := by
  constructor
  · intro h g hg; exact J.part h hg
  · intro h U hU
    rw [J.cnt, J.places]
    have sub : ∀ g p, BL.part os g U p = true → BL.part os g T p = true := fun g p hp => by
      obtain ⟨q, h1, h2⟩ := part_iff.mp hp
      exact part_iff.mpr ⟨q, h1, hU q h2⟩
    have h0 := h 0 (by decide) _ (sub 0)
    have h1 := h 1 (by decide) _ (sub 1)
    omega
/-- the second of a named piece of group g -/
def secOf (os : List (Nat × Nat)) (g q : Nat) : Option Nat := match os[q]? with
  | some o => if o.1 = g then some o.2 else none
  | none => none
theorem secOf_some {g q p : Nat} : secOf os g q = some p ↔ os[q]? = some (g, p) := by
  unfold secOf
  constructor
  · intro h
    split at h
    · rename_i o e
      split at h
      · rename_i eg
        cases h
        rw [e, ← eg]
      · cases h
    · cases h
  · intro h; rw [h]; exact if_pos rfl
def ordg (os : List (Nat × Nat)) (g : Nat) (ord : List Nat) : List Nat := ord.filterMap (secOf os g)
theorem range_secs (os : List (Nat × Nat)) (g : Nat) : (List.range os.length).filterMap (secOf os g) = secs g os := by
  unfold secs
  conv => rhs; rw [as_range os]
  rw [List.filterMap_map]
  refine fm_congr fun q hq => ?_
  have hq := List.mem_range.mp hq
  show secOf os g q = if (os.getD q (0, 0)).1 = g then some (os.getD q (0, 0)).2 else none
  unfold secOf
  rw [List.getD_eq_getElem?_getD, List.getElem?_eq_getElem hq]; rfl
theorem ordg_of {n : Nat → Nat} (O : Own n os) {w w' : Nat → Nat} {ord : List Nat} (ho : OrdOf w os.length ord) {g : Nat} (hg : g < 2) (hw : ∀ q p, os[q]? = some (g, p) → w' p = w q) : OrdOf w' (n g) (ordg os g ord) := by
  refine ⟨?_, ?_⟩
  · unfold ordg
    rw [← O.sec g hg, ← range_secs]
    exact ho.perm.filterMap _
  · unfold ordg
    rw [List.pairwise_filterMap]
    refine List.Pairwise.imp (fun {a b} h p hp p' hp' => ?_) ho.srt
    have h1 := secOf_some.mp hp
    have h2 := secOf_some.mp hp'
    unfold Bef at *
    rw [hw a p h1, hw b p' h2]
    rcases h with z | ⟨z1, z2⟩
    · exact .inl z
    · exact .inr ⟨z1, O.mono h1 h2 z2⟩
/-- what both groups collect -/
def both (os : List (Nat × Nat)) (Gs : Nat → Nat → Bool) (q : Nat) : Bool := match os[q]? with
  | some o => Gs o.1 o.2
  | none => false
theorem both_at {Gs : Nat → Nat → Bool} {q g p : Nat} (h : os[q]? = some (g, p)) : both os Gs q = Gs g p := by unfold both; rw [h]
theorem Join.greedy (J : Join Cs Hs os caps js) {w : Nat → Nat} {ord : List Nat} (ho : OrdOf w os.length ord) {Gs : Nat → Nat → Bool} (hG : ∀ g, g < 2 → Greedy (Hall (Cs g) (Hs g)) (ordg os g ord) (Gs g)) : Greedy (Hall caps js) ord (both os Gs) := by
  refine ⟨fun x hx => ?_, fun j q hq => ?_⟩
  · refine ho.mem.mpr ?_
    unfold both at hx
    split at hx
    · rename_i o e
      exact (List.getElem?_eq_some_iff.mp e).1
    · cases hx
  · have hql := ho.mem.mp (List.mem_of_getElem? hq)
    have e : os[q]? = some (os[q]) := List.getElem?_eq_getElem hql
    generalize os[q] = o at e
    obtain ⟨g, p⟩ := o
    obtain ⟨_, hg, hp⟩ := J.own.lt e
    rw [both_at e]
    obtain ⟨hj, hjq⟩ := List.getElem?_eq_some_iff.mp hq
    have esplit : ordg os g ord = (ord.take j).filterMap (secOf os g) ++ p :: (ord.drop (j + 1)).filterMap (secOf os g) := by
      unfold ordg
      conv => lhs; rw [← List.take_append_drop j ord, List.drop_eq_getElem_cons hj, hjq]
      rw [List.filterMap_append, List.filterMap_cons, secOf_some.mpr e]
    have hix : (ordg os g ord)[((ord.take j).filterMap (secOf os g)).length]? = some p := by
      rw [esplit, List.getElem?_append_right (Nat.le_refl _), Nat.sub_self]; rfl
    have htk : (ordg os g ord).take ((ord.take j).filterMap (secOf os g)).length = (ord.take j).filterMap (secOf os g) := by
      rw [esplit, List.take_left]
    rw [(hG g hg).join _ p hix, htk, J.hall]
    have key : ∀ y, y < (Hs g).length → (((List.filterMap (secOf os g) (List.take j ord)).contains y && Gs g y) || y == p) = BL.part os g (fun x => ((ord.take j).contains x && both os Gs x) || x == q) y := fun y hy => by
      obtain ⟨x, _, hx⟩ := J.own.ex hg hy
      rw [part_at J.own hx, both_at hx]
      have c1 : (List.filterMap (secOf os g) (List.take j ord)).contains y = (ord.take j).contains x := by
        rw [Bool.eq_iff_iff, List.contains_iff_mem, List.contains_iff_mem, List.mem_filterMap]
        constructor
        · rintro ⟨x', hx', h⟩
          rw [J.own.inj hx (secOf_some.mp h)]; exact hx'
        · intro h; exact ⟨x, h, secOf_some.mpr hx⟩
      have c2 : (y == p) = (x == q) := by
        rw [Bool.eq_iff_iff, beq_iff_eq, beq_iff_eq]
        constructor
        · intro z; subst z; exact J.own.inj hx e
        · intro z; subst z; rw [hx] at e; cases e; rfl
      rw [c1, c2]
    constructor
    · intro h g' hg'
      by_cases eg : g' = g
      · subst eg
        exact (Hall.congr' key).mp h
      · refine (greedy_hall (hG g' hg')).sub fun y hy => ?_
        obtain ⟨x, hx, hX⟩ := part_iff.mp hy
        rcases Bool.or_eq_true_iff.mp hX with z | z
        · have := (Bool.and_eq_true_iff.mp z).2
          rwa [both_at hx] at this
        · have : x = q := by simpa using z
          subst this
          rw [hx] at e; cases e; exact absurd rfl eg
    · intro h
      exact (Hall.congr' key).mpr (h g hg)
/-- the worths of one group's pieces -/
theorem mine_at {n : Nat → Nat} (O : Own n os) {g : Nat} (hg : g < 2) (w : Nat → Nat) : (((List.range os.length).filter fun q => decide ((os.getD q (0, 0)).1 = g)).map w).length = n g ∧ ∀ q p, os[q]? = some (g, p) → (((List.range os.length).filter fun q => decide ((os.getD q (0, 0)).1 = g)).map w).getD p 0 = w q := by
  have gd : ∀ {q o}, os[q]? = some o → os.getD q (0, 0) = o := fun {q o} h => by rw [List.getD_eq_getElem?_getD, h]; rfl
  have e : ((List.range os.length).filter fun q => decide ((os.getD q (0, 0)).1 = g)).map (fun q => (os.getD q (0, 0)).2) = List.range (n g) := by
    rw [← O.sec g hg, ← range_secs, ← List.filterMap_eq_map, List.filterMap_filter]
    refine fm_congr fun q hq => ?_
    have hq := List.mem_range.mp hq
    have e : os[q]? = some (os[q]) := List.getElem?_eq_getElem hq
    unfold secOf
    rw [gd e, e]
    by_cases c : (os[q]).1 = g
    · simp [c]
      rw [e]; rfl
    · simp [c]
  generalize hL : ((List.range os.length).filter fun q => decide ((os.getD q (0, 0)).1 = g)) = L at e
  have hlen : L.length = n g := by have := congrArg List.length e; rwa [List.length_map, List.length_range] at this
  refine ⟨by rw [List.length_map]; exact hlen, fun q p h => ?_⟩
  have hq : q ∈ L := by
    rw [← hL]
    exact List.mem_filter.mpr ⟨List.mem_range.mpr (O.lt h).1, by rw [gd h]; simp⟩
  obtain ⟨i, hi⟩ := List.getElem?_of_mem hq
  have h2 : (L.map fun q => (os.getD q (0, 0)).2)[i]? = some p := by rw [List.getElem?_map, hi]; show some (os.getD q (0, 0)).2 = _; rw [gd h]
  rw [e] at h2
  have hil : i < n g := by rw [← hlen]; exact (List.getElem?_eq_some_iff.mp hi).1
  rw [List.getElem?_range hil] at h2
  cases h2
  rw [List.getD_eq_getElem?_getD, List.getElem?_map, hi]; rfl
/-- the lot of both groups, told group by group -/
theorem both_perm {n : Nat → Nat} (O : Own n os) {Gs : Nat → Nat → Bool} : ((List.range os.length).filter (fun q => decide ((os.getD q (0, 0)).1 = 0) && Gs 0 (os.getD q (0, 0)).2) ++ (List.range os.length).filter fun q => decide ((os.getD q (0, 0)).1 = 1) && Gs 1 (os.getD q (0, 0)).2).Perm ((List.range os.length).filter (both os Gs)) := by
  have gd : ∀ {q o}, os[q]? = some o → os.getD q (0, 0) = o := fun {q o} h => by rw [List.getD_eq_getElem?_getD, h]; rfl
  refine (List.perm_ext_iff_of_nodup (List.nodup_append.mpr ⟨List.nodup_range.filter _, List.nodup_range.filter _, fun a ha b hb e => ?_⟩) (List.nodup_range.filter _)).mpr fun q => ?_
  · subst e
    have h1 := (List.mem_filter.mp ha).2
    have h2 := (List.mem_filter.mp hb).2
    rw [Bool.and_eq_true_iff] at h1 h2
    have a1 := of_decide_eq_true h1.1
    have a2 := of_decide_eq_true h2.1
    omega
  · rw [List.mem_append, List.mem_filter, List.mem_filter, List.mem_filter, ← and_or_left]
    refine and_congr_right fun hq => ?_
    have hq := List.mem_range.mp hq
    have e : os[q]? = some (os[q]) := List.getElem?_eq_getElem hq
    generalize os[q] = o at e
    obtain ⟨g, p⟩ := o
    rw [gd e, both_at e]
    have hg := (O.lt e).2.1
    have c : g = 0 ∨ g = 1 := by omega
    rcases c with rfl | rfl <;> simp
end
end BL
set_option Elab.async false
set_option linter.all false
set_option maxRecDepth 100000
set_option maxHeartbeats 8000000
namespace BL
open PySem L2
/-! _law_is_best, _law_joined, _law_collected_in_groups -/
def spIsBest (K : PySem.W.Frag) : Sp := fun vs H Q _ => ∃ (a b c : Addr) (ws bl lot : List Nat), vs = [.ref a, .ref b, .ref c] ∧ SqL K H a (ws.map vn) ∧ SqL K H b (bl.map vn) ∧ SqL K H c (lot.map vn) ∧ (∀ x ∈ bl, x < ws.length) ∧ (∀ x ∈ lot, x < ws.length) ∧ bl.length ≤ 100 ∧ lot.length ≤ 100 ∧
  (lot.map (wOf ws)).sum ≤ (bl.map (wOf ws)).sum ∧ (∀ c, (lot.filter fun x => decide (c ≤ wOf ws x)).length ≤ (bl.filter fun x => decide (c ≤ wOf ws x)).length) ∧ ∀ H', Same H H' → Q (.bl true) H'
/-- v is the tuple (caps, holders) -/
def GrpAt (H : Hp) (v : V) (caps : List Nat) (hs : List (List Nat)) : Prop := ∃ (t a b : Addr) (ws : List V), v = .ref t ∧ H t = some (.tup [.ref a, .ref b]) ∧ H a = some (.lst (caps.map vn)) ∧ H b = some (.lst ws) ∧ Paired (IsLst H) ws hs
theorem GrpAt.same {H H' : Hp} {v : V} {caps : List Nat} {hs : List (List Nat)} (h : GrpAt H v caps hs) (s : Same H H') : GrpAt H' v caps hs := by
  obtain ⟨t, a, b, ws, e, h1, h2, h3, h4⟩ := h
  exact ⟨t, a, b, ws, e, s _ _ h1, s _ _ h2, s _ _ h3, Paired.mapP h4 fun _ _ q => lst_same s q⟩
def rowJ (m : Nat) (h1 h2 : List (List Nat)) (o : Nat × Nat) : List Nat := if o.1 = 0 then h1.getD o.2 [] else (h2.getD o.2 []).map fun x => x + m
def spJoined : Sp := fun vs H Q _ => ∃ (v1 v2 : V) (c1 c2 : List Nat) (h1 h2 : List (List Nat)), vs = [v1, v2] ∧ GrpAt H v1 c1 h1 ∧ GrpAt H v2 c2 h2 ∧ LawOk 6 c1 h1 ∧ LawOk 6 c2 h2 ∧
  ∀ (t a b c : Addr) (ws us : List V) (H' : Hp), Same H H' → H' t = some (.tup [.ref a, .ref b, .ref c]) → H' a = some (.lst ((c1 ++ c2).map vn)) → H' b = some (.lst ws) → H' c = some (.lst us) →
    Paired (IsLst H') ws ((ownTo h1.length h2.length (max h1.length h2.length)).map (rowJ c1.length h1 h2)) → Paired (IsP H') us (ownTo h1.length h2.length (max h1.length h2.length)) → Q (.ref t) H'
def spGroups (K : PySem.W.Frag) : Sp := fun vs H Q _ => ∃ (a b c : Addr) (v0 v1 : V) (Cs : Nat → List Nat) (Hs : Nat → List (List Nat)) (us : List V) (os : List (Nat × Nat)) (ws : List Nat), vs = [.ref a, .ref b, .ref c] ∧ SqL K H a [v0, v1] ∧ GrpAt H v0 (Cs 0) (Hs 0) ∧ GrpAt H v1 (Cs 1) (Hs 1) ∧
  SqL K H b us ∧ Paired (IsP H) us os ∧ SqL K H c (ws.map vn) ∧ Own (fun g => (Hs g).length) os ∧ ws.length = os.length ∧ os.length ≤ 100 ∧ (∀ g, g < 2 → (Hs g).length ≤ 6 ∧ (Cs g).length ≤ 100) ∧
  ∀ (p : Addr) (Gs : Nat → Nat → Bool) (H' : Hp), Same H H' → (∀ ord, OrdOf (wOf ws) os.length ord → ∀ g, g < 2 → Greedy (Hall (Cs g) (Hs g)) (ordg os g ord) (Gs g)) → H' p = some (.lst (((List.range os.length).filter (both os Gs)).map vn)) → Q (.ref p) H'
/-- between two statements of _law_joined -/
structure JoI (H2 H3 : Hp) (Hd Od : Addr) (row : Nat × Nat → List Nat) (os : List (Nat × Nat)) (H : Hp) (ws us : List V) : Prop where
  same : Same H2 H
  hd : H Hd = some (.lst ws)
  od : H Od = some (.lst us)
  rows : Paired (IsLn H3 H) ws (os.map row)
  owns : Paired (IsP H) us os
theorem JoI.step {H2 H3 : Hp} {Hd Od : Addr} {row : Nat × Nat → List Nat} {os : List (Nat × Nat)} {H H4 : Hp} {ws us : List V} (I : JoI H2 H3 Hd Od row os H ws us) (h0 : H2 Hd = none) (h0' : H2 Od = none) {x y : HO} (e3 : H3 Hd = some x) (e3' : H3 Od = some y) (hne : Hd ≠ Od)
    (s : Same H H4) {l t : Addr} {o : Nat × Nat} (hl : H3 l = none) (hl4 : H4 l = some (.lst ((row o).map vn))) (ht : (upd H4 Hd (.lst (ws ++ [.ref l]))) t = none) :
    JoI H2 H3 Hd Od row (os ++ [o]) (upd (upd (upd H4 Hd (.lst (ws ++ [.ref l]))) t (.tup [vn o.1, vn o.2])) Od (.lst (us ++ [.ref t]))) (ws ++ [.ref l]) (us ++ [.ref t]) := by
  have a1 := s _ _ I.hd
  have a2 := s _ _ I.od
  have s6 := same_new (o := .tup [vn o.1, vn o.2]) ht
  have a3 : (upd H4 Hd (.lst (ws ++ [.ref l]))) Od = some (.lst us) := by rw [upd_ne hne.symm]; exact a2
  have nt : t ≠ Od := fun z => by rw [z, a3] at ht; cases ht
  have a4 := s6 _ _ a3
  refine ⟨same_put ((same_put (I.same.trans s) h0).trans s6) h0', ?_, upd_same, ?_, ?_⟩
  · rw [upd_ne hne]; exact s6 _ _ upd_same
  · rw [List.map_append]
    have key : ∀ v h, IsLn H3 H4 v h → IsLn H3 (upd (upd (upd H4 Hd (.lst (ws ++ [.ref l]))) t (.tup [vn o.1, vn o.2])) Od (.lst (us ++ [.ref t]))) v h := fun v h q => ln_upd e3' (ln_same s6 (ln_upd e3 q))
    exact Paired.snoc (Paired.mapP I.rows fun v h q => key v h (ln_same s q)) (key _ _ ⟨l, rfl, hl, hl4⟩)
  · have k := ((tk_of s).trans ((tk_lst a1).trans (tk_of s6))).trans (tk_lst (o := .lst (us ++ [.ref t])) a4)
    refine Paired.snoc (tups_P.all k I.owns) ⟨t, rfl, ?_⟩
    rw [upd_ne nt, upd_same]
theorem flat_congr {α β : Type} {f g : α → List β} : ∀ {l : List α}, (∀ a ∈ l, f a = g a) → l.flatMap f = l.flatMap g
  | [], _ => rfl
  | a :: l, h => by rw [List.flatMap_cons, List.flatMap_cons, h a (List.mem_cons_self ..), flat_congr (l := l) fun b hb => h b (List.mem_cons_of_mem _ hb)]
section
variable {P : Program} {w : World} {K : PySem.W.Frag} {mg : Str → Option Value} {base : Heap} {C : Addr}
theorem ok_l_is_best {f : Addr} {fd : FuncData} (B : Bt mg) (F : FnP K "_law_is_best" s_l_is_best f fd) : FnOk P w K mg base CX0 1 f fd ["_law_worths_here", "_law_best", "_law_lot"] (spIsBest K) := by
  refine F.ok sc_l_is_best (fun vs H Q E h => ?_) (fun cdv A outer s H vs Q E hr h => ?_)
  · obtain ⟨a, b, c, ws, bl, lot, rfl, _⟩ := h; rfl
  · obtain ⟨a, b, c, ws, bl, lot, rfl, ha, hb, hc, mb, mc, lb, lc, hsum, hcnt, k⟩ := h
    have wat : ∀ x, x < ws.length → (ws.map vn)[x]? = some (vn (wOf ws x)) := fun x hx => by unfold wOf; simp [hx]
    have esum : ∀ l : List Nat, (l.map fun q => some (wOf ws q)).filterMap id = l.map (wOf ws) := fun l => by
      rw [← map_some_id (l.map (wOf ws)), List.map_map]; rfl
    refine ⟨_, PSs.nox (pss_cons
      (ps_if (pt_cmpR op_gt (pe_callB (sumK K rfl) (by rfl) B.sum (by decide +kernel) (pa_cons (pe_lc (own := [("_law_p", 3)]) rfl sc_l_is_best.nd (pi_listK K (pv 2)) (blkOk_by (own := [("_law_p", 3)]) (N := N_l_is_best) (sc := defScope s_l_is_best) (by decide +kernel)) (fun _ _ _ _ _ => (pg_name (i := 3) sc_l_is_best.nd rfl (Or.inl rfl))) (fun _ _ _ _ _ => pts_nil) (fun _ _ _ _ _ => (pe_ix (ix_listK K) (pv 0) (pv 3) (fun _ _ => rfl)))) pa_nil)) (pe_callB (sumK K rfl) (by rfl) B.sum (by decide +kernel) (pa_cons (pe_lc (own := [("_law_p", 3)]) rfl sc_l_is_best.nd (pi_listK K (pv 1)) (blkOk_by (own := [("_law_p", 3)]) (N := N_l_is_best) (sc := defScope s_l_is_best) (by decide +kernel)) (fun _ _ _ _ _ => (pg_name (i := 3) sc_l_is_best.nd rfl (Or.inl rfl))) (fun _ _ _ _ _ => pts_nil) (fun _ _ _ _ _ => (pe_ix (ix_listK K) (pv 0) (pv 3) (fun _ _ => rfl)))) pa_nil)) (nomark _))
      (pss_one
        (ps_ret pe_bl))
      pss_nil)
    (pss_cons
      (ps_for PassesOwn.never rfl (pi_listK K (pv 0)) (pg_name (i := 4) sc_l_is_best.nd rfl (Or.inr rfl))
      (pss_one
        (ps_if (pt_cmpR op_gt (pe_callB (lenK K) (by rfl) B.len PySem.boot_len (pa_cons (pe_lc (own := [("_law_p", 3)]) rfl sc_l_is_best.nd (pi_listK K (pv 2)) (blkOk_by (own := [("_law_p", 3)]) (N := N_l_is_best) (sc := defScope s_l_is_best) (by decide +kernel)) (fun _ _ _ _ _ => (pg_name (i := 3) sc_l_is_best.nd rfl (Or.inl rfl))) (fun _ _ _ _ _ => pts_one (pt_cmpR op_ge (pe_ix (ix_listK K) (pv 0) (pv 3) (fun _ _ => rfl)) (pv 4) (nomark _))) (fun _ _ _ _ _ => (pv 3))) pa_nil)) (pe_callB (lenK K) (by rfl) B.len PySem.boot_len (pa_cons (pe_lc (own := [("_law_p", 3)]) rfl sc_l_is_best.nd (pi_listK K (pv 1)) (blkOk_by (own := [("_law_p", 3)]) (N := N_l_is_best) (sc := defScope s_l_is_best) (by decide +kernel)) (fun _ _ _ _ _ => (pg_name (i := 3) sc_l_is_best.nd rfl (Or.inl rfl))) (fun _ _ _ _ _ => pts_one (pt_cmpR op_ge (pe_ix (ix_listK K) (pv 0) (pv 3) (fun _ _ => rfl)) (pv 4) (nomark _))) (fun _ _ _ _ _ => (pv 3))) pa_nil)) (nomark _))
        (pss_one
          (ps_ret pe_bl))
        pss_nil)))
    (pss_one
      (ps_ret pe_bl)))), ?_⟩
    refine ⟨_, rfl, c, rfl, ⟨_, hc⟩, fun D1 hD1 => ?_⟩
    refine comp_list IsN (lot.map fun q => some (wOf ws q)) (by simp) (by rw [List.length_map]; exact sz_le (by omega)) tups_N.same tups_N.updL hD1 hc (fun j y o H2 hy ho s2 Q' q1 q2 => ?_) (fun H1 acc s1 hacc pacc => ?_)
    · obtain ⟨q, hq, rfl⟩ := vmap_at hy
      have ho' := map_at hq ho
      refine ⟨rfl, yesT ?_⟩
      exact ⟨_, rfl, _, rfl, a, _, _, _, rfl, rfl, s2.seq ha, atN (wat q (mc q (List.mem_of_getElem? hq))), q2 _ _ _ (Same.refl _) ho'.symm rfl⟩
    rw [esum] at pacc
    rw [paired_N pacc, vmap_ints] at hacc
    refine ⟨D1, _, rfl, SqL.of hacc, ?_⟩
    rw [cast_sum]
    refine ⟨_, rfl, b, rfl, ⟨_, s1.seq hb⟩, fun D2 hD2 => ?_⟩
    refine comp_list IsN (bl.map fun q => some (wOf ws q)) (by simp) (by rw [List.length_map]; exact sz_le (by omega)) tups_N.same tups_N.updL hD2 (s1.seq hb) (fun j y o H2 hy ho s2 Q' q1 q2 => ?_) (fun H2 acc2 s2 hacc2 pacc2 => ?_)
    · obtain ⟨q, hq, rfl⟩ := vmap_at hy
      have ho' := map_at hq ho
      refine ⟨rfl, yesT ?_⟩
      exact ⟨_, rfl, _, rfl, a, _, _, _, rfl, rfl, (s1.trans s2).seq ha, atN (wat q (mb q (List.mem_of_getElem? hq))), q2 _ _ _ (Same.refl _) ho'.symm rfl⟩
    rw [esum] at pacc2
    rw [paired_N pacc2, vmap_ints] at hacc2
    refine ⟨D2, _, rfl, SqL.of hacc2, ?_⟩
    rw [cast_sum]
    refine ⟨_, _, rfl, rfl, _, rfl, ?_⟩
    refine ite2 (fun z => ?_) (fun _ => ?_)
    · exfalso
      have z := of_decide_eq_true z
      omega
    have s12 := s1.trans s2
    refine ⟨_, rfl, a, rfl, ⟨_, s12.seq ha⟩, for_list (K := K) (a := a) (xs := ws.map vn) (fun i σ H' => ∃ (v4 : Option V), σ = [some (.ref a), some (.ref b), some (.ref c), none, v4] ∧ Same H H') ⟨none, rfl, s12⟩ (fun i σ H' _ ⟨_, _, s'⟩ => s'.seq ha) ?_ ?_⟩
    · rintro i x σ H' hx ⟨v4, rfl, s'⟩
      obtain ⟨n, hn, rfl⟩ := vmap_at hx
      refine ⟨_, rfl, c, rfl, ⟨_, s'.seq hc⟩, fun D3 hD3 => ?_⟩
      refine comp_list IsN (lot.map fun q => if decide (n ≤ wOf ws q) then some q else none) (by simp) (by rw [List.length_map]; exact sz_le (by omega)) tups_N.same tups_N.updL hD3 (s'.seq hc) (fun j y o H3 hy ho s3 Q' q1 q2 => ?_) (fun H3 acc3 s3 hacc3 pacc3 => ?_)
      · obtain ⟨q, hq, rfl⟩ := vmap_at hy
        have ho' := map_at hq ho
        refine ⟨rfl, ?_⟩
        refine ⟨_, rfl, _, rfl, a, _, _, _, rfl, rfl, (s'.trans s3).seq ha, atN (wat q (mc q (List.mem_of_getElem? hq))), _, rfl, _, _, rfl, rfl, _, rfl, ?_⟩
        refine ite2 (fun h1 => ?_) (fun h1 => ?_)
        · have h2 : n ≤ wOf ws q := by have := of_decide_eq_true h1; omega
          exact ⟨_, rfl, q2 _ q _ (Same.refl _) (by rw [← ho', if_pos (decide_eq_true h2)]) rfl⟩
        · have h2 : ¬ n ≤ wOf ws q := fun z => h1 (decide_eq_true (by omega))
          exact q1 _ (Same.refl _) (by rw [← ho', if_neg (by simpa using h2)])
      rw [filterMap_if] at pacc3
      rw [paired_N pacc3] at hacc3
      have s3' := s'.trans s3
      refine ⟨D3, _, rfl, .inl (SqL.of hacc3), ?_⟩
      refine ⟨_, rfl, b, rfl, ⟨_, s3'.seq hb⟩, fun D4 hD4 => ?_⟩
      refine comp_list IsN (bl.map fun q => if decide (n ≤ wOf ws q) then some q else none) (by simp) (by rw [List.length_map]; exact sz_le (by omega)) tups_N.same tups_N.updL hD4 (s3'.seq hb) (fun j y o H4 hy ho s4 Q' q1 q2 => ?_) (fun H4 acc4 s4 hacc4 pacc4 => ?_)
      · obtain ⟨q, hq, rfl⟩ := vmap_at hy
        have ho' := map_at hq ho
        refine ⟨rfl, ?_⟩
        refine ⟨_, rfl, _, rfl, a, _, _, _, rfl, rfl, (s3'.trans s4).seq ha, atN (wat q (mb q (List.mem_of_getElem? hq))), _, rfl, _, _, rfl, rfl, _, rfl, ?_⟩
        refine ite2 (fun h1 => ?_) (fun h1 => ?_)
        · have h2 : n ≤ wOf ws q := by have := of_decide_eq_true h1; omega
          exact ⟨_, rfl, q2 _ q _ (Same.refl _) (by rw [← ho', if_pos (decide_eq_true h2)]) rfl⟩
        · have h2 : ¬ n ≤ wOf ws q := fun z => h1 (decide_eq_true (by omega))
          exact q1 _ (Same.refl _) (by rw [← ho', if_neg (by simpa using h2)])
      rw [filterMap_if] at pacc4
      rw [paired_N pacc4] at hacc4
      refine ⟨D4, _, rfl, .inl (SqL.of hacc4), _, _, rfl, rfl, _, rfl, ?_⟩
      rw [List.length_map, List.length_map]
      have hc := hcnt n
      refine ite2 (fun z => ?_) (fun _ => ⟨_, rfl, s3'.trans s4⟩)
      exfalso
      have z := of_decide_eq_true z
      omega
    · rintro σ H' ⟨v4, rfl, s'⟩
      exact k H' s'
theorem ok_l_joined {f : Addr} {fd : FuncData} (B : Bt mg) (F : FnP K "_law_joined" s_l_joined f fd) : FnOk P w K mg base CX0 1 f fd ["_law_first", "_law_second"] spJoined := by
  refine F.ok sc_l_joined (fun vs H Q E h => ?_) (fun cdv A outer s H vs Q E hr h => ?_)
  · obtain ⟨v1, v2, c1, c2, h1, h2, rfl, _⟩ := h; rfl
  · obtain ⟨v1, v2, c1, c2, h1, h2, rfl, ⟨t1, a1, b1, ws1, rfl, ht1, ha1, hb1, p1⟩, ⟨t2, a2, b2, ws2, rfl, ht2, ha2, hb2, p2⟩, ok1, ok2, k⟩ := h
    have f1 := ok1.few
    have f2 := ok2.few
    have g1 := ok1.five
    have g2 := ok2.five
    have hl1 := p1.length
    have hl2 := p2.length
    have k10 : atI ([.ref a1, .ref b1] : List V) 0 = some (.ref a1) := atN (j := 0) rfl
    have k11 : atI ([.ref a1, .ref b1] : List V) 1 = some (.ref b1) := atN (j := 1) rfl
    have k20 : atI ([.ref a2, .ref b2] : List V) 0 = some (.ref a2) := atN (j := 0) rfl
    have k21 : atI ([.ref a2, .ref b2] : List V) 1 = some (.ref b2) := atN (j := 1) rfl
    refine ⟨_, PSs.nox (pss_cons
      (ps_set (i := 2) sc_l_joined.nd rfl (Or.inl rfl) (pe_op op_cat (pe_ix (ix_tupK K) (pv 0) pe_int (fun _ _ => rfl)) (pe_ix (ix_tupK K) (pv 1) pe_int (fun _ _ => rfl))))
    (pss_cons
      (ps_set (i := 3) sc_l_joined.nd rfl (Or.inr rfl) (pe_callB (lenK K) (by rfl) B.len PySem.boot_len (pa_cons (pe_ix (ix_tupK K) (pv 0) pe_int (fun _ _ => rfl)) pa_nil)))
    (pss_cons
      (ps_set (i := 4) sc_l_joined.nd rfl (Or.inl rfl) (pe_lst pa_nil))
    (pss_cons
      (ps_set (i := 5) sc_l_joined.nd rfl (Or.inl rfl) (pe_lst pa_nil))
    (pss_cons
      (ps_for PassesOwn.never rfl (pi_range1 rfl B.range (pa_cons (pe_callB (call_max2 rfl) (by rfl) B.max (by decide +kernel) (pa_cons (pe_callB (lenK K) (by rfl) B.len PySem.boot_len (pa_cons (pe_ix (ix_tupK K) (pv 0) pe_int (fun _ _ => rfl)) pa_nil)) (pa_cons (pe_callB (lenK K) (by rfl) B.len PySem.boot_len (pa_cons (pe_ix (ix_tupK K) (pv 1) pe_int (fun _ _ => rfl)) pa_nil)) pa_nil))) pa_nil)) (pg_name (i := 6) sc_l_joined.nd rfl (Or.inl rfl))
      (C8.pss_cut
        (ps_if (pt_cmpR op_lt (pv 6) (pe_callB (lenK K) (by rfl) B.len PySem.boot_len (pa_cons (pe_ix (ix_tupK K) (pv 0) pe_int (fun _ _ => rfl)) pa_nil)) (nomark _))
        (pss_cons
          (ps_expr (appK K (pv 4) (pe_callTy (lstOfK K) (by rfl) B.list (by decide +kernel) (pa_cons (pe_ix (ix_listK K) (pe_ix (ix_tupK K) (pv 0) pe_int (fun _ _ => rfl)) (pv 6) (fun _ _ => rfl)) pa_nil))))
        (pss_one
          (ps_expr (appK K (pv 5) (pe_tup (pa_cons pe_int (pa_cons (pv 6) pa_nil)))))))
        pss_nil)
      (pss_one
        (ps_if (pt_cmpR op_lt (pv 6) (pe_callB (lenK K) (by rfl) B.len PySem.boot_len (pa_cons (pe_ix (ix_tupK K) (pv 1) pe_int (fun _ _ => rfl)) pa_nil)) (nomark _))
        (pss_cons
          (ps_expr (appK K (pv 4) (pe_lc (own := [("_law_k", 7)]) rfl sc_l_joined.nd (pi_listK K (pe_ix (ix_listK K) (pe_ix (ix_tupK K) (pv 1) pe_int (fun _ _ => rfl)) (pv 6) (fun _ _ => rfl))) (blkOk_by (own := [("_law_k", 7)]) (N := N_l_joined) (sc := defScope s_l_joined) (by decide +kernel)) (fun _ _ _ _ _ => (pg_name (i := 7) sc_l_joined.nd rfl (Or.inl rfl))) (fun _ _ _ _ _ => pts_nil) (fun _ _ _ _ _ => (pe_op op_add (pv 7) (pv 3))))))
        (pss_one
          (ps_expr (appK K (pv 5) (pe_tup (pa_cons pe_int (pa_cons (pv 6) pa_nil)))))))
        pss_nil))))
    (pss_one
      (ps_ret (pe_tup (pa_cons (pv 2) (pa_cons (pv 4) (pa_cons (pv 5) pa_nil))))))))))), ?_⟩
    refine ⟨_, rfl, t1, _, _, _, rfl, rfl, SqT.of ht1, k10, _, rfl, t2, _, _, _, rfl, rfl, SqT.of ht2, k20, a1, a2, _, _, rfl, rfl, ha1, ha2, by rw [List.length_map, List.length_map]; exact Nat.le_of_lt (sz_le (by omega)), fun cD hcD => ?_⟩
    have sc := same_new (o := .lst (c1.map vn ++ c2.map vn)) hcD
    refine ⟨_, rfl, t1, _, _, _, rfl, rfl, SqT.of (sc _ _ ht1), k10, a1, _, rfl, .inl (SqL.of (sc _ _ ha1)), ?_⟩
    rw [List.length_map]
    refine ⟨Nat.zero_le _, fun Hd hHd => ?_⟩
    have sH := same_new (o := .lst []) hHd
    refine ⟨Nat.zero_le _, fun Od hOd => ?_⟩
    have sO := same_new (o := .lst []) hOd
    have sHO := sH.trans sO
    have s2 := sc.trans sHO
    have hOd0 := sH.free hOd
    have hne : Hd ≠ Od := fun z => by rw [← z, upd_same] at hOd; cases hOd
    have e3 := sO _ _ (upd_same (H := upd H cD (.lst (c1.map vn ++ c2.map vn))) (a := Hd) (o := .lst []))
    refine ⟨_, rfl, t1, _, _, _, rfl, rfl, SqT.of (s2 _ _ ht1), k11, b1, _, rfl, .inl (SqL.of (s2 _ _ hb1)), _, rfl, t2, _, _, _, rfl, rfl, SqT.of (s2 _ _ ht2), k21, b2, _, rfl, .inl (SqL.of (s2 _ _ hb2)), ?_⟩
    have emax : (if ((ws2.length : Nat) : Int) > ((ws1.length : Nat) : Int) then ((ws2.length : Nat) : Int) else ((ws1.length : Nat) : Int)) = ((max h1.length h2.length : Nat) : Int) := by
      rw [hl1, hl2]; split <;> omega
    refine ⟨_, _, rfl, ?_⟩
    rw [emax]
    refine ⟨_, rfl, (range_ok (n := max h1.length h2.length) (by omega)).1, (range_ok (n := max h1.length h2.length) (by omega)).2, ?_⟩
    show ∃ W, _
    rw [Int.toNat_natCast]
    generalize hHb : upd H cD (.lst (c1.map vn ++ c2.map vn)) = Hb at *
    generalize hH3 : upd (upd Hb Hd (.lst [])) Od (.lst []) = H3 at *
    have e3' : H3 Od = some (.lst []) := by rw [← hH3]; exact upd_same
    have hcD' : Hb cD = some (.lst (c1.map vn ++ c2.map vn)) := by rw [← hHb]; exact upd_same
    have fr : ∀ (H' : Hp) (ws us : List V) (l : Addr), Same Hb H' → H' Hd = some (.lst ws) → H' Od = some (.lst us) → H' l = none → H3 l = none := fun H' ws us l s x y z => by
      rw [← hH3, upd_ne (fun q => by rw [q, y] at z; cases z), upd_ne (fun q => by rw [q, x] at z; cases z)]
      exact s.free z
    refine for_range0 (n := max h1.length h2.length) (fun i σ H' => ∃ (ws us : List V) (v6 : Option V), σ = [some (.ref t1), some (.ref t2), some (.ref cD), some (vn c1.length), some (.ref Hd), some (.ref Od), v6, none] ∧ JoI Hb H3 Hd Od (rowJ c1.length h1 h2) (ownTo h1.length h2.length i) H' ws us)
      ⟨[], [], none, rfl, ⟨sHO, e3, e3', .nil, .nil⟩⟩ ?_ ?_
    · rintro i σ H' hi ⟨ws, us, v6, rfl, I⟩
      have hown := ownTo_succ h1.length h2.length i
      have hlo : ∀ j, j ≤ 6 → (ownTo h1.length h2.length j).length ≤ 2 * j := by
        intro j
        induction j with
        | zero => intro _; exact Nat.le_refl _
        | succ j ih =>
          intro hj
          have := ih (by omega)
          rw [ownTo_succ, List.length_append]
          have : (own1 h1.length h2.length j).length ≤ 2 := by unfold own1; split <;> split <;> simp
          omega
      have hlen := hlo i (by omega)
      let MID : St → Hp → Prop := fun σ H' => ∃ (ws us : List V), σ = [some (.ref t1), some (.ref t2), some (.ref cD), some (vn c1.length), some (.ref Hd), some (.ref Od), some (vn i), none] ∧ JoI Hb H3 Hd Od (rowJ c1.length h1 h2) (ownTo h1.length h2.length i ++ if i < h1.length then [(0, i)] else []) H' ws us
      refine ⟨MID, ?_, ?_⟩
      · have sA := sc.trans I.same
        refine ⟨_, rfl, _, rfl, t1, _, _, _, rfl, rfl, SqT.of (sA _ _ ht1), k11, b1, _, rfl, .inl (SqL.of (sA _ _ hb1)), _, _, rfl, rfl, _, rfl, ?_⟩
        rw [hl1]
        refine ite2 (fun hc => ?_) (fun hc => ?_)
        · have hlt : i < h1.length := by have := of_decide_eq_true hc; omega
          obtain ⟨v, hv, tr, rfl, htr⟩ := paired_at' p1 (List.getElem?_eq_getElem hlt)
          have hrow : rowJ c1.length h1 h2 (0, i) = h1[i] := by unfold rowJ; rw [if_pos rfl, List.getD_eq_getElem?_getD, List.getElem?_eq_getElem hlt]; rfl
          refine ⟨_, rfl, .inl ⟨rfl, _, SqL.of I.hd⟩, _, rfl, t1, _, _, _, rfl, rfl, SqT.of (sA _ _ ht1), k11, _, rfl, b1, _, _, _, rfl, rfl, SqL.of (sA _ _ hb1), atN hv, tr, _, rfl, .inl (SqL.of (sA _ _ htr)), fun l hl => ?_⟩
          have sl := same_new (o := .lst ((h1[i]).map vn)) hl
          have hl3 := fr _ _ _ _ I.same I.hd I.od hl
          have hwl := I.rows.length
          have hul := I.owns.length
          rw [List.length_map] at hwl
          refine ⟨Hd, ws, _, rfl, rfl, sl _ _ I.hd, sz_le (by omega), ?_⟩
          have hod : (upd (upd H' l (.lst ((h1[i]).map vn))) Hd (.lst (ws ++ [.ref l]))) Od = some (.lst us) := by rw [upd_ne hne.symm]; exact sl _ _ I.od
          refine ⟨_, rfl, .inl ⟨rfl, _, SqL.of hod⟩, _, rfl, by show 2 ≤ sizeLine; decide, fun t ht => ?_⟩
          have I2 := I.step (o := (0, i)) hHd hOd0 e3 e3' hne sl hl3 (by rw [hrow]; exact upd_same) ht
          refine ⟨Od, us, _, rfl, rfl, (same_new ht) _ _ hod, sz_le (by omega), ?_⟩
          refine ⟨ws ++ [.ref l], us ++ [.ref t], rfl, ?_⟩
          rw [if_pos hlt]
          exact I2
        · have hlt : ¬ i < h1.length := fun z => hc (decide_eq_true (by omega))
          refine ⟨ws, us, rfl, ?_⟩
          rw [if_neg hlt, List.append_nil]
          exact I
      · rintro σ H' ⟨ws, us, rfl, I⟩
        have hlen2 : (ownTo h1.length h2.length i ++ if i < h1.length then [(0, i)] else []).length ≤ 13 := by
          rw [List.length_append]
          have : (if i < h1.length then [((0, i) : Nat × Nat)] else []).length ≤ 1 := by split <;> simp
          omega
        have hown2 : (ownTo h1.length h2.length i ++ if i < h1.length then [((0, i) : Nat × Nat)] else []) ++ (if i < h2.length then [(1, i)] else []) = ownTo h1.length h2.length (i + 1) := by
          rw [hown, List.append_assoc]; rfl
        generalize hos : (ownTo h1.length h2.length i ++ if i < h1.length then [((0, i) : Nat × Nat)] else []) = os at I hlen2 hown2
        have sA := sc.trans I.same
        refine ⟨_, rfl, _, rfl, t2, _, _, _, rfl, rfl, SqT.of (sA _ _ ht2), k21, b2, _, rfl, .inl (SqL.of (sA _ _ hb2)), _, _, rfl, rfl, _, rfl, ?_⟩
        rw [hl2]
        refine ite2 (fun hc => ?_) (fun hc => ?_)
        · have hlt : i < h2.length := by have := of_decide_eq_true hc; omega
          obtain ⟨v, hv, tr, rfl, htr⟩ := paired_at' p2 (List.getElem?_eq_getElem hlt)
          have hrow : rowJ c1.length h1 h2 (1, i) = (h2[i]).map fun x => x + c1.length := by unfold rowJ; rw [if_neg (by simp), List.getD_eq_getElem?_getD, List.getElem?_eq_getElem hlt]; rfl
          have hrl : (h2[i]).length ≤ 100000 := by
            have hr2 := ok2.row _ (List.getElem_mem hlt)
            have h1 := cnt_list (l := h2[i]) (n := c2.length) (nodup_of_lt hr2.1) hr2.2
            have h2 : cnt c2.length (fun x => (h2[i]).contains x) ≤ c2.length := by
              have := List.countP_le_length (p := fun x => (h2[i]).contains x) (l := List.range c2.length)
              rwa [List.length_range] at this
            omega
          refine ⟨_, rfl, .inl ⟨rfl, _, SqL.of I.hd⟩, _, rfl, t2, _, _, _, rfl, rfl, SqT.of (sA _ _ ht2), k21, _, rfl, b2, _, _, _, rfl, rfl, SqL.of (sA _ _ hb2), atN hv, tr, rfl, ⟨_, SqL.of (sA _ _ htr)⟩, fun D hD => ?_⟩
          refine comp_list IsN ((h2[i]).map fun x => some (x + c1.length)) (by simp) (by rw [List.length_map]; exact sz_le hrl) tups_N.same tups_N.updL hD (SqL.of (sA _ _ htr)) (fun j y o H2 hy ho s2' Q' q1 q2 => ?_) (fun H2 acc s2' hacc pacc => ?_)
          · obtain ⟨q, hq, rfl⟩ := vmap_at hy
            have ho' := map_at hq ho
            refine ⟨rfl, yesT ?_⟩
            exact ⟨_, rfl, _, rfl, _, _, rfl, rfl, q2 _ _ _ (Same.refl _) ho'.symm rfl⟩
          have ee : ((h2[i]).map fun x => some (x + c1.length)).filterMap id = (h2[i]).map fun x => x + c1.length := by
            rw [← map_some_id ((h2[i]).map fun x => x + c1.length), List.map_map]; rfl
          rw [ee, ← hrow] at pacc
          rw [paired_N pacc] at hacc
          have hD3 := fr _ _ _ _ I.same I.hd I.od hD
          have hwl := I.rows.length
          have hul := I.owns.length
          rw [List.length_map] at hwl
          refine ⟨Hd, ws, _, rfl, rfl, s2' _ _ I.hd, sz_le (by omega), ?_⟩
          have hod : (upd H2 Hd (.lst (ws ++ [.ref D]))) Od = some (.lst us) := by rw [upd_ne hne.symm]; exact s2' _ _ I.od
          refine ⟨_, rfl, .inl ⟨rfl, _, SqL.of hod⟩, _, rfl, by show 2 ≤ sizeLine; decide, fun t ht => ?_⟩
          have I2 := I.step (o := (1, i)) hHd hOd0 e3 e3' hne s2' hD3 hacc ht
          rw [if_pos hlt] at hown2
          rw [hown2] at I2
          refine ⟨Od, us, _, rfl, rfl, (same_new ht) _ _ hod, sz_le (by omega), ?_⟩
          exact ⟨_, _, _, rfl, I2⟩
        · have hlt : ¬ i < h2.length := fun z => hc (decide_eq_true (by omega))
          rw [if_neg hlt, List.append_nil] at hown2
          rw [hown2] at I
          exact ⟨_, _, _, rfl, I⟩
    · rintro σ H' ⟨ws, us, v6, rfl, I⟩
      refine ⟨_, rfl, _, rfl, _, rfl, by show 3 ≤ sizeLine; decide, fun t ht => ?_⟩
      have st := same_new (o := .tup [.ref cD, .ref Hd, .ref Od]) ht
      exact k t cD Hd Od ws us _ ((sc.trans I.same).trans st) upd_same (by rw [List.map_append]; exact st _ _ (I.same _ _ hcD')) (st _ _ I.hd) (st _ _ I.od) (Paired.mapP I.rows fun _ _ q => lst_ln (ln_same st q)) (tups_P.all (tk_of st) I.owns)
theorem ok_l_collected_in_groups {f : Addr} {fd : FuncData} (B : Bt mg) (F : FnP K "_law_collected_in_groups" s_l_collected_in_groups f fd) (h_l_collected : Has P w K mg base 2 "_law_collected" ["_law_worths_here", "_law_dealable_here"] (spCollected K)) (h_l_dealable : Has P w K mg base 3 "_law_dealable" ["_law_caps", "_law_holders"] (spDealable K)) :
    FnOk P w K mg base CX0 4 f fd ["_law_groups", "_law_owners", "_law_worths_here"] (spGroups K) := by
  refine F.ok sc_l_collected_in_groups (fun vs H Q E h => ?_) (fun cdv A outer s H vs Q E hr h => ?_)
  · obtain ⟨a, b, c, v0, v1, Cs, Hs, us, os, ws, rfl, _⟩ := h; rfl
  · obtain ⟨a, b, c, v0, v1, Cs, Hs, us, os, ws, rfl, ha, G0, G1, hb, pu, hc, own, hwl, hlen, hsm, k⟩ := h
    have gat : ∀ g, g < 2 → ∃ v, ([v0, v1] : List V)[g]? = some v ∧ GrpAt H v (Cs g) (Hs g) := fun g hg => by
      have c : g = 0 ∨ g = 1 := by omega
      rcases c with rfl | rfl
      · exact ⟨v0, rfl, G0⟩
      · exact ⟨v1, rfl, G1⟩
    have hul := pu.length
    have gd : ∀ {q : Nat} {o : Nat × Nat}, os[q]? = some o → os.getD q (0, 0) = o := fun {q o} h => by rw [List.getD_eq_getElem?_getD, h]; rfl
    let FF : (Nat → Nat → Bool) → Nat → List Nat := fun Gs g => (List.range os.length).filter fun q => decide ((os.getD q (0, 0)).1 = g) && Gs g (os.getD q (0, 0)).2
    refine ⟨_, PSs.nox (pss_cons
      (ps_set (i := 3) sc_l_collected_in_groups.nd rfl (Or.inl rfl) (pe_lst pa_nil))
    (pss_cons
      (ps_for PassesOwn.never rfl (pi_range1 rfl B.range (pa_cons pe_int pa_nil)) (pg_name (i := 4) sc_l_collected_in_groups.nd rfl (Or.inr rfl))
      (pss_cons
        (ps_setLc (i := 5) (own := [("_law_q", 6)]) rfl sc_l_collected_in_groups.nd rfl rfl (sw_true rfl rfl rfl (by decide +kernel)) (pi_range1 rfl B.range (pa_cons (pe_callB (lenK K) (by rfl) B.len PySem.boot_len (pa_cons (pv 1) pa_nil)) pa_nil)) (blkOk_by (own := [("_law_q", 6)]) (N := N_l_collected_in_groups) (sc := defScope s_l_collected_in_groups) (by decide +kernel)) (fun _ _ _ _ _ => (pg_name (i := 6) sc_l_collected_in_groups.nd rfl (Or.inl rfl))) (fun _ _ _ _ _ => pts_one (pt_cmpR op_eq (pe_ix (ix_tupK K) (pe_ix (ix_listK K) (pv 1) (pv 6) (fun _ _ => rfl)) pe_int (fun _ _ => rfl)) (pv 4) (nomark _))) (fun _ _ _ _ _ => (pe_ix (ix_listK K) (pv 2) (pv 6) (fun _ _ => rfl))))
      (pss_cons
        (ps_set (i := 7) sc_l_collected_in_groups.nd rfl (Or.inr rfl) (pe_fn h_l_collected (hr.mono (by decide)) rfl (pa_cons (pv 5) (pa_cons (pe_fn h_l_dealable (hr.mono (by decide)) rfl (pa_cons (pe_ix (ix_tupK K) (pe_ix (ix_listK K) (pv 0) (pv 4) (fun _ _ => rfl)) pe_int (fun _ _ => rfl)) (pa_cons (pe_ix (ix_tupK K) (pe_ix (ix_listK K) (pv 0) (pv 4) (fun _ _ => rfl)) pe_int (fun _ _ => rfl)) pa_nil))) pa_nil))))
      (pss_one
        (ps_set (i := 3) sc_l_collected_in_groups.nd rfl (Or.inl rfl) (pe_op op_cat (pv 3) (pe_lc (own := [("_law_q", 6)]) rfl sc_l_collected_in_groups.nd (pi_range1 rfl B.range (pa_cons (pe_callB (lenK K) (by rfl) B.len PySem.boot_len (pa_cons (pv 1) pa_nil)) pa_nil)) (blkOk_by (own := [("_law_q", 6)]) (N := N_l_collected_in_groups) (sc := defScope s_l_collected_in_groups) (by decide +kernel)) (fun _ _ _ _ _ => (pg_name (i := 6) sc_l_collected_in_groups.nd rfl (Or.inl rfl))) (fun _ _ _ _ _ => pts_one (PW.pt (pw_and (pt_cmpR op_eq (pe_ix (ix_tupK K) (pe_ix (ix_listK K) (pv 1) (pv 6) (fun _ _ => rfl)) pe_int (fun _ _ => rfl)) (pv 4) (nomark _)) (pw_and1 (pt_cmpR (inK K) (pe_ix (ix_tupK K) (pe_ix (ix_listK K) (pv 1) (pv 6) (fun _ _ => rfl)) pe_int (fun _ _ => rfl)) (pv 7) (by rfl)))))) (fun _ _ _ _ _ => (pv 6)))))))))
    (pss_one
      (ps_ret (pe_callB (sortedIK K) (by rfl) B.sorted (by decide +kernel) (pa_cons (pv 3) pa_nil)))))), ?_⟩
    refine ⟨Nat.zero_le _, fun L hL => ?_⟩
    refine ⟨_, rfl, by decide, by decide, ?_⟩
    refine for_range0 (n := 2) (fun g σ H' => ∃ (L : Addr) (v4 v5 v7 : Option V) (Gs : Nat → Nat → Bool), σ = [some (.ref a), some (.ref b), some (.ref c), some (.ref L), v4, v5, none, v7] ∧ Same H H' ∧ H' L = some (.lst (((List.range g).flatMap (FF Gs)).map vn)) ∧ (∀ g', g' < g → ∀ ord, OrdOf (wOf ws) os.length ord → Greedy (Hall (Cs g') (Hs g')) (ordg os g' ord) (Gs g')))
      ⟨L, none, none, none, fun _ _ => false, rfl, same_new hL, upd_same, fun g' h => (by omega)⟩ ?_ ?_
    · rintro g σ H' hg ⟨L, v4, v5, v7, Gs, rfl, s', hLl, hGs⟩
      obtain ⟨v, hv, tg, ca, cb, wsg, rfl, htg, hca, hcb, pg⟩ := gat g hg
      obtain ⟨h6, h100⟩ := hsm g hg
      have oat : ∀ q, q < os.length → ∃ t o, os[q]? = some o ∧ us[q]? = some (.ref t) ∧ H t = some (.tup [vn o.1, vn o.2]) := fun q hq => by
        obtain ⟨x, hx, t, rfl, ht⟩ := paired_at' pu (List.getElem?_eq_getElem hq)
        exact ⟨t, _, List.getElem?_eq_getElem hq, hx, ht⟩
      refine ⟨_, rfl, b, _, rfl, .inl (s'.seq hb), _, rfl, by rw [hul]; exact (range_ok (by omega)).1, by rw [hul]; exact (range_ok (by omega)).2, fun D hD => ?_⟩
      rw [hul, Int.toNat_natCast]
      let tst : Nat → Bool := fun q => decide ((os.getD q (0, 0)).1 = g)
      refine comp_range0 (n := os.length) IsN ((List.range os.length).map fun q => if tst q then some (wOf ws q) else none) (by simp) (by simp; exact sz_le (by omega)) tups_N.same tups_N.updL hD (fun q o H2 hq ho s2 Q' q1 q2 => ?_) (fun H2 acc s2 hacc pacc => ?_)
      · have ho' := map_range_at hq ho
        obtain ⟨t, ow, how, hus, ht⟩ := oat q hq
        have sA := s'.trans s2
        refine ⟨rfl, ?_⟩
        refine ⟨_, rfl, _, rfl, b, _, _, _, rfl, rfl, sA.seq hb, atN hus, t, [vn ow.1, vn ow.2], _, _, rfl, rfl, SqT.of (sA _ _ ht), atN (j := 0) rfl, _, rfl, rfl, _, rfl, ?_⟩
        rw [dec_vn]
        have et : tst q = decide (ow.1 = g) := by show decide _ = _; rw [gd how]
        rw [← et]
        refine ite2 (fun h1 => ?_) (fun h1 => ?_)
        · have hwq : (ws.map vn)[q]? = some (vn (wOf ws q)) := by unfold wOf; simp [show q < ws.length by omega]
          exact ⟨_, rfl, _, rfl, c, _, _, _, rfl, rfl, sA.seq hc, atN hwq, q2 _ _ _ (Same.refl _) (by rw [← ho', if_pos h1]) rfl⟩
        · exact q1 _ (Same.refl _) (by rw [← ho', if_neg h1])
      have efm : ((List.range os.length).map fun q => if tst q then some (wOf ws q) else none).filterMap id = ((List.range os.length).filter tst).map (wOf ws) := by
        rw [List.filterMap_map, ← List.filterMap_eq_map, List.filterMap_filter]; rfl
      rw [efm] at pacc
      rw [paired_N pacc] at hacc
      obtain ⟨hml, hmw⟩ := mine_at own hg (wOf ws)
      have hml : (((List.range os.length).filter tst).map (wOf ws)).length = (Hs g).length := hml
      have hmw : ∀ q p, os[q]? = some (g, p) → wOf (((List.range os.length).filter tst).map (wOf ws)) p = wOf ws q := hmw
      generalize ((List.range os.length).filter tst).map (wOf ws) = mine at hacc hml hmw
      have sA := s'.trans s2
      refine ⟨_, rfl, _, rfl, _, rfl, a, _, _, _, rfl, rfl, sA.seq ha, atN hv, tg, [.ref ca, .ref cb], _, _, rfl, rfl, SqT.of (sA _ _ htg), atN (j := 0) rfl, ?_⟩
      refine ⟨_, rfl, _, rfl, a, _, _, _, rfl, rfl, sA.seq ha, atN hv, tg, [.ref ca, .ref cb], _, _, rfl, rfl, SqT.of (sA _ _ htg), atN (j := 1) rfl, ?_⟩
      refine ⟨ca, cb, Cs g, wsg, Hs g, rfl, SqL.of (sA _ _ hca), SqL.of (sA _ _ hcb), Paired.mapP pg fun _ _ q => ls_of (lst_same sA q), h6, h100, fun pd bs H3 s3 hpd tb => ?_⟩
      refine ⟨D, pd, Cs g, Hs g, bs, mine, rfl, SqL.of (s3 _ _ hacc), SqL.of hpd, tb, hml, h6, fun pk ordk G H4 s4 hok hGk hpk => ?_⟩
      have sB := sA.trans (s3.trans s4)
      let Gs' : Nat → Nat → Bool := fun g' p => if g' = g then G p else Gs g' p
      have hL4 := (s2.trans (s3.trans s4)) _ _ hLl
      refine ⟨_, rfl, _, rfl, b, _, rfl, .inl (sB.seq hb), _, rfl, by rw [hul]; exact (range_ok (by omega)).1, by rw [hul]; exact (range_ok (by omega)).2, fun D2 hD2 => ?_⟩
      rw [hul, Int.toNat_natCast]
      let tst2 : Nat → Bool := fun q => decide ((os.getD q (0, 0)).1 = g) && Gs' g (os.getD q (0, 0)).2
      refine comp_range0 (n := os.length) IsN ((List.range os.length).map fun q => if tst2 q then some q else none) (by simp) (by simp; exact sz_le (by omega)) tups_N.same tups_N.updL hD2 (fun q o H5 hq ho s5 Q' q1 q2 => ?_) (fun H5 acc2 s5 hacc2 pacc2 => ?_)
      · have ho' := map_range_at hq ho
        obtain ⟨t, ow, how, hus, ht⟩ := oat q hq
        have sC := sB.trans s5
        refine ⟨rfl, ?_⟩
        refine ⟨_, rfl, _, rfl, b, _, _, _, rfl, rfl, sC.seq hb, atN hus, t, [vn ow.1, vn ow.2], _, _, rfl, rfl, SqT.of (sC _ _ ht), atN (j := 0) rfl, _, rfl, rfl, _, rfl, ?_⟩
        rw [dec_vn]
        have et : tst2 q = (decide (ow.1 = g) && G ow.2) := by
          show (decide _ && (if g = g then G _ else _)) = _
          rw [gd how, if_pos rfl]
        refine ite2 (fun h1 => ?_) (fun h1 => ?_)
        · have eg := of_decide_eq_true h1
          have hol : ow.2 < (Hs g).length := by
            obtain ⟨og, op⟩ := ow
            have := (own.lt how).2.2
            dsimp only at eg this ⊢
            rwa [eg] at this
          refine ⟨_, rfl, _, rfl, b, _, _, _, rfl, rfl, sC.seq hb, atN hus, t, [vn ow.1, vn ow.2], _, _, rfl, rfl, SqT.of (sC _ _ ht), atN (j := 1) rfl, _, rfl, pk, _, rfl, .inl (SqL.of (s5 _ _ hpk)), rfl, flat_map _, _, rfl, ?_⟩
          rw [inV_map]
          show (if (if false = true then !_ else _) = true then _ else _)
          rw [if_neg Bool.false_ne_true]
          have ec : ((List.range (Hs g).length).filter G).contains ow.2 = G ow.2 := by
            rw [Bool.eq_iff_iff, List.contains_iff_mem, List.mem_filter]
            exact ⟨fun z => z.2, fun z => ⟨List.mem_range.mpr hol, z⟩⟩
          rw [ec]
          refine ite2 (fun h2 => ?_) (fun h2 => ?_)
          · exact ⟨_, rfl, q2 _ q _ (Same.refl _) (by rw [← ho', et, h1, h2]; rfl) rfl⟩
          · have h2 : G ow.2 = false := by simpa using h2
            exact q1 _ (Same.refl _) (by rw [← ho', et, h2, Bool.and_false]; rfl)
        · have h1 : decide (ow.1 = g) = false := by simpa using h1
          refine ite2 (fun z => (by cases z)) (fun _ => ?_)
          exact q1 _ (Same.refl _) (by rw [← ho', et, h1, Bool.false_and]; rfl)
      rw [filterMap_if] at pacc2
      rw [paired_N pacc2] at hacc2
      have hL5 := s5 _ _ hL4
      have hll : ((List.range g).flatMap (FF Gs)).length ≤ 200 := by
        have fl : ∀ g', (FF Gs g').length ≤ 100 := fun g' => Nat.le_trans (List.length_filter_le _ _) (by rw [List.length_range]; exact hlen)
        have c : g = 0 ∨ g = 1 := by omega
        rcases c with rfl | rfl
        · exact Nat.zero_le _
        · show (FF Gs 0 ++ []).length ≤ 200
          rw [List.append_nil]; exact Nat.le_trans (fl 0) (by decide)
      have hl2 : ((List.range os.length).filter tst2).length ≤ 100 := Nat.le_trans (List.length_filter_le _ _) (by rw [List.length_range]; exact hlen)
      refine ⟨L, D2, _, _, rfl, rfl, hL5, hacc2, by rw [List.length_map, List.length_map]; exact Nat.le_of_lt (sz_le (by omega)), fun p hp => ?_⟩
      refine ⟨p, _, _, _, Gs', rfl, (sB.trans s5).trans (same_new hp), ?_, fun g' hg' ord ho => ?_⟩
      · rw [upd_same, ← List.map_append]
        have e : (List.range (g + 1)).flatMap (FF Gs') = (List.range g).flatMap (FF Gs) ++ (List.range os.length).filter tst2 := by
          rw [List.range_succ, List.flatMap_append]
          congr 1
          · refine flat_congr fun g' hg' => ?_
            have hne : g' ≠ g := by have := List.mem_range.mp hg'; omega
            refine List.filter_congr fun q _ => ?_
            show (_ && (if g' = g then _ else _)) = (_ && _)
            rw [if_neg hne]
          · show FF Gs' g ++ [] = _
            rw [List.append_nil]
        rw [e]
      · by_cases eg : g' = g
        · subst eg
          have e1 := (ordg_of own ho hg (w' := wOf mine) hmw).uniq hok
          rw [e1]
          have e2 : Gs' g' = G := by funext p; exact if_pos rfl
          rw [e2]; exact hGk
        · have e2 : Gs' g' = Gs g' := by funext p; exact if_neg eg
          rw [e2]
          exact hGs g' (by omega) ord ho
    · rintro σ H' ⟨L, v4, v5, v7, Gs, rfl, s', hLl, hGs⟩
      rw [vmap_ints] at hLl
      refine ⟨_, rfl, L, _, rfl, SqL.of hLl, fun ns p2 hpm hsr hp20 => ?_⟩
      have e : ns = ((List.range os.length).filter (both os Gs)).map fun n : Nat => (n : Int) := by
        refine PySem.W.ksm_same (hpm.trans (List.Perm.map _ ?_)) hsr ?_
        · have : (List.range 2).flatMap (FF Gs) = FF Gs 0 ++ FF Gs 1 := by
            show FF Gs 0 ++ (FF Gs 1 ++ []) = _
            rw [List.append_nil]
          rw [this]
          exact both_perm own
        · rw [List.pairwise_map]
          refine List.Pairwise.imp (fun {a b} h => ?_) (List.Pairwise.filter _ List.pairwise_lt_range)
          omega
      exact k p2 Gs _ (s'.trans (same_new hp20)) (fun ord ho g hg => hGs g hg ord ho) (by rw [upd_same, e, ← vmap_ints])
end
end BL
set_option Elab.async false
set_option linter.all false
set_option maxRecDepth 100000
set_option maxHeartbeats 8000000
namespace BL
open PySem L2
/-! _law_is_right -/
theorem comp_tupD {β : Type} {g : TG} {tt : TT} {te : TE} {ws : List Nat} {σ : St} {H1 : Hp} {D : Addr} {Qd : Hp → Prop} {K : PySem.W.Frag} {a : Addr} {xs : List V} (R : Hp → V → β → Prop) (os : List (Option β)) (hlen : os.length = xs.length) (hsz : os.length < sizeLine)
    (hS : ∀ (H H' : Hp), Same H H' → ∀ v b, R H v b → R H' v b) (hU : ∀ (H : Hp) (acc acc' : List V), H D = some (.lst acc) → ∀ v b, R H v b → R (upd H D (.lst acc')) v b)
    (hD : H1 D = none) (ha : SqT K H1 a xs)
    (turn : ∀ (i : Nat) (x : V) (o : Option β) (H : Hp), xs[i]? = some x → os[i]? = some o → Same H1 H → (∃ acc, H D = some (.lst acc)) → ∀ Q : QT, (∀ H', Same H H' → o = none → Q none H') → (∀ (y : V) (b : β) (H' : Hp), Same H H' → o = some b → R H' y b → Q (some y) H') → turnOf g tt te ws σ x H Q)
    (done : ∀ (H : Hp) (acc : List V), Same H1 H → H D = some (.lst acc) → Paired (R H) acc (os.filterMap id) → Qd H) :
    ∃ W : Nat → Nat → Hp → Prop, (∃ m, W 0 m (upd H1 D (.lst []))) ∧ ∀ i m H, W i m H →
      ((Itt K a).stop i H ∧ Qd H) ∨ ((Itt K a).go i H ∧ ∃ Nx : Hp → Prop, (∀ H', Nx H' → ∃ m', m' < m ∧ W (i + 1) m' H') ∧ ∀ x H', (Itt K a).yld i H x H' → g x (wipe σ ws) H' fun σ2 H2 => wipe σ2 ws = wipe σ ws ∧ tt σ2 H2 fun b H3 =>
        if b = true then te σ2 H3 fun y H4 => ∃ acc, H4 D = some (.lst acc) ∧ acc.length < sizeLine ∧ Nx (upd H4 D (.lst (acc ++ [y]))) else Nx H3) := by
  refine lc_tup (K := K) (a := a) (xs := xs) (CInv R H1 D os) (cinv_start hD) (fun i H _ I => same_seqT I.1 ha) (fun i x H hx I => ?_) (fun H I => ?_)
  · have hi : i < xs.length := (List.getElem?_eq_some_iff.mp hx).1
    obtain ⟨o, ho⟩ : ∃ o, os[i]? = some o := ⟨os[i]'(by omega), List.getElem?_eq_getElem (by omega)⟩
    obtain ⟨acc, hacc, _⟩ := I.2
    exact turn_to (cinv_turn hS hU hD hsz ho I (Same.refl H) (turn i x o H hx ho I.1 ⟨acc, hacc⟩) fun _ _ _ => trivial)
  · rw [← hlen] at I
    obtain ⟨s, acc, a1, _, c⟩ := cinv_end I
    exact done H acc s a1 c
theorem eqv_self : ∀ ls : List (List Nat), PyData.eqvAll (ls.map dL) (ls.map dL) = true
  | [] => by simp [PyData.eqvAll]
  | l :: ls => by
    have e : PyData.eqvAll ((l :: ls).map dL) ((l :: ls).map dL) = (PyData.eqv (dL l) (dL l) && PyData.eqvAll (ls.map dL) (ls.map dL)) := by simp only [List.map_cons, PyData.eqvAll]
    rw [e, eqv_L, eqv_self ls, decide_eq_true rfl]; rfl
theorem eqv_LL (ls : List (List Nat)) : PyData.eqv (.list (ls.map dL)) (.list (ls.map dL)) = true := by simp only [PyData.eqv]; exact eqv_self ls
theorem fm_none : ∀ bl : List Nat, (bl.map fun _ => (none : Option Nat)).filterMap id = []
  | [] => rfl
  | _ :: bl => fm_none bl
/-- bl is the best lot for the worths ws -/
def Best (caps : List Nat) (hs : List (List Nat)) (ws bl : List Nat) : Prop := ws.length = hs.length ∧ ∀ ord, OrdOf (wOf ws) hs.length ord → ∃ G, Greedy (Hall caps hs) ord G ∧ bl = (List.range hs.length).filter G
theorem Best.of {caps : List Nat} {hs : List (List Nat)} {ws : List Nat} {ord : List Nat} {G : Nat → Bool} (hl : ws.length = hs.length) (ho : OrdOf (wOf ws) hs.length ord) (hG : Greedy (Hall caps hs) ord G) : Best caps hs ws ((List.range hs.length).filter G) :=
  ⟨hl, fun ord' ho' => ⟨G, by rw [ho'.uniq ho]; exact hG, rfl⟩⟩
def AskedAt (caps : List Nat) (hs : List (List Nat)) (H : Hp) (v : V) : Prop := ∃ (t a b : Addr) (ws bl : List Nat), v = .ref t ∧ H t = some (.tup [.ref a, .ref b]) ∧ H a = some (.lst (ws.map vn)) ∧ H b = some (.lst (bl.map vn)) ∧ Best caps hs ws bl
theorem AskedAt.same {caps : List Nat} {hs : List (List Nat)} {H H' : Hp} {v : V} (h : AskedAt caps hs H v) (s : Same H H') : AskedAt caps hs H' v := by
  obtain ⟨t, a, b, ws, bl, e, h1, h2, h3, h4⟩ := h
  exact ⟨t, a, b, ws, bl, e, s _ _ h1, s _ _ h2, s _ _ h3, h4⟩
def spRight (K : PySem.W.Frag) : Sp := fun vs H Q _ => ∃ (a b c : Addr) (caps : List Nat) (us : List V) (hs : List (List Nat)) (xs : List V), vs = [.ref a, .ref b, .ref c] ∧ SqL K H a (caps.map vn) ∧ SqL K H b us ∧ Paired (IsLst H) us hs ∧ H c = some (.lst xs) ∧ (∀ v ∈ xs, AskedAt caps hs H v) ∧ xs.length ≤ 100 ∧ 0 < caps.length ∧ PoolOk caps hs ∧
  ∀ H', Same H H' → Q (.bl true) H'
section
variable {P : Program} {w : World} {K : PySem.W.Frag} {mg : Str → Option Value} {base : Heap} {C : Addr}
theorem ok_l_is_right {f fP : Addr} {fd fdP : FuncData} (B : Bt mg) (T : Cp K C) (F : FnP K "_law_is_right" s_l_is_right f fd) (h_best_lot : Has P w K mg base 5 "best_lot" ["pool", "worths"] (spBestLot K C)) (h_l_is_integer : Has P w K mg base 1 "_law_is_integer" ["_law_actual"] spIsInt)
    (M : Mk K C fP) (GP : FnOk P w K mg base CX0 3 fP fdP ["self", "caps", "holders"] (spInit K C)) (gP : mg "Pool" = some (.ref C)) (bP : Binds K fdP ["self", "caps", "holders"] []) :
    FnOk P w K mg base CX0 6 f fd ["_law_caps", "_law_holders", "_law_asked"] (spRight K) := by
  refine F.ok sc_l_is_right (fun vs H Q E h => ?_) (fun cdv A outer s H vs Q E hr h => ?_)
  · obtain ⟨a, b, c, caps, us, hs, xs, rfl, _⟩ := h; rfl
  · obtain ⟨a, b, c, caps, us, hs, xs, rfl, ha, hb, pu, hc, hxs, hxl, hc0, ok, k⟩ := h
    have hu64 := hr.units
    refine ⟨_, PSs.nox (pss_cons
      (ps_set (i := 3) sc_l_is_right.nd rfl (Or.inl rfl) (pe_make M GP (hr.mono (by decide)) rfl gP bP .nil pass0 (pa_cons (pe_callTy (lstOfK K) (by rfl) B.list (by decide +kernel) (pa_cons (pv 0) pa_nil)) (pa_cons (pe_lc (own := [("_law_row", 4)]) rfl sc_l_is_right.nd (pi_listK K (pv 1)) (blkOk_by (own := [("_law_row", 4)]) (N := N_l_is_right) (sc := defScope s_l_is_right) (by decide +kernel)) (fun _ _ _ _ _ => (pg_name (i := 4) sc_l_is_right.nd rfl (Or.inl rfl))) (fun _ _ _ _ _ => pts_nil) (fun _ _ _ _ _ => (pe_callTy (lstOfK K) (by rfl) B.list (by decide +kernel) (pa_cons (pv 4) pa_nil)))) pa_nil))))
    (pss_cons
      (ps_for PassesOwn.never rfl (pi_listK K (pe_op op_cat (pv 2) (pe_slice (slListK K) (pv 2) po_none (po_some pe_int)))) (pg_name (i := 5) sc_l_is_right.nd rfl (Or.inl rfl))
      (pss_cons
        (ps_set (i := 6) sc_l_is_right.nd rfl (Or.inl rfl) (pe_callTy (lstOfK K) (by rfl) B.list (by decide +kernel) (pa_cons (pe_ix (ix_tupK K) (pv 5) pe_int (fun _ _ => rfl)) pa_nil)))
      (pss_cons
        (ps_set (i := 7) sc_l_is_right.nd rfl (Or.inl rfl) (pe_fn h_best_lot (hr.mono (by decide)) rfl (pa_cons (pv 3) (pa_cons (pv 6) pa_nil))))
      (pss_cons
        (ps_if (PW.pt (pw_or (pt_not (pt_val (pe_callB (isiK K) (by rfl) B.isinstance (by decide +kernel) (pa_cons (pv 7) (pa_cons (pe_bltn (v := .ty "list") rfl B.list (by decide +kernel) rfl) pa_nil))))) (pw_or1 (pt_cmpR op_gt (pe_callB (lenK K) (by rfl) B.len PySem.boot_len (pa_cons (pe_lc (own := [("_law_p", 8)]) rfl sc_l_is_right.nd (pi_listK K (pv 7)) (blkOk_by (own := [("_law_p", 8)]) (N := N_l_is_right) (sc := defScope s_l_is_right) (by decide +kernel)) (fun _ _ _ _ _ => (pg_name (i := 8) sc_l_is_right.nd rfl (Or.inl rfl))) (fun _ _ _ _ _ => pts_one (pt_not (pt_val (pe_fn h_l_is_integer (hr.mono (by decide)) rfl (pa_cons (pv 8) pa_nil))))) (fun _ _ _ _ _ => (pv 8))) pa_nil)) pe_int (nomark _)))))
        (pss_one
          (ps_ret pe_bl))
        pss_nil)
      (pss_cons
        (ps_if (PW.pt (pw_or (pt_cmpR (neDK K hu64) (pv 7) (pe_ix (ix_tupK K) (pv 5) pe_int (fun _ _ => rfl)) (nomark _)) (pw_or1 (pt_cmpR (neDK K hu64) (pv 6) (pe_ix (ix_tupK K) (pv 5) pe_int (fun _ _ => rfl)) (nomark _)))))
        (pss_one
          (ps_ret pe_bl))
        pss_nil)
      (pss_cons
        (ps_expr (appK K (pv 7) pe_int))
      (pss_one
        (ps_asg pe_int (pg_sub (pv 7) pe_int set_list)))))))))
    (pss_one
      (ps_ret (pe_and (pe_cmpR (eqDK K hu64) (pe_callTy (lstOfK K) (by rfl) B.list (by decide +kernel) (pa_cons (fldK K (pv 3) rfl) pa_nil)) (pv 0) (nomark _)) (pe_one (pe_cmpR (eqDK K hu64) (pe_lc (own := [("_law_row", 4)]) rfl sc_l_is_right.nd (pi_tupK K (fldK K (pv 3) rfl)) (blkOk_by (own := [("_law_row", 4)]) (N := N_l_is_right) (sc := defScope s_l_is_right) (by decide +kernel)) (fun _ _ _ _ _ => (pg_name (i := 4) sc_l_is_right.nd rfl (Or.inl rfl))) (fun _ _ _ _ _ => pts_nil) (fun _ _ _ _ _ => (pe_callTy (lstOfK K) (by rfl) B.list (by decide +kernel) (pa_cons (pv 4) pa_nil)))) (pv 1) (nomark _)))))))), ?_⟩
    refine ⟨_, rfl, a, _, rfl, .inl ha, fun l1 hl1 => ?_⟩
    have s1 := same_new (o := .lst (caps.map vn)) hl1
    refine ⟨_, rfl, b, rfl, ⟨_, s1.seq hb⟩, fun D hD => ?_⟩
    have hhl := ok.few
    refine comp_listD (IsL D) (hs.map some) (by rw [List.length_map, pu.length]) (by rw [List.length_map]; exact sz_le (by omega)) isL_same isL_upd hD (s1.seq hb) (fun j x o H2 hx ho s2 hDa Q' q1 q2 => ?_) (fun H2 acc s2 hacc pacc => ?_)
    · obtain ⟨row, hrow, t, rfl, ht⟩ := paired_at pu hx
      have ho' : some row = o := by
        rw [List.getElem?_map, hrow] at ho
        exact Option.some.inj ho
      obtain ⟨acc, hacc⟩ := hDa
      refine ⟨rfl, yesT ?_⟩
      refine ⟨_, rfl, t, _, rfl, .inl (SqL.of (s2 _ _ (s1 _ _ ht))), fun p hp => ?_⟩
      have npD : p ≠ D := fun z => by rw [z, hacc] at hp; cases hp
      exact q2 _ row _ (same_new hp) ho'.symm ⟨p, rfl, npD, upd_same⟩
    rw [map_some_id] at pacc
    have s12 := s1.trans s2
    have hl12 := s2 _ _ (upd_same (H := H) (a := l1) (o := .lst (caps.map vn)))
    intro x dx hx hdx hne
    have sx : Same H2 (upd (upd H2 dx (.own x)) x (.ins C dx [])) := (same_new hdx).trans (same_new (by rw [upd_ne hne.symm]; exact hx))
    refine ⟨x, dx, l1, D, caps, acc, hs, rfl, upd_same, SqL.of (sx _ _ hl12), hc0, SqL.of (sx _ _ hacc), Paired.mapP pacc fun v h q => ls_of (lst_same sx (lst_of q)), ok, fun H3 hpool keep => ⟨rfl, ?_⟩⟩
    have s3 : Same H H3 := fun c o hco => by
      have h2 := s12 c o hco
      have ncx : c ≠ x := fun z => by rw [z, hx] at h2; cases h2
      exact keep c o (sx _ _ h2) ncx
    have hc3 := s3 _ _ hc
    refine ⟨_, rfl, _, rfl, _, rfl, c, _, rfl, SqL.of hc3, fun c2 hc2 => ?_⟩
    have s4 := same_new (o := .lst (cutV xs none (some 1))) hc2
    refine ⟨c, c2, _, _, rfl, rfl, s4 _ _ hc3, upd_same, by have := cutV_length xs none (some 1); exact Nat.le_of_lt (sz_le (by omega)), fun p5 hp5 => ?_⟩
    have hall : ∀ v ∈ xs ++ cutV xs none (some 1), AskedAt caps hs H v := fun v hv => by
      rcases List.mem_append.mp hv with z | z
      · exact hxs v z
      · unfold cutV at z
        exact hxs v (List.mem_of_mem_drop (List.mem_of_mem_take z))
    generalize xs ++ cutV xs none (some 1) = ys at hall hp5
    have s5 := same_new (o := .lst ys) hp5
    have s35 := s4.trans s5
    have s05 := s3.trans s35
    have hpool5 := hpool.same s35
    have hys : (upd (upd H3 c2 (.lst (cutV xs none (some 1)))) p5 (.lst ys)) p5 = some (.lst ys) := upd_same
    generalize upd (upd H3 c2 (.lst (cutV xs none (some 1)))) p5 (.lst ys) = H5 at s35 s05 hpool5 hys
    refine ⟨p5, rfl, ⟨_, SqL.of hys⟩, for_list (K := K) (a := p5) (xs := ys) (fun i σ H' => ∃ (v5 v6 v7 : Option V), σ = [some (.ref a), some (.ref b), some (.ref c), some (.ref x), none, v5, v6, v7, none] ∧ Same H5 H') ⟨none, none, none, rfl, Same.refl _⟩ (fun i σ H' _ ⟨_, _, _, _, s'⟩ => SqL.of (s' _ _ hys)) ?_ ?_⟩
    · rintro i y σ H' hy ⟨v5, v6, v7, rfl, s'⟩
      obtain ⟨t, wa, la, ws, bl, rfl, ht, hwa, hla, hwl, hbest⟩ := hall y (List.mem_of_getElem? hy)
      have look0 : atI ([.ref wa, .ref la] : List V) 0 = some (.ref wa) := atN (j := 0) rfl
      have look1 : atI ([.ref wa, .ref la] : List V) 1 = some (.ref la) := atN (j := 1) rfl
      have sA := s05.trans s'
      refine ⟨_, rfl, t, _, _, _, rfl, rfl, SqT.of (sA _ _ ht), look0, wa, _, rfl, .inl (SqL.of (sA _ _ hwa)), fun hd hhd => ?_⟩
      have s6 := same_new (o := .lst (ws.map vn)) hhd
      have hh6 : (upd H' hd (.lst (ws.map vn))) hd = some (.lst (ws.map vn)) := upd_same
      refine ⟨_, rfl, _, rfl, .ref x, hd, caps, hs, ws, rfl, hpool5.same (s'.trans s6), SqL.of hh6, hwl, fun q ord G H7 hq0 s7 hord hG hq => ?_⟩
      obtain ⟨G', hG', hbl⟩ := hbest ord hord
      have ebl : (List.range hs.length).filter G = bl := by
        rw [hbl]
        exact List.filter_congr fun z _ => hG.uniq hG' z
      rw [ebl] at hq
      have hbll : bl.length ≤ 100 := by
        rw [hbl]; exact Nat.le_trans (List.length_filter_le _ _) (by rw [List.length_range]; exact hhl)
      have s67 := s6.trans s7
      have sB := s'.trans s67
      have hq6 := s6.free hq0
      refine ⟨_, rfl, _, _, _, _, true, rfl, .ty "list", .base (.lst hq), kit_ty (by decide +kernel), true, rfl, ?_⟩
      refine ite2 (fun z => absurd z (by decide)) (fun _ => ?_)
      refine ⟨_, rfl, q, rfl, ⟨_, SqL.of hq⟩, fun D2 hD2 => ?_⟩
      refine comp_list IsN (bl.map fun _ => none) (by simp) (by rw [List.length_map]; exact sz_le (by omega)) tups_N.same tups_N.updL hD2 (SqL.of hq) (fun j y o H8 hy ho s8 Q' q1 q2 => ?_) (fun H8 acc8 s8 hacc8 pacc8 => ?_)
      · obtain ⟨n, hn, rfl⟩ := vmap_at hy
        have ho' := map_at hn ho
        refine ⟨rfl, ?_⟩
        refine ⟨_, rfl, n, rfl, true, rfl, ?_⟩
        refine ite2 (fun z => absurd z (by decide)) (fun _ => ?_)
        exact q1 _ (Same.refl _) ho'.symm
      rw [fm_none] at pacc8
      rw [paired_N pacc8] at hacc8
      refine ⟨D2, _, rfl, .inl (SqL.of hacc8), _, _, rfl, rfl, _, rfl, ?_⟩
      refine ite2 (fun z => absurd z (by decide)) (fun _ => ?_)
      have sC := sA.trans (s67.trans s8)
      have hq8 := s8 _ _ hq
      have hh8 := s8 _ _ (s7 _ _ hh6)
      refine ⟨_, rfl, _, rfl, t, _, _, _, rfl, rfl, SqT.of (sC _ _ ht), look1, dL bl, dL bl, dp_L (SqL.of hq8), dp_L (SqL.of (sC _ _ hla)), shaped_dL _, shaped_dL _, _, rfl, ?_⟩
      rw [eqv_L, decide_eq_true rfl]
      refine ite2 (fun z => absurd z (by decide)) (fun _ => ?_)
      refine ⟨_, rfl, _, rfl, t, _, _, _, rfl, rfl, SqT.of (sC _ _ ht), look0, dL ws, dL ws, dp_L (SqL.of hh8), dp_L (SqL.of (sC _ _ hwa)), shaped_dL _, shaped_dL _, _, rfl, ?_⟩
      rw [eqv_L, decide_eq_true rfl]
      refine ite2 (fun z => absurd z (by decide)) (fun _ => ?_)
      refine ⟨_, rfl, .inl ⟨rfl, _, SqL.of hq8⟩, q, _, _, rfl, rfl, hq8, by rw [List.length_map]; exact sz_le (by omega), ?_⟩
      have hq50 : H5 q = none := s'.free hq6
      have s9 := same_put (o := .lst (bl.map vn ++ [.int 0])) (s'.trans (s67.trans s8)) hq50
      refine ⟨_, rfl, q, _, 0, 0, rfl, rfl, upd_same, ?_, ?_⟩
      · unfold ixN
        rw [if_pos (by decide), if_pos (by rw [List.length_append, List.length_singleton]; omega)]; rfl
      · exact ⟨_, _, _, rfl, same_put s9 hq50⟩
    · rintro σ H' ⟨v5, v6, v7, rfl, s'⟩
      have sA := s05.trans s'
      obtain ⟨px, dx', ct, ht, rows, epx, h1, h2, h3, h4, _⟩ := hpool5.same s'
      cases epx
      refine ⟨_, rfl, x, C, dx', _, _, rfl, h1, T.cl, T.nc, poolF_caps _ _ _ _, ct, _, rfl, .inr (SqT.of h2), fun l hl => ?_⟩
      have sl := same_new (o := .lst (caps.map vn)) hl
      refine ⟨_, rfl, dL caps, dL caps, dp_L (SqL.of upd_same), dp_L ((sA.trans sl).seq ha), shaped_dL _, shaped_dL _, _, rfl, ?_⟩
      rw [eqv_L, decide_eq_true rfl]
      refine iteT ?_
      refine ⟨_, rfl, x, C, dx', _, _, rfl, sl _ _ h1, T.cl, T.nh, poolF_holders _ _ _ _, ht, rfl, ⟨_, SqT.of (sl _ _ h3)⟩, fun D hD => ?_⟩
      have hlr := h4.length
      refine comp_tupD (IsL D) (hs.map some) (by rw [List.length_map, hlr]) (by rw [List.length_map]; exact sz_le (by omega)) isL_same isL_upd hD (SqT.of (sl _ _ h3)) (fun j y o H6 hy ho s6 hDa Q' q1 q2 => ?_) (fun H6 acc6 s6 hacc6 pacc6 => ?_)
      · obtain ⟨row, hrow, t, rfl, ht⟩ := paired_at h4 hy
        have ho' : some row = o := by
          rw [List.getElem?_map, hrow] at ho
          exact Option.some.inj ho
        obtain ⟨acc, hacc⟩ := hDa
        refine ⟨rfl, yesT ?_⟩
        refine ⟨_, rfl, t, _, rfl, .inr (SqT.of (s6 _ _ (sl _ _ ht))), fun p hp => ?_⟩
        have npD : p ≠ D := fun z => by rw [z, hacc] at hp; cases hp
        exact q2 _ row _ (same_new hp) ho'.symm ⟨p, rfl, npD, upd_same⟩
      rw [map_some_id] at pacc6
      have sB := (sA.trans sl).trans s6
      refine ⟨_, rfl, .list (hs.map dL), .list (hs.map dL), .lst (SqL.of hacc6) (dpAll_of (fun v h ⟨t, e, _, ht⟩ => by rw [e]; exact dp_L (SqL.of ht)) pacc6), .lst (sB.seq hb) (dpAll_of (fun v h ⟨t, e, ht⟩ => by rw [e]; exact dp_L (SqL.of (sB _ _ ht))) pu), shaped_list lay_dL dep_dL (by decide) hs, shaped_list lay_dL dep_dL (by decide) hs, ?_⟩
      rw [eqv_LL]
      exact k _ sB
end
end BL
set_option Elab.async false
set_option linter.all false
set_option maxRecDepth 100000
set_option maxHeartbeats 4000000
/-! The plain law, last part: the pools that the law makes. -/
namespace BL
open PySem L2
theorem row_len {m : Nat} {h : List Nat} (r : RowOk m h) : h.length ≤ m := by
  rw [← cnt_list (nodup_of_lt r.1) r.2]
  have := List.countP_le_length (p := fun x => h.contains x) (l := List.range m)
  rwa [List.length_range] at this
theorem pool_law {n : Nat} {caps : List Nat} {hs : List (List Nat)} (hn : n ≤ 100) (ok : LawOk n caps hs) : PoolOk caps hs := by
  have h5 := ok.five
  have hf := ok.few
  refine ⟨by omega, fun h hh => ⟨?_, ok.row h hh⟩⟩
  have := row_len (ok.row h hh)
  omega
theorem pool_apart {caps : List Nat} {hs : List (List Nat)} (ok : ApartOk caps hs) : PoolOk caps hs := by
  have hf := ok.few
  refine ⟨by omega, fun h hh => ?_⟩
  obtain ⟨x, y, rfl, hxy, hy⟩ := ok.row h hh
  refine ⟨by show 2 ≤ 100; decide, ?_, fun z hz => ?_⟩
  · simp [hxy]
  · have : z = x ∨ z = y := by simpa using hz
    omega
def Cs2 (c1 c2 : List Nat) (g : Nat) : List Nat := if g = 0 then c1 else c2
def Hs2 (h1 h2 : List (List Nat)) (g : Nat) : List (List Nat) := if g = 0 then h1 else h2
theorem own2 (h1 h2 : List (List Nat)) : Own (fun g => (Hs2 h1 h2 g).length) (ownTo h1.length h2.length (max h1.length h2.length)) := by
  have e : (fun g => (Hs2 h1 h2 g).length) = fun g => if g = 0 then h1.length else h2.length := by
    funext g; unfold Hs2; split <;> rfl
  rw [e]
  exact own_ok _ _
theorem join2 {c1 c2 : List Nat} {h1 h2 : List (List Nat)} (ok1 : LawOk 6 c1 h1) (ok2 : LawOk 6 c2 h2) :
    Join (Cs2 c1 c2) (Hs2 h1 h2) (ownTo h1.length h2.length (max h1.length h2.length)) (c1 ++ c2) ((ownTo h1.length h2.length (max h1.length h2.length)).map (rowJ c1.length h1 h2)) := by
  refine ⟨own2 h1 h2, by rw [List.length_map], fun q g p h => ?_, rfl, fun g hg h hh => ?_⟩
  · rw [List.getD_eq_getElem?_getD, List.getElem?_map, h]
    show rowJ c1.length h1 h2 (g, p) = _
    unfold rowJ Hs2 Cs2
    by_cases e : g = 0
    · subst e; simp
    · simp [e]
  · have c : g = 0 ∨ g = 1 := by omega
    rcases c with rfl | rfl
    · exact ok1.row h hh
    · exact ok2.row h hh
theorem ownTo_len (na nb : Nat) : ∀ j, (ownTo na nb j).length ≤ 2 * j
  | 0 => Nat.le_refl _
  | j + 1 => by
    have := ownTo_len na nb j
    rw [ownTo_succ, List.length_append]
    have : (own1 na nb j).length ≤ 2 := by unfold own1; split <;> split <;> simp
    omega
theorem pool_join {c1 c2 : List Nat} {h1 h2 : List (List Nat)} (ok1 : LawOk 6 c1 h1) (ok2 : LawOk 6 c2 h2) : PoolOk (c1 ++ c2) ((ownTo h1.length h2.length (max h1.length h2.length)).map (rowJ c1.length h1 h2)) := by
  have f1 := ok1.few
  have f2 := ok2.few
  have g1 := ok1.five
  have g2 := ok2.five
  refine ⟨by rw [List.length_map]; have := ownTo_len h1.length h2.length (max h1.length h2.length); omega, fun h hh => ?_⟩
  obtain ⟨o, ho, rfl⟩ := List.mem_map.mp hh
  obtain ⟨q, hq⟩ := List.getElem?_of_mem ho
  obtain ⟨g, p⟩ := o
  obtain ⟨_, hg, hp⟩ := (own2 h1 h2).lt hq
  have key : RowOk (c1 ++ c2).length (rowJ c1.length h1 h2 (g, p)) := by
    unfold rowJ
    have c : g = 0 ∨ g = 1 := by omega
    rcases c with rfl | rfl
    · rw [if_pos rfl]
      have hp : p < h1.length := hp
      have hm : h1.getD p [] ∈ h1 := by rw [List.getD_eq_getElem?_getD, List.getElem?_eq_getElem hp]; exact List.getElem_mem hp
      obtain ⟨a, b⟩ := ok1.row _ hm
      exact ⟨a, fun x hx => by have := b x hx; rw [List.length_append]; omega⟩
    · rw [if_neg (by simp)]
      have hp : p < h2.length := hp
      have hm : h2.getD p [] ∈ h2 := by rw [List.getD_eq_getElem?_getD, List.getElem?_eq_getElem hp]; exact List.getElem_mem hp
      obtain ⟨a, b⟩ := ok2.row _ hm
      refine ⟨?_, fun x hx => ?_⟩
      · rw [List.pairwise_map]
        exact a.imp fun h => by omega
      · obtain ⟨y, hy, rfl⟩ := List.mem_map.mp hx
        have := b y hy
        rw [List.length_append]; omega
  refine ⟨?_, key⟩
  have := row_len key
  rw [List.length_append] at this
  omega
theorem best_join {c1 c2 : List Nat} {h1 h2 : List (List Nat)} (ok1 : LawOk 6 c1 h1) (ok2 : LawOk 6 c2 h2) {ws : List Nat} {Gs : Nat → Nat → Bool} (hl : ws.length = (ownTo h1.length h2.length (max h1.length h2.length)).length)
    (hG : ∀ ord, OrdOf (wOf ws) (ownTo h1.length h2.length (max h1.length h2.length)).length ord → ∀ g, g < 2 → Greedy (Hall (Cs2 c1 c2 g) (Hs2 h1 h2 g)) (ordg (ownTo h1.length h2.length (max h1.length h2.length)) g ord) (Gs g)) :
    Best (c1 ++ c2) ((ownTo h1.length h2.length (max h1.length h2.length)).map (rowJ c1.length h1 h2)) ws ((List.range (ownTo h1.length h2.length (max h1.length h2.length)).length).filter (both (ownTo h1.length h2.length (max h1.length h2.length)) Gs)) := by
  refine ⟨by rw [List.length_map]; exact hl, fun ord ho => ?_⟩
  rw [List.length_map] at ho ⊢
  exact ⟨_, (join2 ok1 ok2).greedy ho (hG ord ho), rfl⟩
theorem wsum_list (w : Nat → Nat) (S : Nat → Bool) : ∀ l : List Nat, ((l.filter S).map w).sum = (l.map fun i => if S i = true then w i else 0).sum
  | [] => rfl
  | a :: l => by
    rw [List.filter_cons, List.map_cons, List.sum_cons, ← wsum_list w S l]
    cases h : S a <;> simp
theorem count_list (w : Nat → Nat) (S : Nat → Bool) (n c : Nat) : (((List.range n).filter S).filter fun x => decide (c ≤ w x)).length = cnt n fun i => S i && decide (c ≤ w i) := by
  rw [List.filter_filter, filter_len]
  exact cnt_congr fun i _ => Bool.and_comm _ _
end BL
set_option Elab.async false
set_option linter.all false
set_option maxRecDepth 100000
set_option maxHeartbeats 16000000
namespace BL
open PySem L2
/-! law -/
def spLaw (K : PySem.W.Frag) : Sp := fun vs H Q _ => ∃ (a : Addr) (ns : List Int), vs = [.ref a] ∧ SqL K H a (ns.map V.int) ∧ ∀ H', Q (.bl true) H'
section
variable {P : Program} {w : World} {K : PySem.W.Frag} {mg : Str → Option Value} {base : Heap} {C : Addr}
theorem ok_law {f : Addr} {fd : FuncData} (B : Bt mg) (F : FnP K "law" s_law f fd)
    (h_l_cell : Has P w K mg base 1 "_law_cell" ["_law_script", "_law_k"] (spCell K)) (h_l_draws : Has P w K mg base 1 "_law_draws" ["_law_cell_here", "_law_sizes"] (spDraws K)) (h_l_pool : Has P w K mg base 2 "_law_pool" ["_law_cell_here", "_law_most"] spPool)
    (h_l_lots : Has P w K mg base 1 "_law_lots" ["_law_count"] spLots) (h_l_apart : Has P w K mg base 2 "_law_apart" ["_law_cell_here"] spApart) (h_l_worths : Has P w K mg base 2 "_law_worths" ["_law_script", "_law_k", "_law_count"] (spWorths K))
    (h_l_dealable : Has P w K mg base 3 "_law_dealable" ["_law_caps", "_law_holders"] (spDealable K)) (h_l_collected : Has P w K mg base 2 "_law_collected" ["_law_worths_here", "_law_dealable_here"] (spCollected K)) (h_l_collected_apart : Has P w K mg base 2 "_law_collected_apart" ["_law_caps", "_law_holders", "_law_worths_here"] (spCollectedApart K))
    (h_l_is_best : Has P w K mg base 1 "_law_is_best" ["_law_worths_here", "_law_best", "_law_lot"] (spIsBest K)) (h_l_joined : Has P w K mg base 1 "_law_joined" ["_law_first", "_law_second"] spJoined) (h_l_collected_in_groups : Has P w K mg base 4 "_law_collected_in_groups" ["_law_groups", "_law_owners", "_law_worths_here"] (spGroups K))
    (h_l_is_right : Has P w K mg base 6 "_law_is_right" ["_law_caps", "_law_holders", "_law_asked"] (spRight K)) :
    FnOk P w K mg base CX0 7 f fd ["_law_script"] (spLaw K) := by
  refine F.ok sc_law (fun vs H Q E h => ?_) (fun cdv A outer s H vs Q E hr h => ?_)
  · obtain ⟨a, ns, rfl, _⟩ := h; rfl
  · obtain ⟨a, ns, rfl, ha, k⟩ := h
    refine ⟨_, PSs.nox (pss_cons
      (ps_asg (pe_fn h_l_pool (hr.mono (by decide)) rfl (pa_cons (pe_fn h_l_cell (hr.mono (by decide)) rfl (pa_cons (pv 0) (pa_cons pe_int pa_nil))) (pa_cons pe_int pa_nil))) (gtupK K 2 rfl (pgs_cons (pg_name (i := 1) sc_law.nd rfl (Or.inl rfl)) (pgs_cons (pg_name (i := 2) sc_law.nd rfl (Or.inl rfl)) pgs_nil))))
    (pss_cons
      (ps_set (i := 3) sc_law.nd rfl (Or.inl rfl) (pe_fn h_l_worths (hr.mono (by decide)) rfl (pa_cons (pv 0) (pa_cons pe_int (pa_cons (pe_callB (lenK K) (by rfl) B.len PySem.boot_len (pa_cons (pv 2) pa_nil)) pa_nil)))))
    (pss_cons
      (ps_set (i := 4) sc_law.nd rfl (Or.inl rfl) (listRevK K rfl rfl B.list rfl B.reversed (pv 3)))
    (pss_cons
      (ps_set (i := 5) sc_law.nd rfl (Or.inl rfl) (pe_fn h_l_dealable (hr.mono (by decide)) rfl (pa_cons (pv 1) (pa_cons (pv 2) pa_nil))))
    (pss_cons
      (ps_set (i := 6) sc_law.nd rfl (Or.inl rfl) (pe_fn h_l_collected (hr.mono (by decide)) rfl (pa_cons (pv 3) (pa_cons (pv 5) pa_nil))))
    (pss_cons
      (ps_if (pt_not (pt_val (pe_fn h_l_is_right (hr.mono (by decide)) rfl (pa_cons (pv 1) (pa_cons (pv 2) (pa_cons (pe_lst (pa_cons (pe_tup (pa_cons (pv 3) (pa_cons (pv 6) pa_nil))) (pa_cons (pe_tup (pa_cons (pv 4) (pa_cons (pe_fn h_l_collected (hr.mono (by decide)) rfl (pa_cons (pv 4) (pa_cons (pv 5) pa_nil))) pa_nil))) (pa_cons (pe_tup (pa_cons (pv 3) (pa_cons (pv 6) pa_nil))) pa_nil)))) pa_nil))))))
      (pss_one
        (ps_ret pe_bl))
      pss_nil)
    (pss_cons
      (ps_set (i := 7) sc_law.nd rfl (Or.inl rfl) (pe_fn h_l_lots (hr.mono (by decide)) rfl (pa_cons (pe_callB (lenK K) (by rfl) B.len PySem.boot_len (pa_cons (pv 2) pa_nil)) pa_nil)))
    (pss_cons
      (ps_for PassesOwn.never rfl (pi_range1 rfl B.range (pa_cons (pe_callB (lenK K) (by rfl) B.len PySem.boot_len (pa_cons (pv 7) pa_nil)) pa_nil)) (pg_name (i := 8) sc_law.nd rfl (Or.inl rfl))
      (pss_one
        (ps_if (PW.pt (pw_and (pt_val (pe_ix (ix_listK K) (pv 5) (pv 8) (fun _ _ => rfl))) (pw_and1 (pt_not (pt_val (pe_fn h_l_is_best (hr.mono (by decide)) rfl (pa_cons (pv 3) (pa_cons (pv 6) (pa_cons (pe_ix (ix_listK K) (pv 7) (pv 8) (fun _ _ => rfl)) pa_nil)))))))))
        (pss_one
          (ps_ret pe_bl))
        pss_nil)))
    (pss_cons
      (ps_if (pt_cmpR op_eq (pe_ix (ix_listK K) (pe_fn h_l_draws (hr.mono (by decide)) rfl (pa_cons (pe_fn h_l_cell (hr.mono (by decide)) rfl (pa_cons (pv 0) (pa_cons pe_int pa_nil))) (pa_cons (pe_lst (pa_cons pe_int pa_nil)) pa_nil))) pe_int (fun _ _ => rfl)) pe_int (nomark _))
      (pss_cons
        (ps_asg (pe_fn h_l_apart (hr.mono (by decide)) rfl (pa_cons (pe_fn h_l_cell (hr.mono (by decide)) rfl (pa_cons (pv 0) (pa_cons pe_int pa_nil))) pa_nil)) (gtupK K 2 rfl (pgs_cons (pg_name (i := 1) sc_law.nd rfl (Or.inl rfl)) (pgs_cons (pg_name (i := 2) sc_law.nd rfl (Or.inl rfl)) pgs_nil))))
      (pss_cons
        (ps_set (i := 3) sc_law.nd rfl (Or.inl rfl) (pe_fn h_l_worths (hr.mono (by decide)) rfl (pa_cons (pv 0) (pa_cons pe_int (pa_cons (pe_callB (lenK K) (by rfl) B.len PySem.boot_len (pa_cons (pv 2) pa_nil)) pa_nil)))))
      (pss_one
        (ps_ret (pe_fn h_l_is_right (hr.mono (by decide)) rfl (pa_cons (pv 1) (pa_cons (pv 2) (pa_cons (pe_lst (pa_cons (pe_tup (pa_cons (pv 3) (pa_cons (pe_fn h_l_collected_apart (hr.mono (by decide)) rfl (pa_cons (pv 1) (pa_cons (pv 2) (pa_cons (pv 3) pa_nil)))) pa_nil))) pa_nil)) pa_nil))))))))
      pss_nil)
    (pss_cons
      (ps_set (i := 9) sc_law.nd rfl (Or.inl rfl) (pe_lst (pa_cons (pe_fn h_l_pool (hr.mono (by decide)) rfl (pa_cons (pe_op op_add (pe_callTy call_int1 (by rfl) B.int (by decide +kernel) (pa_cons (pe_fn h_l_cell (hr.mono (by decide)) rfl (pa_cons (pv 0) (pa_cons pe_int pa_nil))) pa_nil)) pe_int) (pa_cons pe_int pa_nil))) (pa_cons (pe_fn h_l_pool (hr.mono (by decide)) rfl (pa_cons (pe_op op_add (pe_callTy call_int1 (by rfl) B.int (by decide +kernel) (pa_cons (pe_fn h_l_cell (hr.mono (by decide)) rfl (pa_cons (pv 0) (pa_cons pe_int pa_nil))) pa_nil)) pe_int) (pa_cons pe_int pa_nil))) pa_nil))))
    (pss_cons
      (ps_asg (pe_fn h_l_joined (hr.mono (by decide)) rfl (pa_cons (pe_ix (ix_listK K) (pv 9) pe_int (fun _ _ => rfl)) (pa_cons (pe_ix (ix_listK K) (pv 9) pe_int (fun _ _ => rfl)) pa_nil))) (gtupK K 3 rfl (pgs_cons (pg_name (i := 1) sc_law.nd rfl (Or.inl rfl)) (pgs_cons (pg_name (i := 2) sc_law.nd rfl (Or.inl rfl)) (pgs_cons (pg_name (i := 10) sc_law.nd rfl (Or.inl rfl)) pgs_nil)))))
    (pss_cons
      (ps_set (i := 3) sc_law.nd rfl (Or.inl rfl) (pe_fn h_l_worths (hr.mono (by decide)) rfl (pa_cons (pv 0) (pa_cons pe_int (pa_cons (pe_callB (lenK K) (by rfl) B.len PySem.boot_len (pa_cons (pv 2) pa_nil)) pa_nil)))))
    (pss_cons
      (ps_set (i := 4) sc_law.nd rfl (Or.inl rfl) (listRevK K rfl rfl B.list rfl B.reversed (pv 3)))
    (pss_cons
      (ps_set (i := 6) sc_law.nd rfl (Or.inl rfl) (pe_fn h_l_collected_in_groups (hr.mono (by decide)) rfl (pa_cons (pv 9) (pa_cons (pv 10) (pa_cons (pv 3) pa_nil)))))
    (pss_cons
      (ps_set (i := 11) sc_law.nd rfl (Or.inl rfl) (pe_fn h_l_collected_in_groups (hr.mono (by decide)) rfl (pa_cons (pv 9) (pa_cons (pv 10) (pa_cons (pv 4) pa_nil)))))
    (pss_one
      (ps_ret (pe_fn h_l_is_right (hr.mono (by decide)) rfl (pa_cons (pv 1) (pa_cons (pv 2) (pa_cons (pe_lst (pa_cons (pe_tup (pa_cons (pv 3) (pa_cons (pv 6) pa_nil))) (pa_cons (pe_tup (pa_cons (pv 4) (pa_cons (pv 11) pa_nil))) pa_nil))) pa_nil))))))))))))))))))))), ?_⟩
    refine ⟨_, rfl, a, ns, 0, rfl, ha, fun z => ?_⟩
    refine ⟨z, 6, rfl, by decide, fun t ca hb caps us hs H1 s1 ht hca hhb pu lok => ?_⟩
    refine ⟨t, _, rfl, SqT.of ht, rfl, ?_⟩
    refine ⟨_, _, rfl, _, _, rfl, rfl, ?_⟩
    have hfew := lok.few
    have hfive := lok.five
    have hul := pu.length
    refine ⟨_, rfl, _, rfl, hb, _, rfl, .inl (SqL.of hhb), a, ns, 1, hs.length, by rw [hul]; rfl, s1.seq ha, by omega, fun wp ws H2 s2 hwp hwl => ?_⟩
    have s12 := s1.trans s2
    refine ⟨_, rfl, wp, _, rfl, SqL.of hwp, fun tp htp => ?_⟩
    rw [← List.map_reverse]
    have s3 := same_new (o := .lst (ws.reverse.map vn)) htp
    have htp3 : (upd H2 tp (.lst (ws.reverse.map vn))) tp = some (.lst (ws.reverse.map vn)) := upd_same
    generalize upd H2 tp (.lst (ws.reverse.map vn)) = H3 at s3 htp3
    have s13 := s2.trans s3
    refine ⟨_, rfl, _, rfl, ca, hb, caps, us, hs, rfl, SqL.of (s13 _ _ hca), SqL.of (s13 _ _ hhb), Paired.mapP pu fun _ _ q => ls_of (lst_same s13 q), hfew, by omega, fun pd bs H4 s4 hpd tb => ?_⟩
    refine ⟨_, rfl, _, rfl, wp, pd, caps, hs, bs, ws, rfl, SqL.of (s4 _ _ (s3 _ _ hwp)), SqL.of hpd, tb, hwl, hfew, fun bp ord G H5 s5 hord hG hbp => ?_⟩
    refine ⟨_, rfl, _, rfl, _, rfl, _, rfl, by show 2 ≤ sizeLine; decide, fun t1 ht1 => ?_⟩
    have s6 := same_new (o := .tup [.ref wp, .ref bp]) ht1
    have s46 := s4.trans (s5.trans s6)
    refine ⟨_, rfl, _, rfl, _, rfl, tp, pd, caps, hs, bs, ws.reverse, rfl, SqL.of (s46 _ _ htp3), SqL.of (s6 _ _ (s5 _ _ hpd)), tb, by rw [List.length_reverse]; exact hwl, hfew, fun bp2 ord2 G2 H7 s7 hord2 hG2 hbp2 => ?_⟩
    refine ⟨by show 2 ≤ sizeLine; decide, fun t2 ht2 => ?_⟩
    have s8 := same_new (o := .tup [.ref tp, .ref bp2]) ht2
    refine ⟨_, rfl, _, rfl, by show 2 ≤ sizeLine; decide, fun t3 ht3 => ?_⟩
    have s9 := same_new (o := .tup [.ref wp, .ref bp]) ht3
    refine ⟨by show 3 ≤ sizeLine; decide, fun L hL => ?_⟩
    have s10 := same_new (o := .lst [.ref t1, .ref t2, .ref t3]) hL
    have s89 := s8.trans (s9.trans s10)
    have s79 := s7.trans s89
    have s410 := s46.trans s79
    have s210 := s13.trans s410
    have hb1 : Best caps hs ws ((List.range hs.length).filter G) := Best.of hwl hord hG
    have hb2 : Best caps hs ws.reverse ((List.range hs.length).filter G2) := Best.of (by rw [List.length_reverse]; exact hwl) hord2 hG2
    refine ⟨ca, hb, L, caps, us, hs, _, rfl, SqL.of (s210 _ _ hca), SqL.of (s210 _ _ hhb), Paired.mapP pu fun _ _ q => lst_same s210 q, upd_same, fun v hv => ?_, by show 3 ≤ 100; decide, by have := lok.one; omega, pool_law (by decide) lok, fun H11 s11 => ?_⟩
    · have : v = .ref t1 ∨ v = .ref t2 ∨ v = .ref t3 := by simpa using hv
      rcases this with rfl | rfl | rfl
      · exact ⟨t1, wp, bp, ws, _, rfl, s79 _ _ upd_same, s410 _ _ (s3 _ _ hwp), (s6.trans s79) _ _ hbp, hb1⟩
      · exact ⟨t2, tp, bp2, _, _, rfl, (s9.trans s10) _ _ upd_same, s410 _ _ htp3, s89 _ _ hbp2, hb2⟩
      · exact ⟨t3, wp, bp, ws, _, rfl, s10 _ _ upd_same, s410 _ _ (s3 _ _ hwp), (s6.trans s79) _ _ hbp, hb1⟩
    refine ⟨true, rfl, ?_⟩
    refine ite2 (fun z => absurd z (by decide)) (fun _ => ?_)
    have sF := s210.trans s11
    have hwp11 := s11 _ _ (s410 _ _ (s3 _ _ hwp))
    have hbp11 := s11 _ _ ((s6.trans s79) _ _ hbp)
    have hpd11 := s11 _ _ ((s5.trans (s6.trans s79)) _ _ hpd)
    have sH := s1.trans sF
    clear s89 s79 s410 s210 s10 s9 s8 s7 s46
    refine ⟨_, rfl, hb, _, rfl, .inl (SqL.of (sF _ _ hhb)), hs.length, by rw [hul]; rfl, hfew, fun pl ls H12 hpl0 s12' hpl pls => ?_⟩
    have hll := pls.length
    rw [lotsA_len] at hll
    have h64 : 2 ^ hs.length ≤ 64 := Nat.le_trans (Nat.pow_le_pow_right (by decide) hfew) (by decide)
    refine ⟨_, rfl, pl, _, rfl, .inl (SqL.of hpl), _, rfl, by rw [hll]; exact (range_ok (by omega)).1, by rw [hll]; exact (range_ok (by omega)).2, ?_⟩
    rw [hll, Int.toNat_natCast]
    refine for_range0 (n := 2 ^ hs.length) (fun i σ H' => ∃ (v8 : Option V), σ = [some (.ref a), some (.ref ca), some (.ref hb), some (.ref wp), some (.ref tp), some (.ref pd), some (.ref bp), some (.ref pl), v8, none, none, none] ∧ Same H12 H') ⟨none, rfl, Same.refl _⟩ ?_ ?_
    · rintro i σ H' hi ⟨v8, rfl, s'⟩
      have sA := s12'.trans s'
      obtain ⟨S, hS, hmk⟩ := mk_surj hs.length i hi
      obtain ⟨b, hb', hb2'⟩ := tb.2 S hS (by rw [hmk]; exact hi)
      rw [hmk] at hb'
      have hlot := lotsA_mk S hs.length
      rw [hmk] at hlot
      obtain ⟨x, hx, tl, rfl, _, htl⟩ := paired_at' pls hlot
      refine ⟨_, rfl, _, rfl, pd, _, _, _, rfl, rfl, SqL.of (sA _ _ hpd11), bls_at rfl hb', b, rfl, ?_⟩
      refine ite2 (fun hbt => ?_) (fun hbt => ?_)
      · have hH := hb2'.mp hbt
        have hbest := fun c => greedy_best hord hG hH c
        refine ⟨_, rfl, _, rfl, _, rfl, _, rfl, pl, _, _, _, rfl, rfl, SqL.of (s' _ _ hpl), atN hx, wp, bp, tl, ws, (List.range hs.length).filter G, (List.range hs.length).filter S, rfl, SqL.of (sA _ _ hwp11), SqL.of (sA _ _ hbp11), SqL.of (s' _ _ htl), ?_⟩
        have mem : ∀ T : Nat → Bool, ∀ x ∈ (List.range hs.length).filter T, x < ws.length := fun T x hx => by rw [hwl]; exact List.mem_range.mp (List.mem_filter.mp hx).1
        have len : ∀ T : Nat → Bool, ((List.range hs.length).filter T).length ≤ 100 := fun T => Nat.le_trans (List.length_filter_le _ _) (by rw [List.length_range]; omega)
        refine ⟨mem G, mem S, len G, len S, ?_, fun c => ?_, fun H'' s'' => ?_⟩
        · rw [wsum_list, wsum_list]
          exact wsum_le hbest
        · rw [count_list, count_list]
          exact hbest c
        · refine ⟨true, rfl, ?_⟩
          refine ite2 (fun z => absurd z (by decide)) (fun _ => ?_)
          exact ⟨_, rfl, s'.trans s''⟩
      · refine ite2 (fun z => (by cases z)) (fun _ => ?_)
        exact ⟨_, rfl, s'⟩
    · rintro σ H' ⟨v8, rfl, s'⟩
      have sG := sH.trans (s12'.trans s')
      clear s12' s' hpd11 hbp11 hwp11 hb1 hb2
      refine ⟨_, rfl, a, ns, 6, rfl, sG.seq ha, fun z6 => ?_⟩
      refine ⟨by show 1 ≤ sizeLine; decide, fun l2 hl2 => ?_⟩
      have sl := same_new (o := .lst [.int 2]) hl2
      refine ⟨z6, l2, [2], rfl, SqL.of upd_same, by decide, fun x hx => by rw [List.mem_singleton.mp hx]; decide, fun dp ds H13 hdp0 s13' hdp hdl hds => ?_⟩
      have hdl : ds.length = 1 := hdl
      have sK := sG.trans (sl.trans s13')
      refine ⟨dp, _, _, _, rfl, rfl, SqL.of hdp, at_map (j := 0) (getD_at (by omega)), rfl, _, rfl, ?_⟩
      refine ite2 (fun _ => ?_) (fun _ => ?_)
      ·
        refine ⟨_, rfl, a, ns, 3, rfl, sK.seq ha, fun z3 => ?_⟩
        refine ⟨z3, rfl, fun t' ca' hb' caps' us' hs' H14 s14 ht' hca' hhb' pu' aok => ?_⟩
        refine ⟨t', _, rfl, SqT.of ht', rfl, ?_⟩
        refine ⟨_, _, rfl, _, _, rfl, rfl, ?_⟩
        have afew := aok.few
        have atwo := aok.two
        have hul' := pu'.length
        have sM := sK.trans s14
        refine ⟨_, rfl, _, rfl, hb', _, rfl, .inl (SqL.of hhb'), a, ns, 4, hs'.length, by rw [hul']; rfl, sM.seq ha, by omega, fun wp' ws' H15 s15 hwp' hwl' => ?_⟩
        refine ⟨_, rfl, _, rfl, _, rfl, _, rfl, _, rfl, _, rfl, ca', hb', wp', caps', us', hs', ws', rfl, SqL.of (s15 _ _ hca'), SqL.of (s15 _ _ hhb'), Paired.mapP pu' fun _ _ q => ls_of (lst_same s15 q), SqL.of hwp', hwl', aok, fun bp' ord' G' H16 s16 hord' hG' hbp' => ?_⟩
        refine ⟨by show 2 ≤ sizeLine; decide, fun t1' ht1' => ?_⟩
        have u1 := same_new (o := .tup [.ref wp', .ref bp']) ht1'
        refine ⟨by show 1 ≤ sizeLine; decide, fun L' hL' => ?_⟩
        have u2 := same_new (o := .lst [.ref t1']) hL'
        have u3 := s15.trans (s16.trans (u1.trans u2))
        refine ⟨ca', hb', L', caps', us', hs', _, rfl, SqL.of (u3 _ _ hca'), SqL.of (u3 _ _ hhb'), Paired.mapP pu' fun _ _ q => lst_same u3 q, upd_same, fun v hv => ?_, by show 1 ≤ 100; decide, by omega, pool_apart aok, fun H17 _ => k _⟩
        rw [List.mem_singleton.mp hv]
        exact ⟨t1', wp', bp', ws', _, rfl, u2 _ _ upd_same, (s16.trans (u1.trans u2)) _ _ hwp', (u1.trans u2) _ _ hbp', Best.of hwl' hord' hG'⟩
      ·
        refine ⟨_, rfl, a, ns, 3, rfl, sK.seq ha, fun z3 => ?_⟩
        refine .inl ⟨z3, rfl, _, _, rfl, rfl, _, 6, rfl, by decide, fun q1 a1 b1 c1 u1 h1 H14 s14 hq1 ha1 hb1 p1 ok1 => ?_⟩
        refine ⟨_, rfl, a, ns, 7, rfl, (sK.trans s14).seq ha, fun z7 => ?_⟩
        refine .inl ⟨z7, rfl, _, _, rfl, rfl, _, 6, rfl, by decide, fun q2 a2 b2 c2 u2 h2 H15 s15 hq2 ha2 hb2 p2 ok2 => ?_⟩
        have g1 : GrpAt H15 (.ref q1) c1 h1 := ⟨q1, a1, b1, u1, rfl, s15 _ _ hq1, s15 _ _ ha1, s15 _ _ hb1, Paired.mapP p1 fun _ _ q => lst_same s15 q⟩
        have g2 : GrpAt H15 (.ref q2) c2 h2 := ⟨q2, a2, b2, u2, rfl, hq2, ha2, hb2, p2⟩
        refine ⟨by show 2 ≤ sizeLine; decide, fun gp hgp => ?_⟩
        have s16 := same_new (o := .lst [.ref q1, .ref q2]) hgp
        have hgp16 : (upd H15 gp (.lst [.ref q1, .ref q2])) gp = some (.lst [.ref q1, .ref q2]) := upd_same
        generalize upd H15 gp (.lst [.ref q1, .ref q2]) = H16 at s16 hgp16
        have g1 := g1.same s16
        have g2 := g2.same s16
        have sN := sK.trans (s14.trans (s15.trans s16))
        refine ⟨_, rfl, gp, [.ref q1, .ref q2], _, _, rfl, rfl, SqL.of hgp16, atN (j := 0) rfl, ?_⟩
        refine ⟨_, rfl, gp, [.ref q1, .ref q2], _, _, rfl, rfl, SqL.of hgp16, atN (j := 1) rfl, ?_⟩
        refine ⟨.ref q1, .ref q2, c1, c2, h1, h2, rfl, g1, g2, ok1, ok2, fun jt jc jh jo jws jus H17 s17 hjt hjc hjh hjo pjw pju => ?_⟩
        refine ⟨jt, _, rfl, SqT.of hjt, rfl, ?_⟩
        refine ⟨_, _, rfl, _, _, rfl, _, _, rfl, rfl, ?_⟩
        have hown := own2 h1 h2
        have hpool := pool_join ok1 ok2
        have hjl := pjw.length
        rw [List.length_map] at hjl
        have hol := ownTo_len h1.length h2.length (max h1.length h2.length)
        have f1 := ok1.few
        have f2 := ok2.few
        have v1 := ok1.five
        have v2 := ok2.five
        have w1 := ok1.one
        have sO := sN.trans s17
        refine ⟨_, rfl, _, rfl, jh, _, rfl, .inl (SqL.of hjh), a, ns, 4, (ownTo h1.length h2.length (max h1.length h2.length)).length, by rw [hjl]; rfl, sO.seq ha, by omega, fun wp' ws' H18 s18 hwp' hwl' => ?_⟩
        refine ⟨_, rfl, wp', _, rfl, SqL.of hwp', fun tp' htp' => ?_⟩
        rw [← List.map_reverse]
        have s19 := same_new (o := .lst (ws'.reverse.map vn)) htp'
        have htp19 : (upd H18 tp' (.lst (ws'.reverse.map vn))) tp' = some (.lst (ws'.reverse.map vn)) := upd_same
        generalize upd H18 tp' (.lst (ws'.reverse.map vn)) = H19 at s19 htp19
        have s179 := s18.trans s19
        have s169 := s17.trans s179
        have hsm : ∀ g, g < 2 → (Hs2 h1 h2 g).length ≤ 6 ∧ (Cs2 c1 c2 g).length ≤ 100 := fun g hg => by
          have c : g = 0 ∨ g = 1 := by omega
          rcases c with rfl | rfl
          · exact ⟨f1, show c1.length ≤ 100 by omega⟩
          · exact ⟨f2, show c2.length ≤ 100 by omega⟩
        refine ⟨_, rfl, _, rfl, _, rfl, gp, jo, wp', .ref q1, .ref q2, Cs2 c1 c2, Hs2 h1 h2, jus, _, ws', rfl, SqL.of (s169 _ _ hgp16), g1.same s169, g2.same s169, SqL.of (s179 _ _ hjo), tups_P.all (tk_of s179) pju, SqL.of (s19 _ _ hwp'), hown, hwl', by omega, hsm, fun bp' Gs' H20 s20 hGs' hbp' => ?_⟩
        refine ⟨_, rfl, _, rfl, _, rfl, gp, jo, tp', .ref q1, .ref q2, Cs2 c1 c2, Hs2 h1 h2, jus, _, ws'.reverse, rfl, SqL.of (s20 _ _ (s169 _ _ hgp16)), (g1.same s169).same s20, (g2.same s169).same s20, SqL.of (s20 _ _ (s179 _ _ hjo)), tups_P.all (tk_of (s179.trans s20)) pju, SqL.of (s20 _ _ htp19), hown, by rw [List.length_reverse]; exact hwl', by omega, hsm, fun op' Gs2 H21 s21 hGs2 hop' => ?_⟩
        refine ⟨_, rfl, _, rfl, _, rfl, _, rfl, by show 2 ≤ sizeLine; decide, fun t1' ht1' => ?_⟩
        have x1 := same_new (o := .tup [.ref wp', .ref bp']) ht1'
        refine ⟨_, rfl, _, rfl, by show 2 ≤ sizeLine; decide, fun t2' ht2' => ?_⟩
        have x2 := same_new (o := .tup [.ref tp', .ref op']) ht2'
        refine ⟨by show 2 ≤ sizeLine; decide, fun L' hL' => ?_⟩
        have x3 := same_new (o := .lst [.ref t1', .ref t2']) hL'
        have y := s20.trans (s21.trans (x1.trans (x2.trans x3)))
        have yy := s179.trans y
        refine ⟨jc, jh, L', c1 ++ c2, jws, _, _, rfl, SqL.of (yy _ _ hjc), SqL.of (yy _ _ hjh), Paired.mapP pjw fun _ _ q => lst_same yy q, upd_same, fun v hv => ?_, by show 2 ≤ 100; decide, by rw [List.length_append]; omega, hpool, fun H22 _ => k _⟩
        have : v = .ref t1' ∨ v = .ref t2' := by simpa using hv
        rcases this with rfl | rfl
        · exact ⟨t1', wp', bp', ws', _, rfl, (x2.trans x3) _ _ upd_same, y _ _ (s19 _ _ hwp'), (s21.trans (x1.trans (x2.trans x3))) _ _ hbp', best_join ok1 ok2 hwl' hGs'⟩
        · exact ⟨t2', tp', op', _, _, rfl, x3 _ _ upd_same, y _ _ htp19, (x1.trans (x2.trans x3)) _ _ hop', best_join ok1 ok2 (by rw [List.length_reverse]; exact hwl') hGs2⟩
end
end BL
set_option Elab.async false
set_option linter.all false
set_option maxRecDepth 100000
set_option maxHeartbeats 0
namespace BL
open PySem PySem.Spec PyProof.Rows L2
def hd0 : He.DefD := ⟨("pairs_among", none), "pairs_among", "pairs_among", defArgs (top 4), defBody (top 4), defScope (top 4), [], []⟩
def hd1 : He.DefD := ⟨("has_twice", none), "has_twice", "has_twice", defArgs (top 5), defBody (top 5), defScope (top 5), [], []⟩
def hd2 : He.DefD := ⟨("are_below", none), "are_below", "are_below", defArgs (top 6), defBody (top 6), defScope (top 6), [], []⟩
def hd3 : He.DefD := ⟨("clean_holders", none), "clean_holders", "clean_holders", defArgs (top 7), defBody (top 7), defScope (top 7), [], []⟩
def hd4 : He.DefD := ⟨("Pool", some "__init__"), "__init__", "Pool.__init__", defArgs (inClass (top 9) 0), defBody (inClass (top 9) 0), defScope (inClass (top 9) 0), [], []⟩
def hd5 : He.DefD := ⟨("pair_room", none), "pair_room", "pair_room", defArgs (top 10), defBody (top 10), defScope (top 10), [], []⟩
def hd6 : He.DefD := ⟨("held_pairs", none), "held_pairs", "held_pairs", defArgs (top 11), defBody (top 11), defScope (top 11), [], []⟩
def hd7 : He.DefD := ⟨("pieces_on", none), "pieces_on", "pieces_on", defArgs (top 13), defBody (top 13), defScope (top 13), [], []⟩
def hd8 : He.DefD := ⟨("forest", none), "forest", "forest", defArgs (top 14), defBody (top 14), defScope (top 14), [], []⟩
def hd9 : He.DefD := ⟨("free_pair", none), "free_pair", "free_pair", defArgs (top 15), defBody (top 15), defScope (top 15), [], []⟩
def hd10 : He.DefD := ⟨("walk_back", none), "walk_back", "walk_back", defArgs (top 16), defBody (top 16), defScope (top 16), [], []⟩
def hd11 : He.DefD := ⟨("find_walk", none), "find_walk", "find_walk", defArgs (top 17), defBody (top 17), defScope (top 17), [], [("pieces", .non)]⟩
def hd12 : He.DefD := ⟨("take_walk", none), "take_walk", "take_walk", defArgs (top 18), defBody (top 18), defScope (top 18), [], []⟩
def hd13 : He.DefD := ⟨("by_worth", none), "by_worth", "by_worth", defArgs (top 20), defBody (top 20), defScope (top 20), [], []⟩
def hd14 : He.DefD := ⟨("best_lot", none), "best_lot", "best_lot", defArgs (top 21), defBody (top 21), defScope (top 21), [], []⟩
def hd15 : He.DefD := ⟨("_law_cell", none), "_law_cell", "_law_cell", defArgs (top 23), defBody (top 23), defScope (top 23), [], []⟩
def hd16 : He.DefD := ⟨("_law_draws", none), "_law_draws", "_law_draws", defArgs (top 24), defBody (top 24), defScope (top 24), [], []⟩
def hd17 : He.DefD := ⟨("_law_bits", none), "_law_bits", "_law_bits", defArgs (top 25), defBody (top 25), defScope (top 25), [], []⟩
def hd18 : He.DefD := ⟨("_law_pairs", none), "_law_pairs", "_law_pairs", defArgs (top 26), defBody (top 26), defScope (top 26), [], []⟩
def hd19 : He.DefD := ⟨("_law_pool", none), "_law_pool", "_law_pool", defArgs (top 27), defBody (top 27), defScope (top 27), [], []⟩
def hd20 : He.DefD := ⟨("_law_lots", none), "_law_lots", "_law_lots", defArgs (top 28), defBody (top 28), defScope (top 28), [], []⟩
def hd21 : He.DefD := ⟨("_law_places", none), "_law_places", "_law_places", defArgs (top 29), defBody (top 29), defScope (top 29), [], []⟩
def hd22 : He.DefD := ⟨("_law_is_integer", none), "_law_is_integer", "_law_is_integer", defArgs (top 30), defBody (top 30), defScope (top 30), [], []⟩
def hd23 : He.DefD := ⟨("_law_apart", none), "_law_apart", "_law_apart", defArgs (top 31), defBody (top 31), defScope (top 31), [], []⟩
def hd24 : He.DefD := ⟨("_law_worths", none), "_law_worths", "_law_worths", defArgs (top 32), defBody (top 32), defScope (top 32), [], []⟩
def hd25 : He.DefD := ⟨("_law_order", none), "_law_order", "_law_order", defArgs (top 33), defBody (top 33), defScope (top 33), [], []⟩
def hd26 : He.DefD := ⟨("_law_dealable", none), "_law_dealable", "_law_dealable", defArgs (top 34), defBody (top 34), defScope (top 34), [], []⟩
def hd27 : He.DefD := ⟨("_law_collected", none), "_law_collected", "_law_collected", defArgs (top 35), defBody (top 35), defScope (top 35), [], []⟩
def hd28 : He.DefD := ⟨("_law_collected_apart", none), "_law_collected_apart", "_law_collected_apart", defArgs (top 36), defBody (top 36), defScope (top 36), [], []⟩
def hd29 : He.DefD := ⟨("_law_is_best", none), "_law_is_best", "_law_is_best", defArgs (top 37), defBody (top 37), defScope (top 37), [], []⟩
def hd30 : He.DefD := ⟨("_law_joined", none), "_law_joined", "_law_joined", defArgs (top 38), defBody (top 38), defScope (top 38), [], []⟩
def hd31 : He.DefD := ⟨("_law_collected_in_groups", none), "_law_collected_in_groups", "_law_collected_in_groups", defArgs (top 39), defBody (top 39), defScope (top 39), [], []⟩
def hd32 : He.DefD := ⟨("_law_is_right", none), "_law_is_right", "_law_is_right", defArgs (top 40), defBody (top 40), defScope (top 40), [], []⟩
def hd33 : He.DefD := ⟨("law", none), "law", "law", defArgs (top 41), defBody (top 41), defScope (top 41), [], []⟩
def fn : List He.DefD := [hd0, hd1, hd2, hd3, hd4, hd5, hd6, hd7, hd8, hd9, hd10, hd11, hd12, hd13, hd14, hd15, hd16, hd17, hd18, hd19, hd20, hd21, hd22, hd23, hd24, hd25, hd26, hd27, hd28, hd29, hd30, hd31, hd32, hd33]
def fa : List He.Fa := [.glo "PoolError", .glo "InvalidPool", .glo "pairs_among", .glo "has_twice", .glo "are_below", .glo "clean_holders", .glo "Pool", .glo "pair_room", .glo "held_pairs", .glo "pieces_on", .glo "forest", .glo "free_pair", .glo "walk_back", .glo "find_walk", .glo "take_walk", .glo "by_worth", .glo "best_lot", .glo "_law_cell", .glo "_law_draws", .glo "_law_bits", .glo "_law_pairs", .glo "_law_pool", .glo "_law_lots", .glo "_law_places", .glo "_law_is_integer", .glo "_law_apart", .glo "_law_worths", .glo "_law_order", .glo "_law_dealable", .glo "_law_collected", .glo "_law_collected_apart", .glo "_law_is_best", .glo "_law_joined", .glo "_law_collected_in_groups", .glo "_law_is_right", .glo "law", .free "len", .free "set", .free "sorted", .free "tuple", .free "list", .free "min", .free "max", .free "range", .free "enumerate", .free "sum", .free "int", .free "bool", .free "abs", .free "isinstance", .free "reversed", .cls "Pool", .noat "Pool" "caps", .noat "Pool" "holders", .noat "Pool" "seats", .noat "Pool" "pieces", .mkr "Pool"]
abbrev R : PySem.W.OpenRow := PySem.W.OpenLaw.row PySem.Challenge.rw_pairwarden_k54_whole_best_lot
abbrev hk : PySem.W.Hook := He.hookD 5 fa fn
def ob (s : PySem.W.SharedT) : He.AlD := He.obsDG 5 fa fn (HandSHeadRun.getT s)
theorem ob_eq (s : PySem.W.SharedT) : ob s = hk.obs s.abs := He.obsDG_eq (HandSHeadRun.getT_eq s)
def loose0 : List Str := ["PoolError", "InvalidPool", "pairs_among", "has_twice", "are_below", "clean_holders", "Pool", "pair_room", "held_pairs", "pieces_on"]
def loose1 : List Str := ["forest", "free_pair", "walk_back", "find_walk", "take_walk", "by_worth", "best_lot", "_law_cell", "_law_draws", "_law_bits"]
def loose2 : List Str := ["_law_pairs", "_law_pool", "_law_lots", "_law_places", "_law_is_integer", "_law_apart", "_law_worths", "_law_order", "_law_dealable", "_law_collected"]
def loose3 : List Str := ["_law_collected_apart", "_law_is_best", "_law_joined", "_law_collected_in_groups", "_law_is_right", "__name__"]
def loose : List Str := loose0 ++ loose1 ++ loose2 ++ loose3
theorem run (w : World) : HandSHeadRun.RunEq R (PySem.W.view R.prog [41]) hk ob 4000 loose w := by
  intro os
  kernel_rfl
end BL
set_option Elab.async false
set_option linter.all false
set_option maxRecDepth 100000
set_option maxHeartbeats 0
namespace BL
open PySem PySem.Spec PyProof.Rows L2
theorem facts {P : Program} {w : World} {K : PySem.W.Frag} {h : Heap} {mg : Str → Option Value} {f : Addr} (X : K.In h) (G : h.Ns mainGlobals mg) (hfa : mg ("law" : Str) = some (.ref f)) (c : He.SaysD fa fn K) :
    ∃ fd : FuncData, (∀ (s : Shared) (v : Value), BindsTo s fd ⟨[v], []⟩ [("_law_script", v)]) ∧ ∀ base : Heap, K.In base → base.Ns mainGlobals mg → FnOk P w K mg base CX0 7 f fd ["_law_script"] (spLaw K) := by
  obtain ⟨d0, F0⟩ := c.def_ 0 (d := hd0) rfl
  have F0 : FnP K "pairs_among" s_pairs_among (He.ga K "pairs_among") d0 := F0
  obtain ⟨d1, F1⟩ := c.def_ 1 (d := hd1) rfl
  have F1 : FnP K "has_twice" s_has_twice (He.ga K "has_twice") d1 := F1
  obtain ⟨d2, F2⟩ := c.def_ 2 (d := hd2) rfl
  have F2 : FnP K "are_below" s_are_below (He.ga K "are_below") d2 := F2
  obtain ⟨d3, F3⟩ := c.def_ 3 (d := hd3) rfl
  have F3 : FnP K "clean_holders" s_clean_holders (He.ga K "clean_holders") d3 := F3
  obtain ⟨d4, F4⟩ := c.def_ 4 (d := hd4) rfl
  have F4 : FunD K "__init__" "Pool.__init__" (defArgs s_pool) (defBody s_pool) (defScope s_pool) [] [] (He.ma K (He.ga K "Pool") "__init__") d4 := F4
  obtain ⟨d5, F5⟩ := c.def_ 5 (d := hd5) rfl
  have F5 : FnP K "pair_room" s_pair_room (He.ga K "pair_room") d5 := F5
  obtain ⟨d6, F6⟩ := c.def_ 6 (d := hd6) rfl
  have F6 : FnP K "held_pairs" s_held_pairs (He.ga K "held_pairs") d6 := F6
  obtain ⟨d7, F7⟩ := c.def_ 7 (d := hd7) rfl
  have F7 : FnP K "pieces_on" s_pieces_on (He.ga K "pieces_on") d7 := F7
  obtain ⟨d8, F8⟩ := c.def_ 8 (d := hd8) rfl
  have F8 : FnP K "forest" s_forest (He.ga K "forest") d8 := F8
  obtain ⟨d9, F9⟩ := c.def_ 9 (d := hd9) rfl
  have F9 : FnP K "free_pair" s_free_pair (He.ga K "free_pair") d9 := F9
  obtain ⟨d10, F10⟩ := c.def_ 10 (d := hd10) rfl
  have F10 : FnP K "walk_back" s_walk_back (He.ga K "walk_back") d10 := F10
  obtain ⟨d11, F11⟩ := c.def_ 11 (d := hd11) rfl
  have F11 : FunD K "find_walk" "find_walk" (defArgs s_find_walk) (defBody s_find_walk) (defScope s_find_walk) [] [("pieces", .non)] (He.ga K "find_walk") d11 := F11
  obtain ⟨d12, F12⟩ := c.def_ 12 (d := hd12) rfl
  have F12 : FnP K "take_walk" s_take_walk (He.ga K "take_walk") d12 := F12
  obtain ⟨d13, F13⟩ := c.def_ 13 (d := hd13) rfl
  have F13 : FnP K "by_worth" s_by_worth (He.ga K "by_worth") d13 := F13
  obtain ⟨d14, F14⟩ := c.def_ 14 (d := hd14) rfl
  have F14 : FnP K "best_lot" s_best_lot (He.ga K "best_lot") d14 := F14
  obtain ⟨d15, F15⟩ := c.def_ 15 (d := hd15) rfl
  have F15 : FnP K "_law_cell" s_l_cell (He.ga K "_law_cell") d15 := F15
  obtain ⟨d16, F16⟩ := c.def_ 16 (d := hd16) rfl
  have F16 : FnP K "_law_draws" s_l_draws (He.ga K "_law_draws") d16 := F16
  obtain ⟨d17, F17⟩ := c.def_ 17 (d := hd17) rfl
  have F17 : FnP K "_law_bits" s_l_bits (He.ga K "_law_bits") d17 := F17
  obtain ⟨d18, F18⟩ := c.def_ 18 (d := hd18) rfl
  have F18 : FnP K "_law_pairs" s_l_pairs (He.ga K "_law_pairs") d18 := F18
  obtain ⟨d19, F19⟩ := c.def_ 19 (d := hd19) rfl
  have F19 : FnP K "_law_pool" s_l_pool (He.ga K "_law_pool") d19 := F19
  obtain ⟨d20, F20⟩ := c.def_ 20 (d := hd20) rfl
  have F20 : FnP K "_law_lots" s_l_lots (He.ga K "_law_lots") d20 := F20
  obtain ⟨d21, F21⟩ := c.def_ 21 (d := hd21) rfl
  have F21 : FnP K "_law_places" s_l_places (He.ga K "_law_places") d21 := F21
  obtain ⟨d22, F22⟩ := c.def_ 22 (d := hd22) rfl
  have F22 : FnP K "_law_is_integer" s_l_is_integer (He.ga K "_law_is_integer") d22 := F22
  obtain ⟨d23, F23⟩ := c.def_ 23 (d := hd23) rfl
  have F23 : FnP K "_law_apart" s_l_apart (He.ga K "_law_apart") d23 := F23
  obtain ⟨d24, F24⟩ := c.def_ 24 (d := hd24) rfl
  have F24 : FnP K "_law_worths" s_l_worths (He.ga K "_law_worths") d24 := F24
  obtain ⟨d25, F25⟩ := c.def_ 25 (d := hd25) rfl
  have F25 : FnP K "_law_order" s_l_order (He.ga K "_law_order") d25 := F25
  obtain ⟨d26, F26⟩ := c.def_ 26 (d := hd26) rfl
  have F26 : FnP K "_law_dealable" s_l_dealable (He.ga K "_law_dealable") d26 := F26
  obtain ⟨d27, F27⟩ := c.def_ 27 (d := hd27) rfl
  have F27 : FnP K "_law_collected" s_l_collected (He.ga K "_law_collected") d27 := F27
  obtain ⟨d28, F28⟩ := c.def_ 28 (d := hd28) rfl
  have F28 : FnP K "_law_collected_apart" s_l_collected_apart (He.ga K "_law_collected_apart") d28 := F28
  obtain ⟨d29, F29⟩ := c.def_ 29 (d := hd29) rfl
  have F29 : FnP K "_law_is_best" s_l_is_best (He.ga K "_law_is_best") d29 := F29
  obtain ⟨d30, F30⟩ := c.def_ 30 (d := hd30) rfl
  have F30 : FnP K "_law_joined" s_l_joined (He.ga K "_law_joined") d30 := F30
  obtain ⟨d31, F31⟩ := c.def_ 31 (d := hd31) rfl
  have F31 : FnP K "_law_collected_in_groups" s_l_collected_in_groups (He.ga K "_law_collected_in_groups") d31 := F31
  obtain ⟨d32, F32⟩ := c.def_ 32 (d := hd32) rfl
  have F32 : FnP K "_law_is_right" s_l_is_right (He.ga K "_law_is_right") d32 := F32
  obtain ⟨d33, F33⟩ := c.def_ 33 (d := hd33) rfl
  have F33 : FnP K "law" s_law (He.ga K "law") d33 := F33
  have e := hfa.symm.trans (He.glo_ok X G (c.fact 35 (f := .glo "law") rfl))
  cases e
  have b := FunD.bindsA (ps := ["_law_script"]) F33 fun _ _ _ _ _ _ us hl => match us, hl with | [_], _ => rfl
  refine ⟨d33, fun s v => b s [v] rfl, fun base _ _ => ?_⟩
  have B : Bt mg := ⟨He.free_ok X G (c.fact 36 (f := .free "len") rfl), He.free_ok X G (c.fact 37 (f := .free "set") rfl), He.free_ok X G (c.fact 38 (f := .free "sorted") rfl), He.free_ok X G (c.fact 39 (f := .free "tuple") rfl), He.free_ok X G (c.fact 40 (f := .free "list") rfl), He.free_ok X G (c.fact 41 (f := .free "min") rfl), He.free_ok X G (c.fact 42 (f := .free "max") rfl), He.free_ok X G (c.fact 43 (f := .free "range") rfl), He.free_ok X G (c.fact 44 (f := .free "enumerate") rfl), He.free_ok X G (c.fact 45 (f := .free "sum") rfl), He.free_ok X G (c.fact 46 (f := .free "int") rfl), He.free_ok X G (c.fact 47 (f := .free "bool") rfl), He.free_ok X G (c.fact 48 (f := .free "abs") rfl), He.free_ok X G (c.fact 49 (f := .free "isinstance") rfl), He.free_ok X G (c.fact 50 (f := .free "reversed") rfl)⟩
  have T : Cp K (He.ga K "Pool") := ⟨He.cls_ok (c.fact 51 (f := .cls "Pool") rfl), He.noat_ok (c.fact 52 (f := .noat "Pool" "caps") rfl), He.noat_ok (c.fact 53 (f := .noat "Pool" "holders") rfl), He.noat_ok (c.fact 54 (f := .noat "Pool" "seats") rfl), He.noat_ok (c.fact 55 (f := .noat "Pool" "pieces") rfl)⟩
  have M : Mk K (He.ga K "Pool") (He.ma K (He.ga K "Pool") "__init__") := He.mkr_ok (c.fact 56 (f := .mkr "Pool") rfl)
  have h_pairs_among : Has P w K mg base 1 "pairs_among" ["holders"] (spPairsAmong K) := ⟨_, d0, ok_pairs_among B F0 , He.glo_ok X G (c.fact 2 (f := .glo "pairs_among") rfl), F0.kp, F0.bindsN fun _ _ _ _ _ _ us hl => match us, hl with | [_], _ => rfl⟩
  have h_has_twice : Has P w K mg base 1 "has_twice" ["numbers"] (spHasTwice K) := ⟨_, d1, ok_has_twice B F1 , He.glo_ok X G (c.fact 3 (f := .glo "has_twice") rfl), F1.kp, F1.bindsN fun _ _ _ _ _ _ us hl => match us, hl with | [_], _ => rfl⟩
  have h_are_below : Has P w K mg base 1 "are_below" ["numbers", "limit"] (spAreBelow K) := ⟨_, d2, ok_are_below B F2 , He.glo_ok X G (c.fact 4 (f := .glo "are_below") rfl), F2.kp, F2.bindsN fun _ _ _ _ _ _ us hl => match us, hl with | [_, _], _ => rfl⟩
  have h_clean_holders : Has P w K mg base 2 "clean_holders" ["holders", "seats"] (spClean K) := ⟨_, d3, ok_clean_holders B F3 h_has_twice h_are_below, He.glo_ok X G (c.fact 5 (f := .glo "clean_holders") rfl), F3.kp, F3.bindsN fun _ _ _ _ _ _ us hl => match us, hl with | [_, _], _ => rfl⟩
  have GP := ok_init (P := P) (w := w) (base := base) B T F4 h_clean_holders
  have bP : Binds K d4 ["self", "caps", "holders"] [] := F4.bindsN fun _ _ _ _ _ _ us hl => match us, hl with | [_, _, _], _ => rfl
  have h_pair_room : Has P w K mg base 1 "pair_room" ["pool", "pair"] (spPairRoom (He.ga K "Pool")) := ⟨_, d5, ok_pair_room B T F5 , He.glo_ok X G (c.fact 7 (f := .glo "pair_room") rfl), F5.kp, F5.bindsN fun _ _ _ _ _ _ us hl => match us, hl with | [_, _], _ => rfl⟩
  have h_held_pairs : Has P w K mg base 2 "held_pairs" ["pool", "piece"] (spHeldPairs (He.ga K "Pool")) := ⟨_, d6, ok_held_pairs B T F6 h_pairs_among h_pair_room, He.glo_ok X G (c.fact 8 (f := .glo "held_pairs") rfl), F6.kp, F6.bindsN fun _ _ _ _ _ _ us hl => match us, hl with | [_, _], _ => rfl⟩
  have h_pieces_on : Has P w K mg base 1 "pieces_on" ["dealing"] (spPiecesOn K) := ⟨_, d7, ok_pieces_on B F7 , He.glo_ok X G (c.fact 9 (f := .glo "pieces_on") rfl), F7.kp, F7.bindsN fun _ _ _ _ _ _ us hl => match us, hl with | [_], _ => rfl⟩
  have h_forest : Has P w K mg base 3 "forest" ["pool", "dealt", "roots"] (spForest K (He.ga K "Pool")) := ⟨_, d8, ok_forest B F8 h_held_pairs, He.glo_ok X G (c.fact 10 (f := .glo "forest") rfl), F8.kp, F8.bindsN fun _ _ _ _ _ _ us hl => match us, hl with | [_, _, _], _ => rfl⟩
  have h_free_pair : Has P w K mg base 3 "free_pair" ["pool", "dealt", "piece"] (spFreePair (He.ga K "Pool")) := ⟨_, d9, ok_free_pair B F9 h_held_pairs h_pair_room, He.glo_ok X G (c.fact 11 (f := .glo "free_pair") rfl), F9.kp, F9.bindsN fun _ _ _ _ _ _ us hl => match us, hl with | [_, _, _], _ => rfl⟩
  have h_walk_back : Has P w K mg base 1 "walk_back" ["dealing", "before", "piece", "pair"] (spWalkBack K) := ⟨_, d10, ok_walk_back B F10 , He.glo_ok X G (c.fact 12 (f := .glo "walk_back") rfl), F10.kp, F10.bindsN fun _ _ _ _ _ _ us hl => match us, hl with | [_, _, _, _], _ => rfl⟩
  obtain ⟨mv, kb⟩ := FunD.kbinds0 (ps := ["pool", "dealing", "pieces"]) F11 2 ["pieces"] [] (fun vs _ zs => vs ++ zs) (by simp) (fun q hq => by simp at hq) (fun r _ r2 => r.append r2)
    fun D doc pm an cdv ct us mv ws l1 _ l3 => match us, ws, l1, l3 with | [_, _], [_], _, _ => rfl
  have h_find_walk : HasW P w K mg base 4 (spFindWalk K (He.ga K "Pool")) := ⟨_, d11, _, ok_find_walk B F11 h_pieces_on h_forest h_free_pair h_walk_back, He.glo_ok X G (c.fact 13 (f := .glo "find_walk") rfl), F11.kp, kb⟩
  have h_take_walk : Has P w K mg base 1 "take_walk" ["dealing", "walk"] (spTakeWalk K) := ⟨_, d12, ok_take_walk B F12 , He.glo_ok X G (c.fact 14 (f := .glo "take_walk") rfl), F12.kp, F12.bindsN fun _ _ _ _ _ _ us hl => match us, hl with | [_, _], _ => rfl⟩
  have h_by_worth : Has P w K mg base 1 "by_worth" ["worths"] (spByWorth K) := ⟨_, d13, ok_by_worth B F13 , He.glo_ok X G (c.fact 15 (f := .glo "by_worth") rfl), F13.kp, F13.bindsN fun _ _ _ _ _ _ us hl => match us, hl with | [_], _ => rfl⟩
  have h_best_lot : Has P w K mg base 5 "best_lot" ["pool", "worths"] (spBestLot K (He.ga K "Pool")) := ⟨_, d14, ok_best_lot B T F14 h_by_worth h_find_walk h_take_walk, He.glo_ok X G (c.fact 16 (f := .glo "best_lot") rfl), F14.kp, F14.bindsN fun _ _ _ _ _ _ us hl => match us, hl with | [_, _], _ => rfl⟩
  have h_l_cell : Has P w K mg base 1 "_law_cell" ["_law_script", "_law_k"] (spCell K) := ⟨_, d15, ok_l_cell B F15 , He.glo_ok X G (c.fact 17 (f := .glo "_law_cell") rfl), F15.kp, F15.bindsN fun _ _ _ _ _ _ us hl => match us, hl with | [_, _], _ => rfl⟩
  have h_l_draws : Has P w K mg base 1 "_law_draws" ["_law_cell_here", "_law_sizes"] (spDraws K) := ⟨_, d16, ok_l_draws B F16 , He.glo_ok X G (c.fact 18 (f := .glo "_law_draws") rfl), F16.kp, F16.bindsN fun _ _ _ _ _ _ us hl => match us, hl with | [_, _], _ => rfl⟩
  have h_l_bits : Has P w K mg base 1 "_law_bits" ["_law_mask", "_law_count"] spBits := ⟨_, d17, ok_l_bits B F17 , He.glo_ok X G (c.fact 19 (f := .glo "_law_bits") rfl), F17.kp, F17.bindsN fun _ _ _ _ _ _ us hl => match us, hl with | [_, _], _ => rfl⟩
  have h_l_pairs : Has P w K mg base 1 "_law_pairs" ["_law_seats"] spPairs := ⟨_, d18, ok_l_pairs B F18 , He.glo_ok X G (c.fact 20 (f := .glo "_law_pairs") rfl), F18.kp, F18.bindsN fun _ _ _ _ _ _ us hl => match us, hl with | [_], _ => rfl⟩
  have h_l_pool : Has P w K mg base 2 "_law_pool" ["_law_cell_here", "_law_most"] spPool := ⟨_, d19, ok_l_pool B F19 h_l_draws h_l_pairs h_l_bits, He.glo_ok X G (c.fact 21 (f := .glo "_law_pool") rfl), F19.kp, F19.bindsN fun _ _ _ _ _ _ us hl => match us, hl with | [_, _], _ => rfl⟩
  have h_l_lots : Has P w K mg base 1 "_law_lots" ["_law_count"] spLots := ⟨_, d20, ok_l_lots B F20 , He.glo_ok X G (c.fact 22 (f := .glo "_law_lots") rfl), F20.kp, F20.bindsN fun _ _ _ _ _ _ us hl => match us, hl with | [_], _ => rfl⟩
  have h_l_places : Has P w K mg base 2 "_law_places" ["_law_caps", "_law_holders", "_law_lot"] (spPlaces K) := ⟨_, d21, ok_l_places B F21 h_l_pairs, He.glo_ok X G (c.fact 23 (f := .glo "_law_places") rfl), F21.kp, F21.bindsN fun _ _ _ _ _ _ us hl => match us, hl with | [_, _, _], _ => rfl⟩
  have h_l_is_integer : Has P w K mg base 1 "_law_is_integer" ["_law_actual"] spIsInt := ⟨_, d22, ok_l_is_integer B F22 , He.glo_ok X G (c.fact 24 (f := .glo "_law_is_integer") rfl), F22.kp, F22.bindsN fun _ _ _ _ _ _ us hl => match us, hl with | [_], _ => rfl⟩
  have h_l_apart : Has P w K mg base 2 "_law_apart" ["_law_cell_here"] spApart := ⟨_, d23, ok_l_apart B F23 h_l_draws h_l_pairs, He.glo_ok X G (c.fact 25 (f := .glo "_law_apart") rfl), F23.kp, F23.bindsN fun _ _ _ _ _ _ us hl => match us, hl with | [_], _ => rfl⟩
  have h_l_worths : Has P w K mg base 2 "_law_worths" ["_law_script", "_law_k", "_law_count"] (spWorths K) := ⟨_, d24, ok_l_worths B F24 h_l_cell h_l_draws, He.glo_ok X G (c.fact 26 (f := .glo "_law_worths") rfl), F24.kp, F24.bindsN fun _ _ _ _ _ _ us hl => match us, hl with | [_, _, _], _ => rfl⟩
  have h_l_order : Has P w K mg base 1 "_law_order" ["_law_worths_here"] (spOrder K) := ⟨_, d25, ok_l_order B F25 , He.glo_ok X G (c.fact 27 (f := .glo "_law_order") rfl), F25.kp, F25.bindsN fun _ _ _ _ _ _ us hl => match us, hl with | [_], _ => rfl⟩
  have h_l_dealable : Has P w K mg base 3 "_law_dealable" ["_law_caps", "_law_holders"] (spDealable K) := ⟨_, d26, ok_l_dealable B F26 h_l_lots h_l_places, He.glo_ok X G (c.fact 28 (f := .glo "_law_dealable") rfl), F26.kp, F26.bindsN fun _ _ _ _ _ _ us hl => match us, hl with | [_, _], _ => rfl⟩
  have h_l_collected : Has P w K mg base 2 "_law_collected" ["_law_worths_here", "_law_dealable_here"] (spCollected K) := ⟨_, d27, ok_l_collected B F27 h_l_order h_l_bits, He.glo_ok X G (c.fact 29 (f := .glo "_law_collected") rfl), F27.kp, F27.bindsN fun _ _ _ _ _ _ us hl => match us, hl with | [_, _], _ => rfl⟩
  have h_l_collected_apart : Has P w K mg base 2 "_law_collected_apart" ["_law_caps", "_law_holders", "_law_worths_here"] (spCollectedApart K) := ⟨_, d28, ok_l_collected_apart B F28 h_l_order, He.glo_ok X G (c.fact 30 (f := .glo "_law_collected_apart") rfl), F28.kp, F28.bindsN fun _ _ _ _ _ _ us hl => match us, hl with | [_, _, _], _ => rfl⟩
  have h_l_is_best : Has P w K mg base 1 "_law_is_best" ["_law_worths_here", "_law_best", "_law_lot"] (spIsBest K) := ⟨_, d29, ok_l_is_best B F29 , He.glo_ok X G (c.fact 31 (f := .glo "_law_is_best") rfl), F29.kp, F29.bindsN fun _ _ _ _ _ _ us hl => match us, hl with | [_, _, _], _ => rfl⟩
  have h_l_joined : Has P w K mg base 1 "_law_joined" ["_law_first", "_law_second"] spJoined := ⟨_, d30, ok_l_joined B F30 , He.glo_ok X G (c.fact 32 (f := .glo "_law_joined") rfl), F30.kp, F30.bindsN fun _ _ _ _ _ _ us hl => match us, hl with | [_, _], _ => rfl⟩
  have h_l_collected_in_groups : Has P w K mg base 4 "_law_collected_in_groups" ["_law_groups", "_law_owners", "_law_worths_here"] (spGroups K) := ⟨_, d31, ok_l_collected_in_groups B F31 h_l_collected h_l_dealable, He.glo_ok X G (c.fact 33 (f := .glo "_law_collected_in_groups") rfl), F31.kp, F31.bindsN fun _ _ _ _ _ _ us hl => match us, hl with | [_, _, _], _ => rfl⟩
  have h_l_is_right : Has P w K mg base 6 "_law_is_right" ["_law_caps", "_law_holders", "_law_asked"] (spRight K) := ⟨_, d32, ok_l_is_right B T F32 h_best_lot h_l_is_integer M GP (He.glo_ok X G (c.fact 6 (f := .glo "Pool") rfl)) bP, He.glo_ok X G (c.fact 34 (f := .glo "_law_is_right") rfl), F32.kp, F32.bindsN fun _ _ _ _ _ _ us hl => match us, hl with | [_, _, _], _ => rfl⟩
  exact ok_law B F33 h_l_cell h_l_draws h_l_pool h_l_lots h_l_apart h_l_worths h_l_dealable h_l_collected h_l_collected_apart h_l_is_best h_l_joined h_l_collected_in_groups h_l_is_right
end BL
open PySem PySem.W PySem.Calls PyProof.Rows
theorem PySem.Challenge.cw_pairwarden_k54_whole_best_lot_holds : PySem.Challenge.rw_pairwarden_k54_whole_best_lot.Holds := by
  w_on; o_law
  refine HandSHeadRun.head_any (r := OpenLaw.row PySem.Challenge.rw_pairwarden_k54_whole_best_lot) (q := view (OpenLaw.row PySem.Challenge.rw_pairwarden_k54_whole_best_lot).prog [41]) (H := BL.hk) (ob := BL.ob) (M := 4000) (loose := BL.loose) (d := HandSHeadRun.topDef (OpenLaw.row PySem.Challenge.rw_pairwarden_k54_whole_best_lot).prog 41) (kwd := []) BL.ob_eq
    (by kernel_rfl) (fun s => by kernel_rfl) BL.run (by kernel_rfl) (by kernel_rfl) (by kernel_rfl) (by rfl) (by first | assumption | decide +kernel) (by decide +kernel) ⟨rfl, rfl, rfl, rfl, rfl, by decide +kernel⟩ ?hw ?hc
  case hw => w_witness2
  case hc =>
    refine L2.walk_ofE (l := PySem.Challenge.rw_pairwarden_k54_whole_best_lot) (n := 63) (k := 7) (x := "_law_script") (CX := L2.CX0) rfl (by decide) (by kernel_rfl) ⟨rfl, by decide, by decide⟩ ?F (fun _ _ _ _ z => z)
    intro w mg fa h Y G hmg0
    obtain ⟨K, KX, c⟩ := Y
    have hmg : mg ("law" : PySem.Str) = some (.ref fa) := by
      have e : (HandSHeadRun.topDef (OpenLaw.row PySem.Challenge.rw_pairwarden_k54_whole_best_lot).prog 41).name = ("law" : PySem.Str) := by kernel_rfl
      rw [← e]
      exact hmg0
    obtain ⟨fd, hb, hF⟩ := BL.facts (P := (PySem.Challenge.rw_pairwarden_k54_whole_best_lot).prog) (w := w) KX G hmg c
    exact ⟨K, fd, BL.spLaw K, KX, hb, fun H a ns hl _ hS => ⟨a, ns, rfl, hS, fun _ => rfl⟩, hF⟩
