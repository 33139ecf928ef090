import PyProof.Rows.All
import Wide.All
import OpenK.AllK
import Wide.FinOn
import HandS.ForMost
import HandS.RevTup
import HandS.Rev
import HandS.Zip
import KE.KDictZip
import KE.KDictList
import HandS.Evl
import HandS.Deep
import HandS.WideBits
import HandS.Wide
import HandS.IsInst
import HandS.TupAny
import HandS.Flt
import HandS.StrMore
import HandS.Style
import HandS.More
import HandS.EndBits
import KE.IntBitsLaws
import PySem.Challenge.RW_halvewright_k33_read_with_more
set_option Elab.async false
set_option linter.all false
set_option maxRecDepth 100000
set_option maxHeartbeats 2000000
/-! Rf, part X: rules of the hand layer that it lacks: list(reversed(list)), zip to one name. -/
namespace RX
open PySem PySem.Spec PyProof.Rows L2 RT
section
variable {prog : Program} {w : World} {A : Around} {E : Value → Shared → Prop} {s : Shared}
theorem extend_rev {it l : Addr} {items : Array Value} {R : Result → Shared → Prop} (hh : A.handled = none) (hit : s.heap.IsRevIter it l ((items.size : Int) - 1)) (hl : s.heap.IsList l items) (hne : l ≠ it) (hn : items.size ≤ sizeLine)
    (S : Addr) (hSi : S ≠ it) (hSl : S ≠ l) (res : Value) (c₀ : Nat) (hS : s.heap.get? S = some { cls := .type "list", data := .seq #[] c₀ })
    (hR : ∀ h' tk acc' c', (∀ b o, b ≠ S → b ≠ it → s.heap.get? b = some o → h'.get? b = some o) → h'.get? S = some { cls := .type "list", dict := none, data := .seq acc' c', slots := #[] } → ItemsOf (fun i v => items[items.size - 1 - i]? = some v) acc' items.size → R (.ok (.ret res)) { s with heap := h', toks := tk }) :
    wpAny (model prog w) A.in1 (Builtin.List.listExtendWith (.ref S) (.ref it) res)
      (fun fin s' => match fin with | .done f => R (.ok f) s' | .again c' => c'.quiet = true ∧ codeAny (model prog w) A c' R s') (fun e s' => R (.error e) s') s := by
  have W := (Walks.listRev (prog := prog) (w := w) (A := A.in1) hh it l hne items).toS
  have hSf : S ∉ [it, l] := by simp only [List.mem_cons, List.not_mem_nil, or_false, not_or]; exact ⟨hSi, hSl⟩
  have hT : s.TypeIs (.ref it) "list_reverseiterator" := hit.typeIs
  have h1 : Builtin.List.listSameRef (.ref S) (.ref it) = false := by simp [Builtin.List.listSameRef, hSi]
  unfold Builtin.List.listExtendWith
  refine wpAny_bind (wpAny_typeOf hT ?_)
  rw [if_neg (by rw [h1]; decide)]
  refine wpAny_bind (wpAny_pyIter_revIter hit ?_)
  refine wpAny_bind (wpAny_holding ?_)
  unfold Builtin.List.listLengthHint
  refine wpAny_bind (wpAny_specialOf hT nolen_lri ?_)
  show wpAny _ A.in1 (specialOf (Value.ref it) (Str.ofString "__length_hint__") >>= _) _ _ _
  refine wpAny_bind (wpAny_specialOf hT hint_lri ?_)
  generalize hid : ("list_reverseiterator.__length_hint__" : String) = id0
  wp_delta
  rw [show splitId id0 = some ("list_reverseiterator", "__length_hint__") from by subst hid; decide +kernel]
  subst hid
  refine wpAny_bind (wpAny_isInstance (b := true) hT (by rw [isSubtype_type]; kernel_rfl) ?_)
  refine wpAny_pure ?_
  rw [if_neg (by decide)]
  have e0 : ((items.size : Nat) : Int) - 1 - ((0 : Nat) : Int) = (items.size : Int) - 1 := by omega
  refine wpAny_pure ⟨plainId_quiet F.plain_extend_loop _, codeAny_extend_loopS W hn _ hSf _ items.size 0 _ _ _ rfl (Nat.zero_le _) ⟨Nat.zero_le _, by rw [e0]; exact hit, hl⟩ hS (ItemsOf.nil _) fun s' acc' c' hm hS' hacc => ?_⟩
  rw [Moved.eq_with hm]
  refine hR s'.heap s'.toks acc' c' (fun b o hb hb2 e => hm.heap b o (fun hmem => ?_) e) hS' hacc
  rcases List.mem_cons.mp hmem with e' | hmem
  · exact hb e'
  · exact hb2 (List.mem_singleton.mp hmem)
theorem init_rev {it l : Addr} {items : Array Value} {R : Result → Shared → Prop} (hh : A.handled = none) (hit : s.heap.IsRevIter it l ((items.size : Int) - 1)) (hl : s.heap.IsList l items) (hne : l ≠ it) (hn : items.size ≤ sizeLine)
    (S : Addr) (hSi : S ≠ it) (hSl : S ≠ l) (hS : s.heap.get? S = some { cls := .type "list", data := .seq #[] })
    (hR : ∀ h' tk acc' c', (∀ b o, b ≠ S → b ≠ it → s.heap.get? b = some o → h'.get? b = some o) → h'.get? S = some { cls := .type "list", dict := none, data := .seq acc' c', slots := #[] } → ItemsOf (fun i v => items[items.size - 1 - i]? = some v) acc' items.size → R (.ok (.ret .none)) { s with heap := h', toks := tk }) :
    wpAny (model prog w) A.in1 (Builtin.«list.__init__» ⟨[.ref S, .ref it], []⟩)
      (fun fin s' => match fin with | .done f => R (.ok f) s' | .again c' => c'.quiet = true ∧ codeAny (model prog w) A c' R s') (fun e s' => R (.error e) s') s := by
  show wpAny _ _ (do let old ← Builtin.List.listItems (.ref S); Builtin.List.listUpdate (.ref S) (fun _ => #[]); letGo old.toList.reverse; Builtin.List.listExtendWith (.ref S) (.ref it) .none) _ _ s
  refine wpAny_bind ?_
  unfold Builtin.List.listItems
  refine wpAny_bind (wpAny_seqItems hS rfl (wpAny_pure ?_))
  show wpAny _ _ (updateSeq S (fun _ => #[]) >>= fun _ => letGo (#[] : Array Value).toList.reverse >>= fun _ => Builtin.List.listExtendWith (.ref S) (.ref it) .none) _ _ s
  refine wpAny_bind (wpAny_updateSeq hS rfl ?_)
  have hS₂ := Heap.get?_update_self (Obj.mapSeq (fun _ => (#[] : Array Value))) hS rfl
  have oth : ∀ b o, b ≠ S → s.heap.get? b = some o → (s.heap.update S (Obj.mapSeq (fun _ => (#[] : Array Value)))).get? b = some o :=
    fun b o hb e => (Heap.get?_update_other _ _ (Ne.symm hb)).trans e
  refine wpAny_bind (wpAny_letGo ?_)
  have hit2 : (s.heap.update S (Obj.mapSeq (fun _ => (#[] : Array Value)))).IsRevIter it l ((items.size : Int) - 1) := hit.at fun o e => oth it o hSi.symm e
  have hl2 : (s.heap.update S (Obj.mapSeq (fun _ => (#[] : Array Value)))).IsList l items := by
    obtain ⟨o, ho, r⟩ := hl
    exact ⟨o, oth l o hSl.symm ho, r⟩
  exact extend_rev hh hit2 hl2 hne hn S hSi hSl .none _ hS₂ fun h' tk acc' c' hk hS' hacc => hR h' tk acc' c' (fun b o hb hb2 e => hk b o hb hb2 (oth b o hb e)) hS' hacc
theorem call_list_rev {it l : Addr} {items : Array Value} {Q : Value → Shared → Prop} (hh : A.handled = none) (hit : s.heap.IsRevIter it l ((items.size : Int) - 1)) (hl : s.heap.IsList l items) (hne : l ≠ it) (hn : items.size ≤ sizeLine)
    (hQ : ∀ h' tk acc' c', (∀ b o, b ≠ it → s.heap.get? b = some o → h'.get? b = some o) → h'.get? s.heap.objs.size = some { cls := .type "list", dict := none, data := .seq acc' c', slots := #[] } → ItemsOf (fun i v => items[items.size - 1 - i]? = some v) acc' items.size → Q (.ref s.heap.objs.size) { s with heap := h', toks := tk }) :
    wpAny (model prog w) A (call (.type "list") [.ref it]) Q E s := by
  refine callType_codes (Q₁ := fun obj s₁ => obj = .ref s.heap.objs.size ∧ s₁ = { s with heap := s.heap.push { cls := .type "list", data := .seq #[] } }) PySem.F.called_list (PySem.F.typeCall_list_1 _) PySem.F.entry_list_init
    (code_list_new _ ⟨rfl, rfl⟩) fun obj s₁ h₁ => ?_
  obtain ⟨rfl, rfl⟩ := h₁
  have hS : (s.heap.push { cls := .type "list", data := .seq #[] }).get? s.heap.objs.size = some { cls := .type "list", data := .seq #[] } := Heap.get?_push_size _ rfl
  obtain ⟨oi, hoi, _⟩ := id hit
  obtain ⟨ol, hol, _⟩ := id hl
  refine ⟨⟨_, hS, rfl⟩, PySem.F.args_list_init_2 _ _, init_rev (A := A.in1) hh (hit.at fun o e => Heap.get?_push_of_some _ e) (hl.push _) hne hn _ (Nat.ne_of_gt (Heap.lt_size hoi)) (Nat.ne_of_gt (Heap.lt_size hol)) hS fun h' tk acc' c' hk hS' hacc => ?_⟩
  exact ⟨rfl, hQ h' tk acc' c' (fun b o hb e => hk b o (Nat.ne_of_lt (Heap.lt_size e)) hb (Heap.get?_push_of_some _ e)) hS' hacc⟩
end
/-- list(reversed(x)), x a list -/
def tListRev (K : PySem.W.Frag) (te : TE) : TE := fun σ H Q => te σ H fun v H1 => ∃ (a : Addr) (xs : List V), v = .ref a ∧ SqL K H1 a xs ∧ ∀ q, H1 q = none → Q (.ref q) (upd H1 q (.lst xs.reverse))
section
variable {X : Cx}
theorem pe_listRev {e : Expr} {te : TE} {p p2 pos pos2 : Pos} (hc : X.calm = true) (hg : Gl X "list") (hm : X.mg "list" = none) (hg2 : Gl X "reversed") (hm2 : X.mg "reversed" = none) (he : PE X e te)
    (hs : starEach [e] X.env = (false, eval e X.env) :: starEach [] X.env := by rfl)
    (hs2 : starEach [.Call (.Name "reversed" p2) [e] [] pos2] X.env = (false, eval (.Call (.Name "reversed" p2) [e] [] pos2) X.env) :: starEach [] X.env := by rfl) :
    PE X (.Call (.Name "list" p) [.Call (.Name "reversed" p2) [e] [] pos2] [] pos) (tListRev X.K te) := by
  refine ⟨fun pins s σ H Q I h => ?_⟩
  refine Call_ (ld_blt I hg hm boot_list (PyProof.Rows.callWith_type1 (args_cons (Call_ (ld_blt I hg2 hm2 PyProof.Rows.boot_reversed (PyProof.Rows.callWith_type1 (args_cons (thn (he.run pins s σ H _ I h) fun u s1 ⟨v, H1, I1, r1, q1⟩ => args_nil ?_) hs) hs rfl))) hs2) hs2 rfl))
  obtain ⟨a, xs, ev, hq, q⟩ := q1
  subst ev
  obtain rfl : u = Value.ref a := r1
  obtain ⟨its, rv, p', hz⟩ := I1.list hq
  refine call_reversed_list p'.isList (args_nil ?_)
  have k0 : ∀ b o, s1.heap.get? b = some o → (s1.heap.push (revObj a ((its.toArray.size : Int) - 1))).get? b = some o := fun b o e => Heap.get?_push_of_some _ e
  have I2 : Inv X pins σ H1 { s1 with heap := s1.heap.push (revObj a ((its.toArray.size : Int) - 1)) } := I1.kept (t' := s1.toks) k0
  obtain ⟨f0, f1, f2, f3, f4, f5⟩ := I1.fpOk (H' := H1) (b := s1.heap.objs.size) (Nat.le_refl _) (I1.hok.fresh (Nat.le_refl _))
  have hl := p'.isList
  obtain ⟨ol, hol, _⟩ := id hl
  have hne : a ≠ s1.heap.objs.size := Nat.ne_of_lt (Heap.lt_size hol)
  have hn : its.toArray.size ≤ sizeLine := by rw [List.size_toArray, ← rv.length]; exact hz
  refine call_list_rev (s := { s1 with heap := s1.heap.push (revObj a ((its.toArray.size : Int) - 1)) }) (I1.ok.hd hc) ⟨_, Heap.get?_push_size _ rfl, rfl, rfl⟩ (hl.push _) hne hn fun h' tk acc c' hk hS hi => ?_
  have fresh2 : H1 ((s1.heap.push (revObj a ((its.toArray.size : Int) - 1))).objs.size) = none := I2.hok.fresh (Nat.le_refl _)
  refine ⟨.ref (s1.heap.push (revObj a ((its.toArray.size : Int) - 1))).objs.size, upd H1 (s1.heap.push (revObj a ((its.toArray.size : Int) - 1))).objs.size (.lst xs.reverse), ?_, rfl, q _ fresh2⟩
  have hob : ObjOk X.prog X.w (upd H1 (s1.heap.push (revObj a ((its.toArray.size : Int) - 1))).objs.size (.lst xs.reverse)) h' (s1.heap.push (revObj a ((its.toArray.size : Int) - 1))).objs.size (.lst xs.reverse) :=
    ⟨by rw [List.length_reverse]; exact hz, acc.toList, c', vals_rev rv hi, by rw [Array.toArray_toList]; exact hS⟩
  have hf : ∀ b ∈ [s1.heap.objs.size], FpOk X pins H1 b := fun b hb => by
    have e : b = s1.heap.objs.size := by simpa using hb
    subst e
    exact I1.fpOk (Nat.le_refl _) (I1.hok.fresh (Nat.le_refl _))
  exact I2.turnedNew (t' := tk) (ch := [s1.heap.objs.size]) (fun c o hb e => hk c o (by simpa using hb) e) hf (Nat.le_refl _) hob
end

/-! ### zip whose pairs go to one name: the pair that went out first may still be alive -/
abbrev Zst (h : Heap) (z TI TO : Addr) (x : Value) (f : Bool) : Prop :=
  h.get? z = some { cls := .type "zip", dict := none, data := .fields #[x, .bool f, .bool false, .ref TI, .ref TO], slots := #[] }
def ZFree (h : Heap) (x : Value) : Prop := x = .none ∨ ∃ T : Addr, x = rawInt T ∧ h.get? T = none
section
variable {prog : Program} {w : World} {A : Around} {E : Value → Shared → Prop} {s : Shared}
theorem look_dead {a : Addr} {Q : Option Obj → Shared → Prop} (ho : s.heap.get? a = none) (h : Q none s) : wpAny (model prog w) A (loadIfAlive a) Q E s := by
  have h' : Q (s.heap.get? a) s := ho ▸ h
  exact fun _ _ _ => h'
theorem own_free {z TI TO : Addr} {x : Value} {f : Bool} {Q : Bool → Shared → Prop} (hz : Zst s.heap z TI TO x f) (hx : ZFree s.heap x) (h : Q true s) : wpAny (model prog w) A (Builtin.SmallTypes.ownedTupleIsFree (.ref z)) Q E s := by
  unfold Builtin.SmallTypes.ownedTupleIsFree
  rcases hx with rfl | ⟨T, rfl, hT⟩
  · exact wpAny_bind (wpAny_field hz rfl (x := .none) rfl (wpAny_pure h))
  · refine wpAny_bind (wpAny_field hz rfl (x := rawInt T) rfl ?_)
    show wpAny _ _ (loadIfAlive ((T : Int).toNat) >>= _) _ _ _
    rw [Int.toNat_natCast]
    exact wpAny_bind (look_dead hT (wpAny_pure h))
theorem zfree_item {z TI TO p q l m : Addr} {x0 : Value} {f : Bool} {i j : Nat} {xs ys : Array Value} {x y a b : Value} {Q : Value → Shared → Prop} (D : ZipApart z TI TO p q l m) (hz : Zst s.heap z TI TO x0 f) (hf : ZFree s.heap x0)
    (hTI : IsPair s.heap TI (.ref p) (.ref q)) (hTO : IsPair s.heap TO a b) (hp : s.heap.IsListIter p l i) (hq : s.heap.IsListIter q m j) (hl : s.heap.IsList l xs) (hm : s.heap.IsList m ys) (hx : xs[i]? = some x) (hy : ys[j]? = some y)
    (hQ : ∀ h', Zst h' z TI TO (rawInt s.heap.objs.size) false → IsPair h' TO x y → h'.IsListIter p l (i + 1) → h'.IsListIter q m (j + 1) → IsPair h' s.heap.objs.size x y → h'.objs.size = s.heap.objs.size + 1 →
      (∀ c o, c ≠ z → c ≠ TO → c ≠ p → c ≠ q → s.heap.get? c = some o → h'.get? c = some o) → Q (.ref s.heap.objs.size) { s with heap := h' }) :
    wpAny (model prog w) A (Builtin.«zip.__next__» ⟨[.ref z], []⟩) (fun fin s' => ∃ v, fin = .done (.ret v) ∧ Q v s') E s := by
  show wpAny _ _ (field (.ref z) 2 >>= _) _ _ _
  refine wpAny_bind (wpAny_field hz rfl (x := .bool false) rfl ?_)
  show wpAny _ _ (field (.ref z) 3 >>= _) _ _ _
  refine wpAny_bind (wpAny_field hz rfl (x := .ref TI) rfl (wpAny_bind (wpAny_seqItems hTI rfl ?_)))
  show wpAny _ _ (Builtin.SmallTypes.ownedTupleIsFree (.ref z) >>= _) _ _ _
  refine wpAny_bind (own_free hz hf ?_)
  simp only [if_true]
  refine wpAny_bind (wpAny_rule (wpAny_bind (wpAny_field hz rfl (x := .ref TO) rfl (wpAny_bind (wpAny_setField_rec hz (by simp) fun g1 z1 s1 => ?_)))))
  replace z1 : Zst g1 z TI TO .ellipsis f := z1
  refine wpAny_bind ?_
  simp only [List.zipIdx_cons, List.zipIdx_nil, List.forIn_cons, List.forIn_nil]
  refine wpAny_bind (wpAny_bind (wpAny_onRaise ?_))
  show wpAny _ _ (Builtin.SmallTypes.nextOf (.ref p) >>= _) _ _ _
  refine wpAny_bind (wpAny_nextOf_list_item (hp.extBut s1.extBut D.i1z) (hl.extBut s1.extBut D.l1z) hx fun g2 p2 s2 => wpAny_pure ?_)
  have o2 : IsPair g2 TO a b := s2.extBut _ _ D.TOi1 (s1.extBut _ _ D.TOz hTO)
  refine wpAny_bind (wpAny_seqItems o2 rfl (wpAny_bind (wpAny_updateSeq_pair o2 fun g3 o3 s3 => ?_)))
  replace o3 : IsPair g3 TO x b := o3
  refine wpAny_bind (wpAny_letGo (wpAny_pure (wpAny_bind (wpAny_bind (wpAny_onRaise ?_)))))
  show wpAny _ _ (Builtin.SmallTypes.nextOf (.ref q) >>= _) _ _ _
  refine wpAny_bind (wpAny_nextOf_list_item (((hq.extBut s1.extBut D.i2z).extBut s2.extBut D.i12.symm).extBut s3.extBut D.TOi2.symm) (((hm.extBut s1.extBut D.l2z).extBut s2.extBut D.l2i1).extBut s3.extBut D.l2TO) hy fun g4 q4 s4 => wpAny_pure ?_)
  have o4 : IsPair g4 TO x b := s4.extBut _ _ D.TOi2 o3
  refine wpAny_bind (wpAny_seqItems o4 rfl (wpAny_bind (wpAny_updateSeq_pair o4 fun g5 o5 s5 => ?_)))
  replace o5 : IsPair g5 TO x y := o5
  refine wpAny_bind (wpAny_letGo (wpAny_pure (wpAny_pure (wpAny_bind (wpAny_seqItems o5 rfl (wpAny_bind (wpAny_newTuple ?_)))))))
  have e5 : g5.objs.size = s.heap.objs.size := by rw [s5.1, s4.1, s3.1, s2.1, s1.1]
  have z5 : Zst g5 z TI TO .ellipsis f := s5.extBut _ _ D.TOz.symm (s4.extBut _ _ D.i2z.symm (s3.extBut _ _ D.TOz.symm (s2.extBut _ _ D.i1z.symm z1)))
  have k5 : ∀ c o, c ≠ z → c ≠ TO → c ≠ p → c ≠ q → s.heap.get? c = some o → g5.get? c = some o := fun c o n1 n2 n3 n4 e => s5.extBut _ _ n2 (s4.extBut _ _ n4 (s3.extBut _ _ n2 (s2.extBut _ _ n3 (s1.extBut _ _ n1 e))))
  have p5 : g5.IsListIter p l (i + 1) := ((p2.extBut s3.extBut D.TOi1.symm).extBut s4.extBut D.i12).extBut s5.extBut D.TOi1.symm
  have q5 : g5.IsListIter q m (j + 1) := q4.extBut s5.extBut D.TOi2.symm
  have zl : z < g5.objs.size := Heap.lt_size z5
  show wpAny _ _ (Builtin.SmallTypes.ownedTupleHandOut (.ref z) (.ref g5.objs.size) >>= _) _ _ _
  refine wpAny_bind ?_
  unfold Builtin.SmallTypes.ownedTupleHandOut
  have z6 : Zst (g5.push { cls := .type "tuple", data := .seq #[x, y] }) z TI TO .ellipsis f := Heap.get?_push_of_some _ z5
  refine wpAny_bind (wpAny_setField_rec z6 (by simp) fun g7 z7 s7 => ?_)
  replace z7 : Zst g7 z TI TO (rawInt g5.objs.size) f := z7
  refine wpAny_setField_rec z7 (by simp) fun g8 z8 s8 => ?_
  replace z8 : Zst g8 z TI TO (rawInt g5.objs.size) false := z8
  have up : ∀ c o, c ≠ z → g5.get? c = some o → g8.get? c = some o := fun c o n1 e => s8.extBut _ _ n1 (s7.extBut _ _ n1 (Heap.get?_push_of_some _ e))
  have t8 : IsPair g8 g5.objs.size x y := s8.extBut _ _ (Nat.ne_of_gt zl) (s7.extBut _ _ (Nat.ne_of_gt zl) (Heap.get?_push_size _ rfl))
  have e8 : g8.objs.size = g5.objs.size + 1 := by rw [s8.1, s7.1, Heap.size_push]
  rw [e5] at z8 t8 e8
  refine wpAny_pure ⟨_, rfl, ?_⟩
  show Q (.ref g5.objs.size) _
  rw [e5]
  exact hQ g8 z8 (up _ _ D.TOz o5) (p5.at fun o e => up _ o D.i1z e) (q5.at fun o e => up _ o D.i2z e) t8 e8 fun c o n1 n2 n3 n4 e => up c o n1 (k5 c o n1 n2 n3 n4 e)
theorem zfree_end {z TI TO p q l m : Addr} {x0 : Value} {f : Bool} {i j : Nat} {xs ys : Array Value} {a b : Value} {Q : Fin → Shared → Prop} (hh : A.handled = none) (D : ZipApart z TI TO p q l m) (hz : Zst s.heap z TI TO x0 f) (hf : ZFree s.heap x0)
    (hTI : IsPair s.heap TI (.ref p) (.ref q)) (hTO : IsPair s.heap TO a b) (hp : s.heap.IsListIter p l i) (hq : s.heap.IsListIter q m j) (hl : s.heap.IsList l xs) (hm : s.heap.IsList m ys) (hend : xs[i]? = none ∨ ys[j]? = none)
    (hE : ∀ h' e, (∀ c o, c ≠ z → c ≠ TO → c ≠ p → c ≠ q → s.heap.get? c = some o → h'.get? c = some o) → (∃ o, h'.get? e = some o ∧ o.cls = .type "StopIteration") → E (.ref e) { s with heap := h' }) :
    wpAny (model prog w) A (Builtin.«zip.__next__» ⟨[.ref z], []⟩) Q E s := by
  show wpAny _ _ (field (.ref z) 2 >>= _) _ _ _
  refine wpAny_bind (wpAny_field hz rfl (x := .bool false) rfl ?_)
  show wpAny _ _ (field (.ref z) 3 >>= _) _ _ _
  refine wpAny_bind (wpAny_field hz rfl (x := .ref TI) rfl (wpAny_bind (wpAny_seqItems hTI rfl ?_)))
  show wpAny _ _ (Builtin.SmallTypes.ownedTupleIsFree (.ref z) >>= _) _ _ _
  refine wpAny_bind (own_free hz hf ?_)
  simp only [if_true]
  refine wpAny_bind (wpAny_rule (wpAny_bind (wpAny_field hz rfl (x := .ref TO) rfl (wpAny_bind (wpAny_setField_rec hz (by simp) fun g1 z1 s1 => ?_)))))
  replace z1 : Zst g1 z TI TO .ellipsis f := z1
  refine wpAny_bind ?_
  simp only [List.zipIdx_cons, List.zipIdx_nil, List.forIn_cons, List.forIn_nil]
  refine wpAny_bind (wpAny_bind (wpAny_onRaise ?_))
  show wpAny _ _ (Builtin.SmallTypes.nextOf (.ref p) >>= _) _ _ _
  cases hx : xs[i]? with
  | none =>
    refine wpAny_bind (wpAny_nextOf_list_end hh (hp.extBut s1.extBut D.i1z) (hl.extBut s1.extBut D.l1z) hx fun g2 e s2 he => ?_)
    obtain ⟨oe, h1, h2⟩ := he
    have z2 : Zst g2 z TI TO .ellipsis f := s2 _ _ D.i1z.symm z1
    have hez : e ≠ z := fun x => by subst x; rw [z2] at h1; cases h1; simp at h2
    exact wpAny_setField_rec z2 (by simp) fun g3 _ s3 => hE g3 e (fun c o n1 _ n3 _ x => s3.extBut _ _ n1 (s2 _ _ n3 (s1.extBut _ _ n1 x))) ⟨oe, s3.extBut _ _ hez h1, h2⟩
  | some x =>
    have hy : ys[j]? = none := by rcases hend with h | h; rw [hx] at h; cases h; exact h
    refine wpAny_bind (wpAny_nextOf_list_item (hp.extBut s1.extBut D.i1z) (hl.extBut s1.extBut D.l1z) hx fun g2 p2 s2 => wpAny_pure ?_)
    have o2 : IsPair g2 TO a b := s2.extBut _ _ D.TOi1 (s1.extBut _ _ D.TOz hTO)
    refine wpAny_bind (wpAny_seqItems o2 rfl (wpAny_bind (wpAny_updateSeq_pair o2 fun g3 o3 s3 => ?_)))
    refine wpAny_bind (wpAny_letGo (wpAny_pure (wpAny_bind (wpAny_bind (wpAny_onRaise ?_)))))
    show wpAny _ _ (Builtin.SmallTypes.nextOf (.ref q) >>= _) _ _ _
    refine wpAny_bind (wpAny_nextOf_list_end hh (((hq.extBut s1.extBut D.i2z).extBut s2.extBut D.i12.symm).extBut s3.extBut D.TOi2.symm) (((hm.extBut s1.extBut D.l2z).extBut s2.extBut D.l2i1).extBut s3.extBut D.l2TO) hy fun g4 e s4 he => ?_)
    obtain ⟨oe, h1, h2⟩ := he
    have z4 : Zst g4 z TI TO .ellipsis f := s4 _ _ D.i2z.symm (s3.extBut _ _ D.TOz.symm (s2.extBut _ _ D.i1z.symm z1))
    have hez : e ≠ z := fun x => by subst x; rw [z4] at h1; cases h1; simp at h2
    exact wpAny_setField_rec z4 (by simp) fun g5 _ s5 => hE g5 e (fun c o n1 n2 n3 n4 x => s5.extBut _ _ n1 (s4 _ _ n4 (s3.extBut _ _ n2 (s2.extBut _ _ n3 (s1.extBut _ _ n1 x))))) ⟨oe, s5.extBut _ _ hez h1, h2⟩
theorem pyNext_zfree_item {z TI TO p q l m : Addr} {x0 : Value} {f : Bool} {i j : Nat} {xs ys : Array Value} {x y a b : Value} {Q : Option Value → Shared → Prop} (D : ZipApart z TI TO p q l m) (hz : Zst s.heap z TI TO x0 f) (hf : ZFree s.heap x0)
    (hTI : IsPair s.heap TI (.ref p) (.ref q)) (hTO : IsPair s.heap TO a b) (hp : s.heap.IsListIter p l i) (hq : s.heap.IsListIter q m j) (hl : s.heap.IsList l xs) (hm : s.heap.IsList m ys) (hx : xs[i]? = some x) (hy : ys[j]? = some y)
    (hQ : ∀ h', Zst h' z TI TO (rawInt s.heap.objs.size) false → IsPair h' TO x y → h'.IsListIter p l (i + 1) → h'.IsListIter q m (j + 1) → IsPair h' s.heap.objs.size x y → h'.objs.size = s.heap.objs.size + 1 →
      (∀ c o, c ≠ z → c ≠ TO → c ≠ p → c ≠ q → s.heap.get? c = some o → h'.get? c = some o) → Q (some (.ref s.heap.objs.size)) { s with heap := h' }) :
    wpAny (model prog w) A (pyNext (.ref z)) Q E s := by
  have hT : s.TypeIs (.ref z) "zip" := ⟨_, hz, rfl⟩
  unfold pyNext
  exact wpAny_bind (wpAny_attempt (wpAny_callSpecial?_slot (name := Str.ofString "__next__") hT F.slot_zip_next
    (wpAny_call_entry F.slot_zip_next hT F.entry_zip_next (zfree_item D hz hf hTI hTO hp hq hl hm hx hy fun h' a1 a2 a3 a4 a5 a6 a7 => wpAny_pure (hQ h' a1 a2 a3 a4 a5 a6 a7)) (F.args_zip_next_1 _))))
theorem pyNext_zfree_end {z TI TO p q l m : Addr} {x0 : Value} {f : Bool} {i j : Nat} {xs ys : Array Value} {a b : Value} {Q : Option Value → Shared → Prop} (hh : A.handled = none) (D : ZipApart z TI TO p q l m) (hz : Zst s.heap z TI TO x0 f) (hf : ZFree s.heap x0)
    (hTI : IsPair s.heap TI (.ref p) (.ref q)) (hTO : IsPair s.heap TO a b) (hp : s.heap.IsListIter p l i) (hq : s.heap.IsListIter q m j) (hl : s.heap.IsList l xs) (hm : s.heap.IsList m ys) (hend : xs[i]? = none ∨ ys[j]? = none)
    (hQ : ∀ h', (∀ c o, c ≠ z → c ≠ TO → c ≠ p → c ≠ q → s.heap.get? c = some o → h'.get? c = some o) → Q none { s with heap := h' }) : wpAny (model prog w) A (pyNext (.ref z)) Q E s := by
  have hT : s.TypeIs (.ref z) "zip" := ⟨_, hz, rfl⟩
  unfold pyNext
  refine wpAny_bind (wpAny_attempt (wpAny_callSpecial?_slot (name := Str.ofString "__next__") hT F.slot_zip_next
    (wpAny_call_entry F.slot_zip_next hT F.entry_zip_next (zfree_end hh D hz hf hTI hTO hp hq hl hm hend fun h' e hk he => ?_) (F.args_zip_next_1 _))))
  obtain ⟨o, ho, hc⟩ := he
  exact wpAny_bind (wpAny_isInstance (T := "StopIteration") (b := true) ⟨o, ho, hc⟩ isSubtype_stop (wpAny_pure (hQ _ hk)))
end
def zipSt (z TI TO i1 i2 a b : Addr) (i : Nat) (h : Heap) : Prop := (∃ x f, Zst h z TI TO x f ∧ (x = .none ∨ ∃ T : Addr, x = rawInt T)) ∧ IsPair h TI (.ref i1) (.ref i2) ∧ (∃ x y, IsPair h TO x y) ∧ h.IsListIter i1 a i ∧ h.IsListIter i2 b i
theorem turn_zipN {P : Program} {w : World} {K : PySem.W.Frag} {n : Str} {tpos : Pos} {a b z TI TO i1 i2 : Addr} (D : ZipApart z TI TO i1 i2 a b) :
    Turn P w K (.Name n tpos) (Itz K a b) [z, TI, TO, i1, i2] z (zipSt z TI TO i1 i2 a b) where
  mem := by simp
  obj := fun i h st c hc => by
    obtain ⟨⟨x, f, hz, _⟩, hTI, ⟨x', y, hTO⟩, ⟨o1, e1, _, d1⟩, ⟨o2, e2, _, d2⟩⟩ := st
    have e' : c = z ∨ c = TI ∨ c = TO ∨ c = i1 ∨ c = i2 := by simpa using hc
    rcases e' with rfl | rfl | rfl | rfl | rfl
    · exact ⟨_, hz, fun v q => nomatch q⟩
    · exact ⟨_, hTI, fun v q => nomatch q⟩
    · exact ⟨_, hTO, fun v q => nomatch q⟩
    · exact ⟨o1, e1, fun v q => by rw [d1] at q; cases q⟩
    · exact ⟨o2, e2, fun v q => by rw [d2] at q; cases q⟩
  keep := fun i h h' st k => by
    obtain ⟨⟨x, f, hz, hx⟩, hTI, ⟨x', y, hTO⟩, h1, h2⟩ := st
    exact ⟨⟨x, f, k z (by simp) _ hz, hx⟩, k TI (by simp) _ hTI, ⟨x', y, k TO (by simp) _ hTO⟩, h1.at fun o q => k i1 (by simp) o q, h2.at fun o q => k i2 (by simp) o q⟩
  item := by
    intro X hP hw hK hc i pins s σ H E I hf st hg
    subst hP hw hK
    obtain ⟨⟨x0, f, hz, hx0⟩, hTI, ⟨xx, yy, hTO⟩, h1, h2⟩ := st
    obtain ⟨xs, ys, x, y, hqx, hqy, hx, hy⟩ := hg
    obtain ⟨its, rv, p, _⟩ := I.list hqx
    obtain ⟨its2, rv2, p2, _⟩ := I.list hqy
    obtain ⟨u, hu, ru⟩ := rv.get hx
    obtain ⟨u2, hu2, ru2⟩ := rv2.get hy
    have lts : ∀ c ∈ [z, TI, TO, i1, i2], c < s.heap.objs.size := fun c hcm => by
      have e' : c = z ∨ c = TI ∨ c = TO ∨ c = i1 ∨ c = i2 := by simpa using hcm
      rcases e' with rfl | rfl | rfl | rfl | rfl
      · exact Heap.lt_size hz
      · exact Heap.lt_size hTI
      · exact Heap.lt_size hTO
      · obtain ⟨_, e1, _⟩ := h1; exact Heap.lt_size e1
      · obtain ⟨_, e2, _⟩ := h2; exact Heap.lt_size e2
    -- what is alike in all ways
    have fin : ∀ (h' : Heap), zipSt z TI TO i1 i2 a b (i + 1) h' → IsPair h' s.heap.objs.size u u2 → (∀ c o, c ≠ z → c ≠ TO → c ≠ i1 → c ≠ i2 → s.heap.get? c = some o → h'.get? c = some o) →
        ∃ u0, some (Value.ref s.heap.objs.size) = some u0 ∧ wpAny (model X.prog X.w) X.A (letOwnedTupleGo (.Name n tpos) (.ref z) u0) (fun _ s2 => ∃ x H', Inv X pins σ H' s2 ∧ RelV x u0 ∧ (Itz X.K a b).yld i H x H' ∧ zipSt z TI TO i1 i2 a b (i + 1) s2.heap ∧ ∀ b ∈ [z, TI, TO, i1, i2], H' b = none) E { s with heap := h' } := by
      intro h' st' hT hk
      refine ⟨_, rfl, wpAny_pure ?_⟩
      have new : ObjOk X.prog X.w (upd H s.heap.objs.size (.tup [x, y])) h' s.heap.objs.size (.tup [x, y]) := ⟨by show 2 ≤ sizeLine; decide, [u, u2], .cons ru (.cons ru2 .nil), ⟨_, hT, rfl, _, rfl⟩⟩
      have I1 : Inv X pins σ (upd H s.heap.objs.size (.tup [x, y])) { s with heap := h' } :=
        I.turnedNew (t' := s.toks) (ch := [z, TI, TO, i1, i2]) (fun c o hb q => hk c o (fun q' => hb (by simp [q'])) (fun q' => hb (by simp [q'])) (fun q' => hb (by simp [q'])) (fun q' => hb (by simp [q'])) q) hf (Nat.le_refl _) new
      refine ⟨.ref s.heap.objs.size, _, I1, rfl, ⟨_, x, y, rfl, I.hok.fresh (Nat.le_refl _), rfl, fun l hl => by rw [I.list_inj hl hqx]; exact hx, fun l hl => by rw [I.list_inj hl hqy]; exact hy⟩, st', fun c hcm => ?_⟩
      rw [upd_ne (Nat.ne_of_lt (lts c hcm))]
      exact (hf c hcm).1
    have go : ZFree s.heap x0 → wpAny (model X.prog X.w) X.A (pyNext (.ref z)) (fun r s1 => ∃ u, r = some u ∧ wpAny (model X.prog X.w) X.A (letOwnedTupleGo (.Name n tpos) (.ref z) u) (fun _ s2 => ∃ x H', Inv X pins σ H' s2 ∧ RelV x u ∧ (Itz X.K a b).yld i H x H' ∧ zipSt z TI TO i1 i2 a b (i + 1) s2.heap ∧ ∀ b ∈ [z, TI, TO, i1, i2], H' b = none) E s1) E s := fun hfr =>
      pyNext_zfree_item D hz hfr hTI hTO h1 h2 p.isList p2.isList (x := u) (y := u2) (by simpa using hu) (by simpa using hu2) fun h' z' TO' h1' h2' hT hsz hk =>
        fin h' ⟨⟨_, _, z', .inr ⟨_, rfl⟩⟩, hk _ _ D.TIz D.TITO D.TIi1 D.TIi2 hTI, ⟨u, u2, TO'⟩, h1', h2'⟩ hT hk
    rcases hx0 with rfl | ⟨T, rfl⟩
    · exact go (.inl rfl)
    · cases hT : s.heap.get? T with
      | none => exact go (.inr ⟨T, rfl, hT⟩)
      | some oT =>
        exact wpAny_pyNext_zip_item_held D hz hT hTI h1 h2 p.isList p2.isList (x := u) (y := u2) (by simpa using hu) (by simpa using hu2) fun h' z' h1' h2' hT' hsz hk =>
          fin h' ⟨⟨_, _, z', .inr ⟨_, rfl⟩⟩, hk _ _ D.TIz D.TIi1 D.TIi2 hTI, ⟨xx, yy, hk _ _ D.TOz D.TOi1 D.TOi2 hTO⟩, h1', h2'⟩ hT' fun c o n1 _ n3 n4 e => hk c o n1 n3 n4 e
  done := by
    intro X hP hw hK hc i pins s σ H E I hf st hg
    subst hP hw hK
    obtain ⟨⟨x0, f, hz, hx0⟩, hTI, ⟨xx, yy, hTO⟩, h1, h2⟩ := st
    obtain ⟨xs, ys, hqx, hqy, hend⟩ := hg
    obtain ⟨its, rv, p, _⟩ := I.list hqx
    obtain ⟨its2, rv2, p2, _⟩ := I.list hqy
    have l1 := rv.length
    have l2 := rv2.length
    have he : its.toArray[i]? = none ∨ its2.toArray[i]? = none := by
      rcases hend with q | q
      · exact .inl (by simp; omega)
      · exact .inr (by simp; omega)
    have fin : ∀ h' : Heap, (∀ c o, c ≠ z → c ≠ TO → c ≠ i1 → c ≠ i2 → s.heap.get? c = some o → h'.get? c = some o) → (none : Option Value) = none ∧ Inv X pins σ H { s with heap := h' } := fun h' hk =>
      ⟨rfl, I.turnedL (t' := s.toks) (ch := [z, TI, TO, i1, i2]) (fun c o hb q => hk c o (fun q' => hb (by simp [q'])) (fun q' => hb (by simp [q'])) (fun q' => hb (by simp [q'])) (fun q' => hb (by simp [q'])) q) hf⟩
    have go : ZFree s.heap x0 → wpAny (model X.prog X.w) X.A (pyNext (.ref z)) (fun r s1 => r = none ∧ Inv X pins σ H s1) E s := fun hfr => pyNext_zfree_end (I.ok.hd hc) D hz hfr hTI hTO h1 h2 p.isList p2.isList he fin
    rcases hx0 with rfl | ⟨T, rfl⟩
    · exact go (.inl rfl)
    · cases hT : s.heap.get? T with
      | none => exact go (.inr ⟨T, rfl, hT⟩)
      | some oT => exact wpAny_pyNext_zip_end_held (I.ok.hd hc) D hz hT hTI h1 h2 p.isList p2.isList he fun h' hk => fin h' fun c o n1 _ n3 n4 e => hk c o n1 n3 n4 e
  self := fun A i s Q E st h => by
    obtain ⟨⟨x0, f, hz, _⟩, _⟩ := st
    have hT : s.TypeIs (.ref z) "zip" := ⟨_, hz, rfl⟩
    refine wpAny_pyIter_slot hT F.slot_zip_iter (wpAny_call_entry F.slot_zip_iter hT F.entry_zip_iter ?_ (F.args_zip_iter_1 _))
    show wpAny _ _ (ret (.ref z)) _ _ s
    exact wpAny_pure ⟨_, rfl, "zip", _, hT, F.slot_zip_next.lookup, h⟩
theorem pi_zipN {X : Cx} {e e2 : Expr} {ta : TA} {p pos tpos : Pos} {n : Str} (hg : Gl X "zip") (hm : X.mg "zip" = none) (ha : PA X [e, e2] ta)
    (hs : starEach [e, e2] X.env = (false, eval e X.env) :: starEach [e2] X.env := by rfl) (hpl : (backTo pos (starEach [e2] X.env)).any (·.1) = false := by rfl) :
    PI X (.Name n tpos) (.Call (.Name "zip" p) [e, e2] [] pos) (iZip X.K ta) := by
  refine ⟨fun pins s σ H R I h => ?_⟩
  refine Call_ (ld_blt I hg hm PyProof.Rows.boot_zip (PyProof.Rows.callWith_type1 (thn (ha.run pos pins s σ H _ I h) fun us s1 ⟨vs, H1, I1, r1, q1⟩ => ?_) hs hpl))
  obtain ⟨a, b, xs, ys, ex, hqx, hqy, q⟩ := q1
  subst ex
  cases r1 with
  | cons r rr =>
    cases rr with
    | cons r' rr =>
      cases rr
      cases r
      cases r'
      have fresh5 : ∀ c, c ∈ [s1.heap.objs.size + 4, s1.heap.objs.size + 2, s1.heap.objs.size + 3, s1.heap.objs.size, s1.heap.objs.size + 1] → FpOk X pins H1 c := fun c hcm => by
        have e' : c = s1.heap.objs.size + 4 ∨ c = s1.heap.objs.size + 2 ∨ c = s1.heap.objs.size + 3 ∨ c = s1.heap.objs.size ∨ c = s1.heap.objs.size + 1 := by simpa using hcm
        have hle : s1.heap.objs.size ≤ c := by rcases e' with z | z | z | z | z <;> rw [z] <;> first | exact Nat.le_add_right _ _ | exact Nat.le_refl _
        exact I1.fpOk hle (I1.hok.fresh hle)
      obtain ⟨its, rv, p1, _⟩ := I1.list hqx
      obtain ⟨its2, rv2, p2, _⟩ := I1.list hqy
      refine call_zip_2 p1.isList p2.isList fun h' hz hTI hTO h1 h2 hsz hk => wpAny_pyIter_zip hz ?_
      have I2 : Inv X pins σ H1 { s1 with heap := h' } := I1.kept (t' := s1.toks) hk
      exact ⟨s1.heap.objs.size + 4, [s1.heap.objs.size + 4, s1.heap.objs.size + 2, s1.heap.objs.size + 3, s1.heap.objs.size, s1.heap.objs.size + 1], _, _, H1, rfl, I2, turn_zipN (PySem.W.ktu_apart s1.heap.objs.size a b p1.lt p2.lt), ⟨⟨_, _, hz, .inl rfl⟩, hTI, ⟨_, _, hTO⟩, h1, h2⟩, fresh5, q⟩
end RX
set_option maxRecDepth 100000
/-! Rf, part A: a small language of one's own, what its terms are worth (by value), and the look that says that such a term tells a piece of the text. -/
namespace Rf
open PySem

/-! ### outcomes -/
inductive Res (α : Type) where
  | ok (a : α)
  | exn (c : Str) (x : PyData)
  | bad
namespace Res
def bind {α β : Type} : Res α → (α → Res β) → Res β
  | ok a, f => f a
  | exn c x, _ => exn c x
  | bad, _ => bad
instance : Monad Res where
  pure := ok
  bind := bind
@[simp] theorem bind_ok {α β : Type} (a : α) (f : α → Res β) : (Bind.bind (ok a) f : Res β) = f a := rfl
@[simp] theorem bind_bad {α β : Type} (f : α → Res β) : (Bind.bind (bad : Res α) f : Res β) = bad := rfl
@[simp] theorem bind_exn {α β : Type} (c : Str) (x : PyData) (f : α → Res β) : (Bind.bind (exn c x : Res α) f : Res β) = exn c x := rfl
@[simp] theorem pure_eq {α : Type} (a : α) : (pure a : Res α) = ok a := rfl
theorem bind_inv {α β : Type} {m : Res α} {f : α → Res β} {b : β} (h : (Bind.bind m f : Res β) = ok b) : ∃ a, m = ok a ∧ f a = ok b := by
  cases m with
  | ok a => exact ⟨a, rfl, h⟩
  | exn c x => cases h
  | bad => cases h
def guard (b : Bool) : Res Unit := if b then ok () else bad
theorem guard_inv {b : Bool} {u : Unit} (h : guard b = ok u) : b = true := by
  unfold guard at h
  split at h
  · assumption
  · cases h
@[simp] theorem guard_true : guard true = ok () := rfl
end Res
open Res

/-! ### values -/
/-- a value of a name: settled data; a list of one's own that may still change; a dict of one's own (text keys), its values settled or lists of its own -/
inductive CV where
  | d (x : PyData)
  | L (xs : List PyData)
inductive PV where
  | d (x : PyData)
  | L (xs : List PyData)
  | M (kvs : List (Str × CV))
def CV.frz : CV → PyData
  | .d x => x
  | .L xs => .list xs
/-- settled (a dict never) -/
def PV.fz : PV → Res PyData
  | .d x => ok x
  | .L xs => ok (.list xs)
  | .M _ => bad
def fzs : List PV → Res (List PyData)
  | [] => ok []
  | x :: r => do let y ← x.fz; let ys ← fzs r; ok (y :: ys)
@[simp] theorem PV.fz_d (x : PyData) : (PV.d x).fz = ok x := rfl
@[simp] theorem PV.fz_L (xs : List PyData) : (PV.L xs).fz = ok (.list xs) := rfl
@[simp] theorem fzs_nil : fzs [] = ok [] := rfl
@[simp] theorem fzs_cons (x : PV) (r : List PV) : fzs (x :: r) = (do let y ← x.fz; let ys ← fzs r; ok (y :: ys)) := rfl
abbrev Ro := List (Option PV)
def PV.lent : PV → Option PV
  | .d x => some (.d x)
  | .L xs => some (.d (.list xs))
  | .M _ => none
/-- the names as they may be read alone -/
def frzRo (ρ : Ro) : Ro := ρ.map fun o => o.bind PV.lent
/-- no list, no dict within -/
def flat : PyData → Bool
  | .none => true
  | .bool _ => true
  | .int _ => true
  | .str _ => true
  | .list _ => false
  | .tuple xs => flats xs
  | .dict _ => false
where flats : List PyData → Bool
  | [] => true
  | x :: r => flat x && flats r
def PV.flat : PV → Bool
  | .d x => Rf.flat x
  | .L xs => Rf.flat.flats xs
  | .M _ => false

/-! ### the terms -/
inductive Bi where
  | len | max | min | abs | int | str | list | tuple | sum | all | any | sorted | reversed
  deriving DecidableEq
inductive Ty where
  | int | bool | tuple | list | str
  deriving DecidableEq
inductive Mt where
  | append | pop | popAt | extend | clear | reverse | index | count
  deriving DecidableEq
/-- a method of a value that is read -/
inductive Mv where
  | lindex | join | split | partition | find | startswith | rstripC | scount
  deriving DecidableEq
/-- a place that may be changed: a name, or a key of a dict at a name -/
inductive Pl where
  | s (i : Nat)
  | k (i : Nat) (key : Str)
  deriving DecidableEq
/-- what a loop's target stores -/
inductive Tg where
  | n (i : Nat)
  | nil
  | cons (t r : Tg)
  deriving DecidableEq
inductive E where
  | nm (i : Nat) | mv (i : Nat) | fz (i : Nat) | frz (e : E) | bw (e : E)
  | gl (x : Str)
  | int (i : Int) | bl (b : Bool) | non | str (x : Str)
  | bin (op : Operator) (a b : E)
  | neg (a : E) | not (a : E)
  | and (a b : E) | or (a b : E)
  | cmp (op : CmpOp) (a b : E)
  | chain (op op' : CmpOp) (a b c : E)
  | isN (a : E) | notN (a : E)
  | ife (c a b : E)
  | nil | cons (a r : E) | io (i : Nat)
  | tup (as : E) | lst (as : E) | dct (ks : List Str) (as : E)
  | ix (a b : E) | sl (a lo hi : E)
  | ixP (p : Pl) (b : E) | lenP (p : Pl)
  | bi (b : Bi) (as : E) | isi (a : E) (t : Ty)
  | call (f : Nat) (as : E)
  | mt (m : Mt) (p : Pl) (as : E)
  | mtv (m : Mv) (o as : E)
  | lc (g : Tg) (it c e : E) (vs : List Nat)
  | lrev (e : E)
  | callL (f g : Nat) (b as : E) | ixM (a b : E)
  | ixG (x : Str) (b : E) | inG (x : Str) (b : E) | rev (e : E)
  | itL (e : E) | itR1 (a : E) | itR2 (a b : E) | itEn (e : E) | itZip (a b : E) | itZipN (a b : E)
inductive S where
  | nil | seq (s r : S)
  | asg (i : Nat) (e : E) | unp (g : Tg) (e : E) | aug (i : Nat) (op : Operator) (e : E)
  | setP (p : Pl) (k v : E) | setSl (p : Pl) (lo hi v : E)
  | ex (e : E)
  | ife (c : E) (a b : S)
  | whl (c : E) (b : S)
  | for_ (g : Tg) (it : E) (b : S)
  | ret (e : E) | retN | pass | brk | cnt
  | raise (c : Str) (e : E)

/-! ### operations -/
def bits (i : Int) : Nat := Builtin.Int.intBits i
def repT (n : Nat) (x : Str) : Str := ⟨(List.replicate n x.cps).foldl (· ++ ·) #[]⟩
def binS : Operator → PyData → PyData → Res PV
  | .Add, .int i, .int j => ok (.d (.int (i + j)))
  | .Add, .str x, .str y => do guard (decide (x.length + y.length ≤ 1000000)); ok (.d (.str (x ++ y)))
  | .Add, .list xs, .list ys => do guard (decide (xs.length + ys.length ≤ 1000000)); ok (.L (xs ++ ys))
  | .Add, .tuple xs, .tuple ys => do guard (decide (xs.length + ys.length ≤ 1000000)); ok (.d (.tuple (xs ++ ys)))
  | .Sub, .int i, .int j => ok (.d (.int (i - j)))
  | .Mult, .int i, .int j => do guard (decide (bits i + bits j ≤ 134217728)); ok (.d (.int (i * j)))
  | .FloorDiv, .int i, .int j => do guard (decide (0 < j ∧ j.natAbs.log2 < 9000)); ok (.d (.int (i / j)))
  | .Mod, .int i, .int j => do guard (decide (0 < j)); ok (.d (.int (i % j)))
  | .Pow, .int i, .int j => do guard (decide (0 ≤ j ∧ j ≤ 1000000 ∧ i.natAbs < 2 ^ 64)); ok (.d (.int (i ^ j.toNat)))
  | .LShift, .int i, .int j => do guard (decide (0 ≤ j ∧ (bits i : Int) + j ≤ 2 ^ 27)); ok (.d (.int (i * 2 ^ j.toNat)))
  | .RShift, .int i, .int j => do guard (decide (0 ≤ j)); ok (.d (.int (i / 2 ^ j.toNat)))
  | .BitAnd, .int i, .int j => ok (.d (.int (Builtin.bitAnd i j)))
  | .BitOr, .int i, .int j => ok (.d (.int (Builtin.bitOr i j)))
  | .Mult, .str x, .int n => do guard (decide (1 ≤ n ∧ n ≤ 1000 ∧ 1 ≤ x.length ∧ x.length ≤ 1000)); ok (.d (.str (repT n.toNat x)))
  | _, _, _ => bad
def strsOf : List PyData → Option (List Str)
  | [] => some []
  | .str i :: r => (strsOf r).map (i :: ·)
  | _ :: _ => none
def eqOk (x y : PyData) : Bool := x.canLay0 && y.canLay0 && decide (min x.depth y.depth ≤ 150)
def inOk (x : PyData) (ys : List PyData) : Bool := SeqAt.shaped x && SeqAt.shaped (.list ys)
def cmpS : CmpOp → PyData → PyData → Res Bool
  | .Eq, x, y => do guard (eqOk x y); ok (PyData.eqv x y)
  | .NotEq, x, y => do guard (eqOk x y); ok (!PyData.eqv x y)
  | .Lt, .int i, .int j => ok (decide (i < j))
  | .LtE, .int i, .int j => ok (decide (i ≤ j))
  | .Gt, .int i, .int j => ok (decide (j < i))
  | .GtE, .int i, .int j => ok (decide (j ≤ i))
  | .In, x, .list ys => do guard (inOk x ys); ok (ys.any fun z => PyData.eqv z x)
  | .NotIn, x, .list ys => do guard (inOk x ys); ok (!ys.any fun z => PyData.eqv z x)
  | .In, .str x, .tuple ys => (match strsOf ys with | some zs => ok (zs.any fun z => z == x) | none => bad)
  | .NotIn, .str x, .tuple ys => (match strsOf ys with | some zs => ok (!zs.any fun z => z == x) | none => bad)
  | .In, .str x, .str z => (match x.cps.toList with | [c] => ok (decide (c ∈ z.cps.toList)) | [] => ok (!(Builtin.Str.occurrences z x 0 z.length 1).isEmpty) | _ => bad)
  | .NotIn, .str x, .str z => (match x.cps.toList with | [c] => ok (!decide (c ∈ z.cps.toList)) | _ => bad)
  | _, _, _ => bad
def ixD : PyData → PyData → Res PyData
  | .list xs, .int i => (match L2.atI xs i with | some x => ok x | none => bad)
  | .tuple xs, .int i => (match L2.atI xs i with | some x => ok x | none => bad)
  | .str z, .int i => (match L2.atI z.cps.toList i with | some c => do guard (decide (z.length ≤ 1000000)); ok (.str ⟨#[c]⟩) | none => bad)
  | _, _ => bad
def isNone : E → Bool
  | .non => true
  | _ => false
def optI (e : E) : PyData → Res (Option Int)
  | .none => if isNone e then ok none else bad
  | .int i => ok (some i)
  | _ => bad
def cut {α : Type} (xs : List α) (lo hi : Option Int) : List α := (xs.drop (HT.sIx xs.length 0 lo)).take (HT.sIx xs.length xs.length hi - HT.sIx xs.length 0 lo)
def slS : PyData → Option Int → Option Int → Res PV
  | .list xs, lo, hi => ok (.L (cut xs lo hi))
  | .tuple xs, lo, hi => ok (.d (.tuple (cut xs lo hi)))
  | .str z, lo, hi => do guard (decide (z.length ≤ 1000000)); ok (.d (.str (L2.cutS z lo hi)))
  | _, _, _ => bad
def intsOf : List PyData → Option (List Int)
  | [] => some []
  | .int i :: r => (intsOf r).map (i :: ·)
  | _ :: _ => none
def maxI : Int → List Int → Int
  | m, [] => m
  | m, x :: r => maxI (if x > m then x else m) r
def minI : Int → List Int → Int
  | m, [] => m
  | m, x :: r => minI (if x < m then x else m) r
def boolsOf : List PyData → Option (List Bool)
  | [] => some []
  | .bool i :: r => (boolsOf r).map (i :: ·)
  | _ :: _ => none
def biS : Bi → List PyData → Res PV
  | .len, [.list xs] => ok (.d (.int xs.length))
  | .len, [.tuple xs] => ok (.d (.int xs.length))
  | .len, [.str x] => do guard (decide (x.length ≤ 1000000)); ok (.d (.int x.length))
  | .max, [.int i, .int j] => ok (.d (.int (if j > i then j else i)))
  | .min, [.int i, .int j] => ok (.d (.int (if j < i then j else i)))
  | .max, [.list xs] => (match intsOf xs with | some (m :: r) => ok (.d (.int (maxI m r))) | _ => bad)
  | .min, [.list xs] => (match intsOf xs with | some (m :: r) => ok (.d (.int (minI m r))) | _ => bad)
  | .abs, [.int i] => ok (.d (.int (if i < 0 then -i else i)))
  | .int, [.int i] => ok (.d (.int i))
  | .int, [.bool b] => ok (.d (.int (if b then 1 else 0)))
  | .str, [.int i] => do guard (decide (i.natAbs.log2 < 1920)); ok (.d (.str (toString i)))
  | .list, [.list xs] => ok (.L xs)
  | .list, [.tuple xs] => ok (.L xs)
  | .tuple, [.list xs] => ok (.d (.tuple xs))
  | .tuple, [.tuple xs] => ok (.d (.tuple xs))
  | .sum, [.list xs] => (match intsOf xs with | some ns => ok (.d (.int ns.sum)) | none => bad)
  | .max, [.int i, .int j, .int k] => ok (.d (.int (if k > (if j > i then j else i) then k else (if j > i then j else i))))
  | .min, [.int i, .int j, .int k] => ok (.d (.int (if k < (if j < i then j else i) then k else (if j < i then j else i))))
  | .all, [.list xs] => (match boolsOf xs with | some bs => ok (.d (.bool (bs.all id))) | none => bad)
  | .any, [.list xs] => (match boolsOf xs with | some bs => ok (.d (.bool (bs.any id))) | none => bad)
  | .int, [.str a] => (match PySem.intText? a with | some n => do guard (decide (a.length ≤ 640)); ok (.d (.int n)) | none => bad)
  | _, _ => bad
def isS : Ty → PyData → Bool
  | .int, .int _ => true
  | .int, .bool _ => true
  | .bool, .bool _ => true
  | .tuple, .tuple _ => true
  | .list, .list _ => true
  | .str, .str _ => true
  | _, _ => false

/-! ### places -/
def getRo (ρ : Ro) (i : Nat) : Option PV := (ρ[i]?).join
def kvGet (k : Str) : List (Str × CV) → Option CV
  | [] => none
  | (a, x) :: r => if a = k then some x else kvGet k r
def kvSet (k : Str) (v : CV) : List (Str × CV) → List (Str × CV)
  | [] => []
  | (a, x) :: r => if a = k then (a, v) :: r else (a, x) :: kvSet k v r
def PV.cv : PV → Option CV
  | .d x => some (.d x)
  | .L xs => some (.L xs)
  | .M _ => none
def CV.pv : CV → PV
  | .d x => .d x
  | .L xs => .L xs
/-- the list that stands at a place, one's own -/
def plList (ρ : Ro) : Pl → Res (List PyData)
  | .s i => (match getRo ρ i with | some (.L xs) => ok xs | _ => bad)
  | .k i key => (match getRo ρ i with | some (.M kvs) => (match kvGet key kvs with | some (.L xs) => ok xs | _ => bad) | _ => bad)
def plSet (ρ : Ro) (p : Pl) (xs : List PyData) : Ro := match p with
  | .s i => ρ.set i (some (.L xs))
  | .k i key => (match getRo ρ i with | some (.M kvs) => ρ.set i (some (.M (kvSet key (.L xs) kvs))) | _ => ρ)
def getD (ρ : Ro) (i : Nat) : Res PyData := match getRo ρ i with
  | some (.d x) => ok x
  | _ => bad
def PV.data : PV → Res PyData
  | .d x => ok x
  | _ => bad
def asBool : PV → Res Bool
  | .d (.bool b) => ok b
  | _ => bad
def dataAll : List PV → Res (List PyData)
  | [] => ok []
  | .d x :: r => do let xs ← dataAll r; ok (x :: xs)
  | _ :: _ => bad
def mtS : Mt → List PyData → List PyData → Res (List PyData × PyData)
  | .append, xs, [x] => do guard (decide (xs.length < 1000000)); ok (xs ++ [x], .none)
  | .pop, xs, [] => (match xs[xs.length - 1]? with | some x => ok (xs.dropLast, x) | none => bad)
  | .popAt, xs, [.int i] => do
    guard (decide (xs.length ≤ 1000000))
    match L2.ixN xs.length i with
    | some k => (match xs[k]? with | some x => ok (xs.eraseIdx k, x) | none => bad)
    | none => bad
  | .extend, xs, [.list ys] => do guard (decide (xs.length + ys.length ≤ 1000000)); ok (xs ++ ys, .none)
  | .clear, _, [] => ok ([], .none)
  | .reverse, xs, [] => ok (xs.reverse, .none)
  | _, _, _ => bad
def mvS : Mv → PyData → List PyData → Res PV
  | .lindex, .list xs, [x] => do
    guard (inOk x xs)
    match xs.findIdx? (fun z => PyData.eqv z x) with
    | some k => ok (.d (.int k))
    | none => bad
  | .join, .str a, [.list ys] => (match strsOf ys with
    | some zs => do guard (decide ((zs.map (·.length)).sum + zs.length * a.length ≤ 1000000)); ok (.d (.str (Txt.join a zs)))
    | none => bad)
  | .split, .str a, [.str b] => do guard (decide ((b.length == 0) = false ∧ a.length ≤ 1000000)); ok (.L ((Txt.split a b).map .str))
  | .partition, .str a, [.str b] => do guard (decide ((b.length == 0) = false ∧ a.length ≤ 1000000)); ok (.d (.tuple [.str (Txt.partition a b).1, .str (Txt.partition a b).2.1, .str (Txt.partition a b).2.2]))
  | .find, .str a, [.str b] => ok (.d (.int (Txt.find a b)))
  | .startswith, .str a, [.str b] => ok (.d (.bool (Txt.startswith a b)))
  | .rstripC, .str a, [.str b] => do guard (decide (a.length ≤ 1000000)); ok (.d (.str (Txt.rstripChars a b)))
  | .scount, .str a, [.str b] => ok (.d (.int (Txt.count a b)))
  | _, _, _ => bad

/-! ### targets -/
def stTg : Tg → PyData → Ro → Res Ro
  | .n i, x, ρ => ok (ρ.set i (some (.d x)))
  | .nil, .tuple [], ρ => ok ρ
  | .cons t r, .tuple (x :: xs), ρ => do let ρ1 ← stTg t x ρ; stTg r (.tuple xs) ρ1
  | _, _, _ => bad
def wipeR (ρ : Ro) : List Nat → Ro
  | [] => ρ
  | v :: vs => (wipeR ρ vs).set v none
/-- the slots of a block's own names hold nothing of one's own -/
def wipeOk (ρ : Ro) (vs : List Nat) : Bool := vs.all fun v => match getRo ρ v with
  | none => true
  | some (.d _) => true
  | _ => false
def wipeBack (ρ ρ' : Ro) : List Nat → Ro
  | [] => ρ'
  | v :: vs => (wipeBack ρ ρ' vs).set v (getRo ρ v)
def zipI : Int → List PyData → List PyData
  | _, [] => []
  | i, x :: r => .tuple [.int i, x] :: zipI (i + 1) r
def zip2 : List PyData → List PyData → List PyData
  | x :: xs, y :: ys => .tuple [x, y] :: zip2 xs ys
  | _, _ => []
def rngI (lo : Int) : Nat → List PyData
  | 0 => []
  | n + 1 => .int lo :: rngI (lo + 1) n
def itemsD : PyData → Res (List PyData)
  | .list xs => ok xs
  | .tuple xs => ok xs
  | .str z => ok (z.cps.toList.map fun c => .str ⟨#[c]⟩)
  | _ => bad

/-! ### expressions -/
/-- a table of the functions: number, arguments; the result, and what stands at the parameters at the end -/
abbrev Tab := Nat → List PV → Res (PV × Ro)
/-- globals that are settled data -/
abbrev Gls := Str → Option PyData
def oCons : Option PyData → List PyData → List PyData
  | some y, ys => y :: ys
  | none, ys => ys
/-- the list comprehension's loop -/
def lcF (body : PyData → Ro → Res (Option PyData × Ro)) : List PyData → Ro → Res (List PyData × Ro)
  | [], ρ => ok ([], ρ)
  | x :: xs, ρ => do
    let (o, ρ1) ← body x ρ
    let (ys, ρ2) ← lcF body xs ρ1
    ok (oCons o ys, ρ2)
def ioSet (ρ : Ro) : List (Option Nat) → Ro → Ro
  | some i :: is, o :: os => ioSet (ρ.set i o) is os
  | none :: is, _ :: os => ioSet ρ is os
  | _, _ => ρ
def alen : E → Nat
  | .cons _ r => alen r + 1
  | _ => 0
def noIo : E → Bool
  | .cons (.io _) _ => false
  | .cons _ r => noIo r
  | _ => true
/-- the places that an argument list hands on -/
def ios : E → List (Option Nat)
  | .cons (.io i) r => some i :: ios r
  | .cons _ r => none :: ios r
  | _ => []
/-- a constant dict's entry -/
def dget (k : Str) : List (PyData × PyData) → Option PyData
  | [] => none
  | (.str a, x) :: r => if a = k then some x else dget k r
  | _ :: _ => none
section
variable (T : Tab) (G : Gls)
mutual
def den : E → Ro → Res (PV × Ro)
  | .nm i, ρ => do let x ← getD ρ i; ok (.d x, ρ)
  | .mv i, ρ => (match getRo ρ i with | some x => ok (x, ρ.set i none) | none => bad)
  | .fz i, ρ => (match getRo ρ i with | some x => (do let y ← x.fz; ok (.d y, ρ.set i (some (.d y)))) | none => bad)
  | .frz e, ρ => do let (x, ρ1) ← den e ρ; let y ← x.fz; ok (.d y, ρ1)
  | .bw e, ρ => do let (x, ρ1) ← den e (frzRo ρ); guard x.flat; ok (x, ρ)
  | .gl x, ρ => (match G x with | some (.dict _) => bad | some d => ok (.d d, ρ) | none => bad)
  | .int i, ρ => ok (.d (.int i), ρ)
  | .bl b, ρ => ok (.d (.bool b), ρ)
  | .non, ρ => ok (.d .none, ρ)
  | .str x, ρ => ok (.d (.str x), ρ)
  | .bin op a b, ρ => do
    let (x, ρ1) ← den a ρ
    let (y, ρ2) ← den b ρ1
    let x' ← x.fz
    let y' ← y.fz
    let z ← binS op x' y'
    ok (z, ρ2)
  | .neg a, ρ => do
    let (x, ρ1) ← den a ρ
    match x with
    | .d (.int i) => ok (.d (.int (-i)), ρ1)
    | _ => bad
  | .not a, ρ => do let (x, ρ1) ← den a ρ; let b ← asBool x; ok (.d (.bool (!b)), ρ1)
  | .and a b, ρ => do
    let (x, ρ1) ← den a ρ
    let c ← asBool x
    if c then (do let (y, ρ2) ← den b ρ1; let c' ← asBool y; ok (.d (.bool c'), ρ2)) else ok (.d (.bool false), ρ1)
  | .or a b, ρ => do
    let (x, ρ1) ← den a ρ
    let c ← asBool x
    if c then ok (.d (.bool true), ρ1) else (do let (y, ρ2) ← den b ρ1; let c' ← asBool y; ok (.d (.bool c'), ρ2))
  | .cmp op a b, ρ => do
    let (x, ρ1) ← den a ρ
    let (y, ρ2) ← den b ρ1
    let x' ← x.fz
    let y' ← y.fz
    let z ← cmpS op x' y'
    ok (.d (.bool z), ρ2)
  | .chain op op' a b c, ρ => do
    let (x, ρ1) ← den a ρ
    let (y, ρ2) ← den b ρ1
    let x' ← x.fz
    let y' ← y.fz
    let z ← cmpS op x' y'
    if z then (do let (w, ρ3) ← den c ρ2; let w' ← w.fz; let z' ← cmpS op' y' w'; ok (.d (.bool z'), ρ3)) else ok (.d (.bool false), ρ2)
  | .isN a, ρ => do let (x, ρ1) ← den a ρ; ok (.d (.bool (match x with | .d .none => true | _ => false)), ρ1)
  | .notN a, ρ => do let (x, ρ1) ← den a ρ; ok (.d (.bool (match x with | .d .none => false | _ => true)), ρ1)
  | .ife c a b, ρ => do
    let (x, ρ1) ← den c ρ
    let t ← asBool x
    if t then den a ρ1 else den b ρ1
  | .tup as, ρ => do let (xs, ρ1) ← dens as ρ; let ys ← fzs xs; ok (.d (.tuple ys), ρ1)
  | .lst as, ρ => do let (xs, ρ1) ← dens as ρ; let ys ← fzs xs; ok (.L ys, ρ1)
  | .dct ks as, ρ => do
    let (xs, ρ1) ← dens as ρ
    guard (decide (ks.length = xs.length ∧ ks.Nodup))
    match xs.mapM PV.cv with
    | some ys => ok (.M (ks.zip ys), ρ1)
    | none => bad
  | .ix a b, ρ => do
    let (x, ρ1) ← den a ρ
    let (y, ρ2) ← den b ρ1
    let x' ← x.fz
    let y' ← y.fz
    let z ← ixD x' y'
    ok (.d z, ρ2)
  | .sl a lo hi, ρ => do
    let (x, ρ1) ← den a ρ
    let (l, ρ2) ← den lo ρ1
    let (h, ρ3) ← den hi ρ2
    let x' ← x.fz
    let lo' ← l.fz
    let hi' ← h.fz
    let l' ← optI lo lo'
    let h' ← optI hi hi'
    let z ← slS x' l' h'
    ok (z, ρ3)
  | .ixP (.k i key) b, ρ => (match getRo ρ i with
    | none => bad
    | some _ => do
      let (y, ρ1) ← den b ρ
      match getRo ρ1 i, y with
      | some (.M kvs), .d (.str k) => (match kvGet k kvs with | some (.d x) => ok (.d x, ρ1) | _ => bad)
      | _, _ => bad)
  | .ixP (.s i) b, ρ => (match getRo ρ i with
    | none => bad
    | some _ => do
      let (y, ρ1) ← den b ρ
      match getRo ρ1 i, y with
      | some (.L xs), .d (.int j) => (match L2.atI xs j with | some x => ok (.d x, ρ1) | none => bad)
      | _, _ => bad)
  | .lenP p, ρ => do let xs ← plList ρ p; ok (.d (.int xs.length), ρ)
  | .bi b as, ρ => do let (xs, ρ1) ← dens as ρ; let ys ← fzs xs; let z ← biS b ys; ok (z, ρ1)
  | .isi a t, ρ => do let (x, ρ1) ← den a ρ; let y ← x.fz; ok (.d (.bool (isS t y)), ρ1)
  | .call f as, ρ => do
    let (xs, ρ1) ← dens as ρ
    let (r, os) ← T f xs
    ok (r, ioSet ρ1 (ios as) os)
  | .mt m p as, ρ => do
    let _ ← plList ρ p
    let (ys, ρ1) ← dens as ρ
    let zs ← fzs ys
    let xs ← plList ρ1 p
    let (xs', r) ← mtS m xs zs
    ok (.d r, plSet ρ1 p xs')
  | .mtv m o as, ρ => do
    let (x, ρ1) ← den o ρ
    let (ys, ρ2) ← dens as ρ1
    let x' ← x.fz
    let zs ← fzs ys
    let r ← mvS m x' zs
    ok (r, ρ2)
  | .lrev e, ρ => do
    let (x, ρ1) ← den e ρ
    let y ← x.fz
    match y with
    | .list xs => ok (.L xs.reverse, ρ1)
    | _ => bad
  | .ixG x b, ρ => do
    let (y, ρ1) ← den b ρ
    match G x, y with
    | some (.dict kvs), .d (.str k) => (match dget k kvs with | some d => ok (.d d, ρ1) | none => bad)
    | _, _ => bad
  | .inG x b, ρ => do
    let (y, ρ1) ← den b ρ
    match G x, y with
    | some (.dict kvs), .d (.str k) => ok (.d (.bool (dget k kvs).isSome), ρ1)
    | _, _ => bad
  | .rev e, ρ => do
    let (x, ρ1) ← den e ρ
    let y ← x.fz
    match y with
    | .list xs => ok (.L xs.reverse, ρ1)
    | .tuple xs => ok (.d (.tuple xs.reverse), ρ1)
    | _ => bad
  | .ixM a b, ρ => do
    let (x, ρ1) ← den a ρ
    let (y, ρ2) ← den b ρ1
    match x, y with
    | .M kvs, .d (.str k) => (match kvGet k kvs with | some (.d z) => ok (.d z, ρ2) | _ => bad)
    | _, _ => bad
  | .callL f g b as, ρ => do
    let (y, ρ1) ← den b ρ
    match y with
    | .d (.int i) => if i = 0 then (do
        let (xs, ρ2) ← dens as ρ1
        let (r, os) ← T f xs
        ok (r, ioSet ρ2 (ios as) os)) else if i = 1 then (do
        let (xs, ρ2) ← dens as ρ1
        let (r, os) ← T g xs
        ok (r, ioSet ρ2 (ios as) os)) else bad
    | _ => bad
  | .lc g it c e vs, ρ => do
    let (xs, ρ1) ← deni it ρ
    guard (wipeOk ρ1 vs)
    let (ys, ρ2) ← lcF (fun x ρ => do
      let ρ3 ← stTg g x ρ
      let (t, ρ4) ← den c ρ3
      let b ← asBool t
      if b then (do let (y, ρ5) ← den e ρ4; let y' ← y.fz; ok (some y', wipeR ρ5 vs)) else ok (none, wipeR ρ4 vs)) xs (wipeR ρ1 vs)
    guard (decide (ys.length ≤ 1000000))
    ok (.L ys, wipeBack ρ1 ρ2 vs)
  | _, _ => bad
/-- an argument list -/
def dens : E → Ro → Res (List PV × Ro)
  | .nil, ρ => ok ([], ρ)
  | .cons (.io i) r, ρ => (match getRo ρ i with
    | none => bad
    | some _ => do
      let (xs, ρ1) ← dens r ρ
      match getRo ρ1 i with
      | some x => ok (x :: xs, ρ1)
      | none => bad)
  | .cons a r, ρ => do
    let (x, ρ1) ← den a ρ
    let (xs, ρ2) ← dens r ρ1
    ok (x :: xs, ρ2)
  | _, _ => bad
/-- what a loop goes over -/
def deni : E → Ro → Res (List PyData × Ro)
  | .itL e, ρ => do let (x, ρ1) ← den e ρ; let x' ← x.fz; let xs ← itemsD x'; ok (xs, ρ1)
  | .itR1 a, ρ => do
    let (x, ρ1) ← den a ρ
    match x with
    | .d (.int n) => (do guard (decide (n < 2 ^ 62 ∧ -(2 ^ 62) ≤ n)); ok (rngI 0 n.toNat, ρ1))
    | _ => bad
  | .itR2 a b, ρ => do
    let (x, ρ1) ← den a ρ
    let (y, ρ2) ← den b ρ1
    match x, y with
    | .d (.int m), .d (.int n) => (do guard (decide (n < 2 ^ 62 ∧ -(2 ^ 62) ≤ n ∧ m < 2 ^ 62 ∧ -(2 ^ 62) ≤ m)); ok (rngI m (n - m).toNat, ρ2))
    | _, _ => bad
  | .itEn e, ρ => do
    let (x, ρ1) ← den e ρ
    let x' ← x.fz
    match x' with
    | .list xs => ok (zipI 0 xs, ρ1)
    | _ => bad
  | .itZip a b, ρ => do
    let (x, ρ1) ← den a ρ
    let (y, ρ2) ← den b ρ1
    let x' ← x.fz
    let y' ← y.fz
    match x', y' with
    | .list xs, .list ys => ok (zip2 xs ys, ρ2)
    | .tuple xs, .tuple ys => ok (zip2 xs ys, ρ2)
    | _, _ => bad
  | .itZipN a b, ρ => do
    let (x, ρ1) ← den a ρ
    let (y, ρ2) ← den b ρ1
    let x' ← x.fz
    let y' ← y.fz
    match x', y' with
    | .list xs, .list ys => ok (zip2 xs ys, ρ2)
    | _, _ => bad
  | _, _ => bad
end
end
end Rf
namespace Rf
open PySem Res
/-! ### statements -/
inductive Fl where
  | nx | rt (x : PV) | bk | ct
/-- a while, so many turns at most -/
def loopN (c : Ro → Res (Bool × Ro)) (b : Ro → Res (Fl × Ro)) : Nat → Ro → Option (Res (Fl × Ro))
  | 0, _ => none
  | n + 1, ρ => match c ρ with
    | .ok (true, ρ1) => (match b ρ1 with
      | .ok (.nx, ρ2) => loopN c b n ρ2
      | .ok (.ct, ρ2) => loopN c b n ρ2
      | .ok (.bk, ρ2) => some (.ok (.nx, ρ2))
      | .ok (.rt x, ρ2) => some (.ok (.rt x, ρ2))
      | .exn e x => some (.exn e x)
      | .bad => some .bad)
    | .ok (false, ρ1) => some (.ok (.nx, ρ1))
    | .exn e x => some (.exn e x)
    | .bad => some .bad
open Classical in
noncomputable def whl (c : Ro → Res (Bool × Ro)) (b : Ro → Res (Fl × Ro)) (ρ : Ro) : Res (Fl × Ro) :=
  if h : ∃ n r, loopN c b n ρ = some r then (choose_spec h).choose else .bad
theorem loopN_mono {c : Ro → Res (Bool × Ro)} {b : Ro → Res (Fl × Ro)} : ∀ {n m : Nat} {ρ : Ro} {r : Res (Fl × Ro)}, loopN c b n ρ = some r → n ≤ m → loopN c b m ρ = some r
  | 0, _, _, _, h, _ => by cases h
  | n + 1, 0, _, _, _, h => by omega
  | n + 1, m + 1, ρ, r, h, hm => by
    unfold loopN at h ⊢
    split at h
    · split at h
      · exact loopN_mono h (by omega)
      · exact loopN_mono h (by omega)
      all_goals exact h
    all_goals exact h
theorem whl_of {c : Ro → Res (Bool × Ro)} {b : Ro → Res (Fl × Ro)} {n : Nat} {ρ : Ro} {r : Res (Fl × Ro)} (h : loopN c b n ρ = some r) : whl c b ρ = r := by
  have hx : ∃ n r, loopN c b n ρ = some r := ⟨n, r, h⟩
  unfold whl
  rw [dif_pos hx]
  have h2 := (Classical.choose_spec hx).choose_spec
  have e1 := loopN_mono h (Nat.le_max_left n (Classical.choose hx))
  have e2 := loopN_mono h2 (Nat.le_max_right n (Classical.choose hx))
  rw [e1] at e2
  exact (Option.some.inj e2).symm
theorem whl_inv {c : Ro → Res (Bool × Ro)} {b : Ro → Res (Fl × Ro)} {ρ : Ro} {y : Fl × Ro} (h : whl c b ρ = .ok y) : ∃ n, loopN c b n ρ = some (.ok y) := by
  unfold whl at h
  split at h
  · rename_i hx
    exact ⟨_, by rw [← h]; exact (Classical.choose_spec hx).choose_spec⟩
  · cases h
/-- one turn of a while -/
theorem whl_eq (c : Ro → Res (Bool × Ro)) (b : Ro → Res (Fl × Ro)) (ρ : Ro) : whl c b ρ = (match c ρ with
    | .ok (true, ρ1) => (match b ρ1 with
      | .ok (.nx, ρ2) => whl c b ρ2
      | .ok (.ct, ρ2) => whl c b ρ2
      | .ok (.bk, ρ2) => .ok (.nx, ρ2)
      | .ok (.rt x, ρ2) => .ok (.rt x, ρ2)
      | .exn e x => .exn e x
      | .bad => .bad)
    | .ok (false, ρ1) => .ok (.nx, ρ1)
    | .exn e x => .exn e x
    | .bad => .bad) := by
  have key : ∀ (ρ2 : Ro), (∀ n, loopN c b (n + 1) ρ = loopN c b n ρ2) → whl c b ρ = whl c b ρ2 := fun ρ2 hl => by
    by_cases hx : ∃ n r, loopN c b n ρ2 = some r
    · obtain ⟨n, r, h⟩ := hx
      rw [whl_of h, whl_of (n := n + 1) (by rw [hl]; exact h)]
    · have hx2 : ¬ ∃ n r, loopN c b n ρ = some r := fun ⟨n, r, h⟩ => by
        cases n with
        | zero => cases h
        | succ n => exact hx ⟨n, r, by rw [← hl]; exact h⟩
      unfold whl
      rw [dif_neg hx, dif_neg hx2]
  split
  · rename_i ρ1 h1
    split
    · rename_i ρ2 h2; exact key ρ2 fun n => by simp only [loopN, h1, h2]
    · rename_i ρ2 h2; exact key ρ2 fun n => by simp only [loopN, h1, h2]
    all_goals (rename_i h2; exact whl_of (n := 1) (by simp only [loopN, h1, h2]))
  all_goals (rename_i h1; exact whl_of (n := 1) (by simp only [loopN, h1]))
def forF (b : PyData → Ro → Res (Fl × Ro)) : List PyData → Ro → Res (Fl × Ro)
  | [], ρ => .ok (.nx, ρ)
  | x :: xs, ρ => match b x ρ with
    | .ok (.nx, ρ2) => forF b xs ρ2
    | .ok (.ct, ρ2) => forF b xs ρ2
    | .ok (.bk, ρ2) => .ok (.nx, ρ2)
    | .ok (.rt x, ρ2) => .ok (.rt x, ρ2)
    | .exn e x => .exn e x
    | .bad => .bad
def kvPut (k : Str) (v : CV) : List (Str × CV) → List (Str × CV)
  | [] => [(k, v)]
  | (a, x) :: r => if a = k then (a, v) :: r else (a, x) :: kvPut k v r
section
variable (T : Tab) (G : Gls)
def augS : Operator → PyData → PV → Res Int
  | .Add, .int a, .d (.int b) => ok (a + b)
  | .Sub, .int a, .d (.int b) => ok (a - b)
  | _, _, _ => bad
noncomputable def denS : S → Ro → Res (Fl × Ro)
  | .nil, ρ => ok (.nx, ρ)
  | .seq s r, ρ => do
    let (f, ρ1) ← denS s ρ
    match f with
    | .nx => denS r ρ1
    | f => ok (f, ρ1)
  | .asg i e, ρ => do let (x, ρ1) ← den T G e ρ; ok (.nx, ρ1.set i (some x))
  | .unp g e, ρ => do
    let (x, ρ1) ← den T G e ρ
    let x' ← x.fz
    let ρ2 ← stTg g x' ρ1
    ok (.nx, ρ2)
  | .aug i op e, ρ => do
    let x ← getD ρ i
    let (y, ρ1) ← den T G e ρ
    let z ← augS op x y
    ok (.nx, ρ1.set i (some (.d (.int z))))
  | .setP p k v, ρ => do
    let (y, ρ1) ← den T G v ρ
    match p with
    | .k i key => (match getRo ρ1 i with
      | none => bad
      | some _ => do
        let (kk, ρ2) ← den T G k ρ1
        match getRo ρ2 i, kk with
        | some (.M kvs), .d (.str s) => (do
          let y' ← y.fz
          match decide (s = key ∧ kvs.length < 1000000), kvGet key kvs with
          | true, some _ => ok (.nx, ρ2.set i (some (.M (kvSet key (.d y') kvs))))
          | _, _ => bad)
        | _, _ => bad)
    | .s i => (match getRo ρ1 i with
      | none => bad
      | some _ => do
        let (kk, ρ2) ← den T G k ρ1
        match getRo ρ2 i, kk with
        | some (.L xs), .d (.int j) => (do
          let y' ← y.fz
          match L2.ixN xs.length j with
          | some m => ok (.nx, ρ2.set i (some (.L (xs.set m y'))))
          | none => bad)
        | _, _ => bad)
  | .setSl p lo hi v, ρ => do
    let (y, ρ1) ← den T G v ρ
    match p with
    | .k _ _ => bad
    | .s i => (match getRo ρ1 i with
      | none => bad
      | some _ => do
        let (l, ρ2) ← den T G lo ρ1
        let (h, ρ3) ← den T G hi ρ2
        let y' ← y.fz
        match getRo ρ3 i, l, h, y' with
        | some (.L xs), .d (.int a), .d (.int b), .list ys => (do
          guard (decide (0 ≤ a ∧ a ≤ b ∧ b ≤ xs.length ∧ xs.length + ys.length ≤ 1000000))
          ok (.nx, ρ3.set i (some (.L (xs.take a.toNat ++ ys ++ xs.drop b.toNat)))))
        | _, _, _, _ => bad)
  | .ex e, ρ => do let (_, ρ1) ← den T G e ρ; ok (.nx, ρ1)
  | .ife c a b, ρ => do
    let (x, ρ1) ← den T G c ρ
    let t ← asBool x
    if t then denS a ρ1 else denS b ρ1
  | .whl c b, ρ => whl (fun ρ => do let (x, ρ1) ← den T G c ρ; let t ← asBool x; ok (t, ρ1)) (fun ρ => denS b ρ) ρ
  | .for_ g it b, ρ => do
    let (xs, ρ1) ← deni T G it ρ
    forF (fun x ρ => do let ρ2 ← stTg g x ρ; denS b ρ2) xs ρ1
  | .ret e, ρ => do let (x, ρ1) ← den T G e ρ; ok (.rt x, ρ1)
  | .retN, ρ => ok (.rt (.d .none), ρ)
  | .pass, ρ => ok (.nx, ρ)
  | .brk, ρ => ok (.bk, ρ)
  | .cnt, ρ => ok (.ct, ρ)
  | .raise c e, ρ => do let (x, _) ← den T G e ρ; let x' ← x.fz; exn c x'
end
/-! ### the functions of a text -/
structure Fn where
  name : Str
  N : List Str
  np : Nat
  io : List Nat
  body : S
abbrev Prg := List Fn
def takeRo (io : List Nat) (n : Nat) (ρ : Ro) : Ro := (List.range n).map fun j => if io.contains j then getRo ρ j else none
noncomputable def run (P : Prg) (G : Gls) : Nat → Tab
  | 0, _, _ => bad
  | n + 1, f, xs => match P[f]? with
    | none => bad
    | some d => do
      guard (decide (xs.length = d.np))
      let (fl, ρ) ← denS (run P G n) G d.body (xs.map some ++ List.replicate (d.N.length - d.np) none)
      match fl with
      | .rt x => ok (x, takeRo d.io d.np ρ)
      | .nx => ok (.d .none, takeRo d.io d.np ρ)
      | _ => bad
end Rf
set_option maxRecDepth 100000
set_option maxHeartbeats 2000000
/-! Rf, part B: how values stand in the abstract heap. -/
namespace Rf
open PySem L2 Evl
abbrev Frag := PySem.W.Frag
abbrev As := Addr → Prop
def none0 : As := fun _ => False

/-! ### settled data under a growing heap -/
/-- a list that is read: known, or wholly an object of the written part -/
def RdL (K : Frag) (F : Hp) (a : Addr) (xs : List V) : Prop := Rd F a (.lst xs) ∨ ∃ (its : Array Value) (n : Nat), K.lookup a = some { cls := .type "list", data := .seq its n } ∧ its.size ≤ sizeLine ∧ Vals xs its.toList
theorem RdL.sq {K : Frag} {F : Hp} {a : Addr} {xs : List V} (h : RdL K F a xs) : SqL K F a xs := by
  rcases h with h | ⟨its, n, h1, h2, h3⟩
  · exact .inl h
  · exact .inr ⟨_, its, n, h1, rfl, rfl, rfl, h2, h3⟩
theorem RdL.up {K : Frag} {F F' : Hp} {a : Addr} {xs : List V} (h : RdL K F a xs) (e : Ex F F') : RdL K F' a xs := by
  rcases h with h | h
  · exact .inl (ex_rd e h)
  · exact .inr h
mutual
/-- settled data -/
inductive Rp (K : Frag) (F : Hp) : V → PyData → Prop
  | non : Rp K F .non .none
  | bl (b : Bool) : Rp K F (.bl b) (.bool b)
  | int (i : Int) : Rp K F (.int i) (.int i)
  | str (x : Str) : Rp K F (.str x) (.str x)
  | lst {a : Addr} {xs : List V} {ds : List PyData} : RdL K F a xs → Rps K F xs ds → Rp K F (.ref a) (.list ds)
  | tup {a : Addr} {xs : List V} {ds : List PyData} : SqT K F a xs → Rps K F xs ds → Rp K F (.ref a) (.tuple ds)
inductive Rps (K : Frag) (F : Hp) : List V → List PyData → Prop
  | nil : Rps K F [] []
  | cons {v : V} {vs : List V} {d : PyData} {ds : List PyData} : Rp K F v d → Rps K F vs ds → Rps K F (v :: vs) (d :: ds)
end
/-- a constant dict's entries -/
def Ents (K : Frag) : List DictEntry → List (PyData × PyData) → Prop
  | [], [] => True
  | e :: es, (.str k, d) :: r => (∃ t, e.key = .str k t) ∧ (∃ v, RelV v e.val ∧ ∀ H, Rp K H v d) ∧ Ents K es r
  | _, _ => False
/-- a module's constant -/
def GOk (K : Frag) (w : World) (v : V) : PyData → Prop
  | .dict kvs => ∃ p es n, v = .ref p ∧ K.lookup p = some ⟨.type "dict", none, .dict es n, #[]⟩ ∧ PySem.W.KeysLit w.params es.toList ∧ (p == sysModules) = false ∧ Ents K es.toList kvs
  | d => ∀ H, Rp K H v d
section
variable {K : Frag} {F F' H H' : Hp}
mutual
theorem toDp : ∀ (d : PyData) (v : V), Rp K F v d → Dp K F v d
  | .none, _, h => by cases h; exact .non
  | .bool b, _, h => by cases h; exact .bl b
  | .int i, _, h => by cases h; exact .int i
  | .str x, _, h => by cases h; exact .str x
  | .list ds, _, h => by
    cases h with
    | lst hs ha => exact .lst hs.sq (toDps ds _ ha)
  | .tuple ds, _, h => by
    cases h with
    | tup hs ha => exact .tup hs (toDps ds _ ha)
  | .dict _, _, h => by cases h
theorem toDps : ∀ (ds : List PyData) (vs : List V), Rps K F vs ds → DpAll K F vs ds
  | [], _, h => by cases h; exact .nil
  | d :: ds, _, h => by
    cases h with
    | cons h1 h2 => exact .cons (toDp d _ h1) (toDps ds _ h2)
end
mutual
theorem dp_mono (e : Ex F F') : ∀ (d : PyData) (v : V), Rp K F v d → Rp K F' v d
  | .none, _, h => by cases h; exact .non
  | .bool b, _, h => by cases h; exact .bl b
  | .int i, _, h => by cases h; exact .int i
  | .str x, _, h => by cases h; exact .str x
  | .list ds, _, h => by
    cases h with
    | lst hs ha => exact .lst (hs.up e) (dps_mono e ds _ ha)
  | .tuple ds, _, h => by
    cases h with
    | tup hs ha => exact .tup (ex_t e hs) (dps_mono e ds _ ha)
  | .dict _, _, h => by cases h
theorem dps_mono (e : Ex F F') : ∀ (ds : List PyData) (vs : List V), Rps K F vs ds → Rps K F' vs ds
  | [], _, h => by cases h; exact .nil
  | d :: ds, _, h => by
    cases h with
    | cons h1 h2 => exact .cons (dp_mono e d _ h1) (dps_mono e ds _ h2)
end
theorem Rp.up (e : Ex F F') {d : PyData} {v : V} (h : Rp K F v d) : Rp K F' v d := dp_mono e d v h
theorem Rps.up (e : Ex F F') {d : List PyData} {v : List V} (h : Rps K F v d) : Rps K F' v d := dps_mono e d v h
theorem Rps.length : ∀ {vs : List V} {ds : List PyData}, Rps K F vs ds → vs.length = ds.length
  | _, _, .nil => rfl
  | _, _, .cons _ h => by simp [Rps.length h]
theorem Rps.get : ∀ {vs : List V} {ds : List PyData} {i : Nat} {d : PyData}, Rps K F vs ds → ds[i]? = some d → ∃ v, vs[i]? = some v ∧ Rp K F v d
  | _, _, _, _, .nil, h => by simp at h
  | _, _, 0, _, .cons h _, e => by simp at e; subst e; exact ⟨_, rfl, h⟩
  | _, _, i + 1, _, .cons _ h, e => by
    obtain ⟨v, h1, h2⟩ := Rps.get (i := i) h (by simpa using e)
    exact ⟨v, by simpa using h1, h2⟩
theorem Rps.getV : ∀ {vs : List V} {ds : List PyData} {i : Nat} {v : V}, Rps K F vs ds → vs[i]? = some v → ∃ d, ds[i]? = some d ∧ Rp K F v d
  | _, _, _, _, .nil, h => by simp at h
  | _, _, 0, _, .cons h _, e => by simp at e; subst e; exact ⟨_, rfl, h⟩
  | _, _, i + 1, _, .cons _ h, e => by
    obtain ⟨v, h1, h2⟩ := Rps.getV (i := i) h (by simpa using e)
    exact ⟨v, by simpa using h1, h2⟩
theorem Rps.append : ∀ {vs ws : List V} {ds es : List PyData}, Rps K F vs ds → Rps K F ws es → Rps K F (vs ++ ws) (ds ++ es)
  | _, _, _, _, .nil, h => h
  | _, _, _, _, .cons a b, h => .cons a (Rps.append b h)
theorem Rps.take : ∀ {vs : List V} {ds : List PyData} (n : Nat), Rps K F vs ds → Rps K F (vs.take n) (ds.take n)
  | _, _, 0, _ => .nil
  | _, _, n + 1, .nil => .nil
  | _, _, n + 1, .cons a b => .cons a (Rps.take n b)
theorem Rps.drop : ∀ {vs : List V} {ds : List PyData} (n : Nat), Rps K F vs ds → Rps K F (vs.drop n) (ds.drop n)
  | _, _, 0, h => h
  | _, _, n + 1, .nil => .nil
  | _, _, n + 1, .cons a b => Rps.drop n b
theorem Rps.set {v : V} {d : PyData} (h : Rp K F v d) : ∀ {vs : List V} {ds : List PyData} (n : Nat), Rps K F vs ds → Rps K F (vs.set n v) (ds.set n d)
  | _, _, _, .nil => .nil
  | _, _, 0, .cons a b => .cons h b
  | _, _, n + 1, .cons a b => .cons a (Rps.set h n b)
theorem Rps.dropLast : ∀ {vs : List V} {ds : List PyData}, Rps K F vs ds → Rps K F vs.dropLast ds.dropLast := fun {vs ds} h => by
  rw [List.dropLast_eq_take, List.dropLast_eq_take, h.length]
  exact h.take _
theorem Rps.eraseIdx : ∀ {vs : List V} {ds : List PyData} (n : Nat), Rps K F vs ds → Rps K F (vs.eraseIdx n) (ds.eraseIdx n)
  | _, _, _, .nil => by simp; exact .nil
  | _, _, 0, .cons a b => b
  | _, _, n + 1, .cons a b => .cons a (Rps.eraseIdx n b)
theorem Rps.reverse : ∀ {vs : List V} {ds : List PyData}, Rps K F vs ds → Rps K F vs.reverse ds.reverse
  | _, _, .nil => .nil
  | _, _, .cons a b => by
    rw [List.reverse_cons, List.reverse_cons]
    exact (Rps.reverse b).append (.cons a .nil)
theorem Rp.int_inv {v : V} {i : Int} (h : Rp K F v (.int i)) : v = .int i := by cases h; rfl
theorem Rp.bl_inv {v : V} {i : Bool} (h : Rp K F v (.bool i)) : v = .bl i := by cases h; rfl
theorem Rp.str_inv {v : V} {i : Str} (h : Rp K F v (.str i)) : v = .str i := by cases h; rfl
theorem Rp.non_inv {v : V} (h : Rp K F v .none) : v = .non := by cases h; rfl
theorem Rp.lst_inv {v : V} {ds : List PyData} (h : Rp K F v (.list ds)) : ∃ a xs, v = .ref a ∧ RdL K F a xs ∧ Rps K F xs ds := by
  cases h with
  | lst hs ha => exact ⟨_, _, rfl, hs, ha⟩
theorem Rp.tup_inv {v : V} {ds : List PyData} (h : Rp K F v (.tuple ds)) : ∃ a xs, v = .ref a ∧ SqT K F a xs ∧ Rps K F xs ds := by
  cases h with
  | tup hs ha => exact ⟨_, _, rfl, hs, ha⟩
theorem Rp.non_iff {v : V} {d : PyData} (h : Rp K F v d) : decide (v = .non) = (match d with | .none => true | _ => false) := by
  cases h <;> rfl

/-! ### an operand: settled, or a list of one's own with settled items -/
inductive Opd (K : Frag) (F H : Hp) : V → PyData → Prop where
  | d {v : V} {x : PyData} : Rp K F v x → Opd K F H v x
  | L {p : Addr} {ys : List V} {xs : List PyData} : H p = some (.lst ys) → Rps K F ys xs → Opd K F H (.ref p) (.list xs)
theorem Opd.rp (e : Ex F H) {v : V} {x : PyData} (h : Opd K F H v x) : Rp K H v x := by
  cases h with
  | d h => exact h.up e
  | L h1 h2 => exact .lst (.inl (.inl h1)) (h2.up e)
theorem Opd.int_inv {v : V} {i : Int} (h : Opd K F H v (.int i)) : v = .int i := by cases h with | d h => exact h.int_inv
theorem Opd.bl_inv {v : V} {i : Bool} (h : Opd K F H v (.bool i)) : v = .bl i := by cases h with | d h => exact h.bl_inv
theorem Opd.str_inv {v : V} {i : Str} (h : Opd K F H v (.str i)) : v = .str i := by cases h with | d h => exact h.str_inv
theorem Opd.non_inv {v : V} (h : Opd K F H v .none) : v = .non := by cases h with | d h => exact h.non_inv
theorem Opd.lst_inv (e : Ex F H) {v : V} {ds : List PyData} (h : Opd K F H v (.list ds)) : ∃ a xs, v = .ref a ∧ RdL K H a xs ∧ Rps K F xs ds := by
  cases h with
  | d h =>
    obtain ⟨a, xs, e1, e2, e3⟩ := h.lst_inv
    exact ⟨a, xs, e1, e2.up e, e3⟩
  | L h1 h2 => exact ⟨_, _, rfl, .inl (.inl h1), h2⟩
theorem Opd.tup_inv (e : Ex F H) {v : V} {ds : List PyData} (h : Opd K F H v (.tuple ds)) : ∃ a xs, v = .ref a ∧ SqT K H a xs ∧ Rps K F xs ds := by
  cases h with
  | d h =>
    obtain ⟨a, xs, e1, e2, e3⟩ := h.tup_inv
    exact ⟨a, xs, e1, ex_t e e2, e3⟩
end

/-! ### what is one's own -/
/-- the items of a dict of one's own; as: the lists among them -/
inductive Cvs (K : Frag) (F H : Hp) : List (Key × V) → List (Str × CV) → List Addr → Prop where
  | nil : Cvs K F H [] [] []
  | d {k : Str} {v : V} {x : PyData} {r : List (Key × V)} {s : List (Str × CV)} {as : List Addr} : Rp K F v x → Cvs K F H r s as → Cvs K F H ((.inr k, v) :: r) ((k, .d x) :: s) as
  | L {k : Str} {q : Addr} {ys : List V} {xs : List PyData} {r : List (Key × V)} {s : List (Str × CV)} {as : List Addr} :
      H q = some (.lst ys) → Rps K F ys xs → q ∉ as → Cvs K F H r s as → Cvs K F H ((.inr k, .ref q) :: r) ((k, .L xs) :: s) (q :: as)
inductive Ow (K : Frag) (F H : Hp) : V → PV → As → Prop where
  | d {v : V} {x : PyData} {P : As} : Rp K F v x → Ow K F H v (.d x) P
  | L {p : Addr} {ys : List V} {xs : List PyData} {P : As} : P p → H p = some (.lst ys) → Rps K F ys xs → Ow K F H (.ref p) (.L xs) P
  | M {p : Addr} {kvs : List (Key × V)} {pvs : List (Str × CV)} {as : List Addr} {P : As} : P p → H p = some (.dK kvs) → Cvs K F H kvs pvs as → p ∉ as → (∀ a ∈ as, P a) → (pvs.map (·.1)).Nodup → Ow K F H (.ref p) (.M pvs) P
section
variable {K : Frag} {F F' H H' : Hp}
theorem Cvs.up (e : Ex F F') : ∀ {kvs : List (Key × V)} {pvs : List (Str × CV)} {as : List Addr}, (∀ a ∈ as, ∀ o, H a = some o → H' a = some o) → Cvs K F H kvs pvs as → Cvs K F' H' kvs pvs as
  | _, _, _, _, .nil => .nil
  | _, _, _, k, .d h r => .d (h.up e) (Cvs.up e k r)
  | _, _, _, k, .L h1 h2 h3 r => .L (k _ List.mem_cons_self _ h1) (h2.up e) h3 (Cvs.up e (fun a ha => k a (List.mem_cons_of_mem _ ha)) r)
theorem Ow.up (e : Ex F F') {v : V} {x : PV} {P P' : As} (h : Ow K F H v x P) (k : ∀ a, P a → ∀ o, H a = some o → H' a = some o) (s : ∀ a, P a → P' a) : Ow K F' H' v x P' := by
  cases h with
  | d h => exact .d (h.up e)
  | L hp h1 h2 => exact .L (s _ hp) (k _ hp _ h1) (h2.up e)
  | M hp h1 h2 h3 h4 h5 => exact .M (s _ hp) (k _ hp _ h1) (Cvs.up e (fun a ha => k a (h4 a ha)) h2) h3 (fun a ha => s a (h4 a ha)) h5
theorem Ow.opd {v : V} {x : PV} {P : As} {y : PyData} (h : Ow K F H v x P) (e : x.fz = .ok y) : Opd K F H v y := by
  cases h with
  | d h => cases e; exact .d h
  | L hp h1 h2 => cases e; exact .L h1 h2
  | M hp h1 h2 h3 h4 => cases e
theorem Ow.dat {v : V} {x : PyData} {P : As} (h : Ow K F H v (.d x) P) : Rp K F v x := by
  cases h with
  | d h => exact h
end

/-! ### the state -/
/-- what never changes -/
def fixd : HO → Bool
  | .tup _ => true
  | .frz _ _ => true
  | _ => false
/-- known, and such as may change -/
def Mu (o : Option HO) : Prop := ∃ u, o = some u ∧ fixd u = false
theorem Mu.ne {o : Option HO} (h : Mu o) : o ≠ none := by
  obtain ⟨u, e, _⟩ := h
  rw [e]; simp
structure St (K : Frag) (F H : Hp) (σ : L2.St) (ρ : Ro) (fp : Nat → As) : Prop where
  le : Ex F H
  len : σ.length = ρ.length
  ow : ∀ i x, getRo ρ i = some x → ∃ v, σ[i]? = some (some v) ∧ Ow K F H v x (fp i)
  dj : ∀ i j a, fp i a → fp j a → i = j
  kn : ∀ i a, fp i a → Mu (H a)
  nf : ∀ i a, fp i a → F a = none
/-- from one state to a later one -/
structure Xt (F H : Hp) (fp : Nat → As) (F' H' : Hp) (fp' : Nat → As) : Prop where
  ff : Ex F F'
  fr : ∀ a o, H a = some o → (∀ i, ¬ fp i a) → H' a = some o
  le : Ex F' H'
  nw : ∀ a o, F' a = some o → F a = some o ∨ H a = none ∨ (∃ i, fp i a) ∨ fixd o = true
  sub : ∀ i a, fp' i a → (∃ j, fp j a) ∨ H a = none
  kn : ∀ a, H a ≠ none → H' a ≠ none
/-- a value in hand -/
structure Hd (K : Frag) (F H : Hp) (fp : Nat → As) (v : V) (x : PV) (P : As) : Prop where
  ow : Ow K F H v x P
  nf : ∀ a, P a → F a = none
  kn : ∀ a, P a → Mu (H a)
  dj : ∀ a, P a → ∀ i, ¬ fp i a
theorem Xt.refl {F H : Hp} {fp : Nat → As} (e : Ex F H) : Xt F H fp F H fp := ⟨Ex.refl F, fun _ _ h _ => h, e, fun _ _ h => .inl h, fun i _ h => .inl ⟨i, h⟩, fun _ h => h⟩
theorem Xt.trans {F H F1 H1 F2 H2 : Hp} {fp fp1 fp2 : Nat → As} (x : Xt F H fp F1 H1 fp1) (y : Xt F1 H1 fp1 F2 H2 fp2) : Xt F H fp F2 H2 fp2 where
  ff := x.ff.trans y.ff
  fr := fun a o h n => y.fr a o (x.fr a o h n) fun i hi => by
    rcases x.sub i a hi with ⟨j, hj⟩ | hn
    · exact n j hj
    · rw [hn] at h; cases h
  le := y.le
  nw := fun a o h => by
    have back : H1 a = none → H a = none := fun h1 => by
      cases q : H a with
      | none => rfl
      | some u => exact absurd h1 (x.kn a (by rw [q]; simp))
    rcases y.nw a o h with h1 | h1 | ⟨i, h1⟩ | h1
    · exact x.nw a o h1
    · exact .inr (.inl (back h1))
    · rcases x.sub i a h1 with h2 | h2
      · exact .inr (.inr (.inl h2))
      · exact .inr (.inl h2)
    · exact .inr (.inr (.inr h1))
  sub := fun i a h => by
    rcases y.sub i a h with ⟨j, hj⟩ | h1
    · exact x.sub j a hj
    · refine .inr ?_
      cases q : H a with
      | none => rfl
      | some u => exact absurd h1 (x.kn a (by rw [q]; simp))
  kn := fun a h => y.kn a (x.kn a h)
/-- what is in hand stays in hand -/
theorem Hd.keep {K : Frag} {F H F' H' : Hp} {fp fp' : Nat → As} {v : V} {x : PV} {P : As} (h : Hd K F H fp v x P) (t : Xt F H fp F' H' fp') : Hd K F' H' fp' v x P where
  ow := h.ow.up t.ff (fun a ha o e => t.fr a o e (h.dj a ha)) fun _ z => z
  nf := fun a ha => by
    cases q : F' a with
    | none => rfl
    | some o =>
      rcases t.nw a o q with h1 | h1 | ⟨i, h1⟩ | h1
      · rw [h.nf a ha] at h1; cases h1
      · exact absurd h1 (h.kn a ha).ne
      · exact absurd h1 (h.dj a ha i)
      · obtain ⟨u, e, hu⟩ := h.kn a ha
        have e2 := t.fr a u e (h.dj a ha)
        rw [t.le a o q] at e2
        cases e2
        rw [hu] at h1; cases h1
  kn := fun a ha => by
    obtain ⟨u, e, hu⟩ := h.kn a ha
    exact ⟨u, t.fr a u e (h.dj a ha), hu⟩
  dj := fun a ha i hi => by
    rcases t.sub i a hi with ⟨j, hj⟩ | h1
    · exact h.dj a ha j hj
    · exact (h.kn a ha).ne h1
/-- new objects alone -/
structure Nw (F H F' H' : Hp) : Prop where
  le : Ex F' H'
  ff : Ex F F'
  hh : Ex H H'
  nw : ∀ a o, F' a = some o → F a = some o ∨ H a = none ∨ fixd o = true
theorem Nw.refl {F H : Hp} (e : Ex F H) : Nw F H F H := ⟨e, Ex.refl F, Ex.refl H, fun _ _ h => .inl h⟩
theorem Nw.xt {F H F' H' : Hp} {fp : Nat → As} (n : Nw F H F' H') : Xt F H fp F' H' fp where
  ff := n.ff
  fr := fun a o h _ => n.hh a o h
  le := n.le
  nw := fun a o h => by
    rcases n.nw a o h with h1 | h1 | h1
    · exact .inl h1
    · exact .inr (.inl h1)
    · exact .inr (.inr (.inr h1))
  sub := fun i a h => .inl ⟨i, h⟩
  kn := fun a h => by
    cases q : H a with
    | none => exact absurd q h
    | some o => rw [n.hh a o q]; simp
theorem Nw.st {K : Frag} {F H F' H' : Hp} {σ : L2.St} {ρ : Ro} {fp : Nat → As} (n : Nw F H F' H') (s : St K F H σ ρ fp) : St K F' H' σ ρ fp where
  le := n.le
  len := s.len
  ow := fun i x h => by
    obtain ⟨v, h1, h2⟩ := s.ow i x h
    exact ⟨v, h1, h2.up n.ff (fun a _ o e => n.hh a o e) fun _ z => z⟩
  dj := s.dj
  kn := fun i a h => by
    obtain ⟨u, e, hu⟩ := s.kn i a h
    exact ⟨u, n.hh a u e, hu⟩
  nf := fun i a h => by
    cases q : F' a with
    | none => rfl
    | some o =>
      rcases n.nw a o q with h1 | h1 | h1
      · rw [s.nf i a h] at h1; cases h1
      · exact absurd h1 (s.kn i a h).ne
      · obtain ⟨u, e, hu⟩ := s.kn i a h
        have e2 := n.hh a u e
        rw [n.le a o q] at e2
        cases e2
        rw [hu] at h1; cases h1
/-- a result of new objects alone -/
structure Rs (K : Frag) (F H F' H' : Hp) (v : V) (x : PV) : Prop where
  nw : Nw F H F' H'
  ow : Ow K F' H' v x (fun a => H a = none ∧ F' a = none ∧ Mu (H' a))
theorem Rs.hd {K : Frag} {F H F' H' : Hp} {σ : L2.St} {ρ : Ro} {fp : Nat → As} {v : V} {x : PV} (r : Rs K F H F' H' v x) (s : St K F H σ ρ fp) : Hd K F' H' fp v x (fun a => H a = none ∧ F' a = none ∧ Mu (H' a)) :=
  ⟨r.ow, fun _ h => h.2.1, fun _ h => h.2.2, fun a h i hi => (s.kn i a hi).ne h.1⟩
/-- a value without objects -/
theorem Rs.same {K : Frag} {F H : Hp} {v : V} {x : PyData} (e : Ex F H) (h : Rp K F v x) : Rs K F H F H v (.d x) := ⟨Nw.refl e, .d h⟩
/-- a new list -/
theorem Rs.newL {K : Frag} {F H : Hp} {p : Addr} {ys : List V} {xs : List PyData} (e : Ex F H) (hp : H p = none) (h : Rps K F ys xs) : Rs K F H F (upd H p (.lst ys)) (.ref p) (.L xs) :=
  ⟨⟨e.trans (Ex.new hp), Ex.refl F, Ex.new hp, fun _ _ h => .inl h⟩, .L ⟨hp, fresh_back e hp, ⟨_, upd_same, rfl⟩⟩ upd_same h⟩
/-- a new tuple -/
theorem Rs.newT {K : Frag} {F H : Hp} {p : Addr} {ys : List V} {xs : List PyData} (e : Ex F H) (hp : H p = none) (h : Rps K F ys xs) : Rs K F H (upd F p (.tup ys)) (upd H p (.tup ys)) (.ref p) (.d (.tuple xs)) := by
  have hf := fresh_back e hp
  refine ⟨⟨fun a o ha => ?_, Ex.new hf, Ex.new hp, fun a o ha => ?_⟩, .d (.tup (st_of upd_same) (h.up (Ex.new hf)))⟩
  · by_cases q : a = p
    · subst q; rw [upd_same] at ha ⊢; exact ha
    · rw [upd_ne q] at ha ⊢; exact e a o ha
  · by_cases q : a = p
    · subst q; exact .inr (.inl hp)
    · rw [upd_ne q] at ha; exact .inl ha

/-! ### places -/
theorem getRo_lt {ρ : Ro} {i : Nat} {x : PV} (h : getRo ρ i = some x) : i < ρ.length := by
  unfold getRo at h
  cases q : ρ[i]? with
  | none => rw [q] at h; cases h
  | some y => exact (List.getElem?_eq_some_iff.mp q).1
theorem getRo_set_self {ρ : Ro} {i : Nat} {o : Option PV} (h : i < ρ.length) : getRo (ρ.set i o) i = o := by
  unfold getRo
  rw [List.getElem?_set_self h]
  cases o <;> rfl
theorem getRo_set_ne {ρ : Ro} {i j : Nat} {o : Option PV} (h : i ≠ j) : getRo (ρ.set i o) j = getRo ρ j := by
  unfold getRo
  rw [List.getElem?_set_ne h]
theorem getRo_set {ρ : Ro} {i j : Nat} {o : Option PV} {x : PV} (h : getRo (ρ.set i o) j = some x) : (i = j ∧ o = some x) ∨ (i ≠ j ∧ getRo ρ j = some x) := by
  by_cases e : i = j
  · subst e
    have hl : i < ρ.length := by
      have := getRo_lt h
      simpa using this
    rw [getRo_set_self hl] at h
    exact .inl ⟨rfl, h⟩
  · rw [getRo_set_ne e] at h
    exact .inr ⟨e, h⟩
/-- footprints with one changed -/
def fpSet (fp : Nat → As) (i : Nat) (P : As) : Nat → As := fun j => if j = i then P else fp j
theorem fpSet_self {fp : Nat → As} {i : Nat} {P : As} : fpSet fp i P i = P := if_pos rfl
theorem fpSet_ne {fp : Nat → As} {i j : Nat} {P : As} (h : j ≠ i) : fpSet fp i P j = fp j := if_neg h
theorem fpSet_cases {fp : Nat → As} {i j : Nat} {P : As} {a : Addr} (h : fpSet fp i P j a) : (j = i ∧ P a) ∨ (j ≠ i ∧ fp j a) := by
  by_cases e : j = i
  · subst e; rw [fpSet_self] at h; exact .inl ⟨rfl, h⟩
  · rw [fpSet_ne e] at h; exact .inr ⟨e, h⟩
section
variable {K : Frag} {F H : Hp} {σ : L2.St} {ρ : Ro} {fp : Nat → As}
/-- a value in hand is stored at a name -/
theorem St.put (s : St K F H σ ρ fp) {v : V} {x : PV} {P : As} (h : Hd K F H fp v x P) (i : Nat) : St K F H (σ.set i (some v)) (ρ.set i (some x)) (fpSet fp i P) where
  le := s.le
  len := by simp [s.len]
  ow := fun j y hj => by
    rcases getRo_set hj with ⟨e, e2⟩ | ⟨e, h2⟩
    · subst e
      cases e2
      have hl : i < σ.length := by rw [s.len]; simpa using getRo_lt hj
      exact ⟨v, by rw [List.getElem?_set_self hl], by rw [fpSet_self]; exact h.ow⟩
    · obtain ⟨w, h3, h4⟩ := s.ow j y h2
      exact ⟨w, by rw [List.getElem?_set_ne e]; exact h3, by rw [fpSet_ne (Ne.symm e)]; exact h4⟩
  dj := fun j k a hj hk => by
    rcases fpSet_cases hj with ⟨e, h1⟩ | ⟨e, h1⟩ <;> rcases fpSet_cases hk with ⟨e', h2⟩ | ⟨e', h2⟩
    · rw [e, e']
    · exact absurd h2 (h.dj a h1 k)
    · exact absurd h1 (h.dj a h2 j)
    · exact s.dj j k a h1 h2
  kn := fun j a hj => by
    rcases fpSet_cases hj with ⟨e, h1⟩ | ⟨e, h1⟩
    · exact h.kn a h1
    · exact s.kn j a h1
  nf := fun j a hj => by
    rcases fpSet_cases hj with ⟨e, h1⟩ | ⟨e, h1⟩
    · exact h.nf a h1
    · exact s.nf j a h1
/-- settled data stored at a name -/
theorem St.putD (s : St K F H σ ρ fp) {v : V} {x : PyData} (h : Rp K F v x) (i : Nat) : St K F H (σ.set i (some v)) (ρ.set i (some (.d x))) (fpSet fp i none0) :=
  s.put (P := none0) ⟨.d h, fun _ z => z.elim, fun _ z => z.elim, fun _ z => z.elim⟩ i
/-- forget a name -/
theorem St.drop (s : St K F H σ ρ fp) (i : Nat) : St K F H σ (ρ.set i none) fp where
  le := s.le
  len := by simp [s.len]
  ow := fun j y hj => by
    rcases getRo_set hj with ⟨_, e2⟩ | ⟨_, h2⟩
    · cases e2
    · exact s.ow j y h2
  dj := s.dj
  kn := s.kn
  nf := s.nf
/-- .. and take its value in hand -/
theorem St.take (s : St K F H σ ρ fp) {i : Nat} {x : PV} (h : getRo ρ i = some x) : ∃ v, σ[i]? = some (some v) ∧ St K F H σ (ρ.set i none) (fpSet fp i none0) ∧ Xt F H fp F H (fpSet fp i none0) ∧ Hd K F H (fpSet fp i none0) v x (fp i) := by
  obtain ⟨v, h1, h2⟩ := s.ow i x h
  refine ⟨v, h1, ⟨s.le, by simp [s.len], fun j y hj => ?_, fun j k a hj hk => ?_, fun j a hj => ?_, fun j a hj => ?_⟩, ⟨Ex.refl F, fun _ _ h _ => h, s.le, fun _ _ h => .inl h, fun j a hj => ?_, fun _ h => h⟩, ⟨h2, s.nf i, s.kn i, fun a ha j hj => ?_⟩⟩
  · rcases getRo_set hj with ⟨_, e2⟩ | ⟨e, h2⟩
    · cases e2
    · rw [fpSet_ne (Ne.symm e)]; exact s.ow j y h2
  · rcases fpSet_cases hj with ⟨_, h1⟩ | ⟨_, h1⟩
    · exact h1.elim
    · rcases fpSet_cases hk with ⟨_, h2⟩ | ⟨_, h2⟩
      · exact h2.elim
      · exact s.dj j k a h1 h2
  · rcases fpSet_cases hj with ⟨_, h1⟩ | ⟨_, h1⟩
    · exact h1.elim
    · exact s.kn j a h1
  · rcases fpSet_cases hj with ⟨_, h1⟩ | ⟨_, h1⟩
    · exact h1.elim
    · exact s.nf j a h1
  · rcases fpSet_cases hj with ⟨_, h1⟩ | ⟨_, h1⟩
    · exact h1.elim
    · exact .inl ⟨j, h1⟩
  · rcases fpSet_cases hj with ⟨_, h1⟩ | ⟨e, h1⟩
    · exact h1.elim
    · exact e (s.dj j i a h1 ha)
/-- a list in hand is settled -/
theorem Hd.settle (s : St K F H σ ρ fp) {v : V} {x : PV} {y : PyData} {P : As} (h : Hd K F H fp v x P) (e : x.fz = .ok y) :
    ∃ F', St K F' H σ ρ fp ∧ Ex F F' ∧ (∀ a o, F' a = some o → F a = some o ∨ P a) ∧ Rp K F' v y := by
  cases hx : h.ow with
  | d hd => cases e; exact ⟨F, s, Ex.refl F, fun _ _ h => .inl h, hd⟩
  | @L p ys xs _ hp h1 h2 =>
    cases e
    have hf := h.nf p hp
    refine ⟨upd F p (.lst ys), ⟨fun a o ha => ?_, s.len, fun i z hz => ?_, s.dj, s.kn, fun i a hi => ?_⟩, Ex.new hf, fun a o ha => ?_, .lst (.inl (.inl upd_same)) (h2.up (Ex.new hf))⟩
    · by_cases q : a = p
      · subst q; rw [upd_same] at ha; cases ha; exact h1
      · rw [upd_ne q] at ha; exact s.le a o ha
    · obtain ⟨w, e1, e2⟩ := s.ow i z hz
      exact ⟨w, e1, e2.up (Ex.new hf) (fun _ _ _ e => e) fun _ z => z⟩
    · have : a ≠ p := fun q => h.dj p hp i (q ▸ hi)
      rw [upd_ne this]; exact s.nf i a hi
    · by_cases q : a = p
      · subst q; exact .inr hp
      · rw [upd_ne q] at ha; exact .inl ha
  | M => cases e
end
end Rf
set_option maxRecDepth 100000
set_option maxHeartbeats 4000000
/-! Rf, part C: the look at the text, the readings of terms. -/
namespace Rf
open PySem L2 Evl

/-! ### the look -/
def vis (sc : Scope) (x : Str) : Bool := (match sc.names.lookup x with | some .local => true | some .cell => true | some .free => true | _ => false) && !(x == ("__debug__" : Str)) && !(x == ("__classdict__" : Str))
def glo (sc : Scope) (x : Str) : Bool := (match sc.names.lookup x with | some .globalImplicit => true | _ => false) && !(x == ("__debug__" : Str)) && !(x == ("__name__" : Str))
def sto (top : Bool) (sc : Scope) (x : Str) : Bool := match sc.names.lookup x with
  | some .local => true
  | some .cell => top
  | _ => false
def biName : Bi → Str
  | .len => "len" | .max => "max" | .min => "min" | .abs => "abs" | .int => "int" | .str => "str" | .list => "list" | .tuple => "tuple"
  | .sum => "sum" | .all => "all" | .any => "any" | .sorted => "sorted" | .reversed => "reversed"
def tyName : Ty → Str
  | .int => "int" | .bool => "bool" | .tuple => "tuple" | .list => "list" | .str => "str"
def mtName : Mt → Str
  | .append => "append" | .pop => "pop" | .popAt => "pop" | .extend => "extend" | .clear => "clear" | .reverse => "reverse" | .index => "index" | .count => "count"
def mvName : Mv → Str
  | .lindex => "index" | .join => "join" | .split => "split" | .partition => "partition" | .find => "find" | .startswith => "startswith" | .rstripC => "rstrip" | .scount => "count"
def isAnd : E → Bool
  | .and _ _ => true
  | _ => false
def isOr : E → Bool
  | .or _ _ => true
  | _ => false
def noStar : Expr → Bool
  | .Starred .. => false
  | _ => true
def noCall : Expr → Bool
  | .Call .. => false
  | _ => true
def noSlice : Expr → Bool
  | .Slice .. => false
  | _ => true
/-- a built-in of this number of arguments is known here -/
def biOk : Bi → Nat → Bool
  | .max, 1 => true | .max, 2 => true | .max, 3 => true
  | .min, 1 => true | .min, 2 => true | .min, 3 => true
  | .all, 1 => true | .any, 1 => true
  | .len, 1 => true | .abs, 1 => true | .int, 1 => true | .str, 1 => true | .list, 1 => true | .tuple, 1 => true | .sum, 1 => true
  | _, _ => false
def builtinsUsed : List Str := ["len", "max", "min", "abs", "int", "str", "list", "tuple", "sum", "all", "any", "sorted", "reversed", "isinstance", "bool", "range", "enumerate", "zip"]
def isPos : Nat → List (Option Nat) → List Nat → Bool
  | _, [], _ => true
  | j, some _ :: r, io => io.contains j && isPos (j + 1) r io
  | j, none :: r, io => isPos (j + 1) r io
def keysAre : List Str → List (Option Expr) → Bool
  | [], [] => true
  | k :: ks, some (.Constant (.str j) _ _) :: es => k == j && keysAre ks es
  | _, _ => false
section
variable (P : Prg) (N : List Str)
def chkN (i : Nat) (sc : Scope) : Expr → Bool
  | .Name x _ => N[i]? == some x && vis sc x
  | _ => false
def slots : Tg → List Nat
  | .n i => [i]
  | .nil => []
  | .cons t r => slots t ++ slots r
/-- a place -/
def chkP (p : Pl) (sc : Scope) (a : Expr) : Bool := match p with
  | .s i => chkN N i sc a
  | .k i key => (match a with
    | .Subscript l (.Constant (.str j) _ _) _ => chkN N i sc l && j == key
    | _ => false)
def ownOf (vs : List Nat) : List (Str × Nat) := vs.map fun v => (N.getD v "", v)
mutual
def chkT : Tg → Scope → Bool → Expr → Bool
  | .n i, sc, top, a => (match a with
    | .Name x _ => N[i]? == some x && sto top sc x
    | _ => false)
  | .nil, _, _, a => (match a with
    | .Tuple es _ _ => es.isEmpty
    | _ => false)
  | .cons t r, sc, top, a => (match a with
    | .Tuple es _ _ => chkTs (.cons t r) sc top es
    | _ => false)
def chkTs : Tg → Scope → Bool → List Expr → Bool
  | .n _, _, _, _ => false
  | .nil, _, _, es => es.isEmpty
  | .cons t r, sc, top, es => (match es with
    | e :: es => noStar e && chkT t sc top e && chkTs r sc top es
    | [] => false)
end
mutual
def chkE : E → Scope → Bool → Expr → Bool
  | .nm i, sc, _, a => chkN N i sc a
  | .mv i, sc, _, a => chkN N i sc a
  | .fz i, sc, _, a => chkN N i sc a
  | .frz e, sc, top, a => chkE e sc top a
  | .bw e, sc, top, a => chkE e sc top a
  | .gl x, sc, _, a => (match a with | .Name y _ => x == y && glo sc x | _ => false)
  | .int i, _, _, a => (match a with | .Constant (.int j) _ _ => i == j | _ => false)
  | .bl i, _, _, a => (match a with | .Constant (.bool j) _ _ => i == j | _ => false)
  | .non, _, _, a => (match a with | .Constant .none _ _ => true | _ => false)
  | .str i, _, _, a => (match a with | .Constant (.str j) _ _ => i == j | _ => false)
  | .bin op x y, sc, top, a => (match a with | .BinOp l o r _ => decide (o = op) && chkE x sc top l && chkE y sc top r | _ => false)
  | .neg x, sc, top, a => (match a with | .UnaryOp .USub l _ => chkE x sc top l | _ => false)
  | .not x, sc, top, a => (match a with | .UnaryOp .Not l _ => chkE x sc top l | _ => false)
  | .and x y, sc, top, a => (match a with
    | .BoolOp .And (l :: m :: r) p => chkE x sc top l && (match r with | [] => chkE y sc top m | _ => isAnd y && chkE y sc top (.BoolOp .And (m :: r) p))
    | _ => false)
  | .or x y, sc, top, a => (match a with
    | .BoolOp .Or (l :: m :: r) p => chkE x sc top l && (match r with | [] => chkE y sc top m | _ => isOr y && chkE y sc top (.BoolOp .Or (m :: r) p))
    | _ => false)
  | .cmp op x y, sc, top, a => (match a with | .Compare l [o] [r] _ => decide (o = op) && !behindInMarks op r && chkE x sc top l && chkE y sc top r | _ => false)
  | .chain op op' x y z, sc, top, a => (match a with
    | .Compare l [o, o'] [m, r] _ => decide (o = op) && decide (o' = op') && !behindInMarks op' r && chkE x sc top l && chkE y sc top m && chkE z sc top r
    | _ => false)
  | .isN x, sc, top, a => (match a with | .Compare l [.Is] [.Constant .none _ _] _ => chkE x sc top l | _ => false)
  | .notN x, sc, top, a => (match a with | .Compare l [.IsNot] [.Constant .none _ _] _ => chkE x sc top l | _ => false)
  | .ife c x y, sc, top, a => (match a with | .IfExp t l r _ => chkE c sc top t && chkE x sc top l && chkE y sc top r | _ => false)
  | .tup as, sc, top, a => (match a with | .Tuple es _ _ => chkA as sc top es && noIo as && decide (alen as ≤ 1000) | _ => false)
  | .lst as, sc, top, a => (match a with | .List es _ => chkA as sc top es && noIo as && decide (alen as ≤ 1000) | _ => false)
  | .lrev x, sc, top, a => (match a with
    | .Call (.Name f _) [.Call (.Name g _) [l] [] _] [] _ => f == ("list" : Str) && glo sc f && g == ("reversed" : Str) && glo sc g && noStar l && chkE x sc top l
    | _ => false)
  | .ixG x y, sc, top, a => (match a with | .Subscript (.Name z _) r _ => x == z && glo sc x && noSlice r && chkE y sc top r | _ => false)
  | .inG x y, sc, top, a => (match a with | .Compare l [.In] [.Name z _] _ => x == z && glo sc x && chkE y sc top l | _ => false)
  | .callL f g b as, sc, top, a => (match a with
    | .Call (.Subscript (.List [.Name x _, .Name y _] _) r _) es [] _ => (match P[f]?, P[g]? with
      | some d, some d' => x == d.name && glo sc x && (y == d'.name && glo sc y) && (noSlice r && chkE b sc top r) && chkA as sc top es && isPos 0 (ios as) d.io && isPos 0 (ios as) d'.io && decide ((ios as).filterMap id).Nodup && decide (alen as = d.np) && decide (alen as = d'.np) && !es.isEmpty
      | _, _ => false)
    | _ => false)
  | .ixM x y, sc, top, a => (match a with | .Subscript l r _ => noSlice r && chkE x sc top l && chkE y sc top r | _ => false)
  | .rev x, sc, top, a => (match a with | .Subscript l (.Slice none none (some (.UnaryOp .USub (.Constant (.int 1) _ _) _)) _) _ => chkE x sc top l | _ => false)
  | .dct ks as, sc, top, a => (match a with
    | .Dict keys values _ => keysAre ks keys && decide (ks.length = values.length) && decide (ks.length ≤ 15) && !ks.isEmpty && decide ks.Nodup && chkA as sc top values && noIo as
    | _ => false)
  | .ix x y, sc, top, a => (match a with | .Subscript l r _ => noSlice r && chkE x sc top l && chkE y sc top r | _ => false)
  | .sl x lo hi, sc, top, a => (match a with
    | .Subscript l (.Slice l1 h1 none _) _ => chkE x sc top l && (match l1 with | some e => chkE lo sc top e && !isNone lo | none => isNone lo) &&
        (match h1 with | some e => chkE hi sc top e && !isNone hi | none => isNone hi)
    | _ => false)
  | .ixP p y, sc, top, a => (match a with
    | .Subscript l r _ => noSlice r && chkE y sc top r && (match p with | .s i => chkN N i sc l | .k i _ => chkN N i sc l)
    | _ => false)
  | .lenP p, sc, top, a => (match a with
    | .Call (.Name x _) [o] [] _ => x == ("len" : Str) && glo sc x && noStar o && chkP N p sc o
    | _ => false)
  | .bi b as, sc, top, a => (match a with
    | .Call (.Name x _) es [] _ => x == biName b && glo sc x && chkA as sc top es && noIo as && biOk b (alen as)
    | _ => false)
  | .isi x t, sc, top, a => (match a with
    | .Call (.Name f _) [l, .Name y _] [] _ => f == ("isinstance" : Str) && glo sc f && y == tyName t && glo sc y && noStar l && chkE x sc top l
    | _ => false)
  | .call f as, sc, top, a => (match a with
    | .Call (.Name x _) es [] _ => (match P[f]? with
      | some d => x == d.name && glo sc x && chkA as sc top es && isPos 0 (ios as) d.io && decide ((ios as).filterMap id).Nodup && decide (alen as = d.np)
      | none => false)
    | _ => false)
  | .mt m p as, sc, top, a => (match a with
    | .Call (.Attribute o x ap) es [] cp => x == mtName m && chkP N p sc o && chkA as sc top es && noIo as && decide (alen as < 29) && (match p with | .s _ => true | .k _ _ => decide (alen as = 0)) && ap.endLine == cp.line
    | _ => false)
  | .mtv m ob as, sc, top, a => (match a with
    | .Call (.Attribute o x ap) es [] cp => x == mvName m && noCall o && chkE ob sc top o && chkA as sc top es && noIo as && decide (alen as < 29) && !es.isEmpty && ap.endLine == cp.line
    | _ => false)
  | .lc g it c e vs, sc, top, a => (match a with
    | .ListComp elt [⟨tg, iter, ifs, asy⟩] scope _ => decide (asy = 0) && chkI it sc top tg iter && (slots g).all vs.contains && blkC N sc scope (ownOf N vs) && chkT N g (relS scope sc) false tg && chkE e (relS scope sc) false elt &&
      (match ifs with
      | [] => (match c with | .bl b => b | _ => false)
      | [t] => chkE c (relS scope sc) false t
      | _ => false) && decide (N.Nodup)
    | _ => false)
  | _, _, _, _ => false
def chkA : E → Scope → Bool → List Expr → Bool
  | .nil, _, _, es => es.isEmpty
  | .cons a r, sc, top, es => (match es with
    | e :: es => noStar e && (match a with | .io i => chkN N i sc e | _ => chkE a sc top e) && chkA r sc top es
    | [] => false)
  | _, _, _, _ => false
def chkI : E → Scope → Bool → Expr → Expr → Bool
  | .itL e, sc, top, _, a => chkE e sc top a && (match a with | .Set .. => false | _ => true)
  | .itR1 x, sc, top, _, a => (match a with
    | .Call (.Name f _) [l] [] _ => f == ("range" : Str) && glo sc f && noStar l && chkE x sc top l
    | _ => false)
  | .itR2 x y, sc, top, _, a => (match a with
    | .Call (.Name f _) [l, r] [] _ => f == ("range" : Str) && glo sc f && noStar l && chkE x sc top l && noStar r && chkE y sc top r
    | _ => false)
  | .itEn x, sc, top, tg, a => (match a, tg with
    | .Call (.Name f _) [l] [] _, .Tuple .. => f == ("enumerate" : Str) && glo sc f && noStar l && chkE x sc top l
    | _, _ => false)
  | .itZip x y, sc, top, tg, a => (match a, tg with
    | .Call (.Name f _) [l, r] [] _, .Tuple .. => f == ("zip" : Str) && glo sc f && noStar l && chkE x sc top l && noStar r && chkE y sc top r
    | _, _ => false)
  | .itZipN x y, sc, top, tg, a => (match a, tg with
    | .Call (.Name f _) [l, r] [] _, .Name _ _ => f == ("zip" : Str) && glo sc f && noStar l && chkE x sc top l && noStar r && chkE y sc top r
    | _, _ => false)
  | _, _, _, _, _ => false
end
end

/-! ### the look at statements -/
def peel : E → E
  | .frz e => peel e
  | .bw e => peel e
  | e => e
def isLc : Expr → Bool
  | .ListComp .. => true
  | .SetComp .. => true
  | .DictComp .. => true
  | _ => false
def isTupE : Expr → Bool
  | .Tuple .. => true
  | _ => false
section
variable (P : Prg) (N : List Str)
/-- name = value: a comprehension is stored in another way -/
def asgOk (sc : Scope) (y : Str) (py spos : Pos) : Expr → Bool
  | .ListComp _ _ scope pos => (match sc.names.lookup y with
    | some .cell => true
    | some .local => py.line == pos.line && !(scope.names.any fun (n, k) => n == y && (k == .local || k == .cell))
    | _ => false)
  | .SetComp .. => false
  | .DictComp .. => false
  | _ => true
def chkS : S → Scope → List Nat → Stmt → Bool
  | .asg i e, sc, io, a => (match a with
    | .Assign [.Name x px] v pos => N[i]? == some x && sto true sc x && !io.contains i && chkE P N e sc true v && asgOk sc x px pos v
    | _ => false)
  | .unp g e, sc, io, a => (match a with
    | .Assign [t] v _ => isTupE t && !isTupE v && !isLc v && chkT N g sc true t && (slots g).all (fun i => !io.contains i) && chkE P N e sc true v
    | _ => false)
  | .aug i op e, sc, io, a => (match a with
    | .AugAssign (.Name x _) o v _ => N[i]? == some x && sto true sc x && !io.contains i && decide (o = op) && (match op with | .Add => true | .Sub => true | _ => false) && chkE P N e sc true v
    | _ => false)
  | .setP p k v, sc, _, a => (match p, a with
    | .s i, .Assign [.Subscript o j _] w _ => chkN N i sc o && noSlice j && !isLc w && chkE P N k sc true j && chkE P N v sc true w
    | .k i _, .Assign [.Subscript o j _] w _ => chkN N i sc o && noSlice j && !isLc w && chkE P N k sc true j && chkE P N v sc true w
    | _, _ => false)
  | .setSl p lo hi v, sc, _, a => (match p, a with
    | .s i, .Assign [.Subscript o (.Slice (some l) (some h) none _) _] w _ => chkN N i sc o && !isLc w && chkE P N lo sc true l && chkE P N hi sc true h && chkE P N v sc true w
    | _, _ => false)
  | .ex e, sc, _, a => (match a with
    | .Expr v _ => chkE P N e sc true v && !isLc v
    | _ => false)
  | .ife c x y, sc, io, a => (match a with
    | .If t b r _ => chkE P N c sc true t && chkB x sc io b && chkB y sc io r
    | _ => false)
  | .whl c x, sc, io, a => (match a with
    | .While t b [] _ => chkE P N c sc true t && chkB x sc io b
    | _ => false)
  | .for_ g it x, sc, io, a => (match a with
    | .For t i b [] _ => chkI P N it sc true t i && chkT N g sc true t && (slots g).all (fun i => !io.contains i) && chkB x sc io b
    | _ => false)
  | .ret e, sc, _, a => (match a with
    | .Return (some v) _ => chkE P N e sc true v
    | _ => false)
  | .retN, _, _, a => (match a with
    | .Return none _ => true
    | _ => false)
  | .pass, _, _, a => (match a with | .Pass _ => true | _ => false)
  | .brk, _, _, a => (match a with | .Break _ => true | _ => false)
  | .cnt, _, _, a => (match a with | .Continue _ => true | _ => false)
  | .raise _ _, _, _, _ => true
  | .nil, _, _, _ => false
  | .seq _ _, _, _, _ => false
where chkB : S → Scope → List Nat → List Stmt → Bool
  | .nil, _, _, b => b.isEmpty
  | .seq s r, sc, io, b => (match b with
    | st :: b => chkS s sc io st && chkB r sc io b
    | [] => false)
  | _, _, _, _ => false
end

/-! ### the readings -/
section
variable (K : Frag) (T : Tab) (G : Gls)
/-- a term's reading -/
def tX (e : E) : TE := fun σ H Q => ∃ F ρ fp x ρ', St K F H σ ρ fp ∧ den T G e ρ = .ok (x, ρ') ∧ ∀ v H' F' fp' P, St K F' H' σ ρ' fp' → Xt F H fp F' H' fp' → Hd K F' H' fp' v x P → (∀ a, P a → (∃ j, fp j a) ∨ H a = none) → Q v H'
def tT (e : E) : TT := fun σ H Q => ∃ F ρ fp x ρ' b, St K F H σ ρ fp ∧ den T G e ρ = .ok (x, ρ') ∧ asBool x = .ok b ∧ ∀ H' F' fp', St K F' H' σ ρ' fp' → Xt F H fp F' H' fp' → Q b H'
/-- arguments in hand -/
inductive Args (K : Frag) (F H : Hp) (σ : L2.St) (ρ : Ro) : E → List V → List PV → As → Prop where
  | nil : Args K F H σ ρ .nil [] [] none0
  | io {i : Nat} {v : V} {x : PV} {r : E} {vs : List V} {xs : List PV} {P : As} : σ[i]? = some (some v) → getRo ρ i = some x → Args K F H σ ρ r vs xs P → Args K F H σ ρ (.cons (.io i) r) (v :: vs) (x :: xs) P
  | cons {a r : E} {v : V} {x : PV} {vs : List V} {xs : List PV} {P P' : As} : (∀ i, a ≠ .io i) → Ow K F H v x P → Args K F H σ ρ r vs xs P' → (∀ c, P c → ¬ P' c) → Args K F H σ ρ (.cons a r) (v :: vs) (x :: xs) (fun c => P c ∨ P' c)
structure HdA (K : Frag) (F H : Hp) (σ : L2.St) (ρ : Ro) (fp : Nat → As) (as : E) (vs : List V) (xs : List PV) (P : As) : Prop where
  ow : Args K F H σ ρ as vs xs P
  nf : ∀ a, P a → F a = none
  kn : ∀ a, P a → Mu (H a)
  dj : ∀ a, P a → ∀ i, ¬ fp i a
def tA (as : E) : TA := fun σ H Q => ∃ F ρ fp xs ρ', St K F H σ ρ fp ∧ dens T G as ρ = .ok (xs, ρ') ∧ ∀ vs H' F' fp' P, St K F' H' σ ρ' fp' → Xt F H fp F' H' fp' → HdA K F' H' σ ρ' fp' as vs xs P → (∀ a, P a → (∃ j, fp j a) ∨ H a = none) → Q vs H'
/-- what an iterator gives -/
def Items (F : Hp) (xs : List PyData) (J : It) : Prop := ∀ i H F', Ex F F' → Ex F' H → (∀ d, xs[i]? = some d → J.go i H ∧ ∀ v H3, J.yld i H v H3 → ∃ F3, Nw F' H F3 H3 ∧ Rp K F3 v d) ∧ (xs.length ≤ i → J.stop i H)
def tI (it : E) : TI := fun σ H R => ∃ F ρ fp xs ρ', St K F H σ ρ fp ∧ deni T G it ρ = .ok (xs, ρ') ∧ ∀ J H' F' fp', St K F' H' σ ρ' fp' → Xt F H fp F' H' fp' → Items K F' xs J → R J H'
end
theorem _root_.L2.PE.mono {X : Cx} {e : Expr} {t t' : TE} (h : PE X e t) (m : ∀ σ H Q, t' σ H Q → t σ H Q) : PE X e t' := ⟨fun pins s σ H Q I q => h.run pins s σ H Q I (m σ H Q q)⟩
theorem _root_.L2.PT.mono {X : Cx} {e : Expr} {t t' : TT} (h : PT X e t) (m : ∀ σ H Q, t' σ H Q → t σ H Q) : PT X e t' := ⟨fun pins s σ H Q I q => h.run pins s σ H Q I (m σ H Q q)⟩
theorem _root_.L2.PW.mono {X : Cx} {e : Expr} {t t' : TT} (h : PW X e t) (m : ∀ σ H Q, t' σ H Q → t σ H Q) : PW X e t' := ⟨fun w pins s σ H Q I q => h.run w pins s σ H Q I (m σ H Q q)⟩
theorem _root_.L2.PA.mono {X : Cx} {e : List Expr} {t t' : TA} (h : PA X e t) (m : ∀ σ H Q, t' σ H Q → t σ H Q) : PA X e t' := ⟨fun p pins s σ H Q I q => h.run p pins s σ H Q I (m σ H Q q)⟩
theorem _root_.L2.PI.mono {X : Cx} {tg e : Expr} {t t' : TI} (h : PI X tg e t) (m : ∀ σ H Q, t' σ H Q → t σ H Q) : PI X tg e t' := ⟨fun pins s σ H Q I q => h.run pins s σ H Q I (m σ H Q q)⟩
theorem _root_.L2.PSs.mono {X : Cx} {e : List Stmt} {t t' : TS} (h : PSs X e t) (m : ∀ D σ H, t' D σ H → t D σ H) : PSs X e t' := ⟨fun pins s σ H D I q => h.run pins s σ H D I (m D σ H q)⟩
theorem _root_.L2.PS.mono {X : Cx} {e : Stmt} {t t' : TS} (h : PS X e t) (m : ∀ D σ H, t' D σ H → t D σ H) : PS X e t' := ⟨fun pins s σ H D I q => h.run pins s σ H D I (m D σ H q)⟩
end Rf
set_option maxRecDepth 100000
set_option maxHeartbeats 4000000
/-! Rf, part D: a term's reading is what its value says (expressions). -/
namespace Rf
open PySem L2 Evl

/-! ### helpers of states -/
section
variable {K : Frag} {F H F1 H1 F2 H2 F3 H3 : Hp} {fp fp1 fp2 : Nat → As} {P P' : As}
theorem Xt.back (x : Xt F H fp F1 H1 fp1) {a : Addr} (h : H1 a = none) : H a = none := by
  cases q : H a with
  | none => rfl
  | some u => exact absurd h (x.kn a (by rw [q]; simp))
theorem Xt.subP (x : Xt F H fp F1 H1 fp1) (h : ∀ a, P a → (∃ j, fp1 j a) ∨ H1 a = none) : ∀ a, P a → (∃ j, fp j a) ∨ H a = none := fun a ha => by
  rcases h a ha with ⟨j, hj⟩ | h1
  · exact x.sub j a hj
  · exact .inr (x.back h1)
/-- data in hand are settled -/
theorem Xt.grow (x : Xt F H fp F1 H1 fp1) (sub : ∀ a, P a → (∃ j, fp j a) ∨ H a = none) (e : Ex F1 F2) (le : Ex F2 H1) (h : ∀ a o, F2 a = some o → F1 a = some o ∨ P a) : Xt F H fp F2 H1 fp1 where
  ff := x.ff.trans e
  fr := x.fr
  le := le
  nw := fun a o q => by
    rcases h a o q with h1 | h1
    · exact x.nw a o h1
    · rcases sub a h1 with h2 | h2
      · exact .inr (.inr (.inl h2))
      · exact .inr (.inl h2)
  sub := x.sub
  kn := x.kn
theorem Xt.lower (x : Xt F H fp F1 H1 fp1) (h : ∀ i a, fp2 i a → ∃ j, fp1 j a) : Xt F H fp F1 H1 fp2 :=
  ⟨x.ff, x.fr, x.le, x.nw, fun i a hi => by obtain ⟨j, hj⟩ := h i a hi; exact x.sub j a hj, x.kn⟩
/-- what is in hand beside a value that is settled -/
theorem Hd.grow {v : V} {y : PV} (h : Hd K F H fp v y P) (e : Ex F F1) (q : ∀ a o, F1 a = some o → F a = some o ∨ P' a) (dj : ∀ a, P a → ¬ P' a) : Hd K F1 H fp v y P where
  ow := h.ow.up e (fun _ _ _ z => z) fun _ z => z
  nf := fun a ha => by
    cases r : F1 a with
    | none => rfl
    | some o =>
      rcases q a o r with h1 | h1
      · rw [h.nf a ha] at h1; cases h1
      · exact absurd h1 (dj a ha)
  kn := h.kn
  dj := h.dj
end
section
variable {K : Frag} {T : Tab} {G : Gls} {F H F1 H1 F2 H2 F3 H3 : Hp} {fp fp1 fp2 : Nat → As} {σ : L2.St} {ρ ρ1 ρ2 : Ro} {v : V} {x z : PV} {Q : VK}
/-- the end of a reading whose result is of new objects alone -/
theorem fin (k : ∀ v H' F' fp' P, St K F' H' σ ρ2 fp' → Xt F H fp F' H' fp' → Hd K F' H' fp' v z P → (∀ a, P a → (∃ j, fp j a) ∨ H a = none) → Q v H')
    (s : St K F2 H2 σ ρ2 fp2) (t : Xt F H fp F2 H2 fp2) (r : Rs K F2 H2 F3 H3 v z) : Q v H3 :=
  k v H3 F3 fp2 _ (r.nw.st s) (t.trans r.nw.xt) (r.hd s) fun a h => .inr (t.back h.1)
theorem fin0 (k : ∀ v H' F' fp' P, St K F' H' σ ρ2 fp' → Xt F H fp F' H' fp' → Hd K F' H' fp' v z P → (∀ a, P a → (∃ j, fp j a) ∨ H a = none) → Q v H')
    (s : St K F2 H2 σ ρ2 fp2) (t : Xt F H fp F2 H2 fp2) {d : PyData} (e : z = .d d) (h : Rp K F2 v d) : Q v H2 := by
  subst e
  exact fin k s t (Rs.same s.le h)
end

/-! ### the promise of a function, the context -/
def mask (io : List Nat) (os : Ro) : Ro := (List.range os.length).map fun j => if io.contains j then getRo os j else none
def spF (K : Frag) (T : Tab) (f np : Nat) (io : List Nat) : Sp := fun vs H Q _ => vs.length = np ∧ ∃ F ap xs r os, St K F H (vs.map some) (xs.map some) ap ∧ T f xs = .ok (r, os) ∧
  ∀ v H' F' ap' P, St K F' H' (vs.map some) (mask io os) ap' → Xt F H ap F' H' ap' → Hd K F' H' ap' v r P → (∀ a, P a → (∃ j, ap j a) ∨ H a = none) → Q v H'
structure FnI (n : Nat) (T : Tab) (X : Cx) (f : Nat) (d : Fn) : Prop where
  ok : ∃ (a : Addr) (fd : FuncData), X.mg d.name = some (.ref a) ∧ PySem.W.keepIn X.K (.ref a) = true ∧ Binds X.K fd (d.N.take d.np) [] ∧ FnOk X.prog X.w X.K X.mg X.base CX0 n a fd (d.N.take d.np) (spF X.K T f d.np d.io)
structure XOk (P : Prg) (G : Gls) (T : Tab) (n : Nat) (N : List Str) (sc : Scope) (top : Bool) (X : Cx) : Prop where
  hN : X.N = N
  hsc : X.env.scope = sc
  nd : N.Nodup
  kind : sc.kind = .function
  calm : X.calm = true
  room : Room n X.A
  fns : ∀ f d, P[f]? = some d → FnI n T X f d
  blt : ∀ b ∈ builtinsUsed, X.mg b = none
  gls : ∀ x d, G x = some d → ∃ u v, X.mg x = some u ∧ RelV v u ∧ GOk X.K X.w v d
  fn : top = true → ∀ x, X.fn x = true

section
variable {P : Prg} {G : Gls} {T : Tab} {n : Nat} {N : List Str} {sc : Scope} {top : Bool} {X : Cx}
theorem vis_ok (o : XOk P G T n N sc top X) {x : Str} (h : vis sc x = true) : Vis X.env.scope x ∧ (x == ("__debug__" : Str)) = false ∧ (x == ("__classdict__" : Str)) = false := by
  unfold vis at h
  rw [Bool.and_eq_true, Bool.and_eq_true] at h
  obtain ⟨⟨h1, h2⟩, h3⟩ := h
  refine ⟨?_, by simpa using h2, by simpa using h3⟩
  rw [o.hsc]
  unfold Vis
  split at h1 <;> simp_all
theorem glo_ok (o : XOk P G T n N sc top X) {x : Str} (h : glo sc x = true) : Gl X x ∧ (x == ("__debug__" : Str)) = false ∧ x ≠ ("__name__" : Str) := by
  unfold glo at h
  rw [Bool.and_eq_true, Bool.and_eq_true] at h
  obtain ⟨⟨h1, h2⟩, h3⟩ := h
  refine ⟨?_, by simpa using h2, by simpa using h3⟩
  show X.env.scope.names.lookup x = _
  rw [o.hsc]
  split at h1 <;> simp_all
theorem star_ok {e : Expr} {es : List Expr} {env : Env} (h : noStar e = true) : starEach (e :: es) env = (false, eval e env) :: starEach es env := by
  cases e <;> first | rfl | (cases h)
theorem slice_ok {e : Expr} (h : noSlice e = true) : PlainIx e := by
  intro o i
  cases e <;> first | rfl | (cases h)
/-- a name's slot is read -/
theorem nm_ok (o : XOk P G T n N sc top X) {i : Nat} {a : Expr} (h : chkN N i sc a = true) : PE X a (tVar i) ∧ noStar a = true := by
  unfold chkN at h
  split at h
  · rename_i x p
    rw [Bool.and_eq_true] at h
    obtain ⟨h1, h2⟩ := h
    obtain ⟨v1, v2, v3⟩ := vis_ok o h2
    exact ⟨pe_var (by rw [o.hN]; simpa using h1) v1 v2 v3, rfl⟩
  · cases h

/-! ### one lemma a form -/
variable (o : XOk P G T n N sc top X)
include o
theorem s_nm {i : Nat} {a : Expr} (h : chkN N i sc a = true) : PE X a (tX X.K T G (.nm i)) := (nm_ok o h).1.mono fun σ H Q ⟨F, ρ, fp, x, ρ', s, hd, k⟩ => by
  simp only [den] at hd
  obtain ⟨y, h1, h2⟩ := Res.bind_inv hd
  cases h2
  unfold getD at h1
  split at h1
  · rename_i z hz
    cases h1
    obtain ⟨v, e1, e2⟩ := s.ow i _ hz
    exact ⟨v, e1, fin0 k s (Xt.refl s.le) rfl e2.dat⟩
  · cases h1
theorem s_mv {i : Nat} {a : Expr} (h : chkN N i sc a = true) : PE X a (tX X.K T G (.mv i)) := (nm_ok o h).1.mono fun σ H Q ⟨F, ρ, fp, x, ρ', s, hd, k⟩ => by
  simp only [den] at hd
  split at hd
  · rename_i z hz
    cases hd
    obtain ⟨v, e1, s1, t1, h1⟩ := s.take hz
    exact ⟨v, e1, k v H F _ _ s1 t1 h1 fun a ha => .inl ⟨i, ha⟩⟩
  · cases hd
theorem s_fz {i : Nat} {a : Expr} (h : chkN N i sc a = true) : PE X a (tX X.K T G (.fz i)) := (nm_ok o h).1.mono fun σ H Q ⟨F, ρ, fp, x, ρ', s, hd, k⟩ => by
  simp only [den] at hd
  split at hd
  · rename_i z hz
    obtain ⟨y, h1, h2⟩ := Res.bind_inv hd
    cases h2
    obtain ⟨v, e1, s1, t1, hh⟩ := s.take hz
    obtain ⟨F', s2, e2, q2, d2⟩ := hh.settle s1 h1
    refine ⟨v, e1, ?_⟩
    have s3 := s2.putD d2 i
    have es : σ.set i (some v) = σ := by
      apply List.ext_getElem?
      intro j
      by_cases hj : i = j
      · subst hj
        rw [List.getElem?_set_self (List.getElem?_eq_some_iff.mp e1).1, e1]
      · rw [List.getElem?_set_ne hj]
    have er : (ρ.set i none).set i (some (PV.d y)) = ρ.set i (some (PV.d y)) := by rw [List.set_set]
    rw [es, er] at s3
    have t2 : Xt F H fp F' H (fpSet fp i none0) := t1.grow (P := fp i) (fun a ha => .inl ⟨i, ha⟩) e2 s2.le q2
    exact fin0 k s3 (t2.lower fun j a ha => by
      rcases fpSet_cases ha with ⟨_, q⟩ | ⟨_, q⟩
      · exact q.elim
      · exact ⟨j, q⟩) rfl d2
  · cases hd
omit o in
theorem le_frz {e : E} : ∀ σ H Q, tX X.K T G (.frz e) σ H Q → tX X.K T G e σ H Q := fun σ H Q ⟨F, ρ, fp, x, ρ', s, hd, k⟩ => by
  simp only [den] at hd
  obtain ⟨⟨y, ρ1⟩, h1, h2⟩ := Res.bind_inv hd
  obtain ⟨z, h3, h4⟩ := Res.bind_inv h2
  cases h4
  refine ⟨F, ρ, fp, y, ρ1, s, h1, fun v H' F' fp' P s1 t1 hh sub => ?_⟩
  obtain ⟨F2, s2, e2, q2, d2⟩ := hh.settle s1 h3
  exact fin0 k s2 (t1.grow sub e2 s2.le q2) rfl d2
theorem s_frz {e : E} {a : Expr} (ih : PE X a (tX X.K T G e)) : PE X a (tX X.K T G (.frz e)) := ih.mono le_frz
end

/-! ### borrowing -/
section
variable {K : Frag} {F H H' : Hp}
/-- flat data lean on tuples alone -/
theorem flat_dp {A : Hp} (hA : ∀ a xs, H a = some (.tup xs) → A a = some (.tup xs)) (hB : ∀ a ob xs, H a = some (.frz ob (.tup xs)) → A a = some (.frz ob (.tup xs))) : ∀ (d : PyData) (v : V), flat d = true → Rp K H v d → Rp K A v d
  | .none, _, _, h => by cases h; exact .non
  | .bool _, _, _, h => by cases h; exact .bl _
  | .int _, _, _, h => by cases h; exact .int _
  | .str _, _, _, h => by cases h; exact .str _
  | .list _, _, f, _ => by cases f
  | .dict _, _, f, _ => by cases f
  | .tuple ds, _, f, h => by
    cases h with
    | tup hs ha =>
      refine .tup ?_ (go ds _ f ha)
      rcases hs with (h1 | ⟨ob, h1⟩) | h1
      · exact .inl (.inl (hA _ _ h1))
      · exact .inl (.inr ⟨ob, hB _ _ _ h1⟩)
      · exact .inr h1
where
  go : ∀ (ds : List PyData) (vs : List V), flat.flats ds = true → Rps K H vs ds → Rps K A vs ds
  | [], _, _, h => by cases h; exact .nil
  | d :: ds, _, f, h => by
    cases h with
    | cons h1 h2 =>
      have f' : flat d = true ∧ flat.flats ds = true := by simpa [flat.flats, Bool.and_eq_true] using f
      exact .cons (flat_dp hA hB d _ f'.1 h1) (go ds _ f'.2 h2)
end
section
variable {K : Frag} {T : Tab} {G : Gls}
theorem lent_st {F H : Hp} {σ : L2.St} {ρ : Ro} {fp : Nat → As} (s : St K F H σ ρ fp) : St K H H σ (frzRo ρ) (fun _ => none0) where
  le := Ex.refl H
  len := by simp [frzRo, s.len]
  ow := fun i x h => by
    unfold getRo frzRo at h
    rw [List.getElem?_map] at h
    cases q : ρ[i]? with
    | none => rw [q] at h; cases h
    | some y =>
      rw [q] at h
      cases y with
      | none => cases h
      | some y =>
        have h' : y.lent = some x := by simpa using h
        obtain ⟨v, e1, e2⟩ := s.ow i y (by unfold getRo; rw [q]; rfl)
        refine ⟨v, e1, ?_⟩
        cases e2 with
        | d hd => cases h'; exact .d (hd.up s.le)
        | L hp h1 h2 => cases h'; exact .d (.lst (.inl (.inl h1)) (h2.up s.le))
        | M => cases h'
  dj := fun _ _ _ h => h.elim
  kn := fun _ _ h => h.elim
  nf := fun _ _ h => h.elim
open Classical in
theorem le_bw {e : E} : ∀ σ H Q, tX K T G (.bw e) σ H Q → tX K T G e σ H Q := fun σ H Q ⟨F, ρ, fp, x, ρ', s, hd, k⟩ => by
  simp only [den] at hd
  obtain ⟨⟨y, ρ1⟩, h1, h2⟩ := Res.bind_inv hd
  obtain ⟨_, h3, h4⟩ := Res.bind_inv h2
  cases h4
  have hf := Res.guard_inv h3
  refine ⟨H, frzRo ρ, _, y, ρ1, lent_st s, h1, fun v H' F' fp' P s1 t1 hh sub => ?_⟩
  have hh' : Ex H H' := fun a u q => t1.fr a u q fun _ z => z
  -- what is settled now: F, what never changes, and the new objects that were settled
  let Fz : Hp := fun a => match H a with
    | none => F' a
    | some u => if fixd u = true then some u else F a
  have fz0 : ∀ {a : Addr}, H a = none → Fz a = F' a := fun {a} q => by
    show (match H a with | none => F' a | some u => if fixd u = true then some u else F a) = _
    rw [q]
  have fz1 : ∀ {a : Addr} {u : HO}, H a = some u → fixd u = true → Fz a = some u := fun {a u} q f => by
    show (match H a with | none => F' a | some u => if fixd u = true then some u else F a) = _
    rw [q]; exact if_pos f
  have fz2 : ∀ {a : Addr} {u : HO}, H a = some u → fixd u = false → Fz a = F a := fun {a u} q f => by
    show (match H a with | none => F' a | some u => if fixd u = true then some u else F a) = _
    rw [q]; exact if_neg (by rw [f]; simp)
  have fzF : Ex F Fz := fun a u q => by
    have hu := s.le a u q
    cases f : fixd u with
    | true => exact fz1 hu f
    | false => rw [fz2 hu f]; exact q
  have fzH : Ex Fz H' := fun a u q => by
    cases hu : H a with
    | none => rw [fz0 hu] at q; exact s1.le a u q
    | some w =>
      cases f : fixd w with
      | true =>
        rw [fz1 hu f] at q
        have e2 : w = u := Option.some.inj q
        rw [e2] at hu
        exact hh' a u hu
      | false => rw [fz2 hu f] at q; exact hh' a u (s.le a u q)
  have hn : ∀ a, P a → H a = none := fun a ha => by
    rcases sub a ha with ⟨j, hj⟩ | h5
    · exact hj.elim
    · exact h5
  have n : Nw F H Fz H' := ⟨fzH, fzF, hh', fun a u q => by
    cases hu : H a with
    | none => exact .inr (.inl rfl)
    | some w =>
      cases f : fixd w with
      | true =>
        rw [fz1 hu f] at q
        have e2 : w = u := Option.some.inj q
        rw [e2] at f
        exact .inr (.inr f)
      | false => rw [fz2 hu f] at q; exact .inl q⟩
  have fx : ∀ (a : Addr) (u : HO), fixd u = true → F' a = some u → Fz a = some u := fun a u f q => by
    cases hu : H a with
    | none => rw [fz0 hu]; exact q
    | some w =>
      have e1 := hh' a w hu
      rw [s1.le a u q] at e1
      have e2 : u = w := Option.some.inj e1
      rw [← e2] at hu
      exact fz1 hu f
  have dp : ∀ (d : PyData) (w : V), flat d = true → Rp K F' w d → Rp K Fz w d := flat_dp (fun a xs q => fx a _ rfl q) (fun a ob xs q => fx a _ rfl q)
  have dps : ∀ (d : List PyData) (w : List V), flat.flats d = true → Rps K F' w d → Rps K Fz w d := flat_dp.go (fun a xs q => fx a _ rfl q) (fun a ob xs q => fx a _ rfl q)
  refine k v H' Fz fp P (n.st s) n.xt ⟨?_, fun a ha => ?_, hh.kn, fun a ha i hi => (s.kn i a hi).ne (hn a ha)⟩ fun a ha => .inr (hn a ha)
  · cases ho : hh.ow with
    | d g1 => exact .d (dp _ _ hf g1)
    | L hp g1 g2 => exact .L hp g1 (dps _ _ hf g2)
    | M => cases hf
  · rw [fz0 (hn a ha)]; exact hh.nf a ha
end
end Rf
set_option maxRecDepth 100000
set_option maxHeartbeats 4000000
/-! Rf, part E: operators, comparisons, and, or, not. -/
namespace Rf
open PySem PySem.Spec PyProof.Rows L2 Evl

/-! ### rules of one's own -/
theorem _root_.L2.Inv.lstR {X : Cx} {pins : List (Addr × Obj)} {σ : L2.St} {H : Hp} {s : Shared} {l : Addr} {xs : List V} (I : Inv X pins σ H s) (hH : RdL X.K H l xs) :
    xs.length ≤ sizeLine ∧ ∃ (its : List Value) (n : Nat), Vals xs its ∧ xs.length = its.length ∧ s.heap.get? l = some { cls := .type "list", data := .seq its.toArray n } := by
  rcases hH with h | ⟨w, m, k1, k2, k3⟩
  · obtain ⟨z, its, n, r, e⟩ := h.ok I.hok
    exact ⟨z, its, n, r, r.length, e⟩
  · have hl := k3.length
    refine ⟨?_, w.toList, m, k3, hl, ?_⟩
    · rw [hl, Array.length_toList]
      exact k2
    · rw [Array.toArray_toList]
      exact I.kIn l _ k1
def rCatR (K : Frag) : R2 := fun x y H Q => ∃ l b xs zs, x = .ref l ∧ y = .ref b ∧ RdL K H l xs ∧ RdL K H b zs ∧ xs.length + zs.length ≤ sizeLine ∧ ∀ p, H p = none → Q (.ref p) (upd H p (.lst (xs ++ zs)))
def rNo : R2 := fun _ _ _ _ => False
section
variable {X : Cx}
theorem op_catR : OpR X (binaryOp .Add) (rCatR X.K) := by
  intro pins s σ H x y v u Q I rx ry h
  obtain ⟨l, b, xs, zs, rfl, rfl, hH, hB, hz, q⟩ := h
  cases rx
  cases ry
  obtain ⟨z, its, n, r, hl, e⟩ := I.lstR hH
  obtain ⟨z2, its2, n2, r2, hl2, e2⟩ := I.lstR hB
  refine PySem.P.add_list e e2 ?_ (by rw [List.size_toArray, List.size_toArray]; omega)
  have ea : its.toArray ++ its2.toArray = (its ++ its2).toArray := by simp
  rw [ea]
  exact ⟨.ref _, _, I.lnew (t' := s.toks) (r.append r2) (by rw [List.length_append]; omega), rfl, q _ I.fresh⟩
theorem op_no {f : Value → Value → Sem Value} : OpR X f rNo := fun _ _ _ _ _ _ _ _ _ _ _ _ h => h.elim
def CDv (i j : Int) : Prop := 0 < j ∧ j.natAbs.log2 < 9000
def rAddS : R2 := fun x y H Q => ∃ i j, x = .str i ∧ y = .str j ∧ i.length + j.length ≤ sizeLine ∧ Q (.str (i ++ j)) H
def rMulT : R2 := fun x y H Q => ∃ a n, x = .str a ∧ y = .int n ∧ (1 ≤ n ∧ n ≤ 1000 ∧ 1 ≤ a.length ∧ a.length ≤ 1000) ∧ Q (.str (repT n.toNat a)) H
theorem op_mulT : OpR X (binaryOp .Mult) rMulT := by
  intro pins s σ H x y v u Q I rx ry h
  obtain ⟨a, n, rfl, rfl, ⟨h1, h2, h3, h4⟩, q⟩ := h
  obtain ⟨t, rfl⟩ := (show ∃ t, v = Value.str a t from rx)
  obtain ⟨t', rfl⟩ := (show ∃ t, u = Value.int n t from ry)
  have hr : (decide (n < -(2 ^ 63 : Int)) || decide (n ≥ 2 ^ 63)) = false := by
    rw [decide_eq_false (by omega), decide_eq_false (by omega)]; rfl
  have hlen : ((a.length : Int)) ≤ (2 ^ 63 - 1) / n := by
    have : (a.length : Int) * n ≤ 2 ^ 63 - 1 := by
      have : (a.length : Int) * n ≤ 1000 * 1000 := Int.mul_le_mul (by omega) h2 (by omega) (by omega)
      omega
    exact (Int.le_ediv_iff_mul_le (by omega)).mpr this
  have hsz : a.length * n.toNat ≤ 1000 * 1000 := Nat.mul_le_mul h4 (by omega)
  refine PySem.P.mul_str hr (fun _ _ => by omega) (fun _ _ => ?_) ?_
  · exact decide_eq_false (by rw [sizeLine_eq]; omega)
  · rw [if_neg (by omega)]
    by_cases h1' : n = 1
    · have e : (n == 1 || a.length == 0) = true := by simp [h1']
      rw [if_pos e]
      have ea : repT n.toNat a = a := by
        rw [h1']
        show (⟨#[] ++ a.cps⟩ : Str) = a
        simp
      rw [ea] at q
      exact ⟨.str a, H, I, ⟨t, rfl⟩, q⟩
    · have e : (n == 1 || a.length == 0) = false := by
        rw [Bool.or_eq_false_iff]
        exact ⟨by simpa using h1', by simp; omega⟩
      rw [if_neg (by rw [e]; exact Bool.false_ne_true)]
      refine ⟨?_, .str (repT n.toNat a), H, I.tok _, ⟨_, rfl⟩, q⟩
      have key : ∀ (m : Nat) (acc : Array Nat), ((List.replicate m a.cps).foldl (· ++ ·) acc).size = acc.size + m * a.cps.size := fun m => by
        induction m with
        | zero => intro acc; simp
        | succ m ih =>
          intro acc
          rw [List.replicate_succ, List.foldl_cons, ih, Array.size_append, Nat.add_mul]
          omega
      show ((List.replicate n.toNat a.cps).foldl (· ++ ·) #[]).size ≤ sizeLine
      rw [key, sizeLine_eq]
      have : n.toNat * a.cps.size = a.length * n.toNat := Nat.mul_comm _ _
      rw [this]
      show 0 + _ ≤ _
      omega
def rBin (K : Frag) : Operator → R2
  | .Add => fun x y H Q => rI0 (fun i j => .int (i + j)) x y H Q ∨ (rAddS x y H Q ∨ (rCatR K x y H Q ∨ L2.rCatA K x y H Q))
  | .Sub => rI0 fun i j => .int (i - j)
  | .Mult => fun x y H Q => rI CMulX (fun i j => .int (i * j)) x y H Q ∨ rMulT x y H Q
  | .FloorDiv => rI CDivW fun i j => .int (i / j)
  | .Mod => rI (fun _ j => 0 < j) fun i j => .int (i % j)
  | .Pow => rI CPow fun i j => .int (i ^ j.toNat)
  | .LShift => rI CShl fun i j => .int (i * 2 ^ j.toNat)
  | .RShift => rI (fun _ j => 0 ≤ j) fun i j => .int (i / 2 ^ j.toNat)
  | .BitAnd => rI0 fun i j => .int (Builtin.bitAnd i j)
  | .BitOr => rI0 fun i j => .int (Builtin.bitOr i j)
  | _ => rNo
theorem op_bin (op : Operator) : OpR X (binaryOp op) (rBin X.K op) := by
  cases op
  case Add => exact op_add.or (op_add_str.or (op_catR.or op_catA))
  case Sub => exact op_sub
  case Mult => exact op_mulX.or op_mulT
  case FloorDiv => exact op_fdivW
  case Mod => exact op_mod
  case Pow => exact op_pow
  case LShift => exact op_shlW
  case RShift => exact op_shr
  case BitAnd => exact op_and
  case BitOr => exact op_or
  all_goals exact op_no
end
theorem mil {n : Nat} (h : n ≤ 1000000) : n ≤ sizeLine := Nat.le_trans h (by decide)
theorem mil_lt {n : Nat} (h : n < 1000000) : n < sizeLine := Nat.lt_of_lt_of_le h (by decide)
section
variable {K : Frag} {F H : Hp} {v w : V} {dx dy : PyData} {z : PV} {Q : VK}
theorem rs_int (e : Ex F H) {r : Int} (k : ∀ v' F' H', Rs K F H F' H' v' (.d (.int r)) → Q v' H') : Q (.int r) H := k _ F H (Rs.same e (.int r))
theorem rs_str (e : Ex F H) {r : Str} (k : ∀ v' F' H', Rs K F H F' H' v' (.d (.str r)) → Q v' H') : Q (.str r) H := k _ F H (Rs.same e (.str r))
theorem rs_bl (e : Ex F H) {r : Bool} (k : ∀ v' F' H', Rs K F H F' H' v' (.d (.bool r)) → Q v' H') : Q (.bl r) H := k _ F H (Rs.same e (.bl r))
theorem bin_rs (op : Operator) (e : Ex F H) (h1 : Opd K F H v dx) (h2 : Opd K F H w dy) (hz : binS op dx dy = .ok z) (k : ∀ v' F' H', Rs K F H F' H' v' z → Q v' H') : rBin K op v w H Q := by
  unfold binS at hz
  split at hz
  · cases hz; exact .inl ⟨_, _, h1.int_inv, h2.int_inv, rs_int e k⟩
  · obtain ⟨_, g, hz⟩ := Res.bind_inv hz
    cases hz
    have g' := of_decide_eq_true (Res.guard_inv g)
    exact .inr (.inl ⟨_, _, h1.str_inv, h2.str_inv, mil g', rs_str e k⟩)
  · obtain ⟨_, g, hz⟩ := Res.bind_inv hz
    cases hz
    have g' := of_decide_eq_true (Res.guard_inv g)
    obtain ⟨a, xs, e1, e2, e3⟩ := h1.lst_inv e
    obtain ⟨b, ys, e4, e5, e6⟩ := h2.lst_inv e
    exact .inr (.inr (.inl ⟨a, b, xs, ys, e1, e4, e2, e5, mil (by rw [e3.length, e6.length]; exact g'), fun p hp => k _ _ _ (Rs.newL e hp (e3.append e6))⟩))
  · obtain ⟨_, g, hz⟩ := Res.bind_inv hz
    cases hz
    have g' := of_decide_eq_true (Res.guard_inv g)
    obtain ⟨a, xs, e1, e2, e3⟩ := h1.tup_inv e
    obtain ⟨b, ys, e4, e5, e6⟩ := h2.tup_inv e
    refine .inr (.inr (.inr ⟨a, b, xs, ys, e1, e4, e2, e5, mil (by rw [e3.length, e6.length]; exact g'), ?_, ?_, ?_⟩))
    · intro hx
      subst hx
      cases e3
      subst e4
      cases h2 with
      | d h => exact k _ F H (Rs.same e h)
    · intro _ hy
      subst hy
      cases e6
      simp only [List.append_nil] at k
      subst e1
      cases h1 with
      | d h => exact k _ F H (Rs.same e h)
    · intro _ _ p hp
      exact k _ _ _ (Rs.newT e hp (e3.append e6))
  · cases hz; exact ⟨_, _, h1.int_inv, h2.int_inv, rs_int e k⟩
  · obtain ⟨_, g, hz⟩ := Res.bind_inv hz
    cases hz
    have g' := of_decide_eq_true (Res.guard_inv g)
    exact .inl ⟨_, _, h1.int_inv, h2.int_inv, by unfold CMulX; unfold bits at g'; omega, rs_int e k⟩
  · obtain ⟨_, g, hz⟩ := Res.bind_inv hz
    cases hz
    have g' := of_decide_eq_true (Res.guard_inv g)
    exact ⟨_, _, h1.int_inv, h2.int_inv, g', rs_int e k⟩
  · obtain ⟨_, g, hz⟩ := Res.bind_inv hz
    cases hz
    exact ⟨_, _, h1.int_inv, h2.int_inv, of_decide_eq_true (Res.guard_inv g), rs_int e k⟩
  · obtain ⟨_, g, hz⟩ := Res.bind_inv hz
    cases hz
    have g' := of_decide_eq_true (Res.guard_inv g)
    exact ⟨_, _, h1.int_inv, h2.int_inv, g', rs_int e k⟩
  · obtain ⟨_, g, hz⟩ := Res.bind_inv hz
    cases hz
    have g' := of_decide_eq_true (Res.guard_inv g)
    exact ⟨_, _, h1.int_inv, h2.int_inv, g', rs_int e k⟩
  · obtain ⟨_, g, hz⟩ := Res.bind_inv hz
    cases hz
    exact ⟨_, _, h1.int_inv, h2.int_inv, of_decide_eq_true (Res.guard_inv g), rs_int e k⟩
  · cases hz; exact ⟨_, _, h1.int_inv, h2.int_inv, rs_int e k⟩
  · cases hz; exact ⟨_, _, h1.int_inv, h2.int_inv, rs_int e k⟩
  · obtain ⟨_, g, hz⟩ := Res.bind_inv hz
    cases hz
    exact .inr ⟨_, _, h1.str_inv, h2.int_inv, of_decide_eq_true (Res.guard_inv g), rs_str e k⟩
  · cases hz
end

/-! ### comparisons -/
def rEqO (K : Frag) (neg : Bool) : R2 := fun x y H Q => ∃ d e, Dp K H x d ∧ Dp K H y e ∧ eqOk d e = true ∧ Q (.bl (if neg then !PyData.eqv d e else PyData.eqv d e)) H
section
variable {X : Cx}
theorem eq_room {A : Around} (hu : A.units + 200 < cLine) {d e : PyData} (h : min d.depth e.depth ≤ 150) : A.units + min d.depth e.depth < cLine := by omega
theorem op_eqO (hu : X.A.units + 200 < cLine) : OpR X (compareOp .Eq) (rEqO X.K false) := by
  intro pins s σ H x y v u Q I rx ry h
  obtain ⟨d, e, hd, he, g, q⟩ := h
  obtain ⟨as, r1⟩ := Dp.reads I d x v hd rx
  obtain ⟨bs, r2⟩ := Dp.reads I e y u he ry
  unfold eqOk at g
  rw [Bool.and_eq_true, Bool.and_eq_true] at g
  exact SeqAt.compareEq_reads r1 r2 g.1.1 g.1.2 (eq_room hu (of_decide_eq_true g.2)) ⟨.bl _, H, I, rfl, q⟩
theorem op_neO (hu : X.A.units + 200 < cLine) : OpR X (compareOp .NotEq) (rEqO X.K true) := by
  intro pins s σ H x y v u Q I rx ry h
  obtain ⟨d, e, hd, he, g, q⟩ := h
  obtain ⟨as, r1⟩ := Dp.reads I d x v hd rx
  obtain ⟨bs, r2⟩ := Dp.reads I e y u he ry
  unfold eqOk at g
  rw [Bool.and_eq_true, Bool.and_eq_true] at g
  exact SeqAt.compareNe_reads r1 r2 g.1.1 g.1.2 (eq_room hu (of_decide_eq_true g.2)) ⟨.bl _, H, I, rfl, q⟩
def rSgn (neg : Bool) : R2 := fun x y H Q => ∃ (c : Nat) (z : Str), x = .str ⟨#[c]⟩ ∧ y = .str z ∧ Q (.bl (if neg then !decide (c ∈ z.cps.toList) else decide (c ∈ z.cps.toList))) H
theorem op_in_sgn : OpR X (compareOp .In) (rSgn false) := op_in_sign
theorem op_notIn_sgn : OpR X (compareOp .NotIn) (rSgn true) := op_notIn_sign
def rOcc : R2 := fun x y H Q => ∃ a z, x = .str a ∧ y = .str z ∧ Q (.bl (!(Builtin.Str.occurrences z a 0 z.length 1).isEmpty)) H
theorem op_inOcc : OpR X (compareOp .In) rOcc := by
  intro pins s σ H x y v u Q I rx ry h
  obtain ⟨a, z, rfl, rfl, q⟩ := h
  obtain ⟨t, rfl⟩ := (show ∃ t, v = Value.str a t from rx)
  obtain ⟨t', rfl⟩ := (show ∃ t, u = Value.str z t from ry)
  exact PyProof.Rows.in_str ⟨.bl _, H, I, rfl, q⟩
def rCmp (K : Frag) : CmpOp → R2
  | .Eq => rEqO K false
  | .NotEq => rEqO K true
  | .Lt => rI0 fun i j => .bl (decide (i < j))
  | .LtE => rI0 fun i j => .bl (decide (i ≤ j))
  | .Gt => rI0 fun i j => .bl (decide (j < i))
  | .GtE => rI0 fun i j => .bl (decide (j ≤ i))
  | .In => fun x y H Q => rInD K x y H Q ∨ (rIn K false x y H Q ∨ (rSgn false x y H Q ∨ rOcc x y H Q))
  | .NotIn => fun x y H Q => rNotInD K x y H Q ∨ (rIn K true x y H Q ∨ rSgn true x y H Q)
  | _ => rNo
theorem op_cmp (hu : X.A.units + 200 < cLine) (op : CmpOp) : OpR X (compareOp op) (rCmp X.K op) := by
  cases op
  case Eq => exact op_eqO hu
  case NotEq => exact op_neO hu
  case Lt => exact op_lt
  case LtE => exact op_le
  case Gt => exact op_gt
  case GtE => exact op_ge
  case In => exact (op_inD (by omega)).or (op_in_seq.or (op_in_sgn.or op_inOcc))
  case NotIn => exact (op_notInD (by omega)).or (op_notIn_seq.or op_notIn_sgn)
  all_goals exact op_no
end
theorem strsV {K : Frag} {F : Hp} : ∀ {vs : List V} {xs : List PyData} {ns : List Str}, Rps K F vs xs → strsOf xs = some ns → vs = ns.map V.str
  | _, _, _, .nil, h => by cases h; rfl
  | _, _, ns, .cons (d := d) a b, h => by
    cases a with
    | str i =>
      simp only [strsOf] at h
      cases q : strsOf _ with
      | none => rw [q] at h; cases h
      | some r =>
        rw [q] at h
        cases h
        rw [strsV b q]; rfl
    | _ => cases h
theorem flat_strs (ns : List Str) : (ns.map V.str).all flatV = true := by
  rw [List.all_eq_true]
  intro v hv
  obtain ⟨x, _, rfl⟩ := List.mem_map.mp hv
  rfl
theorem in_strs (x : Str) (ns : List Str) : inV (.str x) (ns.map V.str) = ns.any fun z => z == x := by
  unfold inV
  rw [List.any_map]
  rfl
theorem one_sign {x : Str} {c : Nat} (h : x.cps.toList = [c]) : x = ⟨#[c]⟩ := by
  cases x with
  | mk a => simp only [Str.mk.injEq]; exact Array.ext' (by simpa using h)
theorem cmp_rs {K : Frag} {F H : Hp} {v w : V} {dx dy : PyData} {z : Bool} {Q : VK} (op : CmpOp) (e : Ex F H) (h1 : Opd K F H v dx) (h2 : Opd K F H w dy) (hz : cmpS op dx dy = .ok z) (k : Q (.bl z) H) : rCmp K op v w H Q := by
  unfold cmpS at hz
  split at hz
  · obtain ⟨_, g, hz⟩ := Res.bind_inv hz
    cases hz
    exact ⟨_, _, toDp _ _ (h1.rp e), toDp _ _ (h2.rp e), Res.guard_inv g, k⟩
  · obtain ⟨_, g, hz⟩ := Res.bind_inv hz
    cases hz
    exact ⟨_, _, toDp _ _ (h1.rp e), toDp _ _ (h2.rp e), Res.guard_inv g, k⟩
  · cases hz; exact ⟨_, _, h1.int_inv, h2.int_inv, k⟩
  · cases hz; exact ⟨_, _, h1.int_inv, h2.int_inv, k⟩
  · cases hz; exact ⟨_, _, h1.int_inv, h2.int_inv, k⟩
  · cases hz; exact ⟨_, _, h1.int_inv, h2.int_inv, k⟩
  · obtain ⟨_, g, hz⟩ := Res.bind_inv hz
    cases hz
    have g' := Res.guard_inv g
    unfold inOk at g'
    rw [Bool.and_eq_true] at g'
    exact .inl ⟨_, _, toDp _ _ (h1.rp e), toDp _ _ (h2.rp e), g'.1, g'.2, k⟩
  · obtain ⟨_, g, hz⟩ := Res.bind_inv hz
    cases hz
    have g' := Res.guard_inv g
    unfold inOk at g'
    rw [Bool.and_eq_true] at g'
    exact .inl ⟨_, _, toDp _ _ (h1.rp e), toDp _ _ (h2.rp e), g'.1, g'.2, k⟩
  · split at hz
    · rename_i zs hq
      cases hz
      obtain ⟨a, xs, e1, e2, e3⟩ := h2.tup_inv e
      have hx := strsV e3 hq
      subst hx
      exact .inr (.inl ⟨a, _, e1, .inr e2, by rw [h1.str_inv] <;> rfl, flat_strs _, by rw [h1.str_inv, in_strs]; exact k⟩)
    · cases hz
  · split at hz
    · rename_i zs hq
      cases hz
      obtain ⟨a, xs, e1, e2, e3⟩ := h2.tup_inv e
      have hx := strsV e3 hq
      subst hx
      exact .inr (.inl ⟨a, _, e1, .inr e2, by rw [h1.str_inv] <;> rfl, flat_strs _, by rw [h1.str_inv, in_strs]; exact k⟩)
    · cases hz
  · split at hz
    · rename_i c hq
      cases hz
      exact .inr (.inr (.inl ⟨c, _, by rw [h1.str_inv, one_sign hq], h2.str_inv, k⟩))
    · cases hz
      exact .inr (.inr (.inr ⟨_, _, h1.str_inv, h2.str_inv, k⟩))
    · cases hz
  · split at hz
    · rename_i c hq
      cases hz
      exact .inr (.inr ⟨c, _, by rw [h1.str_inv, one_sign hq], h2.str_inv, k⟩)
    · cases hz
  · cases hz

/-! ### two operands -/
section
variable {K : Frag} {T : Tab} {G : Gls}
theorem two {x y : E} {σ : L2.St} {F H : Hp} {ρ ρ1 ρ2 : Ro} {fp : Nat → As} {X1 X2 : PV} {R : V → V → Hp → Prop} (s : St K F H σ ρ fp) (h1 : den T G x ρ = .ok (X1, ρ1)) (h2 : den T G y ρ1 = .ok (X2, ρ2))
    (k : ∀ v w H2 F2 fp2 P1 P2, St K F2 H2 σ ρ2 fp2 → Xt F H fp F2 H2 fp2 → Hd K F2 H2 fp2 v X1 P1 → Hd K F2 H2 fp2 w X2 P2 → (∀ a, P1 a → (∃ j, fp j a) ∨ H a = none) → (∀ a, P2 a → (∃ j, fp j a) ∨ H a = none) → (∀ a, P1 a → ¬ P2 a) → R v w H2) :
    tX K T G x σ H fun v H1 => tX K T G y σ H1 fun w H2 => R v w H2 := by
  refine ⟨F, ρ, fp, X1, ρ1, s, h1, fun v H1 F1 fp1 P1 s1 t1 hd1 sub1 => ⟨F1, ρ1, fp1, X2, ρ2, s1, h2, fun w H2 F2 fp2 P2 s2 t2 hd2 sub2 => ?_⟩⟩
  refine k v w H2 F2 fp2 P1 P2 s2 (t1.trans t2) (hd1.keep t2) hd2 sub1 (t1.subP sub2) fun a h3 h4 => ?_
  rcases sub2 a h4 with ⟨j, hj⟩ | h5
  · exact hd1.dj a h3 j hj
  · exact (hd1.kn a h3).ne h5
end
section
variable {P : Prg} {G : Gls} {T : Tab} {n : Nat} {N : List Str} {sc : Scope} {top : Bool} {X : Cx} (o : XOk P G T n N sc top X)
theorem s_bin {op : Operator} {x y : E} {a b : Expr} {pos : Pos} (ha : PE X a (tX X.K T G x)) (hb : PE X b (tX X.K T G y)) : PE X (.BinOp a op b pos) (tX X.K T G (.bin op x y)) :=
  (pe_op (op_bin op) ha hb).mono fun σ H Q ⟨F, ρ, fp, z, ρ', s, hd, k⟩ => by
    simp only [den] at hd
    obtain ⟨⟨x1, ρ1⟩, h1, hd⟩ := Res.bind_inv hd
    obtain ⟨⟨x2, ρ2⟩, h2, hd⟩ := Res.bind_inv hd
    obtain ⟨d1, h3, hd⟩ := Res.bind_inv hd
    obtain ⟨d2, h4, hd⟩ := Res.bind_inv hd
    obtain ⟨w, h5, hd⟩ := Res.bind_inv hd
    cases hd
    exact two s h1 h2 fun v w H2 F2 fp2 P1 P2 s2 t2 hd1 hd2 _ _ _ => bin_rs op s2.le (hd1.ow.opd h3) (hd2.ow.opd h4) h5 fun v' F' H' r => fin k s2 t2 r
include o in
theorem units_ok : X.A.units + 200 < cLine := by
  have := o.room.un
  omega
include o in
theorem s_cmp {op : CmpOp} {x y : E} {a b : Expr} {pos : Pos} (ha : PE X a (tX X.K T G x)) (hb : PE X b (tX X.K T G y)) (hm : behindInMarks op b = false) : PE X (.Compare a [op] [b] pos) (tX X.K T G (.cmp op x y)) :=
  (pe_cmpR (op_cmp (units_ok o) op) ha hb hm).mono fun σ H Q ⟨F, ρ, fp, z, ρ', s, hd, k⟩ => by
    simp only [den] at hd
    obtain ⟨⟨x1, ρ1⟩, h1, hd⟩ := Res.bind_inv hd
    obtain ⟨⟨x2, ρ2⟩, h2, hd⟩ := Res.bind_inv hd
    obtain ⟨d1, h3, hd⟩ := Res.bind_inv hd
    obtain ⟨d2, h4, hd⟩ := Res.bind_inv hd
    obtain ⟨w, h5, hd⟩ := Res.bind_inv hd
    cases hd
    exact two s h1 h2 fun v w H2 F2 fp2 P1 P2 s2 t2 hd1 hd2 _ _ _ => cmp_rs op s2.le (hd1.ow.opd h3) (hd2.ow.opd h4) h5 (fin0 k s2 t2 rfl (.bl _))
include o in
theorem t_cmp {op : CmpOp} {x y : E} {a b : Expr} {pos : Pos} (ha : PE X a (tX X.K T G x)) (hb : PE X b (tX X.K T G y)) (hm : behindInMarks op b = false) : PT X (.Compare a [op] [b] pos) (tT X.K T G (.cmp op x y)) :=
  (pt_cmpR (op_cmp (units_ok o) op) ha hb hm).mono fun σ H Q ⟨F, ρ, fp, z, ρ', c, s, hd, hc, k⟩ => by
    simp only [den] at hd
    obtain ⟨⟨x1, ρ1⟩, h1, hd⟩ := Res.bind_inv hd
    obtain ⟨⟨x2, ρ2⟩, h2, hd⟩ := Res.bind_inv hd
    obtain ⟨d1, h3, hd⟩ := Res.bind_inv hd
    obtain ⟨d2, h4, hd⟩ := Res.bind_inv hd
    obtain ⟨w, h5, hd⟩ := Res.bind_inv hd
    cases hd
    cases hc
    exact two s h1 h2 fun v w H2 F2 fp2 P1 P2 s2 t2 hd1 hd2 _ _ _ => cmp_rs op s2.le (hd1.ow.opd h3) (hd2.ow.opd h4) h5 ⟨_, rfl, k _ _ _ s2 t2⟩
theorem Hd.bool {K : Frag} {F H : Hp} {fp : Nat → As} {v : V} {x : PV} {P : As} {b : Bool} (h : Hd K F H fp v x P) (e : asBool x = .ok b) : v = .bl b ∧ x = .d (.bool b) := by
  unfold asBool at e
  split at e
  · cases e; exact ⟨h.ow.dat.bl_inv, rfl⟩
  · cases e
/-- a term whose value is a bool, as a test -/
theorem t_val {x : E} {a : Expr} (ha : PE X a (tX X.K T G x)) (he : ∀ whole, isTrue a X.env whole = (do let v ← whole; standAt a.pos; holding [v] (truthy v))) : PT X a (tT X.K T G x) :=
  (pt_val ha he).mono fun σ H Q ⟨F, ρ, fp, z, ρ', c, s, hd, hc, k⟩ => ⟨F, ρ, fp, z, ρ', s, hd, fun v H' F' fp' P' s1 t1 hh _ => ⟨c, (hh.bool hc).1, k H' F' fp' s1 t1⟩⟩
theorem s_neg {x : E} {a : Expr} {pos : Pos} (ha : PE X a (tX X.K T G x)) : PE X (.UnaryOp .USub a pos) (tX X.K T G (.neg x)) :=
  (pe_un un_neg ha).mono fun σ H Q ⟨F, ρ, fp, z, ρ', s, hd, k⟩ => by
    simp only [den] at hd
    obtain ⟨⟨x1, ρ1⟩, h1, hd⟩ := Res.bind_inv hd
    dsimp only at hd
    split at hd
    · cases hd
      exact ⟨F, ρ, fp, _, _, s, h1, fun v H' F' fp' P' s1 t1 hh _ => ⟨_, hh.ow.dat.int_inv, fin0 k s1 t1 rfl (.int _)⟩⟩
    · cases hd
theorem t_not {x : E} {a : Expr} {pos : Pos} (ha : PT X a (tT X.K T G x)) : PT X (.UnaryOp .Not a pos) (tT X.K T G (.not x)) :=
  (pt_not ha).mono fun σ H Q ⟨F, ρ, fp, z, ρ', c, s, hd, hc, k⟩ => by
    simp only [den] at hd
    obtain ⟨⟨x1, ρ1⟩, h1, hd⟩ := Res.bind_inv hd
    obtain ⟨b, h2, hd⟩ := Res.bind_inv hd
    cases hd
    cases hc
    exact ⟨F, ρ, fp, _, _, b, s, h1, h2, fun H' F' fp' s1 t1 => k _ _ _ s1 t1⟩
theorem s_not {x : E} {a : Expr} {pos : Pos} (ha : PE X a (tX X.K T G x)) : PE X (.UnaryOp .Not a pos) (tX X.K T G (.not x)) :=
  (pe_not ha).mono fun σ H Q ⟨F, ρ, fp, z, ρ', s, hd, k⟩ => by
    simp only [den] at hd
    obtain ⟨⟨x1, ρ1⟩, h1, hd⟩ := Res.bind_inv hd
    obtain ⟨b, h2, hd⟩ := Res.bind_inv hd
    cases hd
    exact ⟨F, ρ, fp, _, _, s, h1, fun v H' F' fp' P' s1 t1 hh _ => ⟨b, (hh.bool h2).1, fin0 k s1 t1 rfl (.bl _)⟩⟩
theorem le_and {x y : E} : ∀ σ H Q, tX X.K T G (.and x y) σ H Q → tAndV (tX X.K T G x) (tX X.K T G y) σ H Q := fun σ H Q ⟨F, ρ, fp, z, ρ', s, hd, k⟩ => by
  simp only [den] at hd
  obtain ⟨⟨x1, ρ1⟩, h1, hd⟩ := Res.bind_inv hd
  obtain ⟨b, h2, hd⟩ := Res.bind_inv hd
  refine ⟨F, ρ, fp, _, _, s, h1, fun v H' F' fp' P' s1 t1 hh _ => ⟨b, (hh.bool h2).1, ?_⟩⟩
  cases b with
  | true =>
    obtain ⟨⟨x2, ρ2⟩, h3, hd⟩ := Res.bind_inv hd
    obtain ⟨c, h4, hd⟩ := Res.bind_inv hd
    cases hd
    exact ⟨F', _, fp', _, _, s1, h3, fun w H2 F2 fp2 P2 s2 t2 hh2 _ => by
      obtain ⟨rfl, _⟩ := hh2.bool h4
      exact fin0 k s2 (t1.trans t2) rfl (.bl _)⟩
  | false =>
    cases hd
    exact fin0 k s1 t1 rfl (.bl _)
theorem le_or {x y : E} : ∀ σ H Q, tX X.K T G (.or x y) σ H Q → tOrV (tX X.K T G x) (tX X.K T G y) σ H Q := fun σ H Q ⟨F, ρ, fp, z, ρ', s, hd, k⟩ => by
  simp only [den] at hd
  obtain ⟨⟨x1, ρ1⟩, h1, hd⟩ := Res.bind_inv hd
  obtain ⟨b, h2, hd⟩ := Res.bind_inv hd
  refine ⟨F, ρ, fp, _, _, s, h1, fun v H' F' fp' P' s1 t1 hh _ => ⟨b, (hh.bool h2).1, ?_⟩⟩
  cases b with
  | false =>
    obtain ⟨⟨x2, ρ2⟩, h3, hd⟩ := Res.bind_inv hd
    obtain ⟨c, h4, hd⟩ := Res.bind_inv hd
    cases hd
    exact ⟨F', _, fp', _, _, s1, h3, fun w H2 F2 fp2 P2 s2 t2 hh2 _ => by
      obtain ⟨rfl, _⟩ := hh2.bool h4
      exact fin0 k s2 (t1.trans t2) rfl (.bl _)⟩
  | true =>
    cases hd
    exact fin0 k s1 t1 rfl (.bl _)
theorem le_andT {x y : E} : ∀ σ H Q, tT X.K T G (.and x y) σ H Q → tAnd (tT X.K T G x) (tT X.K T G y) σ H Q := fun σ H Q ⟨F, ρ, fp, z, ρ', c, s, hd, hc, k⟩ => by
  simp only [den] at hd
  obtain ⟨⟨x1, ρ1⟩, h1, hd⟩ := Res.bind_inv hd
  obtain ⟨b, h2, hd⟩ := Res.bind_inv hd
  refine ⟨F, ρ, fp, _, _, b, s, h1, h2, fun H' F' fp' s1 t1 => ?_⟩
  cases b with
  | true =>
    obtain ⟨⟨x2, ρ2⟩, h3, hd⟩ := Res.bind_inv hd
    obtain ⟨c', h4, hd⟩ := Res.bind_inv hd
    cases hd
    cases hc
    exact ⟨F', _, fp', _, _, _, s1, h3, h4, fun H2 F2 fp2 s2 t2 => k _ _ _ s2 (t1.trans t2)⟩
  | false =>
    cases hd
    cases hc
    exact k _ _ _ s1 t1
theorem le_orT {x y : E} : ∀ σ H Q, tT X.K T G (.or x y) σ H Q → tOr (tT X.K T G x) (tT X.K T G y) σ H Q := fun σ H Q ⟨F, ρ, fp, z, ρ', c, s, hd, hc, k⟩ => by
  simp only [den] at hd
  obtain ⟨⟨x1, ρ1⟩, h1, hd⟩ := Res.bind_inv hd
  obtain ⟨b, h2, hd⟩ := Res.bind_inv hd
  refine ⟨F, ρ, fp, _, _, b, s, h1, h2, fun H' F' fp' s1 t1 => ?_⟩
  cases b with
  | false =>
    obtain ⟨⟨x2, ρ2⟩, h3, hd⟩ := Res.bind_inv hd
    obtain ⟨c', h4, hd⟩ := Res.bind_inv hd
    cases hd
    cases hc
    exact ⟨F', _, fp', _, _, _, s1, h3, h4, fun H2 F2 fp2 s2 t2 => k _ _ _ s2 (t1.trans t2)⟩
  | true =>
    cases hd
    cases hc
    exact k _ _ _ s1 t1
theorem s_isN {x : E} {a : Expr} {pos p2 : Pos} {j : Nat} (ha : PE X a (tX X.K T G x)) : PE X (.Compare a [.Is] [.Constant .none j p2] pos) (tX X.K T G (.isN x)) :=
  (pe_cmp (pc_isN ha) rfl).mono fun σ H Q ⟨F, ρ, fp, z, ρ', s, hd, k⟩ => by
    simp only [den] at hd
    obtain ⟨⟨x1, ρ1⟩, h1, hd⟩ := Res.bind_inv hd
    cases hd
    refine ⟨F, ρ, fp, _, _, s, h1, fun v H' F' fp' P' s1 t1 hh _ => fin0 k s1 t1 ?_ (.bl _)⟩
    congr 2
    cases ho : hh.ow with
    | d hq => cases hq <;> rfl
    | L => rfl
    | M => rfl
theorem s_notN {x : E} {a : Expr} {pos p2 : Pos} {j : Nat} (ha : PE X a (tX X.K T G x)) : PE X (.Compare a [.IsNot] [.Constant .none j p2] pos) (tX X.K T G (.notN x)) :=
  (pe_cmp (pc_notN ha) rfl).mono fun σ H Q ⟨F, ρ, fp, z, ρ', s, hd, k⟩ => by
    simp only [den] at hd
    obtain ⟨⟨x1, ρ1⟩, h1, hd⟩ := Res.bind_inv hd
    cases hd
    refine ⟨F, ρ, fp, _, _, s, h1, fun v H' F' fp' P' s1 t1 hh _ => fin0 k s1 t1 ?_ (.bl _)⟩
    congr 2
    cases ho : hh.ow with
    | d hq => cases hq <;> rfl
    | L => rfl
    | M => rfl
theorem s_ife {c x y : E} {t a b : Expr} {pos : Pos} (hc : PT X t (tT X.K T G c)) (ha : PE X a (tX X.K T G x)) (hb : PE X b (tX X.K T G y)) : PE X (.IfExp t a b pos) (tX X.K T G (.ife c x y)) :=
  (pe_ifExp hc ha hb).mono fun σ H Q ⟨F, ρ, fp, z, ρ', s, hd, k⟩ => by
    simp only [den] at hd
    obtain ⟨⟨x1, ρ1⟩, h1, hd⟩ := Res.bind_inv hd
    obtain ⟨b, h2, hd⟩ := Res.bind_inv hd
    refine ⟨F, ρ, fp, _, _, b, s, h1, h2, fun H' F' fp' s1 t1 => ?_⟩
    cases b with
    | true => exact ⟨F', _, fp', _, _, s1, hd, fun w H2 F2 fp2 P2 s2 t2 hh2 sub => k w H2 F2 fp2 P2 s2 (t1.trans t2) hh2 (t1.subP sub)⟩
    | false => exact ⟨F', _, fp', _, _, s1, hd, fun w H2 F2 fp2 P2 s2 t2 hh2 sub => k w H2 F2 fp2 P2 s2 (t1.trans t2) hh2 (t1.subP sub)⟩
include o in
theorem le_chain {op op' : CmpOp} {x y w : E} : ∀ σ H Q, tX X.K T G (.chain op op' x y w) σ H Q → tChain (rCmp X.K op) (rCmp X.K op') (tX X.K T G x) (tX X.K T G y) (tX X.K T G w) σ H Q := fun σ H Q ⟨F, ρ, fp, z, ρ', s, hd, k⟩ => by
  simp only [den] at hd
  obtain ⟨⟨x1, ρ1⟩, h1, hd⟩ := Res.bind_inv hd
  obtain ⟨⟨x2, ρ2⟩, h2, hd⟩ := Res.bind_inv hd
  obtain ⟨d1, h3, hd⟩ := Res.bind_inv hd
  obtain ⟨d2, h4, hd⟩ := Res.bind_inv hd
  obtain ⟨c, h5, hd⟩ := Res.bind_inv hd
  refine two s h1 h2 fun v u H2 F2 fp2 P1 P2 s2 t2 hd1 hd2 _ _ _ => cmp_rs op s2.le (hd1.ow.opd h3) (hd2.ow.opd h4) h5 ⟨c, rfl, ?_⟩
  cases c with
  | true =>
    obtain ⟨⟨x3, ρ3⟩, h6, hd⟩ := Res.bind_inv hd
    obtain ⟨d3, h7, hd⟩ := Res.bind_inv hd
    obtain ⟨c', h8, hd⟩ := Res.bind_inv hd
    cases hd
    exact ⟨F2, _, fp2, _, _, s2, h6, fun r H3 F3 fp3 P3 s3 t3 hd3 _ => cmp_rs op' s3.le ((hd2.keep t3).ow.opd h4) (hd3.ow.opd h7) h8 (fin0 k s3 (t2.trans t3) rfl (.bl _))⟩
  | false =>
    cases hd
    exact fin0 k s2 t2 rfl (.bl _)
end
end Rf
set_option maxRecDepth 100000
set_option maxHeartbeats 4000000
/-! Rf, part F: argument lists, displays, items, slices, built-ins. -/
namespace Rf
open PySem PySem.Spec PyProof.Rows L2 Evl

section
variable {K : Frag} {T : Tab} {G : Gls} {F F' H H' : Hp} {σ : L2.St} {ρ ρ' : Ro} {fp fp' : Nat → As}
/-! ### argument lists -/
theorem Args.up (e : Ex F F') : ∀ {as : E} {vs : List V} {xs : List PV} {P : As}, Args K F H σ ρ as vs xs P → (∀ a, P a → ∀ o, H a = some o → H' a = some o) → Args K F' H' σ ρ as vs xs P
  | _, _, _, _, .nil, _ => .nil
  | _, _, _, _, .io h1 h2 r, k => .io h1 h2 (Args.up e r k)
  | _, _, _, _, .cons h1 h2 r h3, k => .cons h1 (h2.up e (fun a ha => k a (.inl ha)) fun _ z => z) (Args.up e r fun a ha => k a (.inr ha)) h3
theorem Args.len : ∀ {as : E} {vs : List V} {xs : List PV} {P : As}, Args K F H σ ρ as vs xs P → vs.length = alen as ∧ xs.length = alen as
  | _, _, _, _, .nil => ⟨rfl, rfl⟩
  | _, _, _, _, .io h1 h2 r => by
    have := Args.len r
    exact ⟨by simp [alen, this.1], by simp [alen, this.2]⟩
  | _, _, _, _, .cons h1 h2 r h3 => by
    have := Args.len r
    exact ⟨by simp [alen, this.1], by simp [alen, this.2]⟩
theorem le_nilA : ∀ σ H Q, tA K T G .nil σ H Q → tNil σ H Q := fun σ H Q ⟨F, ρ, fp, xs, ρ', s, hd, k⟩ => by
  simp only [dens] at hd
  cases hd
  exact k [] H F fp none0 s (Xt.refl s.le) ⟨.nil, fun _ z => z.elim, fun _ z => z.elim, fun _ z => z.elim⟩ fun _ z => z.elim
theorem le_consA {a r : E} (hn : ∀ i, a ≠ .io i) : ∀ σ H Q, tA K T G (.cons a r) σ H Q → tCons (tX K T G a) (tA K T G r) σ H Q := fun σ H Q ⟨F, ρ, fp, xs, ρ', s, hd, k⟩ => by
  have hd' : (do
    let (x, ρ1) ← den T G a ρ
    let (ys, ρ2) ← dens T G r ρ1
    Res.ok (x :: ys, ρ2) : Res (List PV × Ro)) = Res.ok (xs, ρ') := by
    rw [← hd]
    cases a <;> first | rfl | exact absurd rfl (hn _)
  obtain ⟨⟨x, ρ1⟩, h1, h2⟩ := Res.bind_inv hd'
  obtain ⟨⟨ys, ρ2⟩, h3, h4⟩ := Res.bind_inv h2
  cases h4
  refine ⟨F, ρ, fp, x, ρ1, s, h1, fun v H1 F1 fp1 P1 s1 t1 hd1 sub1 => ⟨F1, ρ1, fp1, ys, _, s1, h3, fun vs H2 F2 fp2 P2 s2 t2 hd2 sub2 => ?_⟩⟩
  have hd1' := hd1.keep t2
  have dj : ∀ c, P1 c → ¬ P2 c := fun c h3 h4 => by
    rcases sub2 c h4 with ⟨j, hj⟩ | h5
    · exact hd1.dj c h3 j hj
    · exact (hd1.kn c h3).ne h5
  refine k (v :: vs) H2 F2 fp2 (fun c => P1 c ∨ P2 c) s2 (t1.trans t2) ⟨.cons hn hd1'.ow hd2.ow dj, fun c h => h.elim (hd1'.nf c) (hd2.nf c), fun c h => h.elim (hd1'.kn c) (hd2.kn c), fun c h => h.elim (hd1'.dj c) (hd2.dj c)⟩ fun c h => ?_
  rcases h with h | h
  · exact sub1 c h
  · exact t1.subP sub2 c h
theorem le_ioA {i : Nat} {r : E} : ∀ σ H Q, tA K T G (.cons (.io i) r) σ H Q → tCons (tVar i) (tA K T G r) σ H Q := fun σ H Q ⟨F, ρ, fp, xs, ρ', s, hd, k⟩ => by
  simp only [dens] at hd
  split at hd
  · cases hd
  · rename_i y hy
    obtain ⟨⟨ys, ρ2⟩, h3, h4⟩ := Res.bind_inv hd
    dsimp only at h4
    split at h4
    · rename_i z hz
      cases h4
      obtain ⟨v, e1, _⟩ := s.ow i _ hy
      refine ⟨v, e1, F, ρ, fp, ys, _, s, h3, fun vs H2 F2 fp2 P2 s2 t2 hd2 sub2 => ?_⟩
      exact k (v :: vs) H2 F2 fp2 P2 s2 t2 ⟨.io e1 hz hd2.ow, hd2.nf, hd2.kn, hd2.dj⟩ sub2
    · cases h4

theorem noIo_tail {a r : E} (h : ∀ i, a ≠ .io i) (n : noIo (.cons a r) = true) : noIo r = true := by
  cases a <;> first | exact n | exact absurd rfl (h _)
/-! ### arguments settled; arguments as operands -/
theorem settleA : ∀ {as : E} {vs : List V} {xs : List PV} {P : As} {F : Hp} {ys : List PyData}, Args K F H σ ρ as vs xs P → noIo as = true → fzs xs = .ok ys → St K F H σ ρ fp → (∀ a, P a → F a = none) → (∀ a, P a → Mu (H a)) → (∀ a, P a → ∀ i, ¬ fp i a) →
    ∃ F', St K F' H σ ρ fp ∧ Ex F F' ∧ (∀ a o, F' a = some o → F a = some o ∨ P a) ∧ Rps K F' vs ys
  | _, _, _, _, F, _, .nil, _, e, s, _, _, _ => by
    cases e
    exact ⟨F, s, Ex.refl F, fun _ _ h => .inl h, .nil⟩
  | _, _, _, _, F, _, .io _ _ _, n, _, _, _, _, _ => by cases n
  | _, _, _, _, F, ys, .cons (P := P1) (P' := P2) h1 h2 r h3, n, e, s, nf, kn, dj => by
    simp only [fzs_cons] at e
    obtain ⟨y, e1, e⟩ := Res.bind_inv e
    obtain ⟨ys', e2, e⟩ := Res.bind_inv e
    cases e
    have hh : Hd K F H fp _ _ P1 := ⟨h2, fun a z => nf a (.inl z), fun a z => kn a (.inl z), fun a z => dj a (.inl z)⟩
    obtain ⟨F1, s1, x1, q1, d1⟩ := hh.settle s e1
    have n' := noIo_tail h1 n
    obtain ⟨F2, s2, x2, q2, d2⟩ := settleA (r.up x1 fun _ _ _ z => z) n' e2 s1 (fun a ha => by
      cases q : F1 a with
      | none => rfl
      | some o =>
        rcases q1 a o q with z | z
        · rw [nf a (.inr ha)] at z; cases z
        · exact absurd ha (h3 a z)) (fun a z => kn a (.inr z)) (fun a z => dj a (.inr z))
    refine ⟨F2, s2, x1.trans x2, fun a o q => ?_, .cons (d1.up x2) d2⟩
    rcases q2 a o q with z | z
    · rcases q1 a o z with z2 | z2
      · exact .inl z2
      · exact .inr (.inl z2)
    · exact .inr (.inr z)
inductive Opds (K : Frag) (F H : Hp) : List V → List PyData → Prop where
  | nil : Opds K F H [] []
  | cons {v : V} {x : PyData} {vs : List V} {xs : List PyData} : Opd K F H v x → Opds K F H vs xs → Opds K F H (v :: vs) (x :: xs)
theorem Args.opds : ∀ {as : E} {vs : List V} {xs : List PV} {P : As} {ys : List PyData}, Args K F H σ ρ as vs xs P → noIo as = true → fzs xs = .ok ys → Opds K F H vs ys
  | _, _, _, _, _, .nil, _, e => by cases e; exact .nil
  | _, _, _, _, _, .io _ _ _, n, _ => by cases n
  | _, _, _, _, ys, .cons h1 h2 r h3, n, e => by
    simp only [fzs_cons] at e
    obtain ⟨y, e1, e⟩ := Res.bind_inv e
    obtain ⟨ys', e2, e⟩ := Res.bind_inv e
    cases e
    have n' := noIo_tail h1 n
    exact .cons (h2.opd e1) (Args.opds r n' e2)
theorem Opds.one {x : PyData} {vs : List V} (h : Opds K F H vs [x]) : ∃ v, vs = [v] ∧ Opd K F H v x := by
  cases h with
  | cons h r => cases r; exact ⟨_, rfl, h⟩
theorem Opds.two {x y : PyData} {vs : List V} (h : Opds K F H vs [x, y]) : ∃ v w, vs = [v, w] ∧ Opd K F H v x ∧ Opd K F H w y := by
  cases h with
  | cons h r =>
    cases r with
    | cons h2 r => cases r; exact ⟨_, _, rfl, h, h2⟩
end

section
variable {P : Prg} {G : Gls} {T : Tab} {n : Nat} {N : List Str} {sc : Scope} {top : Bool} {X : Cx} (o : XOk P G T n N sc top X)
/-! ### displays -/
theorem s_tup {as : E} {es : List Expr} {j : Nat} {pos : Pos} (ha : PA X es (tA X.K T G as)) (hn : noIo as = true) (hl : alen as ≤ 1000) : PE X (.Tuple es j pos) (tX X.K T G (.tup as)) :=
  (pe_tup ha).mono fun σ H Q ⟨F, ρ, fp, z, ρ', s, hd, k⟩ => by
    simp only [den] at hd
    obtain ⟨⟨xs, ρ1⟩, h1, hd⟩ := Res.bind_inv hd
    obtain ⟨ys, h2, hd⟩ := Res.bind_inv hd
    cases hd
    refine ⟨F, ρ, fp, xs, ρ1, s, h1, fun vs H1 F1 fp1 P1 s1 t1 hd1 sub => ?_⟩
    obtain ⟨F2, s2, x2, q2, d2⟩ := settleA hd1.ow hn h2 s1 hd1.nf hd1.kn hd1.dj
    exact ⟨mil (by have := hd1.ow.len.1; omega), fun p hp => fin k s2 (t1.grow sub x2 s2.le q2) (Rs.newT s2.le hp d2)⟩
theorem s_lst {as : E} {es : List Expr} {pos : Pos} (ha : PA X es (tA X.K T G as)) (hn : noIo as = true) (hl : alen as ≤ 1000) : PE X (.List es pos) (tX X.K T G (.lst as)) :=
  (pe_lst ha).mono fun σ H Q ⟨F, ρ, fp, z, ρ', s, hd, k⟩ => by
    simp only [den] at hd
    obtain ⟨⟨xs, ρ1⟩, h1, hd⟩ := Res.bind_inv hd
    obtain ⟨ys, h2, hd⟩ := Res.bind_inv hd
    cases hd
    refine ⟨F, ρ, fp, xs, ρ1, s, h1, fun vs H1 F1 fp1 P1 s1 t1 hd1 sub => ?_⟩
    obtain ⟨F2, s2, x2, q2, d2⟩ := settleA hd1.ow hn h2 s1 hd1.nf hd1.kn hd1.dj
    exact ⟨mil (by have := hd1.ow.len.1; omega), fun p hp => fin k s2 (t1.grow sub x2 s2.le q2) (Rs.newL s2.le hp d2)⟩

/-! ### items and slices -/
theorem atI_rps {K : Frag} {F : Hp} {vs : List V} {xs : List PyData} {i : Int} {x : PyData} (h : Rps K F vs xs) (e : atI xs i = some x) : ∃ v, atI vs i = some v ∧ Rp K F v x := by
  unfold atI at e ⊢
  rw [h.length]
  cases q : ixN xs.length i with
  | none => rw [q] at e; cases e
  | some j =>
    rw [q] at e
    exact h.get (show xs[j]? = some x from e)
theorem ix_rs {K : Frag} {F H : Hp} {v w : V} {dx dy z : PyData} {Q : VK} (e : Ex F H) (h1 : Opd K F H v dx) (h2 : Opd K F H w dy) (hz : ixD dx dy = .ok z) (k : ∀ v', Rp K F v' z → Q v' H) : rIx K v w H Q := by
  unfold ixD at hz
  split at hz
  · split at hz
    · rename_i hx
      cases hz
      obtain ⟨a, ys, e1, e2, e3⟩ := h1.lst_inv e
      obtain ⟨u, h3, h4⟩ := atI_rps e3 hx
      exact .inl ⟨a, ys, _, u, e1, h2.int_inv, e2.sq, h3, k u h4⟩
    · cases hz
  · split at hz
    · rename_i hx
      cases hz
      obtain ⟨a, ys, e1, e2, e3⟩ := h1.tup_inv e
      obtain ⟨u, h3, h4⟩ := atI_rps e3 hx
      exact .inr (.inl ⟨a, ys, _, u, e1, h2.int_inv, e2, h3, k u h4⟩)
    · cases hz
  · split at hz
    · rename_i hx
      obtain ⟨_, g, hz⟩ := Res.bind_inv hz
      cases hz
      exact .inr (.inr ⟨_, _, _, h1.str_inv, h2.int_inv, mil (of_decide_eq_true (Res.guard_inv g)), hx, k _ (.str _)⟩)
    · cases hz
  · cases hz
theorem s_ix {x y : E} {a b : Expr} {pos : Pos} (ha : PE X a (tX X.K T G x)) (hb : PE X b (tX X.K T G y)) (hp : PlainIx b) : PE X (.Subscript a b pos) (tX X.K T G (.ix x y)) :=
  (pe_ix ix_seq ha hb hp).mono fun σ H Q ⟨F, ρ, fp, z, ρ', s, hd, k⟩ => by
    simp only [den] at hd
    obtain ⟨⟨x1, ρ1⟩, h1, hd⟩ := Res.bind_inv hd
    obtain ⟨⟨x2, ρ2⟩, h2, hd⟩ := Res.bind_inv hd
    obtain ⟨d1, h3, hd⟩ := Res.bind_inv hd
    obtain ⟨d2, h4, hd⟩ := Res.bind_inv hd
    obtain ⟨w, h5, hd⟩ := Res.bind_inv hd
    cases hd
    exact two s h1 h2 fun v w H2 F2 fp2 P1 P2 s2 t2 hd1 hd2 _ _ _ => ix_rs s2.le (hd1.ow.opd h3) (hd2.ow.opd h4) h5 fun v' r => fin0 k s2 t2 rfl r
theorem cut_rps {K : Frag} {F : Hp} {vs : List V} {xs : List PyData} {lo hi : Option Int} (h : Rps K F vs xs) : Rps K F (cutV vs lo hi) (cut xs lo hi) := by
  unfold cutV cut
  rw [h.length]
  exact (h.drop _).take _
def rSl3 (K : Frag) : V → Option Int → Option Int → Hp → VK → Prop := fun x lo hi H Q => rSlL K x lo hi H Q ∨ (L2.rSlA K x lo hi H Q ∨ rSlS x lo hi H Q)
theorem sl_any : SlR X (rSl3 X.K) := sl_list.or (sl_tupA.or sl_str)
theorem sl_rs {K : Frag} {F H : Hp} {v : V} {dx : PyData} {lo hi : Option Int} {z : PV} {Q : VK} (e : Ex F H) (h1 : Opd K F H v dx) (hz : slS dx lo hi = .ok z) (k : ∀ v' F' H', Rs K F H F' H' v' z → Q v' H') : rSl3 K v lo hi H Q := by
  unfold slS at hz
  split at hz
  · cases hz
    obtain ⟨a, ys, e1, e2, e3⟩ := h1.lst_inv e
    exact .inl ⟨a, ys, e1, e2.sq, fun p hp => k _ _ _ (Rs.newL e hp (cut_rps e3))⟩
  · cases hz
    obtain ⟨a, ys, e1, e2, e3⟩ := h1.tup_inv e
    refine .inr (.inl ⟨a, ys, e1, e2, fun hw => ?_, fun _ p hp => k _ _ _ (Rs.newT e hp (cut_rps e3))⟩)
    rename_i xs
    have he : cut xs lo hi = xs := by
      unfold cut
      rw [← e3.length, hw.1, hw.2, List.drop_zero, Nat.sub_zero, e3.length, List.take_length]
    rw [he] at k
    subst e1
    cases h1 with
    | d h => exact k _ F H (Rs.same e h)
  · obtain ⟨_, g, hz⟩ := Res.bind_inv hz
    cases hz
    exact .inr (.inr ⟨_, h1.str_inv, mil (of_decide_eq_true (Res.guard_inv g)), rs_str e k⟩)
  · cases hz
end
end Rf
set_option maxRecDepth 100000
set_option maxHeartbeats 4000000
/-! Rf, part G: slices, built-ins, isinstance, places, methods, calls. -/
namespace Rf
open PySem PySem.Spec PyProof.Rows L2 Evl
section
variable {P : Prg} {G : Gls} {T : Tab} {n : Nat} {N : List Str} {sc : Scope} {top : Bool} {X : Cx} (o : XOk P G T n N sc top X)
/-! ### slices -/
def tO (K : Frag) (T : Tab) (G : Gls) (lo : E) : TO := if isNone lo = true then tNoPart else tPart (tX K T G lo)
theorem po_of {lo : E} {l : Option Expr} (h : (l = none ∧ isNone lo = true) ∨ ∃ e, l = some e ∧ isNone lo = false ∧ PE X e (tX X.K T G lo)) : PO X l (tO X.K T G lo) := by
  unfold tO
  rcases h with ⟨rfl, h⟩ | ⟨e, rfl, h, he⟩
  · rw [if_pos h]; exact po_none
  · rw [if_neg (by rw [h]; simp)]; exact po_some he
theorem tO_of {K : Frag} {lo : E} {σ : L2.St} {F H : Hp} {ρ ρ1 : Ro} {fp : Nat → As} {l : PV} {l' : PyData} {oi : Option Int} {R : Option Int → Hp → Prop} (s : St K F H σ ρ fp) (h1 : den T G lo ρ = .ok (l, ρ1)) (h2 : l.fz = .ok l') (h3 : optI lo l' = .ok oi)
    (k : ∀ H' F' fp', St K F' H' σ ρ1 fp' → Xt F H fp F' H' fp' → R oi H') : tO K T G lo σ H R := by
  unfold tO
  by_cases hn : isNone lo = true
  · rw [if_pos hn]
    cases lo <;> first | cases hn | skip
    simp only [den] at h1
    cases h1
    cases h2
    cases h3
    exact k H F fp s (Xt.refl s.le)
  · rw [if_neg hn]
    refine ⟨F, ρ, fp, l, ρ1, s, h1, fun v H' F' fp' P' s' t' hh _ => ?_⟩
    cases l' with
    | int i =>
      cases h3
      exact ⟨i, (hh.ow.opd h2).int_inv, k H' F' fp' s' t'⟩
    | none =>
      unfold optI at h3
      rw [if_neg hn] at h3
      cases h3
    | _ => cases h3
theorem s_sl {x lo hi : E} {a : Expr} {l h : Option Expr} {p2 pos : Pos} (ha : PE X a (tX X.K T G x)) (hl : PO X l (tO X.K T G lo)) (hh : PO X h (tO X.K T G hi)) : PE X (.Subscript a (.Slice l h none p2) pos) (tX X.K T G (.sl x lo hi)) :=
  (pe_slice sl_any ha hl hh).mono fun σ H Q ⟨F, ρ, fp, z, ρ', s, hd, k⟩ => by
    simp only [den] at hd
    obtain ⟨⟨x1, ρ1⟩, h1, hd⟩ := Res.bind_inv hd
    obtain ⟨⟨x2, ρ2⟩, h2, hd⟩ := Res.bind_inv hd
    obtain ⟨⟨x3, ρ3⟩, h3, hd⟩ := Res.bind_inv hd
    obtain ⟨d1, g1, hd⟩ := Res.bind_inv hd
    obtain ⟨d2, g2, hd⟩ := Res.bind_inv hd
    obtain ⟨d3, g3, hd⟩ := Res.bind_inv hd
    obtain ⟨o2, g4, hd⟩ := Res.bind_inv hd
    obtain ⟨o3, g5, hd⟩ := Res.bind_inv hd
    obtain ⟨w, g6, hd⟩ := Res.bind_inv hd
    cases hd
    refine ⟨F, ρ, fp, x1, ρ1, s, h1, fun v H1 F1 fp1 P1 s1 t1 hd1 sub1 => ?_⟩
    refine tO_of s1 h2 g2 g4 fun H2 F2 fp2 s2 t2 => tO_of s2 h3 g3 g5 fun H3 F3 fp3 s3 t3 => ?_
    exact sl_rs s3.le (((hd1.keep t2).keep t3).ow.opd g1) g6 fun v' F' H' r => fin k s3 ((t1.trans t2).trans t3) r

/-! ### built-ins -/
theorem intsV {K : Frag} {F : Hp} : ∀ {vs : List V} {xs : List PyData} {ns : List Int}, Rps K F vs xs → intsOf xs = some ns → vs = ns.map V.int
  | _, _, _, .nil, h => by cases h; rfl
  | _, _, ns, .cons (d := d) a b, h => by
    cases a with
    | int i =>
      simp only [intsOf] at h
      cases q : intsOf _ with
      | none => rw [q] at h; cases h
      | some r =>
        rw [q] at h
        cases h
        rw [intsV b q]; rfl
    | _ => cases h
theorem maxI_spec : ∀ (r : List Int) (m : Int), maxI m r ∈ m :: r ∧ ∀ y ∈ m :: r, y ≤ maxI m r
  | [], m => ⟨List.mem_cons_self, fun y hy => by simp at hy; rw [hy]; exact Int.le_refl _⟩
  | x :: r, m => by
    obtain ⟨h1, h2⟩ := maxI_spec r (if x > m then x else m)
    unfold maxI
    generalize maxI (if x > m then x else m) r = w at h1 h2 ⊢
    refine ⟨?_, fun y hy => ?_⟩
    · rcases List.mem_cons.mp h1 with q | q
      · rw [q]; split <;> simp
      · exact List.mem_cons_of_mem _ (List.mem_cons_of_mem _ q)
    · have hm := h2 _ List.mem_cons_self
      rcases List.mem_cons.mp hy with q | q
      · subst q; split at hm <;> omega
      · rcases List.mem_cons.mp q with q | q
        · subst q; split at hm <;> omega
        · exact h2 y (List.mem_cons_of_mem _ q)
theorem minI_spec : ∀ (r : List Int) (m : Int), minI m r ∈ m :: r ∧ ∀ y ∈ m :: r, minI m r ≤ y
  | [], m => ⟨List.mem_cons_self, fun y hy => by simp at hy; rw [hy]; exact Int.le_refl _⟩
  | x :: r, m => by
    obtain ⟨h1, h2⟩ := minI_spec r (if x < m then x else m)
    unfold minI
    generalize minI (if x < m then x else m) r = w at h1 h2 ⊢
    refine ⟨?_, fun y hy => ?_⟩
    · rcases List.mem_cons.mp h1 with q | q
      · rw [q]; split <;> simp
      · exact List.mem_cons_of_mem _ (List.mem_cons_of_mem _ q)
    · have hm := h2 _ List.mem_cons_self
      rcases List.mem_cons.mp hy with q | q
      · subst q; split at hm <;> omega
      · rcases List.mem_cons.mp q with q | q
        · subst q; split at hm <;> omega
        · exact h2 y (List.mem_cons_of_mem _ q)
abbrev R1 := List V → Hp → VK → Prop
def rLen (K : Frag) : R1 := fun xs H Q => (∃ p ys, xs = [.ref p] ∧ (SqL K H p ys ∨ SqT K H p ys) ∧ Q (.int ys.length) H) ∨ ∃ z, xs = [.str z] ∧ z.length ≤ sizeLine ∧ Q (.int z.length) H
theorem c_len : CallR X (.builtin "len") (rLen X.K) := call_len_seq.or call_len_str
def rMax12 (K : Frag) : R1 := fun xs H Q => (∃ i j, xs = [.int i, .int j] ∧ Q (.int (if j > i then j else i)) H) ∨ rMax K xs H Q
def rMin12 (K : Frag) : R1 := fun xs H Q => (∃ i j, xs = [.int i, .int j] ∧ Q (.int (if j < i then j else i)) H) ∨ rMin K xs H Q
theorem c_max (hc : X.calm = true) : CallR X (.builtin "max") (rMax12 X.K) := (call_max2 hc).or (cr_max hc)
theorem c_min (hc : X.calm = true) : CallR X (.builtin "min") (rMin12 X.K) := (call_min2 hc).or (cr_min hc)
def boolsV {K : Frag} {F : Hp} : ∀ {vs : List V} {xs : List PyData} {ns : List Bool}, Rps K F vs xs → boolsOf xs = some ns → vs = ns.map V.bl
  | _, _, _, .nil, h => by cases h; rfl
  | _, _, ns, .cons (d := d) a b, h => by
    cases a with
    | bl i =>
      simp only [boolsOf] at h
      cases q : boolsOf _ with
      | none => rw [q] at h; cases h
      | some r =>
        rw [q] at h
        cases h
        rw [boolsV b q]; rfl
    | _ => cases h
def rMaxA (K : Frag) : R1 := fun xs H Q => rMax12 K xs H Q ∨ rNuC3 nuMax3 xs H Q
def rMinA (K : Frag) : R1 := fun xs H Q => rMin12 K xs H Q ∨ rNuC3 nuMin3 xs H Q
theorem c_maxA (hc : X.calm = true) : CallR X (.builtin "max") (rMaxA X.K) := (c_max hc).or (call_max3Nu hc)
theorem c_minA (hc : X.calm = true) : CallR X (.builtin "min") (rMinA X.K) := (c_min hc).or (call_min3Nu hc)
theorem nu_max2 (i j : Int) : nuMax2 (.int i) (.int j) = some (.int (if j > i then j else i)) := by
  show some (if decide (i < j) = true then V.int j else V.int i) = _
  by_cases h : i < j <;> simp [h]
theorem nu_min2 (i j : Int) : nuMin2 (.int i) (.int j) = some (.int (if j < i then j else i)) := by
  show some (if decide (j < i) = true then V.int j else V.int i) = _
  by_cases h : j < i <;> simp [h]
theorem nu_max3 (i j k : Int) : nuMax3 (.int i) (.int j) (.int k) = some (.int (if k > (if j > i then j else i) then k else (if j > i then j else i))) := by
  unfold nuMax3
  rw [nu_max2]
  exact nu_max2 _ _
theorem nu_min3 (i j k : Int) : nuMin3 (.int i) (.int j) (.int k) = some (.int (if k < (if j < i then j else i) then k else (if j < i then j else i))) := by
  unfold nuMin3
  rw [nu_min2]
  exact nu_min2 _ _
/-- what a built-in's reading asks -/
def rBi (K : Frag) : Bi → R1
  | .len => rLen K
  | .max => rMaxA K
  | .min => rMinA K
  | .all => rAll K
  | .any => rAny K
  | .abs => fun xs H Q => ∃ i, xs = [.int i] ∧ Q (.int (if i < 0 then -i else i)) H
  | .int => fun xs H Q => ((∃ i, xs = [.int i] ∧ Q (.int i) H) ∨ ∃ k, xs = [.bl k] ∧ Q (.int (if k then 1 else 0)) H) ∨ ∃ a n, xs = [.str a] ∧ PySem.intText? a = some n ∧ a.length ≤ 640 ∧ Q (.int n) H
  | .str => fun xs H Q => ∃ i, xs = [.int i] ∧ i.natAbs.log2 < 1920 ∧ Q (.str (toString i)) H
  | .list => fun xs H Q => ∃ p ys, xs = [.ref p] ∧ (SqL K H p ys ∨ SqT K H p ys) ∧ ∀ l, H l = none → Q (.ref l) (upd H l (.lst ys))
  | .tuple => fun xs H Q => ∃ p ys, xs = [.ref p] ∧ ((SqL K H p ys ∧ ∀ l, H l = none → Q (.ref l) (upd H l (.tup ys))) ∨ (SqT K H p ys ∧ Q (.ref p) H))
  | .sum => rSum K
  | _ => fun _ _ _ => False
theorem Opds.three {K : Frag} {F H : Hp} {x y z : PyData} {vs : List V} (h : Opds K F H vs [x, y, z]) : ∃ v w u, vs = [v, w, u] ∧ Opd K F H v x ∧ Opd K F H w y ∧ Opd K F H u z := by
  cases h with
  | cons h r =>
    cases r with
    | cons h2 r =>
      cases r with
      | cons h3 r => cases r; exact ⟨_, _, _, rfl, h, h2, h3⟩
theorem bi_rs {K : Frag} {F H : Hp} {vs : List V} {ys : List PyData} {z : PV} {Q : VK} (b : Bi) (e : Ex F H) (h : Opds K F H vs ys) (hz : biS b ys = .ok z) (k : ∀ v' F' H', Rs K F H F' H' v' z → Q v' H') : rBi K b vs H Q := by
  unfold biS at hz
  split at hz
  · cases hz
    obtain ⟨v, rfl, h1⟩ := h.one
    obtain ⟨a, ys, rfl, e2, e3⟩ := h1.lst_inv e
    exact .inl ⟨a, ys, rfl, .inl e2.sq, by rw [e3.length]; exact rs_int e k⟩
  · cases hz
    obtain ⟨v, rfl, h1⟩ := h.one
    obtain ⟨a, ys, rfl, e2, e3⟩ := h1.tup_inv e
    exact .inl ⟨a, ys, rfl, .inr e2, by rw [e3.length]; exact rs_int e k⟩
  · obtain ⟨_, g, hz⟩ := Res.bind_inv hz
    cases hz
    obtain ⟨v, rfl, h1⟩ := h.one
    obtain rfl := h1.str_inv
    exact .inr ⟨_, rfl, mil (of_decide_eq_true (Res.guard_inv g)), rs_int e k⟩
  · cases hz
    obtain ⟨v, w, rfl, h1, h2⟩ := h.two
    obtain rfl := h1.int_inv
    obtain rfl := h2.int_inv
    exact .inl (.inl ⟨_, _, rfl, rs_int e k⟩)
  · cases hz
    obtain ⟨v, w, rfl, h1, h2⟩ := h.two
    obtain rfl := h1.int_inv
    obtain rfl := h2.int_inv
    exact .inl (.inl ⟨_, _, rfl, rs_int e k⟩)
  · split at hz
    · rename_i m r hi
      cases hz
      obtain ⟨v, rfl, h1⟩ := h.one
      obtain ⟨a, ys, rfl, e2, e3⟩ := h1.lst_inv e
      have hy := intsV e3 hi
      subst hy
      refine .inl (.inr ⟨a, _, rfl, e2.sq, by simp, fun m' hm hle => ?_⟩)
      obtain ⟨q1, q2⟩ := maxI_spec r m
      have : m' = maxI m r := by
        have h1 := hle _ q1
        have h2 := q2 _ hm
        omega
      rw [this]; exact rs_int e k
    · cases hz
  · split at hz
    · rename_i m r hi
      cases hz
      obtain ⟨v, rfl, h1⟩ := h.one
      obtain ⟨a, ys, rfl, e2, e3⟩ := h1.lst_inv e
      have hy := intsV e3 hi
      subst hy
      refine .inl (.inr ⟨a, _, rfl, e2.sq, by simp, fun m' hm hle => ?_⟩)
      obtain ⟨q1, q2⟩ := minI_spec r m
      have : m' = minI m r := by
        have h1 := hle _ q1
        have h2 := q2 _ hm
        omega
      rw [this]; exact rs_int e k
    · cases hz
  · cases hz
    obtain ⟨v, rfl, h1⟩ := h.one
    obtain rfl := h1.int_inv
    exact ⟨_, rfl, rs_int e k⟩
  · cases hz
    obtain ⟨v, rfl, h1⟩ := h.one
    obtain rfl := h1.int_inv
    exact .inl (.inl ⟨_, rfl, rs_int e k⟩)
  · cases hz
    obtain ⟨v, rfl, h1⟩ := h.one
    obtain rfl := h1.bl_inv
    exact .inl (.inr ⟨_, rfl, rs_int e k⟩)
  · obtain ⟨_, g, hz⟩ := Res.bind_inv hz
    cases hz
    obtain ⟨v, rfl, h1⟩ := h.one
    obtain rfl := h1.int_inv
    exact ⟨_, rfl, of_decide_eq_true (Res.guard_inv g), rs_str e k⟩
  · cases hz
    obtain ⟨v, rfl, h1⟩ := h.one
    obtain ⟨a, ys, rfl, e2, e3⟩ := h1.lst_inv e
    exact ⟨a, ys, rfl, .inl e2.sq, fun l hl => k _ _ _ (Rs.newL e hl e3)⟩
  · cases hz
    obtain ⟨v, rfl, h1⟩ := h.one
    obtain ⟨a, ys, rfl, e2, e3⟩ := h1.tup_inv e
    exact ⟨a, ys, rfl, .inr e2, fun l hl => k _ _ _ (Rs.newL e hl e3)⟩
  · cases hz
    obtain ⟨v, rfl, h1⟩ := h.one
    obtain ⟨a, ys, rfl, e2, e3⟩ := h1.lst_inv e
    exact ⟨a, ys, rfl, .inl ⟨e2.sq, fun l hl => k _ _ _ (Rs.newT e hl e3)⟩⟩
  · cases hz
    obtain ⟨v, rfl, h1⟩ := h.one
    obtain ⟨a, ys, rfl, e2, e3⟩ := h1.tup_inv e
    refine ⟨a, ys, rfl, .inr ⟨e2, ?_⟩⟩
    cases h1 with
    | d h => exact k _ F H (Rs.same e h)
  · split at hz
    · rename_i hi
      cases hz
      obtain ⟨v, rfl, h1⟩ := h.one
      obtain ⟨a, ys, rfl, e2, e3⟩ := h1.lst_inv e
      have hy := intsV e3 hi
      subst hy
      exact ⟨a, _, rfl, e2.sq, rs_int e k⟩
    · cases hz
  · cases hz
    obtain ⟨v, w, u, rfl, h1, h2, h3⟩ := h.three
    obtain rfl := h1.int_inv
    obtain rfl := h2.int_inv
    obtain rfl := h3.int_inv
    exact .inr ⟨_, _, _, _, rfl, nu_max3 _ _ _, rs_int e k⟩
  · cases hz
    obtain ⟨v, w, u, rfl, h1, h2, h3⟩ := h.three
    obtain rfl := h1.int_inv
    obtain rfl := h2.int_inv
    obtain rfl := h3.int_inv
    exact .inr ⟨_, _, _, _, rfl, nu_min3 _ _ _, rs_int e k⟩
  · split at hz
    · rename_i hi
      cases hz
      obtain ⟨v, rfl, h1⟩ := h.one
      obtain ⟨a, ys, rfl, e2, e3⟩ := h1.lst_inv e
      have hy := boolsV e3 hi
      subst hy
      exact ⟨a, _, rfl, e2.sq, rs_bl e k⟩
    · cases hz
  · split at hz
    · rename_i hi
      cases hz
      obtain ⟨v, rfl, h1⟩ := h.one
      obtain ⟨a, ys, rfl, e2, e3⟩ := h1.lst_inv e
      have hy := boolsV e3 hi
      subst hy
      exact ⟨a, _, rfl, e2.sq, rs_bl e k⟩
    · cases hz
  · split at hz
    · rename_i hi
      obtain ⟨_, g, hz⟩ := Res.bind_inv hz
      cases hz
      obtain ⟨v, rfl, h1⟩ := h.one
      obtain rfl := h1.str_inv
      exact .inr ⟨_, _, rfl, hi, of_decide_eq_true (Res.guard_inv g), rs_int e k⟩
    · cases hz
  · cases hz
theorem le_bi {as : E} (b : Bi) (hn : noIo as = true) : ∀ σ H Q, tX X.K T G (.bi b as) σ H Q → tCB (rBi X.K b) (tA X.K T G as) σ H Q := fun σ H Q ⟨F, ρ, fp, z, ρ', s, hd, k⟩ => by
  simp only [den] at hd
  obtain ⟨⟨xs, ρ1⟩, h1, hd⟩ := Res.bind_inv hd
  obtain ⟨ys, h2, hd⟩ := Res.bind_inv hd
  obtain ⟨w, h3, hd⟩ := Res.bind_inv hd
  cases hd
  exact ⟨F, ρ, fp, xs, _, s, h1, fun vs H1 F1 fp1 P1 s1 t1 hd1 sub => bi_rs b s1.le (hd1.ow.opds hn h2) h3 fun v' F' H' r => fin k s1 t1 r⟩
theorem plain_tail {env : Env} {pos : Pos} : ∀ {es : List Expr}, es.all noStar = true → (backTo pos (starEach es env)).any (·.1) = false := by
  intro es
  induction es with
  | nil => intro _; rfl
  | cons e es ih =>
    intro h
    rw [List.all_cons, Bool.and_eq_true] at h
    rw [star_ok h.1]
    show (false || (backTo pos (starEach es env)).any (·.1)) = false
    rw [ih h.2] <;> rfl
/-! ### list(reversed(x)) -/
include o in
theorem s_lrev {e : E} {f g : Str} {l : Expr} {p p2 pos pos2 : Pos} (he : PE X l (tX X.K T G e)) (hs : noStar l = true) (hf : f = "list") (hgf : glo sc f = true) (hg : g = "reversed") (hgg : glo sc g = true) :
    PE X (.Call (.Name f p) [.Call (.Name g p2) [l] [] pos2] [] pos) (tX X.K T G (.lrev e)) := by
  obtain ⟨f1, f2, f3⟩ := glo_ok o hgf
  obtain ⟨g1, g2, g3⟩ := glo_ok o hgg
  subst hf
  subst hg
  refine (RX.pe_listRev o.calm f1 (o.blt _ (by decide +kernel)) g1 (o.blt _ (by decide +kernel)) he (star_ok hs) rfl).mono fun σ H Q ⟨F, ρ, fp, z, ρ', s, hd, k⟩ => ?_
  simp only [den] at hd
  obtain ⟨⟨x1, ρ1⟩, h1, hd⟩ := Res.bind_inv hd
  obtain ⟨d1, h2, hd⟩ := Res.bind_inv hd
  dsimp only at hd
  split at hd
  · cases hd
    refine ⟨F, ρ, fp, x1, _, s, h1, fun v H1 F1 fp1 P1 s1 t1 hd1 sub => ?_⟩
    obtain ⟨a, ys, rfl, e2, e3⟩ := (hd1.ow.opd h2).lst_inv s1.le
    exact ⟨a, ys, rfl, e2.sq, fun q hq => fin k s1 t1 (Rs.newL s1.le hq e3.reverse)⟩
  · cases hd
include o in
theorem s_bi {b : Bi} {as : E} {x : Str} {p pos : Pos} {es : List Expr} (ha : PA X es (tA X.K T G as)) (hl : es.length = alen as) (hs : es.all noStar = true) (hx : x = biName b) (hg : glo sc x = true) (hn : noIo as = true) (hb : biOk b (alen as) = true) : PE X (.Call (.Name x p) es [] pos) (tX X.K T G (.bi b as)) := by
  obtain ⟨g1, g2, g3⟩ := glo_ok o hg
  cases es with
  | nil =>
    rw [← hl] at hb
    cases b <;> cases hb
  | cons e es =>
    rw [List.all_cons, Bool.and_eq_true] at hs
    have he : starEach (e :: es) X.env = (false, eval e X.env) :: starEach es X.env := star_ok hs.1
    have hpl : (backTo pos (starEach es X.env)).any (·.1) = false := plain_tail hs.2
    subst hx
    cases b
    case len => exact (pe_callB c_len g1 (o.blt _ (by decide +kernel)) (by decide +kernel) ha g3 g2 he hpl).mono (le_bi _ hn)
    case max => exact (pe_callB (c_maxA o.calm) g1 (o.blt _ (by decide +kernel)) (by decide +kernel) ha g3 g2 he hpl).mono (le_bi _ hn)
    case min => exact (pe_callB (c_minA o.calm) g1 (o.blt _ (by decide +kernel)) (by decide +kernel) ha g3 g2 he hpl).mono (le_bi _ hn)
    case abs => exact (pe_callB call_abs g1 (o.blt _ (by decide +kernel)) (by decide +kernel) ha g3 g2 he hpl).mono (le_bi _ hn)
    case int => exact (pe_callTy (call_int1.or call_int_str) g1 (o.blt _ (by decide +kernel)) (by decide +kernel) ha g3 g2 he hpl).mono (le_bi _ hn)
    case str => exact (pe_callTy call_str_int g1 (o.blt _ (by decide +kernel)) (by decide +kernel) ha g3 g2 he hpl).mono (le_bi _ hn)
    case list => exact (pe_callTy call_list_of g1 (o.blt _ (by decide +kernel)) (by decide +kernel) ha g3 g2 he hpl).mono (le_bi _ hn)
    case tuple => exact (pe_callTy call_tuple_of g1 (o.blt _ (by decide +kernel)) (by decide +kernel) ha g3 g2 he hpl).mono (le_bi _ hn)
    case all => exact (pe_callB (cr_all o.calm) g1 (o.blt _ (by decide +kernel)) (by decide +kernel) ha g3 g2 he hpl).mono (le_bi _ hn)
    case any => exact (pe_callB (cr_any o.calm) g1 (o.blt _ (by decide +kernel)) (by decide +kernel) ha g3 g2 he hpl).mono (le_bi _ hn)
    case sum => exact (pe_callB (cr_sum o.calm) g1 (o.blt _ (by decide +kernel)) (by decide +kernel) ha g3 g2 he hpl).mono (le_bi _ hn)
    all_goals (cases hb)
end
end Rf
set_option maxRecDepth 100000
set_option maxHeartbeats 4000000
/-! Rf, part H: calls of functions; isinstance; places. -/
namespace Rf
open PySem PySem.Spec PyProof.Rows L2 Evl

/-! ### the slots that a call hands on -/
def At (as : E) (j i : Nat) : Prop := (ios as)[j]? = some (some i)
theorem fm_some {i : Nat} {l : List (Option Nat)} : (some i :: l).filterMap id = i :: l.filterMap id := rfl
theorem fm_none {l : List (Option Nat)} : ((none : Option Nat) :: l).filterMap id = l.filterMap id := rfl
theorem mem_fm {i : Nat} {l : List (Option Nat)} (h : some i ∈ l) : i ∈ l.filterMap id := List.mem_filterMap.mpr ⟨some i, h, rfl⟩
theorem ios_io {i : Nat} {r : E} : ios (.cons (.io i) r) = some i :: ios r := rfl
theorem ios_cons {a r : E} (h : ∀ i, a ≠ .io i) : ios (.cons a r) = none :: ios r := by
  cases a <;> first | rfl | exact absurd rfl (h _)
section
variable {K : Frag} {F H : Hp} {σ : L2.St} {ρ : Ro} {fp : Nat → As}
theorem Args.at : ∀ {as : E} {vs : List V} {xs : List PV} {P : As}, Args K F H σ ρ as vs xs P → ∀ {j i : Nat}, At as j i → ∃ v, vs[j]? = some v ∧ σ[i]? = some (some v)
  | _, _, _, _, .nil, j, i, h => by
    unfold At at h
    simp [ios] at h
  | _, _, _, _, .io h1 h2 r, 0, i, h => by
    unfold At at h
    rw [ios_io] at h
    simp at h
    subst h
    exact ⟨_, rfl, h1⟩
  | _, _, _, _, .io h1 h2 r, j + 1, i, h => by
    unfold At at h
    rw [ios_io] at h
    obtain ⟨v, e1, e2⟩ := Args.at r (j := j) (i := i) (by unfold At; simpa using h)
    exact ⟨v, by simpa using e1, e2⟩
  | _, _, _, _, .cons hn h2 r h3, 0, i, h => by
    unfold At at h
    rw [ios_cons hn] at h
    simp at h
  | _, _, _, _, .cons hn h2 r h3, j + 1, i, h => by
    unfold At at h
    rw [ios_cons hn] at h
    obtain ⟨v, e1, e2⟩ := Args.at r (j := j) (i := i) (by unfold At; simpa using h)
    exact ⟨v, by simpa using e1, e2⟩
theorem at_inj : ∀ {l : List (Option Nat)} {j k i : Nat}, (l.filterMap id).Nodup → l[j]? = some (some i) → l[k]? = some (some i) → j = k
  | [], j, k, i, _, h, _ => by simp at h
  | o :: l, 0, 0, i, _, _, _ => rfl
  | o :: l, 0, k + 1, i, nd, h1, h2 => by
    simp at h1 h2
    subst h1
    rw [fm_some] at nd
    exact absurd (mem_fm (List.mem_of_getElem? h2)) (List.nodup_cons.mp nd).1
  | o :: l, j + 1, 0, i, nd, h1, h2 => by
    simp at h1 h2
    subst h2
    rw [fm_some] at nd
    exact absurd (mem_fm (List.mem_of_getElem? h1)) (List.nodup_cons.mp nd).1
  | o :: l, j + 1, k + 1, i, nd, h1, h2 => by
    have nd' : (l.filterMap id).Nodup := by
      cases o with
      | none => rwa [fm_none] at nd
      | some b => rw [fm_some] at nd; exact (List.nodup_cons.mp nd).2
    have := at_inj (j := j) (k := k) nd' (by simpa using h1) (by simpa using h2)
    omega
theorem at_tail_io {i0 : Nat} {r : E} {j i : Nat} (h : At r j i) : At (.cons (.io i0) r) (j + 1) i := by
  unfold At at h ⊢
  rw [ios_io]; simpa using h
theorem at_tail {a r : E} (hn : ∀ i, a ≠ .io i) {j i : Nat} (h : At r j i) : At (.cons a r) (j + 1) i := by
  unfold At at h ⊢
  rw [ios_cons hn]; simpa using h
/-- the arguments as the callee's names -/
theorem Args.state : ∀ {as : E} {vs : List V} {xs : List PV} {P : As}, Args K F H σ ρ as vs xs P → St K F H σ ρ fp → ((ios as).filterMap id).Nodup → (∀ a, P a → F a = none) → (∀ a, P a → Mu (H a)) → (∀ a, P a → ∀ i, ¬ fp i a) →
    ∃ ap, St K F H (vs.map some) (xs.map some) ap ∧ (∀ j a, ap j a → (∃ i, At as j i ∧ fp i a) ∨ P a)
  | _, _, _, _, .nil, s, _, _, _, _ => by
    refine ⟨fun _ => none0, ⟨s.le, rfl, fun i x h => ?_, fun _ _ _ z => z.elim, fun _ _ z => z.elim, fun _ _ z => z.elim⟩, fun _ _ z => z.elim⟩
    unfold getRo at h; simp at h
  | _, _, _, _, .io (i := i) (v := v) (x := x) (r := r0) (vs := vs) (xs := xs) (P := P) h1 h2 r, s, nd, nf, kn, dj => by
    rw [ios_io, fm_some] at nd
    obtain ⟨hni, nd'⟩ := List.nodup_cons.mp nd
    obtain ⟨ap, s', sub⟩ := Args.state r s nd' nf kn dj
    have apart : ∀ j a, fp i a → ¬ ap j a := fun j a h3 h4 => by
      rcases sub j a h4 with ⟨i', hi', h5⟩ | h5
      · have := s.dj i i' a h3 h5
        subst this
        exact hni (List.mem_filterMap.mpr ⟨some i, List.mem_of_getElem? hi', rfl⟩)
      · exact dj a h5 i h3
    refine ⟨fun j => match j with | 0 => fp i | j + 1 => ap j, ⟨s.le, by simp [s'.len] <;> (have := s'.len; simpa using this), ?_, ?_, ?_, ?_⟩, ?_⟩
    · intro j y h
      cases j with
      | zero =>
        have hy : x = y := by simpa [getRo] using h
        subst hy
        obtain ⟨v', e1, e2⟩ := s.ow i x h2
        rw [h1] at e1
        cases e1
        exact ⟨v, rfl, e2⟩
      | succ j =>
        obtain ⟨v', e1, e2⟩ := s'.ow j y (by simpa [getRo] using h)
        exact ⟨v', by simpa using e1, e2⟩
    · intro j k a h3 h4
      cases j <;> cases k
      · rfl
      · exact absurd h4 (apart _ a h3)
      · exact absurd h3 (apart _ a h4)
      · rw [s'.dj _ _ a h3 h4]
    · intro j a h3
      cases j
      · exact s.kn i a h3
      · exact s'.kn _ a h3
    · intro j a h3
      cases j
      · exact s.nf i a h3
      · exact s'.nf _ a h3
    · intro j a h3
      cases j with
      | zero => exact .inl ⟨i, by unfold At; rw [ios_io]; rfl, h3⟩
      | succ j =>
        rcases sub j a h3 with ⟨i', hi', h5⟩ | h5
        · exact .inl ⟨i', at_tail_io hi', h5⟩
        · exact .inr h5
  | _, _, _, _, .cons (a := a0) (r := r0) (v := v) (x := x) (vs := vs) (xs := xs) (P := P1) (P' := P2) hn h2 r h3, s, nd, nf, kn, dj => by
    rw [ios_cons hn, fm_none] at nd
    obtain ⟨ap, s', sub⟩ := Args.state r s nd (fun a z => nf a (.inr z)) (fun a z => kn a (.inr z)) (fun a z => dj a (.inr z))
    have apart : ∀ j a, P1 a → ¬ ap j a := fun j a h4 h5 => by
      rcases sub j a h5 with ⟨i', hi', h6⟩ | h6
      · exact dj a (.inl h4) i' h6
      · exact h3 a h4 h6
    refine ⟨fun j => match j with | 0 => P1 | j + 1 => ap j, ⟨s.le, by simp [s'.len] <;> (have := s'.len; simpa using this), ?_, ?_, ?_, ?_⟩, ?_⟩
    · intro j y h
      cases j with
      | zero =>
        have hy : x = y := by simpa [getRo] using h
        subst hy
        exact ⟨v, rfl, h2⟩
      | succ j =>
        obtain ⟨v', e1, e2⟩ := s'.ow j y (by simpa [getRo] using h)
        exact ⟨v', by simpa using e1, e2⟩
    · intro j k a h4 h5
      cases j <;> cases k
      · rfl
      · exact absurd h5 (apart _ a h4)
      · exact absurd h4 (apart _ a h5)
      · rw [s'.dj _ _ a h4 h5]
    · intro j a h4
      cases j
      · exact kn a (.inl h4)
      · exact s'.kn _ a h4
    · intro j a h4
      cases j
      · exact nf a (.inl h4)
      · exact s'.nf _ a h4
    · intro j a h4
      cases j with
      | zero => exact .inr (.inl h4)
      | succ j =>
        rcases sub j a h4 with ⟨i', hi', h5⟩ | h5
        · exact .inl ⟨i', at_tail hn hi', h5⟩
        · exact .inr (.inr h5)
theorem ioSet_len : ∀ (l : List (Option Nat)) (ρ os : Ro), (ioSet ρ l os).length = ρ.length
  | [], ρ, os => by simp [ioSet]
  | some i :: l, ρ, [] => by simp [ioSet]
  | none :: l, ρ, [] => by simp [ioSet]
  | some i :: l, ρ, o :: os => by simp [ioSet, ioSet_len l]
  | none :: l, ρ, o :: os => by simp [ioSet, ioSet_len l]
theorem ioSet_out {i : Nat} : ∀ {l : List (Option Nat)} {ρ os : Ro}, (∀ j : Nat, l[j]? ≠ some (some i)) → getRo (ioSet ρ l os) i = getRo ρ i
  | [], ρ, os, _ => by simp [ioSet]
  | some i' :: l, ρ, [], _ => by simp [ioSet]
  | none :: l, ρ, [], _ => by simp [ioSet]
  | some i' :: l, ρ, o :: os, h => by
    have hne : i' ≠ i := fun e => h 0 (by simp [e])
    show getRo (ioSet (ρ.set i' o) l os) i = _
    rw [ioSet_out fun j => by have := h (j + 1); simpa using this, getRo_set_ne hne]
  | none :: l, ρ, o :: os, h => by
    show getRo (ioSet ρ l os) i = _
    exact ioSet_out fun j => by have := h (j + 1); simpa using this
theorem ioSet_in {i : Nat} {x : PV} : ∀ {l : List (Option Nat)} {ρ os : Ro} {j : Nat}, (l.filterMap id).Nodup → l[j]? = some (some i) → getRo (ioSet ρ l os) i = some x → l.length ≤ os.length → getRo os j = some x
  | [], ρ, os, j, _, h, _, _ => by simp at h
  | o' :: l, ρ, [], j, _, _, _, hl => by simp at hl
  | some i' :: l, ρ, o :: os, 0, nd, h, hx, hl => by
    simp at h
    subst h
    rw [fm_some] at nd
    have hx' : getRo (ioSet (ρ.set i' o) l os) i' = some x := hx
    rw [ioSet_out fun j hj => (List.nodup_cons.mp nd).1 (List.mem_filterMap.mpr ⟨_, List.mem_of_getElem? hj, rfl⟩)] at hx'
    rcases getRo_set hx' with ⟨_, e⟩ | ⟨e, _⟩
    · show (some o).join = _
      rw [e]; rfl
    · exact absurd rfl e
  | some i' :: l, ρ, o :: os, j + 1, nd, h, hx, hl => by
    rw [fm_some] at nd
    have := ioSet_in (l := l) (os := os) (j := j) (List.nodup_cons.mp nd).2 (by simpa using h) (show getRo (ioSet (ρ.set i' o) l os) i = some x from hx) (by simpa using hl)
    simpa [getRo] using this
  | none :: l, ρ, o :: os, 0, nd, h, hx, hl => by simp at h
  | none :: l, ρ, o :: os, j + 1, nd, h, hx, hl => by
    rw [fm_none] at nd
    have := ioSet_in (l := l) (os := os) (j := j) nd (by simpa using h) (show getRo (ioSet ρ l os) i = some x from hx) (by simpa using hl)
    simpa [getRo] using this
theorem isPos_at {io : List Nat} : ∀ {l : List (Option Nat)} {m j i : Nat}, isPos m l io = true → l[j]? = some (some i) → m + j ∈ io
  | [], _, _, _, _, h => by simp at h
  | some i' :: l, m, 0, i, h, e => by
    simp [isPos, Bool.and_eq_true] at h
    exact h.1
  | some i' :: l, m, j + 1, i, h, e => by
    simp [isPos, Bool.and_eq_true] at h
    have := isPos_at (m := m + 1) (j := j) h.2 (by simpa using e)
    have e2 : m + 1 + j = m + (j + 1) := by omega
    rwa [e2] at this
  | none :: l, m, 0, i, h, e => by simp at e
  | none :: l, m, j + 1, i, h, e => by
    simp [isPos] at h
    have := isPos_at (m := m + 1) (j := j) h (by simpa using e)
    have e2 : m + 1 + j = m + (j + 1) := by omega
    rwa [e2] at this
theorem ios_length : ∀ {as : E} {vs : List V} {xs : List PV} {P : As}, Args K F H σ ρ as vs xs P → (ios as).length = alen as
  | _, _, _, _, .nil => rfl
  | _, _, _, _, .io h1 h2 r => by rw [ios_io]; simp [alen, ios_length r]
  | _, _, _, _, .cons hn h2 r h3 => by rw [ios_cons hn]; simp [alen, ios_length r]
theorem mask_get {io : List Nat} {os : Ro} {j : Nat} (h : j ∈ io) (hl : j < os.length) : getRo (mask io os) j = getRo os j := by
  unfold mask
  unfold getRo
  rw [List.getElem?_map, List.getElem?_range hl]
  have : io.contains j = true := by simpa using h
  show (some (if io.contains j = true then getRo os j else none)).join = _
  rw [if_pos this]; rfl
end
section
variable {P : Prg} {G : Gls} {T : Tab} {n : Nat} {N : List Str} {sc : Scope} {top : Bool} {X : Cx} (o : XOk P G T n N sc top X)
theorem le_call {f np : Nat} {io : List Nat} {as : E} (nd : ((ios as).filterMap id).Nodup) (hp : isPos 0 (ios as) io = true) (hl : alen as = np) : ∀ σ H Q, tX X.K T G (.call f as) σ H Q → tCall (spF X.K T f np io) [] E0 (tA X.K T G as) σ H Q :=
  fun σ H Q ⟨F, ρ, fp, z, ρ', s, hd, k⟩ => by
  simp only [den] at hd
  obtain ⟨⟨xs, ρ1⟩, h1, hd⟩ := Res.bind_inv hd
  obtain ⟨⟨r, os⟩, h2, hd⟩ := Res.bind_inv hd
  cases hd
  refine ⟨F, ρ, fp, xs, ρ1, s, h1, fun vs H1 F1 fp1 P1 s1 t1 hd1 sub1 => ?_⟩
  obtain ⟨ap, sa, suba⟩ := hd1.ow.state s1 nd hd1.nf hd1.kn hd1.dj
  have hlen := hd1.ow.len.1
  rw [List.append_nil]
  refine ⟨by omega, F1, ap, xs, r, os, sa, h2, fun v H' F' ap' P' s' t' hh sub' => ?_⟩
  have hol : os.length = vs.length := by
    have := s'.len
    unfold mask at this
    simpa using this.symm
  have hil : (ios as).length = vs.length := by rw [ios_length hd1.ow, hlen]
  -- what an address of the callee's is
  have apIn : ∀ j a, ap j a → (∃ i, At as j i ∧ fp1 i a) ∨ P1 a := suba
  have ap'In : ∀ j a, ap' j a → (∃ i p, At as p i ∧ fp1 i a) ∨ P1 a ∨ H1 a = none := fun j a h => by
    rcases t'.sub j a h with ⟨q, hq⟩ | hq
    · rcases apIn q a hq with ⟨i, h3, h4⟩ | h3
      · exact .inl ⟨i, q, h3, h4⟩
      · exact .inr (.inl h3)
    · exact .inr (.inr hq)
  have outAp : ∀ i a, (∀ j, ¬ At as j i) → fp1 i a → ∀ j, ¬ ap j a := fun i a hi h j hj => by
    rcases apIn j a hj with ⟨i', h3, h4⟩ | h3
    · have := s1.dj i i' a h h4
      subst this
      exact hi j h3
    · exact hd1.dj a h3 i h
  have outAp' : ∀ i a, (∀ j, ¬ At as j i) → fp1 i a → ∀ j, ¬ ap' j a := fun i a hi h j hj => by
    rcases ap'In j a hj with ⟨i', p, h3, h4⟩ | h3 | h3
    · have := s1.dj i i' a h h4
      subst this
      exact hi p h3
    · exact hd1.dj a h3 i h
    · exact (s1.kn i a h).ne h3
  let fp2 : Nat → As := fun i a => (∃ j, At as j i ∧ ap' j a) ∨ ((∀ j, ¬ At as j i) ∧ fp1 i a)
  have st2 : St X.K F' H' σ (ioSet ρ1 (ios as) os) fp2 := {
    le := s'.le
    len := by rw [ioSet_len]; exact s1.len
    ow := fun i x hx => by
      by_cases hi : ∃ j, At as j i
      · obtain ⟨j, hj⟩ := hi
        have hx2 := ioSet_in nd hj hx (by omega)
        have hjl : j < os.length := by
          have : j < (ios as).length := (List.getElem?_eq_some_iff.mp hj).1
          omega
        have hm : j ∈ io := by
          have := isPos_at hp hj
          rwa [Nat.zero_add] at this
        obtain ⟨v1, e1, e2⟩ := s'.ow j x (by rw [mask_get hm hjl]; exact hx2)
        obtain ⟨v2, e3, e4⟩ := hd1.ow.at hj
        have : v1 = v2 := by
          rw [List.getElem?_map, e3] at e1
          simpa using e1.symm
        subst this
        exact ⟨v1, e4, e2.up (Ex.refl _) (fun _ _ _ z => z) fun a ha => .inl ⟨j, hj, ha⟩⟩
      · have hi' : ∀ j, ¬ At as j i := fun j hj => hi ⟨j, hj⟩
        rw [ioSet_out hi'] at hx
        obtain ⟨v1, e1, e2⟩ := s1.ow i x hx
        exact ⟨v1, e1, e2.up t'.ff (fun a ha ob e => t'.fr a ob e (outAp i a hi' ha)) fun a ha => .inr ⟨hi', ha⟩⟩
    dj := fun i j a h3 h4 => by
      rcases h3 with ⟨p, hp1, hp2⟩ | ⟨hp1, hp2⟩ <;> rcases h4 with ⟨q, hq1, hq2⟩ | ⟨hq1, hq2⟩
      · have := s'.dj p q a hp2 hq2
        subst this
        unfold At at hp1 hq1
        rw [hp1] at hq1
        simpa using hq1
      · exact absurd hp2 (outAp' j a hq1 hq2 p)
      · exact absurd hq2 (outAp' i a hp1 hp2 q)
      · exact s1.dj i j a hp2 hq2
    kn := fun i a h3 => by
      rcases h3 with ⟨p, hp1, hp2⟩ | ⟨hp1, hp2⟩
      · exact s'.kn p a hp2
      · obtain ⟨u, e, hu⟩ := s1.kn i a hp2
        exact ⟨u, t'.fr a u e (outAp i a hp1 hp2), hu⟩
    nf := fun i a h3 => by
      rcases h3 with ⟨p, hp1, hp2⟩ | ⟨hp1, hp2⟩
      · exact s'.nf p a hp2
      · cases q : F' a with
        | none => rfl
        | some u =>
          obtain ⟨w, e, hw⟩ := s1.kn i a hp2
          rcases t'.nw a u q with h5 | h5 | ⟨j, h5⟩ | h5
          · rw [s1.nf i a hp2] at h5; cases h5
          · rw [e] at h5; cases h5
          · exact absurd h5 (outAp i a hp1 hp2 j)
          · have e2 := t'.fr a w e (outAp i a hp1 hp2)
            rw [t'.le a u q] at e2
            cases e2
            rw [hw] at h5; cases h5 }
  have old : ∀ a, ((∃ i p, At as p i ∧ fp1 i a) ∨ P1 a ∨ H1 a = none) → (∃ j, fp j a) ∨ H a = none := fun a h3 => by
    rcases h3 with ⟨i, p, _, h4⟩ | h3 | h3
    · exact t1.sub i a h4
    · exact sub1 a h3
    · exact .inr (t1.back h3)
  have xt2 : Xt F H fp F' H' fp2 := {
    ff := t1.ff.trans t'.ff
    fr := fun a ob e hn => t'.fr a ob (t1.fr a ob e hn) fun j hj => by
      have : (∃ j, fp j a) ∨ H a = none := old a ((apIn j a hj).elim (fun ⟨i, h3, h4⟩ => .inl ⟨i, j, h3, h4⟩) fun h3 => .inr (.inl h3))
      rcases this with ⟨q, hq⟩ | hq
      · exact hn q hq
      · rw [e] at hq; cases hq
    le := s'.le
    nw := fun a ob q => by
      rcases t'.nw a ob q with h5 | h5 | ⟨j, h5⟩ | h5
      · exact t1.nw a ob h5
      · exact .inr (.inl (t1.back h5))
      · have : (∃ j, fp j a) ∨ H a = none := old a ((apIn j a h5).elim (fun ⟨i, h3, h4⟩ => .inl ⟨i, j, h3, h4⟩) fun h3 => .inr (.inl h3))
        rcases this with hq | hq
        · exact .inr (.inr (.inl hq))
        · exact .inr (.inl hq)
      · exact .inr (.inr (.inr h5))
    sub := fun i a h3 => by
      rcases h3 with ⟨p, hp1, hp2⟩ | ⟨hp1, hp2⟩
      · exact old a (ap'In p a hp2)
      · exact t1.sub i a hp2
    kn := fun a h3 => t'.kn a (t1.kn a h3) }
  have pIn : ∀ a, P' a → (∃ i p, At as p i ∧ fp1 i a) ∨ P1 a ∨ H1 a = none := fun a h => by
    rcases sub' a h with ⟨q, hq⟩ | hq
    · rcases apIn q a hq with ⟨i, h3, h4⟩ | h3
      · exact .inl ⟨i, q, h3, h4⟩
      · exact .inr (.inl h3)
    · exact .inr (.inr hq)
  refine k v H' F' fp2 P' st2 xt2 ⟨hh.ow, hh.nf, hh.kn, fun a ha i hi => ?_⟩ fun a ha => old a (pIn a ha)
  rcases hi with ⟨p, hp1, hp2⟩ | ⟨hp1, hp2⟩
  · exact hh.dj a ha p hp2
  · rcases pIn a ha with ⟨i', p, h3, h4⟩ | h3 | h3
    · have := s1.dj i i' a hp2 h4
      subst this
      exact hp1 p h3
    · exact hd1.dj a h3 i hp2
    · exact (s1.kn i a hp2).ne h3
include o in
theorem s_call {f : Nat} {d : Fn} {as : E} {x : Str} {p pos : Pos} {es : List Expr} (hf : P[f]? = some d) (ha : PA X es (tA X.K T G as)) (hs : es.all noStar = true) (hx : x = d.name) (hg : glo sc x = true) (nd : ((ios as).filterMap id).Nodup)
    (hp : isPos 0 (ios as) d.io = true) (hl : alen as = d.np) (he0 : es = [] → as = .nil) : PE X (.Call (.Name x p) es [] pos) (tX X.K T G (.call f as)) := by
  obtain ⟨g1, g2, g3⟩ := glo_ok o hg
  obtain ⟨a, fd, m1, m2, m3, m4⟩ := (o.fns f d hf).ok
  subst hx
  cases es with
  | nil =>
    refine (pe_call0 (E := E0) m4 o.room g1 m1 m2 m3 .nil pass0 g2).mono fun σ H Q h => ?_
    have h2 := le_call nd hp hl σ H Q h
    obtain rfl := he0 rfl
    exact le_nilA σ H _ h2
  | cons e es =>
    rw [List.all_cons, Bool.and_eq_true] at hs
    exact (pe_call (E := E0) m4 o.room g1 m1 m2 m3 .nil pass0 ha g2 (star_ok hs.1) (plain_tail hs.2)).mono (le_call nd hp hl)

/-! ### isinstance -/
def tyD : PyData → String
  | .none => "NoneType"
  | .bool _ => "bool"
  | .int _ => "int"
  | .str _ => "str"
  | .list _ => "list"
  | .tuple _ => "tuple"
  | .dict _ => "dict"
theorem opd_ty {K : Frag} {F H : Hp} {v : V} {d : PyData} (e : Ex F H) (h : Opd K F H v d) : TyX K H v (.type (tyD d)) := by
  cases h with
  | L h1 h2 => exact .base (.lst h1)
  | d h =>
    cases h with
    | non => exact .base .non
    | bl b => exact .base (.bl b)
    | int i => exact .base (.int i)
    | str x => exact .base (.str x)
    | lst h1 h2 =>
      rcases h1.up e with (q | ⟨ob, q⟩) | ⟨_, _, q, _⟩
      · exact .base (.lst q)
      · exact .base (.frz q)
      · exact .kList q rfl
    | tup h1 h2 =>
      rcases ex_t e h1 with (q | ⟨ob, q⟩) | ⟨ob, its, m, q1, q2, _⟩
      · exact .base (.tup q)
      · exact .fTuple q
      · exact .kTuple q1 q2
def tyS : Ty → String
  | .int => "int" | .bool => "bool" | .tuple => "tuple" | .list => "list" | .str => "str"
theorem kit_is {K : Frag} (t : Ty) (d : PyData) (h : ∀ kvs, d ≠ .dict kvs) : PySem.W.kitOne K (.type (tyD d)) (.type (tyS t)) = some (isS t d) := by
  apply kit_ty
  cases d
  case dict => exact absurd rfl (h _)
  all_goals (cases t <;> (show kitB _ _ = some _) <;> (simp only [tyD, tyS, isS]) <;> decide +kernel)
theorem ty_boot (t : Ty) : bootBuiltins (tyName t) = some (.type (tyS t)) := by
  cases t <;> decide +kernel
include o in
theorem s_isi {x : E} {t : Ty} {f y : Str} {p p2 pos : Pos} {l : Expr} (ha : PE X l (tX X.K T G x)) (hs : noStar l = true) (hf : f = "isinstance") (hg : glo sc f = true) (hy : y = tyName t) (hgy : glo sc y = true) :
    PE X (.Call (.Name f p) [l, .Name y p2] [] pos) (tX X.K T G (.isi x t)) := by
  obtain ⟨g1, g2, g3⟩ := glo_ok o hg
  obtain ⟨y1, y2, y3⟩ := glo_ok o hgy
  subst hf
  subst hy
  have hb : X.mg (tyName t) = none := o.blt _ (by cases t <;> decide +kernel)
  have pt : PE X (.Name (tyName t) p2) (tC (.ty (tyS t))) := pe_bltn y1 hb (ty_boot t) rfl y3 y2
  refine (pe_callB call_isi g1 (o.blt _ (by decide +kernel)) (by decide +kernel) (pa_cons ha (pa_cons pt pa_nil (star_ok rfl)) (star_ok hs)) g3 g2 (star_ok hs) rfl).mono fun σ H Q ⟨F, ρ, fp, z, ρ', s, hd, k⟩ => ?_
  simp only [den] at hd
  obtain ⟨⟨x1, ρ1⟩, h1, hd⟩ := Res.bind_inv hd
  obtain ⟨d1, h2, hd⟩ := Res.bind_inv hd
  cases hd
  refine ⟨F, ρ, fp, x1, _, s, h1, fun v H1 F1 fp1 P1 s1 t1 hd1 sub => ⟨v, .ty (tyS t), _, _, isS t d1, rfl, .ty _, opd_ty s1.le (hd1.ow.opd h2), kit_is t d1 (fun kvs e => ?_), fin0 k s1 t1 rfl (.bl _)⟩⟩
  subst e
  have := hd1.ow.opd h2
  cases this with
  | d h => cases h

/-! ### places -/
section
variable {K : Frag} {F H : Hp} {σ : L2.St} {ρ : Ro} {fp : Nat → As}
theorem St.list (s : St K F H σ ρ fp) {i : Nat} {xs : List PyData} (h : getRo ρ i = some (.L xs)) : ∃ p ys, σ[i]? = some (some (.ref p)) ∧ fp i p ∧ H p = some (.lst ys) ∧ Rps K F ys xs := by
  obtain ⟨v, e1, e2⟩ := s.ow i _ h
  cases e2 with
  | L hp h1 h2 => exact ⟨_, _, e1, hp, h1, h2⟩
/-- a list of one's own is changed -/
theorem St.mut (s : St K F H σ ρ fp) {i : Nat} {xs xs' : List PyData} {p : Addr} {ys ys' : List V} (h : getRo ρ i = some (.L xs)) (e : σ[i]? = some (some (.ref p))) (hp : fp i p) (hH : H p = some (.lst ys)) (hr : Rps K F ys' xs') :
    St K F (upd H p (.lst ys')) σ (ρ.set i (some (.L xs'))) fp ∧ Xt F H fp F (upd H p (.lst ys')) fp := by
  have hf := s.nf i p hp
  have le : Ex F (upd H p (.lst ys')) := fun a u ha => by rw [upd_ne (ne_of_none ha hf)]; exact s.le a u ha
  refine ⟨⟨le, by simp [s.len], fun j x hx => ?_, s.dj, fun j a ha => ?_, s.nf⟩, ⟨Ex.refl F, fun a u ha hn => ?_, le, fun a u ha => .inl ha, fun j a ha => .inl ⟨j, ha⟩, fun a ha => ?_⟩⟩
  · rcases getRo_set hx with ⟨e1, e2⟩ | ⟨e1, h2⟩
    · subst e1
      cases e2
      exact ⟨_, e, .L hp upd_same hr⟩
    · obtain ⟨v, e3, e4⟩ := s.ow j x h2
      refine ⟨v, e3, e4.up (Ex.refl F) (fun a ha u hu => ?_) fun _ z => z⟩
      rw [upd_ne]
      · exact hu
      · rintro rfl
        exact e1 (s.dj i j a hp ha)
  · by_cases q : a = p
    · subst q; exact ⟨_, upd_same, rfl⟩
    · rw [upd_ne q]; exact s.kn j a ha
  · rw [upd_ne]
    · exact ha
    · rintro rfl
      exact hn i hp
  · by_cases q : a = p
    · subst q; rw [upd_same]; simp
    · rw [upd_ne q]; exact ha
end
end
end Rf
set_option maxRecDepth 100000
set_option maxHeartbeats 4000000
/-! Rf, part I: what is walked; comprehensions; methods of lists. -/
namespace Rf
open PySem PySem.Spec PyProof.Rows L2 Evl

/-! ### what is walked -/
def iAny (K : Frag) (tl : TE) : TI := fun σ H R => tl σ H fun x H1 => (∃ a xs, x = .ref a ∧ SqL K H1 a xs ∧ R (Itl K a) H1) ∨ (∃ a xs, x = .ref a ∧ SqT K H1 a xs ∧ R (Itt K a) H1) ∨ ∃ z, x = .str z ∧ R (Its z) H1
theorem pi_any {X : Cx} {tg l : Expr} {tl : TE} (hl : PE X l tl) : PI X tg l (iAny X.K tl) := by
  refine ⟨fun pins s σ H R I h => ?_⟩
  refine thn (hl.run pins s σ H _ I h) fun v s1 ⟨x, H1, I1, r1, q1⟩ => ?_
  rcases q1 with ⟨a, xs, e, hq, q⟩ | ⟨a, xs, e, hq, q⟩ | ⟨z, e, q⟩
  · subst e
    cases r1
    obtain ⟨its, rv, p, hz⟩ := I1.list hq
    refine wpAny_pyIter_list p.isList ?_
    refine ⟨s1.heap.objs.size, [s1.heap.objs.size], _, _, H1, rfl, I1.kept (t' := s1.toks) fun b o e => Heap.get?_push_of_some _ e, turn_list a _, ⟨_, Heap.get?_push_size _ rfl, rfl, rfl⟩, fun b hb => ?_, q⟩
    have e : b = s1.heap.objs.size := by simpa using hb
    subst e
    exact I1.fpOk (Nat.le_refl _) (I1.hok.fresh (Nat.le_refl _))
  · subst e
    cases r1
    obtain ⟨its, rv, p, hz⟩ := I1.tuple hq
    refine wpAny_pyIter_tuple (show s1.heap.IsTuple a its.toArray from p) ?_
    refine ⟨s1.heap.objs.size, [s1.heap.objs.size], _, _, H1, rfl, I1.kept (t' := s1.toks) fun b o e => Heap.get?_push_of_some _ e, turn_tuple a _, ⟨_, Heap.get?_push_size _ rfl, rfl, rfl⟩, fun b hb => ?_, q⟩
    have e : b = s1.heap.objs.size := by simpa using hb
    subst e
    exact I1.fpOk (Nat.le_refl _) (I1.hok.fresh (Nat.le_refl _))
  · subst e
    obtain ⟨t, rfl⟩ := r1
    cases ha : z.cps.all (· < 128)
    · exact wpAny_pyIter_wide ha (pi_one (tk := s1.toks) I1 _ (turn_str _ z t "str_iterator" (.inr rfl)) ⟨_, Heap.get?_push_size _ rfl, rfl, rfl⟩ q)
    · exact wpAny_pyIter_ascii ha (pi_one (tk := s1.toks) I1 _ (turn_str _ z t "str_ascii_iterator" (.inl rfl)) ⟨_, Heap.get?_push_size _ rfl, rfl, rfl⟩ q)
section
variable {K : Frag} {F H : Hp} {xs : List PyData}
theorem items_list {a : Addr} {ys : List V} (h : SqL K F a ys) (r : Rps K F ys xs) : Items K F xs (Itl K a) := fun i H F' e1 e2 => by
  have h' := ex_l (e1.trans e2) h
  refine ⟨fun d hd => ?_, fun hl => ⟨ys, h', by rw [r.length]; exact hl⟩⟩
  obtain ⟨v, hv, hr⟩ := r.get hd
  refine ⟨⟨ys, v, h', hv⟩, fun w H3 hy => ?_⟩
  obtain ⟨rfl, f⟩ := hy
  have : w = v := Option.some.inj ((f ys h').symm.trans hv)
  subst this
  exact ⟨F', Nw.refl e2, hr.up e1⟩
theorem items_tup {a : Addr} {ys : List V} (h : SqT K F a ys) (r : Rps K F ys xs) : Items K F xs (Itt K a) := fun i H F' e1 e2 => by
  have h' := ex_t (e1.trans e2) h
  refine ⟨fun d hd => ?_, fun hl => ⟨ys, h', by rw [r.length]; exact hl⟩⟩
  obtain ⟨v, hv, hr⟩ := r.get hd
  refine ⟨⟨ys, v, h', hv⟩, fun w H3 hy => ?_⟩
  obtain ⟨rfl, f⟩ := hy
  have : w = v := Option.some.inj ((f ys h').symm.trans hv)
  subst this
  exact ⟨F', Nw.refl e2, hr.up e1⟩
theorem items_str {z : Str} : Items K F (z.cps.toList.map fun c => .str ⟨#[c]⟩) (Its z) := fun i H F' e1 e2 => by
  refine ⟨fun d hd => ?_, fun hl => by simpa [Its] using hl⟩
  rw [List.getElem?_map] at hd
  cases q : z.cps.toList[i]? with
  | none => rw [q] at hd; cases hd
  | some c =>
    rw [q] at hd
    cases hd
    have hlt : i < z.cps.size := by
      have := (List.getElem?_eq_some_iff.mp q).1
      simpa using this
    refine ⟨hlt, fun w H3 hy => ?_⟩
    obtain ⟨rfl, c', hc, rfl⟩ := hy
    rw [Array.getElem?_toList] at q
    rw [q] at hc
    cases hc
    exact ⟨F', Nw.refl e2, .str _⟩
theorem rngI_get : ∀ {n i : Nat} {lo : Int} {d : PyData}, (rngI lo n)[i]? = some d → i < n ∧ d = .int (lo + i)
  | 0, _, _, _, h => by simp [rngI] at h
  | n + 1, 0, lo, d, h => by
    simp [rngI] at h
    subst h
    exact ⟨by omega, by simp⟩
  | n + 1, i + 1, lo, d, h => by
    obtain ⟨h1, h2⟩ := rngI_get (n := n) (i := i) (lo := lo + 1) (d := d) (by simpa [rngI] using h)
    refine ⟨by omega, ?_⟩
    rw [h2]
    congr 1
    omega
theorem rngI_length : ∀ {n : Nat} {lo : Int}, (rngI lo n).length = n
  | 0, _ => rfl
  | n + 1, lo => by simp [rngI, rngI_length]
theorem items_rng {lo : Int} {n : Nat} : Items K F (rngI lo n) (Itr lo n) := fun i H F' e1 e2 => by
  refine ⟨fun d hd => ?_, fun hl => by rw [rngI_length] at hl; exact hl⟩
  obtain ⟨h1, rfl⟩ := rngI_get hd
  refine ⟨h1, fun w H3 hy => ?_⟩
  obtain ⟨rfl, rfl⟩ := hy
  exact ⟨F', Nw.refl e2, .int _⟩
theorem new_pair {p : Addr} {v w : V} {d e : PyData} {F H : Hp} (ex : Ex F H) (hp : H p = none) (h1 : Rp K F v d) (h2 : Rp K F w e) : ∃ F3, Nw F H F3 (upd H p (.tup [v, w])) ∧ Rp K F3 (.ref p) (.tuple [d, e]) := by
  have r := Rs.newT (K := K) ex hp (Rps.cons h1 (Rps.cons h2 Rps.nil))
  exact ⟨_, r.nw, r.ow.dat⟩
theorem zipI_get : ∀ {xs : List PyData} {i : Nat} {lo : Int} {d : PyData}, (zipI lo xs)[i]? = some d → ∃ x, xs[i]? = some x ∧ d = .tuple [.int (lo + i), x]
  | [], _, _, _, h => by simp [zipI] at h
  | x :: xs, 0, lo, d, h => by
    simp [zipI] at h
    subst h
    exact ⟨x, rfl, by simp⟩
  | x :: xs, i + 1, lo, d, h => by
    obtain ⟨y, h1, h2⟩ := zipI_get (xs := xs) (i := i) (lo := lo + 1) (d := d) (by simpa [zipI] using h)
    refine ⟨y, by simpa using h1, ?_⟩
    rw [h2]
    congr 3
    omega
theorem zipI_length : ∀ {xs : List PyData} {lo : Int}, (zipI lo xs).length = xs.length
  | [], _ => rfl
  | x :: xs, lo => by simp [zipI, zipI_length]
theorem items_enum {a : Addr} {ys : List V} (h : SqL K F a ys) (r : Rps K F ys xs) : Items K F (zipI 0 xs) (Ite K a) := fun i H F' e1 e2 => by
  have h' := ex_l (e1.trans e2) h
  refine ⟨fun d hd => ?_, fun hl => ⟨ys, h', by rw [r.length]; rwa [zipI_length] at hl⟩⟩
  obtain ⟨x, hx, rfl⟩ := zipI_get hd
  obtain ⟨v, hv, hr⟩ := r.get hx
  refine ⟨⟨ys, v, h', hv⟩, fun w H3 hy => ?_⟩
  obtain ⟨t, u, rfl, ht, rfl, f⟩ := hy
  have : u = v := Option.some.inj ((f ys h').symm.trans hv)
  subst this
  have := new_pair (K := K) e2 ht (.int (0 + (i : Int))) (hr.up e1)
  simpa using this
theorem zip2_get : ∀ {xs ys : List PyData} {i : Nat} {d : PyData}, (zip2 xs ys)[i]? = some d → ∃ x y, xs[i]? = some x ∧ ys[i]? = some y ∧ d = .tuple [x, y]
  | [], _, _, _, h => by simp [zip2] at h
  | _ :: _, [], _, _, h => by simp [zip2] at h
  | x :: xs, y :: ys, 0, d, h => by
    simp [zip2] at h
    subst h
    exact ⟨x, y, rfl, rfl, rfl⟩
  | x :: xs, y :: ys, i + 1, d, h => by
    obtain ⟨a, b, h1, h2, h3⟩ := zip2_get (xs := xs) (ys := ys) (i := i) (d := d) (by simpa [zip2] using h)
    exact ⟨a, b, by simpa using h1, by simpa using h2, h3⟩
theorem zip2_len : ∀ {xs ys : List PyData} {i : Nat}, (zip2 xs ys).length ≤ i → xs.length ≤ i ∨ ys.length ≤ i
  | [], _, _, _ => .inl (Nat.zero_le _)
  | _ :: _, [], _, _ => .inr (Nat.zero_le _)
  | x :: xs, y :: ys, i, h => by
    cases i with
    | zero => simp [zip2] at h
    | succ i =>
      rcases zip2_len (xs := xs) (ys := ys) (i := i) (by simpa [zip2] using h) with q | q
      · exact .inl (by simpa using q)
      · exact .inr (by simpa using q)
theorem items_zip {a b : Addr} {ys ws : List V} {xs zs : List PyData} (h : SqL K F a ys) (r : Rps K F ys xs) (h2 : SqL K F b ws) (r2 : Rps K F ws zs) : Items K F (zip2 xs zs) (Itz K a b) := fun i H F' e1 e2 => by
  have h' := ex_l (e1.trans e2) h
  have h2' := ex_l (e1.trans e2) h2
  refine ⟨fun d hd => ?_, fun hl => ⟨ys, ws, h', h2', by rw [r.length, r2.length]; exact zip2_len hl⟩⟩
  obtain ⟨x, y, hx, hy, rfl⟩ := zip2_get hd
  obtain ⟨v, hv, hr⟩ := r.get hx
  obtain ⟨v2, hv2, hr2⟩ := r2.get hy
  refine ⟨⟨ys, ws, v, v2, h', h2', hv, hv2⟩, fun w H3 hy => ?_⟩
  obtain ⟨t, u, u2, rfl, ht, rfl, f, f2⟩ := hy
  have : u = v := Option.some.inj ((f ys h').symm.trans hv)
  subst this
  have : u2 = v2 := Option.some.inj ((f2 ws h2').symm.trans hv2)
  subst this
  exact new_pair (K := K) e2 ht (hr.up e1) (hr2.up e1)
theorem items_zipT {a b : Addr} {ys ws : List V} {xs zs : List PyData} (h : SqT K F a ys) (r : Rps K F ys xs) (h2 : SqT K F b ws) (r2 : Rps K F ws zs) : Items K F (zip2 xs zs) (RZ.ItzT K a b) := fun i H F' e1 e2 => by
  have h' := ex_t (e1.trans e2) h
  have h2' := ex_t (e1.trans e2) h2
  refine ⟨fun d hd => ?_, fun hl => ⟨ys, ws, h', h2', by rw [r.length, r2.length]; exact zip2_len hl⟩⟩
  obtain ⟨x, y, hx, hy, rfl⟩ := zip2_get hd
  obtain ⟨v, hv, hr⟩ := r.get hx
  obtain ⟨v2, hv2, hr2⟩ := r2.get hy
  refine ⟨⟨ys, ws, v, v2, h', h2', hv, hv2⟩, fun w H3 hy => ?_⟩
  obtain ⟨t, u, u2, rfl, ht, rfl, f, f2⟩ := hy
  have : u = v := Option.some.inj ((f ys h').symm.trans hv)
  subst this
  have : u2 = v2 := Option.some.inj ((f2 ws h2').symm.trans hv2)
  subst this
  exact new_pair (K := K) e2 ht (hr.up e1) (hr2.up e1)
end
section
variable {P : Prg} {G : Gls} {T : Tab} {n : Nat} {N : List Str} {sc : Scope} {top : Bool} {X : Cx} (o : XOk P G T n N sc top X)
theorem i_itL {e : E} {tg a : Expr} (ha : PE X a (tX X.K T G e)) : PI X tg a (tI X.K T G (.itL e)) := (pi_any ha).mono fun σ H R ⟨F, ρ, fp, xs, ρ', s, hd, k⟩ => by
  simp only [deni] at hd
  obtain ⟨⟨x1, ρ1⟩, h1, hd⟩ := Res.bind_inv hd
  obtain ⟨d1, h2, hd⟩ := Res.bind_inv hd
  obtain ⟨ys, h3, hd⟩ := Res.bind_inv hd
  cases hd
  refine ⟨F, ρ, fp, x1, _, s, h1, fun v H1 F1 fp1 P1 s1 t1 hd1 sub => ?_⟩
  obtain ⟨F2, s2, e2, q2, d2⟩ := hd1.settle s1 h2
  have t2 := t1.grow sub e2 s2.le q2
  unfold itemsD at h3
  split at h3
  · cases h3
    obtain ⟨a, ys, rfl, h4, h5⟩ := d2.lst_inv
    exact .inl ⟨a, ys, rfl, (h4.up s2.le).sq, k _ _ _ _ s2 t2 (items_list h4.sq h5)⟩
  · cases h3
    obtain ⟨a, ys, rfl, h4, h5⟩ := d2.tup_inv
    exact .inr (.inl ⟨a, ys, rfl, ex_t s2.le h4, k _ _ _ _ s2 t2 (items_tup h4 h5)⟩)
  · cases h3
    obtain rfl := d2.str_inv
    exact .inr (.inr ⟨_, rfl, k _ _ _ _ s2 t2 items_str⟩)
  · cases h3
include o in
theorem i_itR1 {x : E} {tg a : Expr} {f : Str} {p pos : Pos} (ha : PE X a (tX X.K T G x)) (hs : noStar a = true) (hf : f = "range") (hg : glo sc f = true) : PI X tg (.Call (.Name f p) [a] [] pos) (tI X.K T G (.itR1 x)) := by
  obtain ⟨g1, g2, g3⟩ := glo_ok o hg
  subst hf
  refine (pi_range1 g1 (o.blt _ (by decide +kernel)) (pa_cons ha pa_nil (star_ok hs)) (star_ok hs)).mono fun σ H R ⟨F, ρ, fp, xs, ρ', s, hd, k⟩ => ?_
  simp only [deni] at hd
  obtain ⟨⟨x1, ρ1⟩, h1, hd⟩ := Res.bind_inv hd
  dsimp only at hd
  split at hd
  · rename_i m
    obtain ⟨_, g, hd⟩ := Res.bind_inv hd
    cases hd
    have g' := of_decide_eq_true (Res.guard_inv g)
    refine ⟨F, ρ, fp, _, _, s, h1, fun v H1 F1 fp1 P1 s1 t1 hd1 sub => ⟨m, ?_, g'.2, g'.1, k _ _ _ _ s1 t1 items_rng⟩⟩
    rw [hd1.ow.dat.int_inv]
  · cases hd
include o in
theorem i_itR2 {x y : E} {tg a b : Expr} {f : Str} {p pos : Pos} (ha : PE X a (tX X.K T G x)) (hs : noStar a = true) (hb : PE X b (tX X.K T G y)) (hs2 : noStar b = true) (hf : f = "range") (hg : glo sc f = true) : PI X tg (.Call (.Name f p) [a, b] [] pos) (tI X.K T G (.itR2 x y)) := by
  obtain ⟨g1, g2, g3⟩ := glo_ok o hg
  subst hf
  refine (pi_range2 g1 (o.blt _ (by decide +kernel)) (pa_cons ha (pa_cons hb pa_nil (star_ok hs2)) (star_ok hs)) (by rw [star_ok hs, star_ok hs2] <;> rfl) (star_ok hs2)).mono fun σ H R ⟨F, ρ, fp, xs, ρ', s, hd, k⟩ => ?_
  simp only [deni] at hd
  obtain ⟨⟨x1, ρ1⟩, h1, hd⟩ := Res.bind_inv hd
  obtain ⟨⟨x2, ρ2⟩, h2, hd⟩ := Res.bind_inv hd
  dsimp only at hd
  split at hd
  · obtain ⟨_, g, hd⟩ := Res.bind_inv hd
    cases hd
    have g' := of_decide_eq_true (Res.guard_inv g)
    refine two s h1 h2 fun v w H2 F2 fp2 P1 P2 s2 t2 hd1 hd2 _ _ _ => ⟨_, _, ?_, ⟨g'.2.2.2, g'.2.2.1, g'.2.1, g'.1⟩, k _ _ _ _ s2 t2 items_rng⟩
    rw [hd1.ow.dat.int_inv, hd2.ow.dat.int_inv]
  · cases hd
include o in
theorem i_itEn {x : E} {a : Expr} {f : Str} {p pos tpos : Pos} {elts : List Expr} {kk : Nat} (ha : PE X a (tX X.K T G x)) (hs : noStar a = true) (hf : f = "enumerate") (hg : glo sc f = true) : PI X (.Tuple elts kk tpos) (.Call (.Name f p) [a] [] pos) (tI X.K T G (.itEn x)) := by
  obtain ⟨g1, g2, g3⟩ := glo_ok o hg
  subst hf
  refine (pi_enum g1 (o.blt _ (by decide +kernel)) (pa_cons ha pa_nil (star_ok hs)) (star_ok hs)).mono fun σ H R ⟨F, ρ, fp, xs, ρ', s, hd, k⟩ => ?_
  simp only [deni] at hd
  obtain ⟨⟨x1, ρ1⟩, h1, hd⟩ := Res.bind_inv hd
  obtain ⟨d1, h2, hd⟩ := Res.bind_inv hd
  dsimp only at hd
  split at hd
  · cases hd
    refine ⟨F, ρ, fp, _, _, s, h1, fun v H1 F1 fp1 P1 s1 t1 hd1 sub => ?_⟩
    obtain ⟨F2, s2, e2, q2, d2⟩ := hd1.settle s1 h2
    have t2 := t1.grow sub e2 s2.le q2
    obtain ⟨a, ys, rfl, h4, h5⟩ := d2.lst_inv
    exact ⟨a, ys, rfl, (h4.up s2.le).sq, k _ _ _ _ s2 t2 (items_enum h4.sq h5)⟩
  · cases hd
include o in
theorem i_itZip {x y : E} {a b : Expr} {f : Str} {p pos tpos : Pos} {elts : List Expr} {kk : Nat} (ha : PE X a (tX X.K T G x)) (hs : noStar a = true) (hb : PE X b (tX X.K T G y)) (hs2 : noStar b = true) (hf : f = "zip") (hg : glo sc f = true) : PI X (.Tuple elts kk tpos) (.Call (.Name f p) [a, b] [] pos) (tI X.K T G (.itZip x y)) := by
  obtain ⟨g1, g2, g3⟩ := glo_ok o hg
  subst hf
  refine (RZ.pi_zipA g1 (o.blt _ (by decide +kernel)) (pa_cons ha (pa_cons hb pa_nil (star_ok hs2)) (star_ok hs)) (star_ok hs) (by rw [star_ok hs2] <;> rfl)).mono fun σ H R ⟨F, ρ, fp, xs, ρ', s, hd, k⟩ => ?_
  simp only [deni] at hd
  obtain ⟨⟨x1, ρ1⟩, h1, hd⟩ := Res.bind_inv hd
  obtain ⟨⟨x2, ρ2⟩, h2, hd⟩ := Res.bind_inv hd
  obtain ⟨d1, h3, hd⟩ := Res.bind_inv hd
  obtain ⟨d2, h4, hd⟩ := Res.bind_inv hd
  dsimp only at hd
  refine two s h1 h2 fun v w H2 F2 fp2 P1 P2 s2 t2 hd1 hd2 sub1 sub2 dj => ?_
  obtain ⟨F3, s3, e3, q3, r3⟩ := hd1.settle s2 h3
  have t3 := t2.grow sub1 e3 s3.le q3
  have hd2' := hd2.grow e3 q3 fun a z z2 => dj a z2 z
  obtain ⟨F4, s4, e4, q4, r4⟩ := hd2'.settle s3 h4
  have t4 := t3.grow sub2 e4 s4.le q4
  split at hd
  · cases hd
    obtain ⟨a, ys, rfl, h4, h5⟩ := r3.lst_inv
    obtain ⟨b, zs, rfl, h6, h7⟩ := r4.lst_inv
    exact ⟨a, b, ys, zs, rfl, .inl ⟨((h4.up e4).up s4.le).sq, (h6.up s4.le).sq, k _ _ _ _ s4 t4 (items_zip (h4.up e4).sq (h5.up e4) h6.sq h7)⟩⟩
  · cases hd
    obtain ⟨a, ys, rfl, h4, h5⟩ := r3.tup_inv
    obtain ⟨b, zs, rfl, h6, h7⟩ := r4.tup_inv
    exact ⟨a, b, ys, zs, rfl, .inr ⟨ex_t s4.le (ex_t e4 h4), ex_t s4.le h6, k _ _ _ _ s4 t4 (items_zipT (ex_t e4 h4) (h5.up e4) h6 h7)⟩⟩
  · cases hd
include o in
theorem i_itZipN {x y : E} {a b : Expr} {f nm : Str} {p pos tpos : Pos} (ha : PE X a (tX X.K T G x)) (hs : noStar a = true) (hb : PE X b (tX X.K T G y)) (hs2 : noStar b = true) (hf : f = "zip") (hg : glo sc f = true) : PI X (.Name nm tpos) (.Call (.Name f p) [a, b] [] pos) (tI X.K T G (.itZipN x y)) := by
  obtain ⟨g1, g2, g3⟩ := glo_ok o hg
  subst hf
  refine (RX.pi_zipN g1 (o.blt _ (by decide +kernel)) (pa_cons ha (pa_cons hb pa_nil (star_ok hs2)) (star_ok hs)) (star_ok hs) (by rw [star_ok hs2] <;> rfl)).mono fun σ H R ⟨F, ρ, fp, xs, ρ', s, hd, k⟩ => ?_
  simp only [deni] at hd
  obtain ⟨⟨x1, ρ1⟩, h1, hd⟩ := Res.bind_inv hd
  obtain ⟨⟨x2, ρ2⟩, h2, hd⟩ := Res.bind_inv hd
  obtain ⟨d1, h3, hd⟩ := Res.bind_inv hd
  obtain ⟨d2, h4, hd⟩ := Res.bind_inv hd
  dsimp only at hd
  refine two s h1 h2 fun v w H2 F2 fp2 P1 P2 s2 t2 hd1 hd2 sub1 sub2 dj => ?_
  obtain ⟨F3, s3, e3, q3, r3⟩ := hd1.settle s2 h3
  have t3 := t2.grow sub1 e3 s3.le q3
  have hd2' := hd2.grow e3 q3 fun a z z2 => dj a z2 z
  obtain ⟨F4, s4, e4, q4, r4⟩ := hd2'.settle s3 h4
  have t4 := t3.grow sub2 e4 s4.le q4
  split at hd
  · cases hd
    obtain ⟨a, ys, rfl, h4, h5⟩ := r3.lst_inv
    obtain ⟨b, zs, rfl, h6, h7⟩ := r4.lst_inv
    exact ⟨a, b, ys, zs, rfl, ((h4.up e4).up s4.le).sq, (h6.up s4.le).sq, k _ _ _ _ s4 t4 (items_zip (h4.up e4).sq (h5.up e4) h6.sq h7)⟩
  · cases hd
end
end Rf
set_option maxRecDepth 100000
set_option maxHeartbeats 4000000
/-! Rf, part J: targets, comprehensions, methods of lists. -/
namespace Rf
open PySem PySem.Spec PyProof.Rows L2 Evl

/-! ### targets -/
def tG (K : Frag) (g : Tg) : TG := fun v σ H k => ∃ F ρ fp d ρ', St K F H σ ρ fp ∧ Rp K F v d ∧ stTg g d ρ = .ok ρ' ∧
  ∀ σ' fp', St K F H σ' ρ' fp' → (∀ i, i ∉ slots g → σ'[i]? = σ[i]?) → (∀ i a, fp' i a → fp i a) → k σ' H
def tGs (K : Frag) (g : Tg) : TGs := fun vs σ H k => ∃ F ρ fp ds ρ', St K F H σ ρ fp ∧ Rps K F vs ds ∧ stTg g (.tuple ds) ρ = .ok ρ' ∧
  ∀ σ' fp', St K F H σ' ρ' fp' → (∀ i, i ∉ slots g → σ'[i]? = σ[i]?) → (∀ i a, fp' i a → fp i a) → k σ' H
theorem _root_.L2.PG.mono {X : Cx} {e : Expr} {t t' : TG} (h : PG X e t) (m : ∀ v σ H Q, t' v σ H Q → t v σ H Q) : PG X e t' := ⟨fun pins s σ H v u Q I r q => h.run pins s σ H v u Q I r (m v σ H Q q)⟩
theorem _root_.L2.PGs.mono {X : Cx} {e : List Expr} {t t' : TGs} (h : PGs X e t) (m : ∀ v σ H Q, t' v σ H Q → t v σ H Q) : PGs X e t' := ⟨fun pins s σ H v u Q I r q => h.run pins s σ H v u Q I r (m v σ H Q q)⟩
theorem stTg_length : ∀ {g : Tg} {d : PyData} {ρ ρ' : Ro}, stTg g d ρ = .ok ρ' → ρ'.length = ρ.length
  | .n i, d, ρ, ρ', h => by
    simp only [stTg] at h
    cases h
    simp
  | .nil, d, ρ, ρ', h => by
    cases d with
    | tuple ds =>
      cases ds with
      | nil => simp only [stTg] at h; cases h; rfl
      | cons d ds => simp [stTg] at h
    | _ => simp [stTg] at h
  | .cons t r, d, ρ, ρ', h => by
    cases d with
    | tuple ds =>
      cases ds with
      | nil => simp [stTg] at h
      | cons d ds =>
        simp only [stTg] at h
        obtain ⟨ρ1, h1, h2⟩ := Res.bind_inv h
        rw [stTg_length h2, stTg_length h1]
    | _ => simp [stTg] at h
theorem asg_ok {e : Expr} {es : List Expr} {env : Env} (h : noStar e = true) : assignEach (e :: es) env = (false, assign e env) :: assignEach es env := by
  cases e <;> first | rfl | (cases h)
section
variable {P : Prg} {G : Gls} {T : Tab} {n : Nat} {N : List Str} {sc : Scope} {top : Bool} {X : Cx} (o : XOk P G T n N sc top X)
include o
theorem sto_ok {x : Str} (h : sto top sc x = true) : Loc X.env.scope x ∧ (X.fn x = true ∨ X.env.scope.names.lookup x = some .local) := by
  unfold sto at h
  rw [o.hsc]
  split at h
  · rename_i q; exact ⟨.inl q, .inr q⟩
  · rename_i q; exact ⟨.inr q, .inl (o.fn h x)⟩
  · cases h
mutual
theorem pg_of : ∀ (g : Tg) (a : Expr), chkT N g sc top a = true → PG X a (tG X.K g)
  | .n i, a, h => by
    unfold chkT at h
    split at h
    · rw [Bool.and_eq_true] at h
      obtain ⟨h1, h2⟩ := h
      obtain ⟨l1, l2⟩ := sto_ok o h2
      refine (pg_name (i := i) (by rw [o.hN]; exact o.nd) (by rw [o.hN]; simpa using h1) l1 l2).mono fun v σ H Q ⟨F, ρ, fp, d, ρ', s, r, e, k⟩ => ?_
      simp only [stTg] at e
      cases e
      refine k _ _ (s.putD r i) (fun j hj => ?_) fun j a hj => ?_
      · rw [List.getElem?_set_ne]
        rintro rfl
        exact hj List.mem_cons_self
      · rcases fpSet_cases hj with ⟨_, z⟩ | ⟨_, z⟩
        · exact z.elim
        · exact z
    · cases h
  | .nil, a, h => by
    unfold chkT at h
    split at h
    · rename_i es kk pos
      have he : es = [] := by simpa using h
      subst he
      refine (pg_tup (n := 0) o.calm pgs_nil rfl rfl).mono fun v σ H Q ⟨F, ρ, fp, d, ρ', s, r, e, k⟩ => ?_
      cases d with
      | tuple ds =>
        cases ds with
        | nil =>
          simp only [stTg] at e
          cases e
          obtain ⟨a, ys, rfl, h1, h2⟩ := r.tup_inv
          cases h2
          exact ⟨a, [], rfl, ex_t s.le h1, rfl, rfl, k σ fp s (fun _ _ => rfl) fun _ _ z => z⟩
        | cons d ds => simp [stTg] at e
      | _ => simp [stTg] at e
    · cases h
  | .cons t r, a, h => by
    unfold chkT at h
    split at h
    · rename_i es kk pos
      have hl := (pgs_len (.cons t r) es h)
      refine (pg_tup (n := es.length) o.calm (pgs_of (.cons t r) es h) hl.1 hl.2).mono fun v σ H Q ⟨F, ρ, fp, d, ρ', s, r', e, k⟩ => ?_
      cases d <;> first | (simp [stTg] at e; done) | skip
      rename_i ds
      obtain ⟨a, ys, rfl, h1, h2⟩ := r'.tup_inv
      exact ⟨a, ys, rfl, ex_t s.le h1, by rw [h2.length]; exact stTg_len _ es ds ρ ρ' h e, F, ρ, fp, ds, ρ', s, h2, e, k⟩
    · cases h
theorem pgs_of : ∀ (g : Tg) (es : List Expr), chkTs N g sc top es = true → PGs X es (tGs X.K g)
  | .n i, es, h => by simp [chkTs] at h
  | .nil, es, h => by
    simp only [chkTs] at h
    have he : es = [] := by simpa using h
    subst he
    refine pgs_nil.mono fun v σ H Q ⟨F, ρ, fp, ds, ρ', s, r, e, k⟩ => ?_
    cases ds with
    | nil =>
      simp only [stTg] at e
      cases e
      cases r
      exact ⟨rfl, k σ fp s (fun _ _ => rfl) fun _ _ z => z⟩
    | cons d ds => simp [stTg] at e
  | .cons t r, es, h => by
    cases es with
    | nil => simp [chkTs] at h
    | cons e es =>
      simp only [chkTs, Bool.and_eq_true] at h
      refine (pgs_cons (pg_of t e h.1.2) (pgs_of r es h.2) (by rw [asg_ok h.1.1] <;> rfl)).mono fun vs σ H Q ⟨F, ρ, fp, ds, ρ', s, hr, e', k⟩ => ?_
      cases ds with
      | nil => simp [stTg] at e'
      | cons d ds =>
        simp only [stTg] at e'
        obtain ⟨ρ1, e1, e2⟩ := Res.bind_inv e'
        cases hr with
        | cons r1 r2 =>
          refine ⟨_, _, rfl, F, ρ, fp, d, ρ1, s, r1, e1, fun σ1 fp1 s1 k1 f1 => ?_⟩
          refine ⟨F, ρ1, fp1, ds, ρ', s1, r2, e2, fun σ2 fp2 s2 k2 f2 => ?_⟩
          refine k σ2 fp2 s2 (fun i hi => ?_) fun i a z => f1 i a (f2 i a z)
          have hi' : i ∉ slots t ∧ i ∉ slots r := by simpa [slots] using hi
          rw [k2 i hi'.2, k1 i hi'.1]
theorem pgs_len : ∀ (g : Tg) (es : List Expr), chkTs N g sc top es = true → (assignEach es X.env).length = es.length ∧ (assignEach es X.env).findIdx? (·.1) = none
  | .n i, es, h => by simp [chkTs] at h
  | .nil, es, h => by
    simp only [chkTs] at h
    have he : es = [] := by simpa using h
    subst he
    exact ⟨rfl, rfl⟩
  | .cons t r, es, h => by
    cases es with
    | nil => simp [chkTs] at h
    | cons e es =>
      simp only [chkTs, Bool.and_eq_true] at h
      obtain ⟨h1, h2⟩ := pgs_len r es h.2
      rw [asg_ok h.1.1]
      exact ⟨by simp [h1], by simp [List.findIdx?_cons, h2]⟩
theorem stTg_len : ∀ (g : Tg) (es : List Expr) (ds : List PyData) (ρ ρ' : Ro), chkTs N g sc top es = true → stTg g (.tuple ds) ρ = .ok ρ' → ds.length = es.length
  | .n i, es, _, _, _, h, _ => by simp [chkTs] at h
  | .nil, es, ds, ρ, ρ', h, e => by
    simp only [chkTs] at h
    have he : es = [] := by simpa using h
    subst he
    cases ds with
    | nil => rfl
    | cons d ds => simp [stTg] at e
  | .cons t r, es, ds, ρ, ρ', h, e => by
    cases es with
    | nil => simp [chkTs] at h
    | cons e0 es =>
      simp only [chkTs, Bool.and_eq_true] at h
      cases ds with
      | nil => simp [stTg] at e
      | cons d ds =>
        simp only [stTg] at e
        obtain ⟨ρ1, e1, e2⟩ := Res.bind_inv e
        simp [stTg_len r es ds ρ1 ρ' h.2 e2]
end
end

/-! ### methods of lists -/
def rExtR (K : Frag) : V → List V → Hp → VK → Prop := fun x vs H Q => ∃ l b xs zs, x = .ref l ∧ vs = [.ref b] ∧ H l = some (.lst xs) ∧ RdL K H b zs ∧ xs.length + zs.length ≤ sizeLine ∧ Q .non (upd H l (.lst (xs ++ zs)))
theorem mt_extR {X : Cx} : MtM X "list.extend" (rExtR X.K) := by
  intro pins s σ H x vs v us Q I rx rv h
  obtain ⟨l, b, xs, zs, rfl, rfl, hH, hB, hz, q⟩ := h
  cases rx
  obtain ⟨u, rfl, ru⟩ := rv.one
  cases ru
  obtain ⟨z, its, n, r, hl, e⟩ := I.lstM hH
  obtain ⟨z2, its2, n2, r2, hl2, e2⟩ := I.lstR hB
  have hsz : its.toArray.size + its2.toArray.size ≤ sizeLine := by rw [List.size_toArray, List.size_toArray]; omega
  have hlong : ¬ (!its.toArray.isEmpty && Builtin.List.listTooLong (its.toArray.size + its2.toArray.size)) = true := by
    rw [notLongL hsz, Bool.and_false]
    exact Bool.false_ne_true
  refine call_meets F.slot_list_extend ⟨_, e, rfl⟩ F.entry_list_extend (F.args_list_extend_2 _ _)
    (AutoSeq1.list_extend_list_list_0 l its.toArray n b its2.toArray n2 hlong (by rw [List.size_toArray]; omega) (by omega)) ⟨e, e2, ?_⟩
  refine ⟨.non, _, I.lset (its' := its ++ its2) hH e (by simp) (r.append r2) ?_, rfl, q⟩
  rw [List.length_append]
  omega
def mtId : Mt → String
  | .append => "list.append" | .pop => "list.pop" | .popAt => "list.pop" | .extend => "list.extend" | .clear => "list.clear" | .reverse => "list.reverse" | .index => "list.index" | .count => "list.count"
def rMt (K : Frag) : Mt → V → List V → Hp → VK → Prop
  | .append => rAppend
  | .pop => rPop
  | .popAt => rPopAt
  | .extend => rExtR K
  | .clear => rClear
  | .reverse => rReverse
  | _ => fun _ _ _ _ => False
theorem mt_all {X : Cx} (m : Mt) : MtR X (mtId m) (rMt X.K m) := by
  cases m
  case append => exact mt_append
  case pop => exact mt_pop
  case popAt => exact mt_popAt
  case extend => exact mt_extR
  case clear => exact mt_clear
  case reverse => exact mt_reverse
  all_goals exact fun _ _ _ _ _ _ _ _ _ _ _ _ h => h.elim
theorem mt_rs {K : Frag} {F H : Hp} {p : Addr} {ys : List V} {xs xs' zs : List PyData} {vs : List V} {r : PyData} {Q : VK} (m : Mt) (e : Ex F H) (hH : H p = some (.lst ys)) (hr : Rps K F ys xs) (ha : Rps K F vs zs) (hz : mtS m xs zs = .ok (xs', r))
    (k : ∀ v' ys', Rps K F ys' xs' → Rp K F v' r → Q v' (upd H p (.lst ys'))) : rMt K m (.ref p) vs H Q := by
  unfold mtS at hz
  split at hz
  · obtain ⟨_, g, hz⟩ := Res.bind_inv hz
    cases hz
    have g' := of_decide_eq_true (Res.guard_inv g)
    cases ha with
    | cons h1 h2 =>
      cases h2
      exact ⟨p, ys, _, rfl, rfl, hH, mil_lt (by rw [hr.length]; exact g'), k _ _ (hr.append (.cons h1 .nil)) .non⟩
  · cases ha
    split at hz
    · rename_i hx
      cases hz
      rw [← hr.length] at hx
      obtain ⟨v, h1, h2⟩ := hr.get hx
      exact ⟨p, ys, v, rfl, rfl, hH, h1, k _ _ hr.dropLast h2⟩
    · cases hz
  · rename_i i
    obtain ⟨_, g, hz⟩ := Res.bind_inv hz
    have g' := of_decide_eq_true (Res.guard_inv g)
    cases ha with
    | cons h1 h2 =>
      cases h2
      obtain rfl := h1.int_inv
      split at hz
      · rename_i j hj
        split at hz
        · rename_i hx
          cases hz
          obtain ⟨q1, q2, q3, q4⟩ := ixN_seq hj
          obtain ⟨v, h3, h4⟩ := hr.get hx
          exact ⟨p, ys, i, j, v, rfl, rfl, hH, by omega, by omega, by rw [hr.length]; exact q1, h3, k _ _ (hr.eraseIdx _) h4⟩
        · cases hz
      · cases hz
  · obtain ⟨_, g, hz⟩ := Res.bind_inv hz
    cases hz
    have g' := of_decide_eq_true (Res.guard_inv g)
    cases ha with
    | cons h1 h2 =>
      cases h2
      obtain ⟨a, ws, rfl, h3, h4⟩ := h1.lst_inv
      exact ⟨p, a, ys, ws, rfl, rfl, hH, h3.up e, mil (by rw [hr.length, h4.length]; exact g'), k _ _ (hr.append h4) .non⟩
  · cases hz
    cases ha
    exact ⟨p, ys, rfl, rfl, hH, k _ _ .nil .non⟩
  · cases hz
    cases ha
    exact ⟨p, ys, rfl, rfl, hH, k _ _ hr.reverse .non⟩
  · cases hz
section
variable {P : Prg} {G : Gls} {T : Tab} {n : Nat} {N : List Str} {sc : Scope} {top : Bool} {X : Cx} (o : XOk P G T n N sc top X)
theorem plList_s {ρ : Ro} {i : Nat} {xs : List PyData} (h : plList ρ (.s i) = .ok xs) : getRo ρ i = some (.L xs) := by
  have h' : (match getRo ρ i with | some (.L xs) => Res.ok xs | _ => Res.bad) = Res.ok xs := h
  split at h'
  · rename_i h2
    cases h'
    exact h2
  · cases h'
theorem le_mt {m : Mt} {i : Nat} {as : E} (hn : noIo as = true) : ∀ σ H Q, tX X.K T G (.mt m (.s i) as) σ H Q → (tVar i σ H fun x H1 => tyV X.K "list" x H1 ∧ tA X.K T G as σ H1 fun vs H2 => rMt X.K m x vs H2 Q) := fun σ H Q ⟨F, ρ, fp, z, ρ', s, hd, k⟩ => by
  simp only [den] at hd
  obtain ⟨xs0, h0, hd⟩ := Res.bind_inv hd
  obtain ⟨⟨ys, ρ1⟩, h1, hd⟩ := Res.bind_inv hd
  obtain ⟨zs, h2, hd⟩ := Res.bind_inv hd
  obtain ⟨xs, h3, hd⟩ := Res.bind_inv hd
  obtain ⟨⟨xs', r⟩, h4, hd⟩ := Res.bind_inv hd
  cases hd
  obtain ⟨p, ws, e1, e2, e3, e4⟩ := s.list (plList_s h0)
  refine ⟨_, e1, .inl ⟨rfl, ws, sq_of e3⟩, F, ρ, fp, ys, ρ1, s, h1, fun vs H1 F1 fp1 P1 s1 t1 hd1 sub => ?_⟩
  obtain ⟨F2, s2, x2, q2, d2⟩ := settleA hd1.ow hn h2 s1 hd1.nf hd1.kn hd1.dj
  obtain ⟨p', ws', f1, f2, f3, f4⟩ := s2.list (plList_s h3)
  rw [e1] at f1
  cases f1
  refine mt_rs m s2.le f3 f4 d2 h4 fun v' ys' g1 g2 => ?_
  obtain ⟨s3, t3⟩ := s2.mut (plList_s h3) e1 f2 f3 g1
  exact fin0 k s3 ((t1.grow sub x2 s2.le q2).trans t3) rfl g2
theorem base_ok {a : Expr} {x : Str} {env : Env} {w : Sem Value} (h : noCall a = true) : attributeBase a x env w = w := by
  cases a <;> first | rfl | (cases h)
theorem few_ok {env : Env} {pos : Pos} {e : Expr} {es : List Expr} (h : (e :: es).all noStar = true) (hl : (e :: es).length < 29) :
    ((backTo pos (starEach (e :: es) env)).all (fun x => !x.1) && (backToKw pos (keywordEach [] env)).all (fun x => x.1.isSome) && decide ((e :: es).length + ([] : List Keyword).length + (if ([] : List Keyword).isEmpty then 0 else 1) < 30)) = true := by
  have h1 : ∀ es : List Expr, es.all noStar = true → (backTo pos (starEach es env)).all (fun x => !x.1) = true := by
    intro es
    induction es with
    | nil => intro _; rfl
    | cons e es ih =>
      intro h
      rw [List.all_cons, Bool.and_eq_true] at h
      rw [star_ok h.1]
      show (true && (backTo pos (starEach es env)).all (fun x => !x.1)) = true
      rw [ih h.2] <;> rfl
  rw [h1 _ h]
  have : decide ((e :: es).length + ([] : List Keyword).length + (if ([] : List Keyword).isEmpty then 0 else 1) < 30) = true := decide_eq_true (by simp only [List.length_nil, List.isEmpty_nil, if_true]; omega)
  rw [this]
  rfl
include o in
theorem s_mt {m : Mt} {i : Nat} {as : E} {a : Expr} {x : Str} {es : List Expr} {ap cp : Pos} (hp : chkN N i sc a = true) (ha : PA X es (tA X.K T G as)) (hs : es.all noStar = true) (hl : es.length < 29) (he0 : es = [] → as = .nil) (hn : noIo as = true) (hx : x = mtName m) (hline : (ap.endLine == cp.line) = true) :
    PE X (.Call (.Attribute a x ap) es [] cp) (tX X.K T G (.mt m (.s i) as)) := by
  have hbase : attributeBase a x X.env (eval a X.env) = eval a X.env := by
    unfold chkN at hp
    split at hp
    · rfl
    · cases hp
  have hv := (nm_ok o hp).1
  subst hx
  cases es with
  | nil =>
    obtain rfl := he0 rfl
    have key : ∀ (r : V → List V → Hp → VK → Prop), r = rMt X.K m → ∀ σ H Q, tX X.K T G (.mt m (.s i) .nil) σ H Q → tBM0 X.K "list" r (tVar i) σ H Q := fun r hr σ H Q h => by
      subst hr
      obtain ⟨v, e1, ty, h2⟩ := le_mt hn σ H Q h
      exact ⟨v, e1, ty, le_nilA σ H _ h2⟩
    cases m
    case append => exact (pe_bm0 PySem.F.plainAttrs_list PySem.F.slot_list_append PySem.F.type_list_append (mt_all .append) hv hbase hline).mono (key _ rfl)
    case pop => exact (pe_bm0 PySem.F.plainAttrs_list PySem.F.slot_list_pop PySem.F.type_list_pop (mt_all .pop) hv hbase hline).mono (key _ rfl)
    case popAt => exact (pe_bm0 PySem.F.plainAttrs_list PySem.F.slot_list_pop PySem.F.type_list_pop (mt_all .popAt) hv hbase hline).mono (key _ rfl)
    case extend => exact (pe_bm0 PySem.F.plainAttrs_list PySem.F.slot_list_extend PySem.F.type_list_extend (mt_all .extend) hv hbase hline).mono (key _ rfl)
    case clear => exact (pe_bm0 PySem.F.plainAttrs_list PySem.F.slot_list_clear PySem.F.type_list_clear (mt_all .clear) hv hbase hline).mono (key _ rfl)
    case reverse => exact (pe_bm0 PySem.F.plainAttrs_list PySem.F.slot_list_reverse PySem.F.type_list_reverse (mt_all .reverse) hv hbase hline).mono (key _ rfl)
    case index => exact (pe_bm0 PySem.F.plainAttrs_list PySem.F.slot_list_index PySem.F.type_list_index (mt_all .index) hv hbase hline).mono (key _ rfl)
    case count => exact (pe_bm0 PySem.F.plainAttrs_list PySem.F.slot_list_count PySem.F.type_list_count (mt_all .count) hv hbase hline).mono (key _ rfl)
  | cons e es =>
    have hs' := hs
    rw [List.all_cons, Bool.and_eq_true] at hs'
    have h1 : starEach (e :: es) X.env = (false, eval e X.env) :: starEach es X.env := star_ok hs'.1
    have h2 : (backTo cp (starEach es X.env)).any (·.1) = false := plain_tail hs'.2
    have h3 := few_ok (env := X.env) (pos := cp) hs hl
    have key : ∀ (r : V → List V → Hp → VK → Prop), r = rMt X.K m → ∀ σ H Q, tX X.K T G (.mt m (.s i) as) σ H Q → tBM X.K "list" r (tVar i) (tA X.K T G as) σ H Q := fun r hr σ H Q h => by
      subst hr
      exact le_mt hn σ H Q h
    cases m
    case append => exact (pe_bm PySem.F.plainAttrs_list PySem.F.slot_list_append PySem.F.type_list_append (mt_all .append) hv ha hbase h3 hline h1 h2).mono (key _ rfl)
    case pop => exact (pe_bm PySem.F.plainAttrs_list PySem.F.slot_list_pop PySem.F.type_list_pop (mt_all .pop) hv ha hbase h3 hline h1 h2).mono (key _ rfl)
    case popAt => exact (pe_bm PySem.F.plainAttrs_list PySem.F.slot_list_pop PySem.F.type_list_pop (mt_all .popAt) hv ha hbase h3 hline h1 h2).mono (key _ rfl)
    case extend => exact (pe_bm PySem.F.plainAttrs_list PySem.F.slot_list_extend PySem.F.type_list_extend (mt_all .extend) hv ha hbase h3 hline h1 h2).mono (key _ rfl)
    case clear => exact (pe_bm PySem.F.plainAttrs_list PySem.F.slot_list_clear PySem.F.type_list_clear (mt_all .clear) hv ha hbase h3 hline h1 h2).mono (key _ rfl)
    case reverse => exact (pe_bm PySem.F.plainAttrs_list PySem.F.slot_list_reverse PySem.F.type_list_reverse (mt_all .reverse) hv ha hbase h3 hline h1 h2).mono (key _ rfl)
    case index => exact (pe_bm PySem.F.plainAttrs_list PySem.F.slot_list_index PySem.F.type_list_index (mt_all .index) hv ha hbase h3 hline h1 h2).mono (key _ rfl)
    case count => exact (pe_bm PySem.F.plainAttrs_list PySem.F.slot_list_count PySem.F.type_list_count (mt_all .count) hv ha hbase h3 hline h1 h2).mono (key _ rfl)
include o in
/-- x[i], x a list of one's own -/
theorem s_ixP {i : Nat} {y : E} {a b : Expr} {pos : Pos} (hp : chkN N i sc a = true) (hb : PE X b (tX X.K T G y)) (hpl : PlainIx b) : PE X (.Subscript a b pos) (tX X.K T G (.ixP (.s i) y)) :=
  (pe_ix ix_list (nm_ok o hp).1 hb hpl).mono fun σ H Q ⟨F, ρ, fp, z, ρ', s, hd, k⟩ => by
    simp only [den] at hd
    split at hd
    · cases hd
    rename_i x0 hx0
    obtain ⟨⟨x1, ρ1⟩, h1, hd⟩ := Res.bind_inv hd
    dsimp only at hd
    obtain ⟨v, e1, e2⟩ := s.ow i _ hx0
    refine ⟨v, e1, F, ρ, fp, x1, ρ1, s, h1, fun w H1 F1 fp1 P1 s1 t1 hd1 sub => ?_⟩
    split at hd
    · rename_i xs j hxs
      split at hd
      · rename_i hx
        cases hd
        obtain ⟨p, ys, f1, f2, f3, f4⟩ := s1.list hxs
        rw [e1] at f1
        cases f1
        obtain ⟨u, h3, h4⟩ := atI_rps f4 hx
        exact ⟨p, ys, j, u, rfl, hd1.ow.dat.int_inv, sq_of f3, h3, fin0 k s1 t1 rfl h4⟩
      · cases hd
    · cases hd
include o in
theorem s_lenP {i : Nat} {a : Expr} {f : Str} {p pos : Pos} (hp : chkN N i sc a = true) (hf : f = "len") (hg : glo sc f = true) : PE X (.Call (.Name f p) [a] [] pos) (tX X.K T G (.lenP (.s i))) := by
  obtain ⟨g1, g2, g3⟩ := glo_ok o hg
  obtain ⟨hv, hs⟩ := nm_ok o hp
  subst hf
  refine (pe_callB c_len g1 (o.blt _ (by decide +kernel)) (by decide +kernel) (pa_cons hv pa_nil (star_ok hs)) g3 g2 (star_ok hs) rfl).mono fun σ H Q ⟨F, ρ, fp, z, ρ', s, hd, k⟩ => ?_
  simp only [den] at hd
  obtain ⟨xs, h1, hd⟩ := Res.bind_inv hd
  cases hd
  obtain ⟨p, ys, f1, f2, f3, f4⟩ := s.list (plList_s h1)
  exact ⟨_, f1, .inl ⟨p, ys, rfl, .inl (sq_of f3), by rw [f4.length]; exact fin0 k s (Xt.refl s.le) rfl (.int _)⟩⟩
/-! ### methods of a value that is read -/
def mvTy : Mv → String
  | .lindex => "list"
  | _ => "str"
def mvId : Mv → String
  | .lindex => "list.index" | .join => "str.join" | .split => "str.split" | .partition => "str.partition" | .find => "str.find" | .startswith => "str.startswith" | .rstripC => "str.rstrip" | .scount => "str.count"
def rMv (K : Frag) : Mv → V → List V → Hp → VK → Prop
  | .lindex => rIndexD K
  | .join => fun x xs H Q => ∃ a p, ∃ ys : List Str, x = .str a ∧ xs = [.ref p] ∧ (SqL K H p (ys.map V.str) ∨ SqT K H p (ys.map V.str)) ∧ (ys.map (·.length)).sum + ys.length * a.length ≤ 16777216 ∧ Q (.str (Txt.join a ys)) H
  | .split => fun x xs H Q => ∃ a b, x = .str a ∧ xs = [.str b] ∧ (b.length == 0) = false ∧ a.length + 2 ≤ sizeLine ∧ rNewStrs (Txt.split a b) H Q
  | .partition => fun x xs H Q => ∃ a b, x = .str a ∧ xs = [.str b] ∧ (b.length == 0) = false ∧ a.length ≤ sizeLine ∧ ∀ p, H p = none → Q (.ref p) (upd H p (.tup [.str (Txt.partition a b).1, .str (Txt.partition a b).2.1, .str (Txt.partition a b).2.2]))
  | .find => fun x xs H Q => ∃ a b, x = .str a ∧ xs = [.str b] ∧ Q (.int (Txt.find a b)) H
  | .startswith => fun x xs H Q => ∃ a b, x = .str a ∧ xs = [.str b] ∧ Q (.bl (Txt.startswith a b)) H
  | .rstripC => fun x xs H Q => ∃ a b, x = .str a ∧ xs = [.str b] ∧ a.length ≤ sizeLine ∧ Q (.str (Txt.rstripChars a b)) H
  | .scount => fun x xs H Q => ∃ a b, x = .str a ∧ xs = [.str b] ∧ Q (.int (Txt.count a b)) H
omit o in
theorem mv_all {X : Cx} {n : Nat} (hr : Room n X.A) (m : Mv) : MtR X (mvId m) (rMv X.K m) := by
  cases m
  case lindex => exact mt_indexD (by have := hr.un; omega)
  case join => exact mt_join
  case split => exact mt_split
  case partition => exact mt_partition
  case find => exact mt_find
  case startswith => exact mt_startswith
  case rstripC => exact mt_rstripChars
  case scount => exact mt_count
omit o in
theorem ty_str {K : Frag} {H : Hp} {v : V} {x : Str} (h : v = .str x) : tyV K "str" v H := by
  subst h
  exact rfl
omit o in
theorem mv_ty {K : Frag} {F H : Hp} {v : V} {d : PyData} {m : Mv} {zs : List PyData} {r : PV} (e : Ex F H) (h : Opd K F H v d) (hm : mvS m d zs = .ok r) : tyV K (mvTy m) v H := by
  unfold mvS at hm
  split at hm
  · obtain ⟨a, xs, rfl, h1, _⟩ := h.lst_inv e
    exact .inl ⟨rfl, _, h1.sq⟩
  all_goals first | (cases hm; done) | exact ty_str h.str_inv
omit o in
theorem rps_strs {K : Frag} {F : Hp} : ∀ zs : List Str, Rps K F (zs.map V.str) (zs.map .str)
  | [] => .nil
  | z :: r => .cons (.str z) (rps_strs r)
omit o in
theorem mv_rs {K : Frag} {F H : Hp} {v : V} {d : PyData} {vs : List V} {m : Mv} {zs : List PyData} {r : PV} {Q : VK} (e : Ex F H) (h : Rp K F v d) (hs : Rps K F vs zs) (hm : mvS m d zs = .ok r) (k : ∀ v' F' H', Rs K F H F' H' v' r → Q v' H') : rMv K m v vs H Q := by
  unfold mvS at hm
  split at hm
  · obtain ⟨_, g, hm⟩ := Res.bind_inv hm
    split at hm
    · rename_i j hj
      cases hm
      obtain ⟨a, xs, rfl, h1, h2⟩ := h.lst_inv
      cases hs with
      | cons hx hn =>
        cases hn
        have g' := Res.guard_inv g
        unfold inOk at g'
        rw [Bool.and_eq_true] at g'
        obtain ⟨j1, j2, j3⟩ := List.findIdx?_eq_some_iff_getElem.mp hj
        refine ⟨a, _, _, _, j, _, rfl, rfl, toDp _ _ (h.up e), toDp _ _ (hx.up e), g'.2, g'.1, List.getElem?_eq_getElem j1, j2, fun i z hi hz => ?_, rs_int e k⟩
        obtain ⟨q1, q2⟩ := List.getElem?_eq_some_iff.mp hz
        have := j3 i hi
        rw [q2] at this
        simpa using this
    · cases hm
  · split at hm
    · rename_i hq
      obtain ⟨_, g, hm⟩ := Res.bind_inv hm
      cases hm
      have g' := of_decide_eq_true (Res.guard_inv g)
      cases hs with
      | cons hx hn =>
        cases hn
        obtain ⟨a, xs, rfl, h1, h2⟩ := hx.lst_inv
        have := strsV h2 hq
        subst this
        exact ⟨_, a, _, h.str_inv, rfl, .inl (h1.up e).sq, by omega, rs_str e k⟩
    · cases hm
  · obtain ⟨_, g, hm⟩ := Res.bind_inv hm
    cases hm
    have g' := of_decide_eq_true (Res.guard_inv g)
    cases hs with
    | cons hx hn =>
      cases hn
      refine ⟨_, _, h.str_inv, by rw [hx.str_inv], g'.1, Nat.le_trans (Nat.add_le_add_right g'.2 2) (by decide), fun p hp => ?_⟩
      exact k _ _ _ (Rs.newL e hp (rps_strs _))
  · obtain ⟨_, g, hm⟩ := Res.bind_inv hm
    cases hm
    have g' := of_decide_eq_true (Res.guard_inv g)
    cases hs with
    | cons hx hn =>
      cases hn
      exact ⟨_, _, h.str_inv, by rw [hx.str_inv], g'.1, mil g'.2, fun p hp => k _ _ _ (Rs.newT e hp (.cons (.str _) (.cons (.str _) (.cons (.str _) .nil))))⟩
  · cases hm
    cases hs with
    | cons hx hn =>
      cases hn
      exact ⟨_, _, h.str_inv, by rw [hx.str_inv], rs_int e k⟩
  · cases hm
    cases hs with
    | cons hx hn =>
      cases hn
      exact ⟨_, _, h.str_inv, by rw [hx.str_inv], rs_bl e k⟩
  · obtain ⟨_, g, hm⟩ := Res.bind_inv hm
    cases hm
    have g' := of_decide_eq_true (Res.guard_inv g)
    cases hs with
    | cons hx hn =>
      cases hn
      exact ⟨_, _, h.str_inv, by rw [hx.str_inv], mil g', rs_str e k⟩
  · cases hm
    cases hs with
    | cons hx hn =>
      cases hn
      exact ⟨_, _, h.str_inv, by rw [hx.str_inv], rs_int e k⟩
  · cases hm
omit o in
theorem le_mtv {K : Frag} {m : Mv} {ob as : E} (hn : noIo as = true) : ∀ σ H Q, tX K T G (.mtv m ob as) σ H Q → tBM K (mvTy m) (rMv K m) (tX K T G ob) (tA K T G as) σ H Q := fun σ H Q ⟨F, ρ, fp, z, ρ', s, hd, k⟩ => by
  simp only [den] at hd
  obtain ⟨⟨x, ρ1⟩, h1, hd⟩ := Res.bind_inv hd
  obtain ⟨⟨ys, ρ2⟩, h2, hd⟩ := Res.bind_inv hd
  obtain ⟨x', h3, hd⟩ := Res.bind_inv hd
  obtain ⟨zs, h4, hd⟩ := Res.bind_inv hd
  obtain ⟨r, h5, hd⟩ := Res.bind_inv hd
  injection hd with hd
  injection hd with e1 e2
  subst e1
  subst e2
  refine ⟨F, ρ, fp, x, ρ1, s, h1, fun v H1 F1 fp1 P1 s1 t1 hd1 sub1 => ⟨mv_ty s1.le (hd1.ow.opd h3) h5, F1, ρ1, fp1, ys, _, s1, h2, fun vs H2 F2 fp2 P2 s2 t2 hd2 sub2 => ?_⟩⟩
  have hk := hd1.keep t2
  have dj : ∀ a, P1 a → ¬ P2 a := fun a ha hb => by
    rcases sub2 a hb with ⟨j, hj⟩ | hj
    · exact hd1.dj a ha j hj
    · exact (hd1.kn a ha).ne hj
  obtain ⟨F3, s3, x3, q3, d3⟩ := settleA hd2.ow hn h4 s2 hd2.nf hd2.kn hd2.dj
  obtain ⟨F4, s4, x4, q4, d4⟩ := (hk.grow x3 q3 dj).settle s3 h3
  have t3 := ((t1.trans t2).grow (t1.subP sub2) x3 s3.le q3).grow (P := P1) sub1 x4 s4.le q4
  exact mv_rs s4.le d4 (d3.up x4) h5 fun v' F' H' rr => fin k s4 t3 rr
include o in
theorem s_mtv {m : Mv} {ob as : E} {a : Expr} {x : Str} {es : List Expr} {ap cp : Pos} (hc : noCall a = true) (hv : PE X a (tX X.K T G ob)) (ha : PA X es (tA X.K T G as)) (hs : es.all noStar = true) (hl : es.length < 29) (hne : es ≠ []) (hn : noIo as = true) (hx : x = mvName m) (hline : (ap.endLine == cp.line) = true) :
    PE X (.Call (.Attribute a x ap) es [] cp) (tX X.K T G (.mtv m ob as)) := by
  have hbase : attributeBase a x X.env (eval a X.env) = eval a X.env := base_ok hc
  subst hx
  cases es with
  | nil => exact absurd rfl hne
  | cons e es =>
    have hs' := hs
    rw [List.all_cons, Bool.and_eq_true] at hs'
    have h1 : starEach (e :: es) X.env = (false, eval e X.env) :: starEach es X.env := star_ok hs'.1
    have h2 : (backTo cp (starEach es X.env)).any (·.1) = false := plain_tail hs'.2
    have h3 := few_ok (env := X.env) (pos := cp) hs hl
    have le := le_mtv (K := X.K) (T := T) (G := G) (m := m) (ob := ob) (as := as) hn
    cases m
    case lindex => exact (pe_bm PySem.F.plainAttrs_list PySem.F.slot_list_index PySem.F.type_list_index (mv_all o.room .lindex) hv ha hbase h3 hline h1 h2).mono le
    case join => exact (pe_bm PySem.F.plainAttrs_str PySem.F.slot_str_join PySem.F.type_str_join (mv_all o.room .join) hv ha hbase h3 hline h1 h2).mono le
    case split => exact (pe_bm PySem.F.plainAttrs_str PySem.F.slot_str_split PySem.F.type_str_split (mv_all o.room .split) hv ha hbase h3 hline h1 h2).mono le
    case partition => exact (pe_bm PySem.F.plainAttrs_str PySem.F.slot_str_partition PySem.F.type_str_partition (mv_all o.room .partition) hv ha hbase h3 hline h1 h2).mono le
    case find => exact (pe_bm PySem.F.plainAttrs_str PySem.F.slot_str_find PySem.F.type_str_find (mv_all o.room .find) hv ha hbase h3 hline h1 h2).mono le
    case startswith => exact (pe_bm PySem.F.plainAttrs_str PySem.F.slot_str_startswith PySem.F.type_str_startswith (mv_all o.room .startswith) hv ha hbase h3 hline h1 h2).mono le
    case rstripC => exact (pe_bm PySem.F.plainAttrs_str PySem.F.slot_str_rstrip PySem.F.type_str_rstrip (mv_all o.room .rstripC) hv ha hbase h3 hline h1 h2).mono le
    case scount => exact (pe_bm PySem.F.plainAttrs_str PySem.F.slot_str_count PySem.F.type_str_count (mv_all o.room .scount) hv ha hbase h3 hline h1 h2).mono le
end
end Rf
set_option maxRecDepth 100000
set_option maxHeartbeats 4000000
/-! Rf, part S: dicts of one's own with text keys. -/
namespace Rf
open PySem PySem.Spec PyProof.Rows L2 Evl
section
variable {K : Frag} {F H : Hp} {σ : L2.St} {ρ : Ro} {fp : Nat → As}
theorem St.dict (s : St K F H σ ρ fp) {i : Nat} {kvs : List (Str × CV)} (h : getRo ρ i = some (.M kvs)) : ∃ (p : Addr) (kv : List (Key × V)) (as : List Addr), σ[i]? = some (some (.ref p)) ∧ fp i p ∧ H p = some (.dK kv) ∧ Cvs K F H kv kvs as ∧ p ∉ as ∧ (∀ a ∈ as, fp i a) ∧ (kvs.map (·.1)).Nodup := by
  obtain ⟨v, e1, e2⟩ := s.ow i _ h
  cases e2 with
  | M hp h1 h2 h3 h4 h5 => exact ⟨_, _, _, e1, hp, h1, h2, h3, h4, h5⟩
/-- an object of one name's is changed -/
theorem St.mutG (s : St K F H σ ρ fp) {i : Nat} {x' : PV} {r : Addr} {o : HO} {v : V} (hr : fp i r) (ho : fixd o = false) (e : σ[i]? = some (some v)) (ow' : Ow K F (upd H r o) v x' (fp i)) :
    St K F (upd H r o) σ (ρ.set i (some x')) fp ∧ Xt F H fp F (upd H r o) fp := by
  have hf := s.nf i r hr
  have le : Ex F (upd H r o) := fun a u ha => by rw [upd_ne (ne_of_none ha hf)]; exact s.le a u ha
  refine ⟨⟨le, by simp [s.len], fun j x hx => ?_, s.dj, fun j a ha => ?_, s.nf⟩, ⟨Ex.refl F, fun a u ha hn => ?_, le, fun a u ha => .inl ha, fun j a ha => .inl ⟨j, ha⟩, fun a ha => ?_⟩⟩
  · rcases getRo_set hx with ⟨e1, e2⟩ | ⟨e1, h2⟩
    · subst e1
      cases e2
      exact ⟨_, e, ow'⟩
    · obtain ⟨v, e3, e4⟩ := s.ow j x h2
      refine ⟨v, e3, e4.up (Ex.refl F) (fun a ha u hu => ?_) fun _ z => z⟩
      rw [upd_ne]
      · exact hu
      · rintro rfl
        exact e1 (s.dj i j a hr ha)
  · by_cases q : a = r
    · subst q; exact ⟨_, upd_same, ho⟩
    · rw [upd_ne q]; exact s.kn j a ha
  · rw [upd_ne]
    · exact ha
    · rintro rfl
      exact hn i hr
  · by_cases q : a = r
    · subst q; rw [upd_same]; simp
    · rw [upd_ne q]; exact ha
theorem Cvs.getD {key : Str} {x : PyData} : ∀ {kv : List (Key × V)} {kvs : List (Str × CV)} {as : List Addr}, Cvs K F H kv kvs as → kvGet key kvs = some (.d x) → ∃ v, valV kv (.inr key : Key) = some v ∧ Rp K F v x
  | _, _, _, .nil, h => by cases h
  | _, _, _, .d (k := k) (v := v) h1 r, h => by
    unfold kvGet at h
    split at h
    · rename_i e
      cases h
      exact ⟨v, valV_pos (by rw [e]), h1⟩
    · rename_i e
      obtain ⟨w, q1, q2⟩ := Cvs.getD r h
      exact ⟨w, by rw [valV_neg (by simpa using e)]; exact q1, q2⟩
  | _, _, _, .L h1 h2 h3 r, h => by
    unfold kvGet at h
    split at h
    · cases h
    · rename_i e
      obtain ⟨w, q1, q2⟩ := Cvs.getD r h
      exact ⟨w, by rw [valV_neg (by simpa using e)]; exact q1, q2⟩
theorem Cvs.getL {key : Str} {xs : List PyData} : ∀ {kv : List (Key × V)} {kvs : List (Str × CV)} {as : List Addr}, Cvs K F H kv kvs as → kvGet key kvs = some (.L xs) → ∃ q ys, valV kv (.inr key : Key) = some (.ref q) ∧ q ∈ as ∧ H q = some (.lst ys) ∧ Rps K F ys xs
  | _, _, _, .nil, h => by cases h
  | _, _, _, .d (k := k) (v := v) h1 r, h => by
    unfold kvGet at h
    split at h
    · cases h
    · rename_i e
      obtain ⟨w, ys, q1, q2⟩ := Cvs.getL r h
      exact ⟨w, ys, by rw [valV_neg (by simpa using e)]; exact q1, q2⟩
  | _, _, _, .L (q := q) h1 h2 h3 r, h => by
    unfold kvGet at h
    split at h
    · rename_i e
      cases h
      exact ⟨q, _, valV_pos (by rw [e]), List.mem_cons_self, h1, h2⟩
    · rename_i e
      obtain ⟨w, ys, q1, q2, q3⟩ := Cvs.getL r h
      exact ⟨w, ys, by rw [valV_neg (by simpa using e)]; exact q1, List.mem_cons_of_mem _ q2, q3⟩
def mapK (kv : List (Key × V)) (k : Key) (v : V) : List (Key × V) := kv.map fun kv => if kv.1 = k then (kv.1, v) else kv
theorem mapK_no {key : Str} {v : V} : ∀ {kv : List (Key × V)} {kvs : List (Str × CV)} {as : List Addr}, Cvs K F H kv kvs as → key ∉ kvs.map (·.1) → mapK kv (.inr key) v = kv
  | _, _, _, .nil, _ => rfl
  | _, _, _, .d (k := k) h1 r, h => by
    rw [List.map_cons, List.mem_cons, not_or] at h
    simp only [mapK, List.map_cons]
    rw [if_neg (by simpa using Ne.symm h.1)]
    congr 1
    exact mapK_no r h.2
  | _, _, _, .L (k := k) h1 h2 h3 r, h => by
    rw [List.map_cons, List.mem_cons, not_or] at h
    simp only [mapK, List.map_cons]
    rw [if_neg (by simpa using Ne.symm h.1)]
    congr 1
    exact mapK_no r h.2
theorem kvSet_keys {key : Str} {c : CV} : ∀ kvs : List (Str × CV), (kvSet key c kvs).map (·.1) = kvs.map (·.1)
  | [] => rfl
  | (a, x) :: r => by
    unfold kvSet
    split
    · rfl
    · simp [kvSet_keys r]
theorem Cvs.putD {key : Str} {v : V} {x : PyData} (hv : Rp K F v x) : ∀ {kv : List (Key × V)} {kvs : List (Str × CV)} {as : List Addr}, Cvs K F H kv kvs as → (kvs.map (·.1)).Nodup → ∃ as', Cvs K F H (mapK kv (.inr key) v) (kvSet key (.d x) kvs) as' ∧ ∀ a ∈ as', a ∈ as
  | _, _, _, .nil, _ => ⟨[], .nil, fun _ h => h⟩
  | _, _, _, .d (k := k) (v := w) h1 r, nd => by
    rw [List.map_cons] at nd
    obtain ⟨n1, n2⟩ := List.nodup_cons.mp nd
    by_cases e : k = key
    · subst e
      refine ⟨_, ?_, fun _ h => h⟩
      simp only [mapK, List.map_cons, kvSet, if_true]
      have := mapK_no (v := v) r n1
      unfold mapK at this
      rw [this]
      exact .d hv r
    · obtain ⟨as', q1, q2⟩ := Cvs.putD hv r n2
      refine ⟨as', ?_, q2⟩
      simp only [mapK, List.map_cons, kvSet]
      rw [if_neg (by simpa using e), if_neg e]
      exact .d h1 q1
  | _, _, _, .L (k := k) (q := q) h1 h2 h3 r, nd => by
    rw [List.map_cons] at nd
    obtain ⟨n1, n2⟩ := List.nodup_cons.mp nd
    by_cases e : k = key
    · subst e
      refine ⟨_, ?_, fun _ h => List.mem_cons_of_mem _ h⟩
      simp only [mapK, List.map_cons, kvSet, if_true]
      have := mapK_no (v := v) r n1
      unfold mapK at this
      rw [this]
      exact .d hv r
    · obtain ⟨as', q1, q2⟩ := Cvs.putD hv r n2
      refine ⟨q :: as', ?_, fun a h => ?_⟩
      · simp only [mapK, List.map_cons, kvSet]
        rw [if_neg (by simpa using e), if_neg e]
        exact .L h1 h2 (fun z => h3 (q2 _ z)) q1
      · rcases List.mem_cons.mp h with z | z
        · rw [z]; exact List.mem_cons_self
        · exact List.mem_cons_of_mem _ (q2 _ z)
theorem Cvs.any {key : Str} {c : CV} : ∀ {kv : List (Key × V)} {kvs : List (Str × CV)} {as : List Addr}, Cvs K F H kv kvs as → kvGet key kvs = some c → (kv.any fun kv => decide (kv.1 = (.inr key : Key))) = true
  | _, _, _, .nil, h => by cases h
  | _, _, _, .d (k := k) h1 r, h => by
    unfold kvGet at h
    split at h
    · rename_i e; simp [e]
    · simp [Cvs.any r h]
  | _, _, _, .L (k := k) h1 h2 h3 r, h => by
    unfold kvGet at h
    split at h
    · rename_i e; simp [e]
    · simp [Cvs.any r h]
theorem Cvs.length : ∀ {kv : List (Key × V)} {kvs : List (Str × CV)} {as : List Addr}, Cvs K F H kv kvs as → kv.length = kvs.length
  | _, _, _, .nil => rfl
  | _, _, _, .d h1 r => by simp [Cvs.length r]
  | _, _, _, .L h1 h2 h3 r => by simp [Cvs.length r]
/-- a list in a dict is changed -/
theorem Cvs.mutL {key : Str} {xs xs' : List PyData} {q : Addr} {ys' : List V} (hr : Rps K F ys' xs') : ∀ {kv : List (Key × V)} {kvs : List (Str × CV)} {as : List Addr}, Cvs K F H kv kvs as → kvGet key kvs = some (.L xs) → valV kv (.inr key : Key) = some (.ref q) →
    Cvs K F (upd H q (.lst ys')) kv (kvSet key (.L xs') kvs) as
  | _, _, _, .nil, h, _ => by cases h
  | _, _, _, .d (k := k) h1 r, h, e => by
    unfold kvGet at h
    split at h
    · cases h
    · rename_i ne
      rw [valV_neg (by simpa using ne)] at e
      unfold kvSet
      rw [if_neg ne]
      exact .d h1 (Cvs.mutL hr r h e)
  | _, _, _, .L (k := k) (q := q0) h1 h2 h3 r, h, e => by
    unfold kvGet at h
    split at h
    · rename_i ee
      rw [valV_pos (by rw [ee])] at e
      have : q0 = q := by simpa using e
      subst this
      unfold kvSet
      rw [if_pos ee]
      refine .L upd_same hr h3 (r.up (Ex.refl F) fun a ha o ho => ?_)
      rw [upd_ne]
      · exact ho
      · rintro rfl; exact h3 ha
    · rename_i ne
      rw [valV_neg (by simpa using ne)] at e
      obtain ⟨q', ys, g1, g2, _⟩ := Cvs.getL r h
      rw [e] at g1
      have : q' = q := by simpa using g1.symm
      subst this
      unfold kvSet
      rw [if_neg ne]
      refine .L ?_ h2 h3 (Cvs.mutL hr r h e)
      rw [upd_ne]
      · exact h1
      · rintro rfl; exact h3 g2
end
section
variable {P : Prg} {G : Gls} {T : Tab} {n : Nat} {N : List Str} {sc : Scope} {top : Bool} {X : Cx} (o : XOk P G T n N sc top X)
theorem plList_k {ρ : Ro} {i : Nat} {key : Str} {xs : List PyData} (h : plList ρ (.k i key) = .ok xs) : ∃ kvs, getRo ρ i = some (.M kvs) ∧ kvGet key kvs = some (.L xs) := by
  have h' : (match getRo ρ i with | some (.M kvs) => (match kvGet key kvs with | some (.L xs) => Res.ok xs | _ => Res.bad) | _ => Res.bad) = Res.ok xs := h
  split at h'
  · rename_i kvs h2
    split at h'
    · rename_i ys h3
      cases h'
      exact ⟨kvs, h2, h3⟩
    · cases h'
  · cases h'
include o
theorem dunits : X.A.units + 1 < cLine := by have := o.room.un; omega
theorem nosl {e : Expr} (h : noSlice e = true) : NoSl e := by
  intro o i
  cases e <;> first | rfl | (cases h)
theorem s_ixK {i : Nat} {key : Str} {y : E} {a b : Expr} {pos : Pos} (hp : chkN N i sc a = true) (hb : PE X b (tX X.K T G y)) (hpl : NoSl b) : PE X (.Subscript a b pos) (tX X.K T G (.ixP (.k i key) y)) :=
  (pe_dget (dunits o) (nm_ok o hp).1 hb hpl).mono fun σ H Q ⟨F, ρ, fp, z, ρ', s, hd, k⟩ => by
    simp only [den] at hd
    split at hd
    · cases hd
    rename_i x0 hx0
    obtain ⟨⟨x1, ρ1⟩, h1, hd⟩ := Res.bind_inv hd
    dsimp only at hd
    obtain ⟨v, e1, e2⟩ := s.ow i _ hx0
    refine ⟨v, e1, F, ρ, fp, x1, ρ1, s, h1, fun w H1 F1 fp1 P1 s1 t1 hd1 sub => ?_⟩
    split at hd
    · rename_i kvs kk hxs
      split at hd
      · rename_i x hx
        cases hd
        obtain ⟨p, kv, as, f1, f2, f3, f4, f5, f6, f7⟩ := s1.dict hxs
        rw [e1] at f1
        cases f1
        obtain ⟨u, h3, h4⟩ := f4.getD hx
        refine ⟨p, u, rfl, ?_, fin0 k s1 t1 rfl h4⟩
        rw [hd1.ow.dat.str_inv, ← h3]
        exact DGet.k (k := .inr kk) f3
      · cases hd
    · cases hd
/-- d["key"], a list -/
theorem pe_key {i : Nat} {key j : Str} {l : Expr} {c q : Nat} {p1 p2 : Pos} : True := trivial
theorem chkP_k {i : Nat} {key : Str} {a : Expr} (h : chkP N (.k i key) sc a = true) : PE X a (fun σ H Q => tVar i σ H fun x H1 => ∃ b v, x = .ref b ∧ DGet H1 b (.str key) (some v) ∧ Q v H1) ∧ noStar a = true ∧ (∀ x, attributeBase a x X.env (eval a X.env) = eval a X.env) := by
  unfold chkP at h
  simp only at h
  split at h
  · rename_i l j _ _ _
    obtain ⟨h1, h2⟩ := and2S h
    have e := eq_of_beq h2
    subst e
    refine ⟨(pe_dget (dunits o) (nm_ok o h1).1 pe_str (fun _ _ => rfl)).mono fun σ H Q q => ?_, rfl, fun _ => rfl⟩
    obtain ⟨v, e1, b, w, e2, e3, e4⟩ := q
    exact ⟨v, e1, b, w, e2, e3, e4⟩
  · cases h
where
  and2S {a b : Bool} (h : (a && b) = true) : a = true ∧ b = true := by rw [Bool.and_eq_true] at h; exact h
theorem s_lenK {i : Nat} {key : Str} {a : Expr} {f : Str} {p pos : Pos} (hp : chkP N (.k i key) sc a = true) (hf : f = "len") (hg : glo sc f = true) : PE X (.Call (.Name f p) [a] [] pos) (tX X.K T G (.lenP (.k i key))) := by
  obtain ⟨g1, g2, g3⟩ := glo_ok o hg
  obtain ⟨hv, hs, _⟩ := chkP_k o hp
  subst hf
  refine (pe_callB c_len g1 (o.blt _ (by decide +kernel)) (by decide +kernel) (pa_cons hv pa_nil (star_ok hs)) g3 g2 (star_ok hs) rfl).mono fun σ H Q ⟨F, ρ, fp, z, ρ', s, hd, k⟩ => ?_
  simp only [den] at hd
  obtain ⟨xs, h1, hd⟩ := Res.bind_inv hd
  cases hd
  obtain ⟨kvs, h2, h3⟩ := plList_k h1
  obtain ⟨q, kv, as, f1, f2, f3, f4, f5, f6, f7⟩ := s.dict h2
  obtain ⟨r, ys, g4, g5, g6, g7⟩ := f4.getL h3
  refine ⟨_, f1, q, .ref r, rfl, ?_, .inl ⟨r, ys, rfl, .inl (sq_of g6), by rw [g7.length]; exact fin0 k s (Xt.refl s.le) rfl (.int _)⟩⟩
  rw [← g4]
  exact DGet.k (k := .inr key) f3
theorem le_mtK {m : Mt} {i : Nat} {key : Str} : ∀ σ H Q, tX X.K T G (.mt m (.k i key) .nil) σ H Q → tBM0 X.K "list" (rMt X.K m) (fun σ H Q => tVar i σ H fun x H1 => ∃ b v, x = .ref b ∧ DGet H1 b (.str key) (some v) ∧ Q v H1) σ H Q := fun σ H Q ⟨F, ρ, fp, z, ρ', s, hd, k⟩ => by
  simp only [den, dens] at hd
  obtain ⟨xs0, h0, hd⟩ := Res.bind_inv hd
  obtain ⟨⟨ys, ρ1⟩, h1, hd⟩ := Res.bind_inv hd
  cases h1
  obtain ⟨zs, h2, hd⟩ := Res.bind_inv hd
  cases h2
  obtain ⟨xs, h3, hd⟩ := Res.bind_inv hd
  obtain ⟨⟨xs', r⟩, h4, hd⟩ := Res.bind_inv hd
  cases hd
  dsimp only at h3 h4
  obtain ⟨kvs, g2, g3⟩ := plList_k h3
  obtain ⟨p, kv, as, f1, f2, f3, f4, f5, f6, f7⟩ := s.dict g2
  obtain ⟨q, ws, g4, g5, g6, g7⟩ := f4.getL g3
  refine ⟨_, f1, p, .ref q, rfl, ?_, .inl ⟨rfl, ws, sq_of g6⟩, ?_⟩
  · rw [← g4]
    exact DGet.k (k := .inr key) f3
  refine mt_rs m s.le g6 g7 .nil h4 fun v' ys' r1 r2 => ?_
  have ow' : Ow X.K F (upd H q (.lst ys')) (.ref p) (.M (kvSet key (.L xs') kvs)) (fp i) := by
    refine .M f2 ?_ (f4.mutL r1 g3 g4) f5 f6 (by rw [kvSet_keys]; exact f7)
    rw [upd_ne]
    · exact f3
    · rintro rfl; exact f5 g5
  obtain ⟨s3, t3⟩ := s.mutG (f6 q g5) rfl f1 ow'
  have er : plSet ρ (.k i key) xs' = ρ.set i (some (.M (kvSet key (.L xs') kvs))) := by
    show (match getRo ρ i with | some (.M kvs) => ρ.set i (some (.M (kvSet key (.L xs') kvs))) | _ => ρ) = _
    rw [g2]
  rw [← er] at s3
  exact fin0 k s3 t3 rfl r2
theorem s_mtK {m : Mt} {i : Nat} {key : Str} {a : Expr} {x : Str} {ap cp : Pos} (hp : chkP N (.k i key) sc a = true) (hx : x = mtName m) (hline : (ap.endLine == cp.line) = true) :
    PE X (.Call (.Attribute a x ap) [] [] cp) (tX X.K T G (.mt m (.k i key) .nil)) := by
  obtain ⟨hv, _, hb⟩ := chkP_k o hp
  have hbase := hb x
  subst hx
  have key := le_mtK (T := T) (G := G) o (m := m) (i := i) (key := key)
  cases m
  case append => exact (pe_bm0 PySem.F.plainAttrs_list PySem.F.slot_list_append PySem.F.type_list_append (mt_all .append) hv hbase hline).mono key
  case pop => exact (pe_bm0 PySem.F.plainAttrs_list PySem.F.slot_list_pop PySem.F.type_list_pop (mt_all .pop) hv hbase hline).mono key
  case popAt => exact (pe_bm0 PySem.F.plainAttrs_list PySem.F.slot_list_pop PySem.F.type_list_pop (mt_all .popAt) hv hbase hline).mono key
  case extend => exact (pe_bm0 PySem.F.plainAttrs_list PySem.F.slot_list_extend PySem.F.type_list_extend (mt_all .extend) hv hbase hline).mono key
  case clear => exact (pe_bm0 PySem.F.plainAttrs_list PySem.F.slot_list_clear PySem.F.type_list_clear (mt_all .clear) hv hbase hline).mono key
  case reverse => exact (pe_bm0 PySem.F.plainAttrs_list PySem.F.slot_list_reverse PySem.F.type_list_reverse (mt_all .reverse) hv hbase hline).mono key
  case index => exact (pe_bm0 PySem.F.plainAttrs_list PySem.F.slot_list_index PySem.F.type_list_index (mt_all .index) hv hbase hline).mono key
  case count => exact (pe_bm0 PySem.F.plainAttrs_list PySem.F.slot_list_count PySem.F.type_list_count (mt_all .count) hv hbase hline).mono key
end
end Rf
set_option maxRecDepth 100000
set_option maxHeartbeats 4000000
/-! Rf, part K: list comprehensions; every term's reading. -/
namespace Rf
open PySem PySem.Spec PyProof.Rows L2 Evl

/-! ### wiping -/
theorem wipe_get {σ : L2.St} {i : Nat} : ∀ {vs : List Nat}, i ∉ vs → (wipe σ vs)[i]? = σ[i]?
  | [], _ => rfl
  | v :: vs, h => by
    have h' : i ≠ v ∧ i ∉ vs := by simpa using h
    unfold wipe
    rw [List.getElem?_set_ne (Ne.symm h'.1), wipe_get h'.2]
theorem wipeR_get {ρ : Ro} {i : Nat} : ∀ {vs : List Nat}, i ∉ vs → getRo (wipeR ρ vs) i = getRo ρ i
  | [], _ => rfl
  | v :: vs, h => by
    have h' : i ≠ v ∧ i ∉ vs := by simpa using h
    unfold wipeR
    rw [getRo_set_ne (Ne.symm h'.1), wipeR_get h'.2]
theorem wipeR_in {ρ : Ro} {i : Nat} {x : PV} : ∀ {vs : List Nat}, i ∈ vs → getRo (wipeR ρ vs) i ≠ some x
  | [], h => by simp at h
  | v :: vs, h => by
    unfold wipeR
    intro e
    rcases getRo_set e with ⟨_, e2⟩ | ⟨ne, e2⟩
    · cases e2
    · rcases List.mem_cons.mp h with q | q
      · exact ne q.symm
      · exact wipeR_in q e2
theorem wipeR_length (ρ : Ro) : ∀ vs : List Nat, (wipeR ρ vs).length = ρ.length
  | [] => rfl
  | v :: vs => by unfold wipeR; rw [List.length_set, wipeR_length ρ vs]
theorem wipeBack_length (ρ ρ' : Ro) : ∀ vs : List Nat, (wipeBack ρ ρ' vs).length = ρ'.length
  | [] => rfl
  | v :: vs => by unfold wipeBack; rw [List.length_set, wipeBack_length ρ ρ' vs]
theorem wipeBack_out {ρ ρ' : Ro} {i : Nat} : ∀ {vs : List Nat}, i ∉ vs → getRo (wipeBack ρ ρ' vs) i = getRo ρ' i
  | [], _ => rfl
  | v :: vs, h => by
    have h' : i ≠ v ∧ i ∉ vs := by simpa using h
    unfold wipeBack
    rw [getRo_set_ne (Ne.symm h'.1), wipeBack_out h'.2]
theorem wipeBack_in {ρ ρ' : Ro} {i : Nat} {x : PV} : ∀ {vs : List Nat}, i ∈ vs → getRo (wipeBack ρ ρ' vs) i = some x → getRo ρ i = some x
  | [], h, _ => by simp at h
  | v :: vs, h, e => by
    unfold wipeBack at e
    rcases getRo_set e with ⟨q, e2⟩ | ⟨ne, e2⟩
    · rw [← q]; exact e2
    · rcases List.mem_cons.mp h with q | q
      · exact absurd q.symm ne
      · exact wipeBack_in q e2
theorem wipe_none {σ : L2.St} {i : Nat} {x : V} : ∀ {vs : List Nat}, i ∈ vs → (wipe σ vs)[i]? ≠ some (some x) := fun {vs} h e => (wipe_some e).2 h
/-- what is done to wiped slots is forgotten -/
theorem wipe_same {σ σ2 : L2.St} {vs : List Nat} (hl : σ2.length = σ.length) (h : ∀ i, i ∉ vs → σ2[i]? = σ[i]?) : wipe σ2 vs = wipe σ vs := by
  apply List.ext_getElem?
  intro i
  by_cases hi : i ∈ vs
  · have nn : ∀ τ : L2.St, (wipe τ vs)[i]? = if i < τ.length then some none else none := fun τ => by
      cases q : (wipe τ vs)[i]? with
      | none =>
        have : ¬ i < τ.length := by
          have := List.getElem?_eq_none_iff.mp q
          rw [wipe_length] at this
          omega
        rw [if_neg this]
      | some o =>
        cases o with
        | none =>
          have : i < τ.length := by
            have := (List.getElem?_eq_some_iff.mp q).1
            rwa [wipe_length] at this
          rw [if_pos this]
        | some x => exact absurd q (wipe_none hi)
    rw [nn, nn, hl]
  · rw [wipe_get hi, wipe_get hi, h i hi]
section
variable {K : Frag} {F H : Hp} {σ : L2.St} {ρ : Ro} {fp : Nat → As} {vs : List Nat}
theorem St.wipe (s : St K F H σ ρ fp) : St K F H (wipe σ vs) (wipeR ρ vs) fp where
  le := s.le
  len := by rw [wipe_length, wipeR_length]; exact s.len
  ow := fun i x h => by
    by_cases hi : i ∈ vs
    · exact absurd h (wipeR_in hi)
    · rw [wipeR_get hi] at h
      rw [wipe_get hi]
      exact s.ow i x h
  dj := s.dj
  kn := s.kn
  nf := s.nf
theorem St.fps (s : St K F H σ ρ fp) {fp' : Nat → As} (h : ∀ i x, getRo ρ i = some x → ∀ a, fp i a → fp' i a) (h2 : ∀ i a, fp' i a → fp i a) : St K F H σ ρ fp' where
  le := s.le
  len := s.len
  ow := fun i x hx => by
    obtain ⟨v, e1, e2⟩ := s.ow i x hx
    exact ⟨v, e1, e2.up (Ex.refl _) (fun _ _ _ z => z) (h i x hx)⟩
  dj := fun i j a x y => s.dj i j a (h2 i a x) (h2 j a y)
  kn := fun i a x => s.kn i a (h2 i a x)
  nf := fun i a x => s.nf i a (h2 i a x)
/-- a list in hand is changed -/
theorem St.mutH (s : St K F H σ ρ fp) {p : Addr} {ys ys' : List V} (hH : H p = some (.lst ys)) (hf : F p = none) (hp : ∀ i, ¬ fp i p) : St K F (upd H p (.lst ys')) σ ρ fp where
  le := fun a u ha => by rw [upd_ne (ne_of_none ha hf)]; exact s.le a u ha
  len := s.len
  ow := fun i x hx => by
    obtain ⟨v, e1, e2⟩ := s.ow i x hx
    refine ⟨v, e1, e2.up (Ex.refl _) (fun a ha u hu => ?_) fun _ z => z⟩
    rw [upd_ne]
    · exact hu
    · rintro rfl; exact hp i ha
  dj := s.dj
  kn := fun i a ha => by
    rw [upd_ne]
    · exact s.kn i a ha
    · rintro rfl; exact hp i ha
  nf := s.nf
end
theorem Xt.mutH {F H F1 H1 : Hp} {fp fp1 : Nat → As} (x : Xt F H fp F1 H1 fp1) {p : Addr} {o : HO} (h0 : H p = none) (hf : F1 p = none) : Xt F H fp F1 (upd H1 p o) fp1 where
  ff := x.ff
  fr := fun a u ha hn => by
    rw [upd_ne (ne_of_none ha h0)]
    exact x.fr a u ha hn
  le := fun a u ha => by rw [upd_ne (ne_of_none ha hf)]; exact x.le a u ha
  nw := x.nw
  sub := x.sub
  kn := fun a ha => by
    by_cases q : a = p
    · subst q; rw [upd_same]; simp
    · rw [upd_ne q]; exact x.kn a ha
theorem drop_cons {α : Type} {xs : List α} {i : Nat} {x : α} (h : xs[i]? = some x) : xs.drop i = x :: xs.drop (i + 1) := by
  have hl := (List.getElem?_eq_some_iff.mp h).1
  rw [List.drop_eq_getElem_cons hl]
  congr 1
  exact (List.getElem?_eq_some_iff.mp h).2

section
variable {K : Frag} {T : Tab} {G : Gls}
/-- a comprehension's tests -/
def tC1 (K : Frag) (T : Tab) (G : Gls) (c : E) : TT := tT K T G c
theorem le_lc {g : Tg} {it c e : E} {vs : List Nat} {tt : TT} (hg : (slots g).all vs.contains = true) (ht : ∀ σ H Q, tT K T G c σ H Q → tt σ H Q) :
    ∀ σ H Q, tX K T G (.lc g it c e vs) σ H Q → tLc (tI K T G it) (tG K g) tt (tX K T G e) vs σ H Q := fun σ H Q ⟨F, ρ, fp, z, ρ', s, hd, k⟩ => by
  simp only [den] at hd
  obtain ⟨⟨xs, ρ1⟩, h1, hd⟩ := Res.bind_inv hd
  obtain ⟨_, h2, hd⟩ := Res.bind_inv hd
  have hw := Res.guard_inv h2
  obtain ⟨⟨ys, ρ2⟩, h3, hd⟩ := Res.bind_inv hd
  obtain ⟨_, h4, hd⟩ := Res.bind_inv hd
  have hz := of_decide_eq_true (Res.guard_inv h4)
  cases hd
  dsimp only at h3
  generalize hbody : (fun (x : PyData) (ρ : Ro) => (do
      let ρ3 ← stTg g x ρ
      let (t, ρ4) ← den T G c ρ3
      let b ← asBool t
      if b then (do let (y, ρ5) ← den T G e ρ4; let y' ← y.fz; Res.ok (some y', wipeR ρ5 vs)) else Res.ok (none, wipeR ρ4 vs) : Res (Option PyData × Ro))) = body at h3
  refine ⟨F, ρ, fp, xs, ρ1, s, h1, fun J H1 F1 fp1 s1 t1 items D hD => ?_⟩
  have s1w : St K F1 H1 (wipe σ vs) (wipeR ρ1 vs) fp1 := s1.wipe
  refine ⟨fun i m H' => i ≤ xs.length ∧ m = xs.length - i ∧ ∃ F' fp' ρ' acc done rest, St K F' H' (wipe σ vs) ρ' fp' ∧ Xt F1 H1 fp1 F' H' fp' ∧ H' D = some (.lst acc) ∧ F' D = none ∧ (∀ i, ¬ fp' i D) ∧ Rps K F' acc done ∧
      lcF body (xs.drop i) ρ' = .ok (rest, ρ2) ∧ ys = done ++ rest, ⟨xs.length, Nat.zero_le _, by omega, F1, fp1, wipeR ρ1 vs, [], [], ys, ?_, ?_, upd_same, fresh_back s1.le hD, ?_, .nil, by simpa using h3, rfl⟩, ?_⟩
  · have n : Nw F1 H1 F1 (upd H1 D (.lst [])) := ⟨s1.le.trans (Ex.new hD), Ex.refl _, Ex.new hD, fun _ _ q => .inl q⟩
    exact n.st s1w
  · have n : Nw F1 H1 F1 (upd H1 D (.lst [])) := ⟨s1.le.trans (Ex.new hD), Ex.refl _, Ex.new hD, fun _ _ q => .inl q⟩
    exact n.xt
  · intro i hi
    exact (s1.kn i D hi).ne hD
  rintro i m H' ⟨hi, hm, F', fp', ρ'', acc, done, rest, s', t', e1, e2, e3, hr, hl, hys⟩
  obtain ⟨hgo, hstop⟩ := items i H' F' t'.ff s'.le
  by_cases hlt : i < xs.length
  · refine .inr ?_
    have hx : xs[i]? = some xs[i] := List.getElem?_eq_getElem hlt
    obtain ⟨g1, g2⟩ := hgo _ hx
    rw [drop_cons hx] at hl
    simp only [lcF] at hl
    obtain ⟨⟨oy, ρ3⟩, l1, hl⟩ := Res.bind_inv hl
    obtain ⟨⟨rest', ρ4⟩, l2, hl⟩ := Res.bind_inv hl
    have hl' := Res.ok.inj hl
    have er : oCons oy rest' = rest := congrArg Prod.fst hl'
    have eρ : ρ4 = ρ2 := congrArg Prod.snd hl'
    subst eρ
    refine ⟨g1, fun H4 => ∃ F4 fp4 acc4 done4, St K F4 H4 (wipe σ vs) ρ3 fp4 ∧ Xt F1 H1 fp1 F4 H4 fp4 ∧ H4 D = some (.lst acc4) ∧ F4 D = none ∧ (∀ i, ¬ fp4 i D) ∧ Rps K F4 acc4 done4 ∧ ys = done4 ++ rest',
      fun H4 ⟨F4, fp4, acc4, done4, q1, q2, q3, q4, q5, q6, q7⟩ => ⟨xs.length - (i + 1), by omega, by omega, rfl, F4, fp4, ρ3, acc4, done4, rest', q1, q2, q3, q4, q5, q6, l2, q7⟩, fun x H3 hy => ?_⟩
    obtain ⟨F3, nw, rx⟩ := g2 x H3 hy
    have s3 := nw.st s'
    have t3 := t'.trans nw.xt
    -- the list under way stays in hand
    have hD3 : Hd K F' H' fp' (.ref D) (.L done) (fun a => a = D) := ⟨.L rfl e1 hr, fun a ha => by subst ha; exact e2, fun a ha => by subst ha; exact ⟨_, e1, rfl⟩, fun a ha => by subst ha; exact e3⟩
    have hD3' := hD3.keep (nw.xt (fp := fp'))
    rw [← hbody] at l1
    obtain ⟨ρ5, b1, l1⟩ := Res.bind_inv l1
    obtain ⟨⟨tv, ρ6⟩, b2, l1⟩ := Res.bind_inv l1
    obtain ⟨b, b3, l1⟩ := Res.bind_inv l1
    refine ⟨F3, ρ'', fp', _, ρ5, s3, rx, b1, fun σ2 fp2 s4 hk hf => ⟨?_, ?_⟩⟩
    · have : wipe σ2 vs = wipe (wipe σ vs) vs := wipe_same (by rw [s4.len, s3.len]; exact stTg_length b1) fun j hj => hk j fun hjs => hj (by
        have := List.all_eq_true.mp hg j hjs
        simpa using this)
      rw [this]
      exact wipe_same (wipe_length _ _) fun j hj => wipe_get hj
    · have hwσ : wipe σ2 vs = wipe σ vs := by
        have : wipe σ2 vs = wipe (wipe σ vs) vs := wipe_same (by rw [s4.len, s3.len]; exact stTg_length b1) fun j hj => hk j fun hjs => hj (by
          have := List.all_eq_true.mp hg j hjs
          simpa using this)
        rw [this]
        exact wipe_same (wipe_length _ _) fun j hj => wipe_get hj
      have t4 : Xt F1 H1 fp1 F3 H3 fp2 := t3.lower fun j a ha => ⟨j, hf j a ha⟩
      have hD4 : Hd K F3 H3 fp2 (.ref D) (.L done) (fun a => a = D) := ⟨hD3'.ow, hD3'.nf, hD3'.kn, fun a ha j hj => hD3'.dj a ha j (hf j a hj)⟩
      refine ht σ2 H3 _ ⟨F3, ρ5, fp2, tv, ρ6, b, s4, b2, b3, fun H5 F5 fp5 s5 t5 => ?_⟩
      have hD5 := hD4.keep t5
      cases b with
      | false =>
        dsimp only
        rw [if_neg Bool.false_ne_true] at l1 ⊢
        cases l1
        cases hD5.ow with
        | L _ g3 g4 =>
          refine ⟨F5, fp5, _, done, by rw [← hwσ]; exact s5.wipe, t4.trans t5, g3, hD5.nf D rfl, fun j => hD5.dj D rfl j, g4, ?_⟩
          rw [hys, ← er]
          rfl
      | true =>
        dsimp only
        rw [if_pos rfl] at l1 ⊢
        obtain ⟨⟨yv, ρ7⟩, b4, l1⟩ := Res.bind_inv l1
        obtain ⟨y', b5, l1⟩ := Res.bind_inv l1
        cases l1
        refine ⟨F5, ρ6, fp5, yv, ρ7, s5, b4, fun w H6 F6 fp6 P6 s6 t6 hd6 sub6 => ?_⟩
        have hD6 := hD5.keep t6
        obtain ⟨F7, s7, e7, q7, d7⟩ := hd6.settle s6 b5
        have dj6 : ∀ a, a = D → ¬ P6 a := fun a ha hp => by
          subst ha
          rcases sub6 a hp with ⟨j, hj⟩ | hj
          · exact hD5.dj a rfl j hj
          · exact (hD5.kn a rfl).ne hj
        have hD7 := hD6.grow e7 q7 dj6
        have t7 : Xt F1 H1 fp1 F7 H6 fp6 := ((t4.trans t5).trans t6).grow (P := P6) (fun a ha => (t4.trans t5).subP sub6 a ha) e7 s7.le q7
        cases hD7.ow with
        | @L _ ys7 _ _ _ g3 g4 =>
          have hF7 := hD7.nf D rfl
          have hl7 : ys7.length = done.length := g4.length
          refine ⟨ys7, g3, mil_lt ?_, F7, fp6, ys7 ++ [w], done ++ [y'], ?_, t7.mutH hD hF7, upd_same, hF7, fun j => hD7.dj D rfl j, g4.append (.cons d7 .nil), ?_⟩
          · rw [hl7]
            rw [hys, ← er] at hz
            simp [oCons] at hz
            omega
          · rw [← hwσ]
            exact (s7.wipe).mutH g3 hF7 fun j => hD7.dj D rfl j
          · rw [hys, ← er]
            simp [oCons]
  · refine .inl ⟨hstop (by omega), ?_⟩
    have hi' : i = xs.length := by omega
    subst hi'
    rw [List.drop_length] at hl
    simp only [lcF] at hl
    cases hl
    rw [List.append_nil] at hys
    subst hys
    -- the block's own slots come back
    have wd : ∀ j, j ∈ vs → ∀ x, getRo ρ1 j = some x → ∃ y, x = .d y := fun j hj x hx => by
      have := List.all_eq_true.mp hw j hj
      rw [hx] at this
      cases x with
      | d y => exact ⟨y, rfl⟩
      | L => cases this
      | M => cases this
    have sB : St K F' H' σ (wipeBack ρ1 ρ2 vs) fp' := {
      le := s'.le
      len := by
        have := s'.len
        rw [wipe_length] at this
        rw [wipeBack_length]; exact this
      ow := fun j x hx => by
        by_cases hj : j ∈ vs
        · have h5 := wipeBack_in hj hx
          obtain ⟨y, rfl⟩ := wd j hj x h5
          obtain ⟨v, q1, q2⟩ := s1.ow j _ h5
          exact ⟨v, q1, .d (q2.dat.up t'.ff)⟩
        · rw [wipeBack_out hj] at hx
          obtain ⟨v, q1, q2⟩ := s'.ow j x hx
          exact ⟨v, (wipe_some q1).1, q2⟩
      dj := s'.dj
      kn := s'.kn
      nf := s'.nf }
    exact k (.ref D) H' F' fp' (fun a => a = D) sB (t1.trans t') ⟨.L rfl e1 hr, fun a ha => by subst ha; exact e2, fun a ha => by subst ha; exact ⟨_, e1, rfl⟩, fun a ha => by subst ha; exact e3⟩ fun a ha => by
      subst ha
      exact .inr (t1.back hD)
end
end Rf
set_option maxRecDepth 100000
set_option maxHeartbeats 4000000
/-! Rf, part Y: constant dicts, xs[::-1]. -/
namespace RY
open PySem PySem.Spec PyProof.Rows L2
section
variable {prog : Program} {w : World} {A : Around} {E : Value → Shared → Prop} {s : Shared}
theorem adjust_rev (n : Nat) : Builtin.Slice.sliceAdjust none none (-1) (n : Int) = ((n : Int) - 1, -1) := rfl
theorem places_rev (n : Nat) : Builtin.Slice.slicePlaces ((n : Int) - 1) (-1) (-1) = n := by
  unfold Builtin.Slice.slicePlaces
  rw [if_neg (by decide)]
  split
  · rw [show (- -1 : Int) = 1 by decide, Int.ediv_one]; omega
  · have : n = 0 := by omega
    rw [this]; rfl
theorem sliceApplied_rev {sl : Addr} {vl vu vs : Value} {n : Nat} {Q : Int × Int × Nat → Shared → Prop} (hs : s.heap.IsSliceOf sl vl vu vs) (pl : IsPart vl none) (pu : IsPart vu none) (ps : IsPart vs (some (-1)))
    (h : Q ((n : Int) - 1, -1, n) s) : wpAny (model prog w) A (Builtin.Slice.sliceApplied (.ref sl) (pure (n : Int))) Q E s := by
  obtain ⟨os, hos, hcs, hds⟩ := id hs
  unfold Builtin.Slice.sliceApplied Builtin.Slice.sliceFields
  refine wpAny_bind (wpAny_bind (wpAny_field hos hds (x := vl) rfl (wpAny_bind (wpAny_field hos hds (x := vu) rfl (wpAny_bind (wpAny_field hos hds (x := vs) rfl (wpAny_pure ?_)))))))
  refine wpAny_bind (HT.slicePart_ ps ?_)
  show wpAny _ _ (if ((-1 : Int) == 0) = true then _ else _) _ _ s
  rw [if_neg (by decide)]
  refine wpAny_bind (HT.slicePart_ pl (wpAny_bind (HT.slicePart_ pu (wpAny_bind (wpAny_pure ?_)))))
  show wpAny _ _ (match Builtin.Slice.sliceAdjust none none (-1) (n : Int) with | (lo, hi) => pure (lo, (-1 : Int), Builtin.Slice.slicePlaces lo hi (-1))) _ _ s
  rw [adjust_rev n]
  show wpAny _ _ (pure ((n : Int) - 1, (-1 : Int), Builtin.Slice.slicePlaces ((n : Int) - 1) (-1) (-1))) _ _ s
  rw [places_rev]
  exact wpAny_pure h
theorem fm_congr {α β : Type} {f g : α → Option β} : ∀ {l : List α}, (∀ m ∈ l, f m = g m) → l.filterMap f = l.filterMap g
  | [], _ => rfl
  | a :: l, h => by
    rw [List.filterMap_cons, List.filterMap_cons, h a (by simp), fm_congr fun m hm => h m (List.mem_cons_of_mem _ hm)]
theorem pick_rev (xs : Array Value) : ((List.range xs.size).filterMap fun (m : Nat) => xs[((xs.size : Int) - 1 + (m : Int) * (-1)).toNat]?).toArray = xs.toList.reverse.toArray := by
  have e : ∀ m ∈ List.range xs.size, xs[((xs.size : Int) - 1 + (m : Int) * (-1)).toNat]? = xs[xs.size - 1 - m]? := fun m hm => by
    have := List.mem_range.mp hm
    congr 1
    omega
  rw [fm_congr e]
  have h2 : (List.range xs.size).filterMap (fun m => xs[xs.size - 1 - m]?) = ((List.range xs.size).map fun k => xs.size - 1 - k).filterMap (xs[·]?) := by
    rw [List.filterMap_map]; rfl
  rw [h2, PySem.W.krv_range, List.filterMap_reverse, PySem.W.krv_all]
theorem getItem_tuple_rev {t sl : Addr} {items : Array Value} {vl vu vs : Value} {Q : Value → Shared → Prop} (ht : IsTup s.heap t items) (hs : s.heap.IsSliceOf sl vl vu vs) (pl : IsPart vl none) (pu : IsPart vu none) (ps : IsPart vs (some (-1)))
    (h : Q (.ref s.heap.objs.size) { s with heap := s.heap.push { cls := .type "tuple", data := .seq items.toList.reverse.toArray } })
    (hsz : items.size ≤ sizeLine) : wpAny (model prog w) A (getItem (.ref t) (.ref sl)) Q E s := by
  have htake : sizeOk (.seq items.toList.reverse.toArray) := by
    show items.toList.reverse.toArray.size ≤ sizeLine
    rw [List.size_toArray, List.length_reverse, Array.length_toList]
    exact hsz
  obtain ⟨os, hos, hcs, hds⟩ := id hs
  have hTs : s.TypeIs (.ref sl) "slice" := ⟨os, hos, hcs⟩
  unfold getItem
  try with_reducible refine wpAny_holding ?_
  first | refine wpAny_bind (wpAny_pure ?_) | skip
  refine wpAny_bind (wpAny_sequenceKey ht.typeIs (by decide) ?_)
  refine wpAny_bind (wpAny_callSpecial?_slot (name := Str.ofString "__getitem__") ht.typeIs PyProof.Rows.slot_tuple_getitem
    (wpAny_call_entry PyProof.Rows.slot_tuple_getitem ht.typeIs entry_tuple_getitem ?_ (args_tuple_getitem _ _)))
  show wpAny _ _ (Builtin.Tuple.tupleItemsOf (.ref t) >>= _) _ _ s
  refine wpAny_bind (PyProof.Rows.tupleItemsOf_ ht ?_)
  refine wpAny_bind (wpAny_typeOf hTs ?_)
  rw [if_pos (by decide)]
  refine wpAny_bind (sliceApplied_rev hs pl pu ps ?_)
  have hno : ¬ ((((items.size : Int) - 1) == 0 && (-1 : Int) == 1 && items.size == items.size) = true) := by
    intro q
    rw [Bool.and_eq_true, Bool.and_eq_true] at q
    exact absurd q.1.2 (by decide)
  show wpAny _ _ (if ((((items.size : Int) - 1) == 0 && (-1 : Int) == 1 && items.size == items.size) = true) then _ else _) _ _ s
  rw [if_neg hno, pick_rev]
  first
    | exact wpAny_bind (m := Builtin.Tuple.tupleExact _) (wpAny_newObj_type (wpAny_pure ⟨_, rfl, wpAny_pure h⟩) htake)
    | exact wpAny_bind (m := Builtin.Tuple.tupleExact _) (wpAny_newObj_type (wpAny_bind (wpAny_pure (wpAny_pure ⟨_, rfl, wpAny_pure h⟩))) htake)
    | exact wpAny_bind (wpAny_bind (m := Builtin.Tuple.tupleExact _) (wpAny_newObj_type (wpAny_pure (wpAny_pure ⟨_, rfl, wpAny_pure h⟩)) htake))
    | exact wpAny_bind (wpAny_bind (m := Builtin.Tuple.tupleExact _) (wpAny_newObj_type (wpAny_pure ⟨_, rfl, wpAny_pure h⟩) htake))
end
/-- xs[::-1], a list or a tuple -/
def tRevA (K : PySem.W.Frag) (te : TE) : TE := fun σ H Q => te σ H fun x H1 => (∃ a xs, x = .ref a ∧ SqL K H1 a xs ∧ ∀ p, H1 p = none → Q (.ref p) (upd H1 p (.lst xs.reverse))) ∨ ∃ a xs, x = .ref a ∧ SqT K H1 a xs ∧ ∀ p, H1 p = none → Q (.ref p) (upd H1 p (.tup xs.reverse))
theorem pe_revA {X : Cx} {e : Expr} {te : TE} {k : Nat} {p1 p2 p3 pos : Pos} (he : PE X e te) : PE X (.Subscript e (.Slice none none (some (.UnaryOp .USub (.Constant (.int 1) k p1) p2)) p3) pos) (tRevA X.K te) := by
  refine ⟨fun pins s σ H Q I h => ?_⟩
  refine Subscript_ (thn (he.run pins s σ H _ I h) fun v s1 ⟨x, H1, I1, r1, q1⟩ => ?_)
  have hst : PO X (some (.UnaryOp .USub (.Constant (.int 1) k p1) p2)) (tPart (tUn (rU fun i => .int (-i)) (tC (.int 1)))) := po_some (pe_un un_neg pe_int)
  refine wpAny_Slice (thn (po_none.run pins s1 σ H1 (fun o H2 => o = none ∧ H2 = H1) I1 ⟨rfl, rfl⟩) fun vl s2 ⟨l, H2, I2, pl, el, e2⟩ => ?_)
  subst el e2
  refine thn (po_none.run pins s2 σ H2 (fun o H3 => o = none ∧ H3 = H2) I2 ⟨rfl, rfl⟩) fun vu s3 ⟨u, H3, I3, pu, eu, e3⟩ => ?_
  subst eu e3
  refine thn (hst.run pins s3 σ H3 (fun o H4 => o = some (-1) ∧ H4 = H3) I3 ⟨1, rfl, -1, rfl, rfl, rfl⟩) fun vs s4 ⟨o, H4, I4, ps, eo, e4⟩ => ?_
  subst eo e4
  have I5 : Inv X pins σ H4 { s4 with heap := s4.heap.push { cls := .type "slice", data := .fields #[vl, vu, vs] } } := I4.kept (t' := s4.toks) fun b ob q => Heap.get?_push_of_some _ q
  rcases q1 with ⟨a, xs, ex, hx, q⟩ | ⟨a, xs, ex, hx, q⟩
  · subst ex
    cases r1
    obtain ⟨its, r, ht, hz⟩ := I5.list hx
    show wpAny (model X.prog X.w) X.A (subscriptTail e (.Slice none none (some (.UnaryOp .USub (.Constant (.int 1) k p1) p2)) p3) (.ref a) (.ref s4.heap.objs.size)) (EP X pins σ Q) X.xe { s4 with heap := s4.heap.push { cls := .type "slice", data := .fields #[vl, vu, vs] } }
    refine tail_any (ops := [.ref a, .ref s4.heap.objs.size]) ht.isList.typeIs (PySem.slot_list_getitem.lookup) ?_ (by with_unfolding_all rfl)
    refine wpAny_getItem_list_slice ht.isList (Heap.IsSliceOf.new _ vl vu vs) pl pu ps (by decide) ?_ (by rw [List.size_toArray]; have := r.length; omega)
    rw [PySem.W.krv_pick]
    refine ⟨.ref _, _, I5.laid (t' := s4.toks) (o := .lst xs.reverse) (fun b ob q => Heap.get?_push_of_some _ q) (Nat.le_refl _) ?_, rfl, q _ (I5.hok.fresh (Nat.le_refl _))⟩
    exact ⟨by rw [List.length_reverse]; exact hz, _, 0, r.reverse, Heap.get?_push_size _ rfl⟩
  · subst ex
    cases r1
    obtain ⟨its, r, ht, hz⟩ := I5.tuple hx
    show wpAny (model X.prog X.w) X.A (subscriptTail e (.Slice none none (some (.UnaryOp .USub (.Constant (.int 1) k p1) p2)) p3) (.ref a) (.ref s4.heap.objs.size)) (EP X pins σ Q) X.xe { s4 with heap := s4.heap.push { cls := .type "slice", data := .fields #[vl, vu, vs] } }
    refine tail_any (ops := [.ref a, .ref s4.heap.objs.size]) ht.typeIs (PyProof.Rows.slot_tuple_getitem.lookup) ?_ (by with_unfolding_all rfl)
    refine getItem_tuple_rev ht (Heap.IsSliceOf.new _ vl vu vs) pl pu ps ?_ (by rw [List.size_toArray]; have := r.length; omega)
    refine ⟨.ref _, _, I5.laid (t' := s4.toks) (o := .tup xs.reverse) (fun b ob q => Heap.get?_push_of_some _ q) (Nat.le_refl _) ?_, rfl, q _ (I5.hok.fresh (Nat.le_refl _))⟩
    exact ⟨by rw [List.length_reverse]; exact hz, _, r.reverse, IsTup.new _ _⟩
end RY
namespace Rf
open PySem PySem.Spec PyProof.Rows L2 Evl
theorem ents_find {K : Frag} : ∀ {es : List DictEntry} {kvs : List (PyData × PyData)}, Ents K es kvs → ∀ k : Str, (∀ d, dget k kvs = some d → ∃ e v, es.find? (·.key.isStr k) = some e ∧ RelV v e.val ∧ ∀ H, Rp K H v d) ∧ es.any (·.refKey) = false ∧ (dget k kvs = none → es.find? (·.key.isStr k) = none)
  | [], [], _, k => ⟨(fun _ h => by cases h), rfl, fun _ => rfl⟩
  | [], _ :: _, h, _ => by simp [Ents] at h
  | e :: es, [], h, _ => by simp [Ents] at h
  | e :: es, (x, d) :: r, h, k => by
    cases x with
    | str a =>
      obtain ⟨⟨t, h1⟩, ⟨v, h2, h3⟩, h4⟩ := h
      obtain ⟨i2, i3, i4⟩ := ents_find h4 k
      have hk : e.key.isStr k = decide (a = k) := by
        rw [h1]
        show (a == k) = _
        by_cases z : a = k
        · simp [z]
        · rw [decide_eq_false z]; exact beq_eq_false_iff_ne.mpr z
      have hr : e.refKey = false := by
        unfold DictEntry.refKey
        rw [h1]
      by_cases z : a = k
      · have hk' : e.key.isStr k = true := by rw [hk]; exact decide_eq_true z
        refine ⟨fun d' hd => ?_, by simp [hr, i3], fun hd => by simp [dget, z] at hd⟩
        simp only [dget, z, if_true] at hd
        cases hd
        exact ⟨e, v, by simp [List.find?_cons, hk'], h2, h3⟩
      · have hk' : e.key.isStr k = false := by rw [hk]; exact decide_eq_false z
        refine ⟨fun d' hd => ?_, by simp [hr, i3], fun hd => ?_⟩
        · simp only [dget, if_neg z] at hd
          obtain ⟨e', v', q1, q2, q3⟩ := i2 d' hd
          exact ⟨e', v', by simp [List.find?_cons, hk', q1], q2, q3⟩
        · simp only [dget, if_neg z] at hd
          simp [List.find?_cons, hk', i4 hd]
    | _ => simp [Ents] at h
/-- a constant dict: a key that is there -/
theorem gdct_get {K : Frag} {w : World} {v : V} {kvs : List (PyData × PyData)} (g : GOk K w v (.dict kvs)) {k : Str} {d : PyData} (hd : dget k kvs = some d) : ∃ p r, v = .ref p ∧ KDct K w p k r ∧ ∀ H, Rp K H r d := by
  obtain ⟨p, es, n, rfl, h1, h2, h3, h4⟩ := g
  obtain ⟨e, r, q1, q2, q3⟩ := (ents_find h4 k).1 d hd
  refine ⟨p, r, rfl, ⟨es, n, e.val, h1, h2, ?_, q2⟩, q3⟩
  unfold PySem.W.nsIn
  rw [h1]
  dsimp only
  rw [q1]
def KIn (K : Frag) (w : World) (p : Addr) (k : Str) (b : Bool) : Prop :=
  ∃ es n o, K.lookup p = some ⟨.type "dict", none, .dict es n, #[]⟩ ∧ PySem.W.KeysLit w.params es.toList ∧ (p == sysModules) = false ∧ PySem.W.nsIn K p k = some o ∧ o.isSome = b
theorem gdct_in {K : Frag} {w : World} {v : V} {kvs : List (PyData × PyData)} (g : GOk K w v (.dict kvs)) (k : Str) : ∃ p, v = .ref p ∧ KIn K w p k (dget k kvs).isSome := by
  obtain ⟨p, es, n, rfl, h1, h2, h3, h4⟩ := g
  obtain ⟨q1, q2, q3⟩ := ents_find h4 k
  cases hd : dget k kvs with
  | some d =>
    obtain ⟨e, r, z1, _⟩ := q1 d hd
    refine ⟨p, rfl, es, n, some e.val, h1, h2, h3, ?_, rfl⟩
    unfold PySem.W.nsIn
    rw [h1]
    dsimp only
    rw [z1]
  | none =>
    refine ⟨p, rfl, es, n, none, h1, h2, h3, ?_, rfl⟩
    unfold PySem.W.nsIn
    rw [h1]
    dsimp only
    rw [q3 hd]
    dsimp only
    rw [q2]
    rfl
def rInK (K : Frag) (w : World) : R2 := fun x y H Q => ∃ p z b, x = .str z ∧ y = .ref p ∧ KIn K w p z b ∧ Q (.bl b) H
theorem op_inK {X : Cx} : OpR X (compareOp .In) (rInK X.K X.w) := by
  intro pins s σ H x y v u Q I rx ry h
  obtain ⟨p, z, b, rfl, rfl, ⟨es, n, o, h1, h2, h3, h4, h5⟩, q⟩ := h
  obtain ⟨t, rfl⟩ := (show ∃ t, v = Value.str z t from rx)
  obtain rfl : u = Value.ref p := ry
  have hm := PySem.W.mapOf_K (prog := X.prog) (w := X.w) I.kIn h1 h2
  refine wpAny_in_of (strKind_is X.prog X.w z t) h3 hm ?_
  rw [PySem.W.find_K h1 h4, h5]
  exact ⟨.bl b, H, I.tok _, rfl, q⟩
section
variable {P : Prg} {G : Gls} {T : Tab} {n : Nat} {N : List Str} {sc : Scope} {top : Bool} {X : Cx}
variable (o : XOk P G T n N sc top X)
theorem s_rev {x : E} {a : Expr} {k : Nat} {p1 p2 p3 pos : Pos} (he : PE X a (tX X.K T G x)) : PE X (.Subscript a (.Slice none none (some (.UnaryOp .USub (.Constant (.int 1) k p1) p2)) p3) pos) (tX X.K T G (.rev x)) :=
  (RY.pe_revA he).mono fun σ H Q ⟨F, ρ, fp, z, ρ', s, hd, k⟩ => by
    simp only [den] at hd
    obtain ⟨⟨x1, ρ1⟩, h1, hd⟩ := Res.bind_inv hd
    obtain ⟨d1, h2, hd⟩ := Res.bind_inv hd
    dsimp only at hd
    split at hd
    · cases hd
      refine ⟨F, ρ, fp, x1, _, s, h1, fun v H1 F1 fp1 P1 s1 t1 hd1 sub => ?_⟩
      obtain ⟨a, ys, rfl, e2, e3⟩ := (hd1.ow.opd h2).lst_inv s1.le
      exact .inl ⟨a, ys, rfl, e2.sq, fun q hq => fin k s1 t1 (Rs.newL s1.le hq e3.reverse)⟩
    · cases hd
      refine ⟨F, ρ, fp, x1, _, s, h1, fun v H1 F1 fp1 P1 s1 t1 hd1 sub => ?_⟩
      obtain ⟨a, ys, rfl, e2, e3⟩ := (hd1.ow.opd h2).tup_inv s1.le
      exact .inr ⟨a, ys, rfl, e2, fun q hq => fin k s1 t1 (Rs.newT s1.le hq e3.reverse)⟩
    · cases hd
include o in
theorem s_ixM {x y : E} {a b : Expr} {pos : Pos} (ha : PE X a (tX X.K T G x)) (hb : PE X b (tX X.K T G y)) (hpl : NoSl b) : PE X (.Subscript a b pos) (tX X.K T G (.ixM x y)) :=
  (pe_dget (dunits o) ha hb hpl).mono fun σ H Q ⟨F, ρ, fp, z, ρ', s, hd, k⟩ => by
    simp only [den] at hd
    obtain ⟨⟨x1, ρ1⟩, h1, hd⟩ := Res.bind_inv hd
    obtain ⟨⟨x2, ρ2⟩, h2, hd⟩ := Res.bind_inv hd
    dsimp only at hd
    split at hd
    · rename_i kvs kk hdx
      split at hd
      · rename_i u hx
        cases hd
        exact two s h1 h2 fun v w H2 F2 fp2 P1 P2 s2 t2 hd1 hd2 _ _ _ => by
          have ho := hd1.ow
          cases ho with
          | @M p kv _ las _ hp1 g1 g2 g3 g4 g5 =>
            obtain ⟨u', h3, h4⟩ := g2.getD hx
            refine ⟨p, u', rfl, ?_, fin0 k s2 t2 rfl h4⟩
            rw [hd2.ow.dat.str_inv, ← h3]
            exact DGet.k (k := .inr kk) g1
      · cases hd
    · cases hd
theorem den_ixG {x : Str} {y : E} {ρ ρ' : Ro} {z : PV} (hd : den T G (.ixG x y) ρ = .ok (z, ρ')) : ∃ kvs kk d, G x = some (.dict kvs) ∧ den T G y ρ = .ok (.d (.str kk), ρ') ∧ dget kk kvs = some d ∧ z = .d d := by
  simp only [den] at hd
  obtain ⟨⟨x1, ρ1⟩, h1, h2⟩ := Res.bind_inv hd
  cases hG : G x with
  | none => rw [hG] at h2; cases h2
  | some d =>
    rw [hG] at h2
    cases d with
    | dict kvs =>
      cases x1 with
      | d y =>
        cases y with
        | str kk =>
          dsimp only at h2
          cases hk : dget kk kvs with
          | none => rw [hk] at h2; cases h2
          | some d => rw [hk] at h2; cases h2; exact ⟨kvs, kk, d, rfl, h1, hk, rfl⟩
        | _ => cases h2
      | _ => cases h2
    | _ => cases h2
theorem den_inG {x : Str} {y : E} {ρ ρ' : Ro} {z : PV} (hd : den T G (.inG x y) ρ = .ok (z, ρ')) : ∃ kvs kk, G x = some (.dict kvs) ∧ den T G y ρ = .ok (.d (.str kk), ρ') ∧ z = .d (.bool (dget kk kvs).isSome) := by
  simp only [den] at hd
  obtain ⟨⟨x1, ρ1⟩, h1, h2⟩ := Res.bind_inv hd
  cases hG : G x with
  | none => rw [hG] at h2; cases h2
  | some d =>
    rw [hG] at h2
    cases d with
    | dict kvs =>
      cases x1 with
      | d y =>
        cases y with
        | str kk => cases h2; exact ⟨kvs, kk, rfl, h1, rfl⟩
        | _ => cases h2
      | _ => cases h2
    | _ => cases h2
include o in
theorem s_callL {f g : Nat} {d d' : Fn} {b as : E} {x y : Str} {px py pl ps pos : Pos} {r : Expr} {es : List Expr} (hf : P[f]? = some d) (hg' : P[g]? = some d') (hb : PE X r (tX X.K T G b)) (hs : PlainIx r) (ha : PA X es (tA X.K T G as)) (hst : es.all noStar = true)
    (hx : x = d.name) (hgx : glo sc x = true) (hy : y = d'.name) (hgy : glo sc y = true) (nd : ((ios as).filterMap id).Nodup) (hp : isPos 0 (ios as) d.io = true) (hp' : isPos 0 (ios as) d'.io = true) (hl : alen as = d.np) (hl' : alen as = d'.np) (hne : es ≠ []) :
    PE X (.Call (.Subscript (.List [.Name x px, .Name y py] pl) r ps) es [] pos) (tX X.K T G (.callL f g b as)) := by
  obtain ⟨x1, x2, _⟩ := glo_ok o hgx
  obtain ⟨y1, y2, _⟩ := glo_ok o hgy
  obtain ⟨a1, fd1, m1, m2, m3, m4⟩ := (o.fns f d hf).ok
  obtain ⟨a2, fd2, n1, n2, n3, n4⟩ := (o.fns g d' hg').ok
  subst hx
  subst hy
  have pel : PE X (.List [.Name d.name px, .Name d'.name py] pl) (tLst (tCons (tC (.ref a1)) (tCons (tC (.ref a2)) tNil))) :=
    pe_lst (pa_cons (pe_glob x1 m1 rfl x2) (pa_cons (pe_glob y1 n1 rfl y2) pa_nil))
  cases es with
  | nil => exact absurd rfl hne
  | cons e es =>
    rw [List.all_cons, Bool.and_eq_true] at hst
    refine ⟨fun pins s σ H Q I ⟨F, ρ, fp, z, ρ', st, hd, k⟩ => ?_⟩
    simp only [den] at hd
    obtain ⟨⟨w, ρ1⟩, h1, hd⟩ := Res.bind_inv hd
    refine Call_ (thn ((pe_ix ix_list pel hb hs).run pins s σ H (fun v H2 => ∃ F2 fp2, St X.K F2 H2 σ ρ1 fp2 ∧ Xt F H fp F2 H2 fp2 ∧ ((w = .d (.int 0) ∧ v = .ref a1) ∨ (w = .d (.int 1) ∧ v = .ref a2))) I ?_) fun u s1 ⟨v, H1, I1, r1, F2, fp2, st2, xt2, q⟩ => ?_)
    · refine ⟨by show 2 ≤ sizeLine; decide, fun p hp => ?_⟩
      have n0 : Nw F H F (upd H p (.lst [.ref a1, .ref a2])) := ⟨st.le.trans (Ex.new hp), Ex.refl _, Ex.new hp, fun _ _ q => .inl q⟩
      have s0 := n0.st st
      refine ⟨F, ρ, fp, w, ρ1, s0, h1, fun v H1 F1 fp1 P1 s1 t1 hd1 sub => ?_⟩
      have hpl : H1 p = some (.lst [.ref a1, .ref a2]) := t1.fr p _ upd_same fun i hi => (st.kn i p hi).ne hp
      have key : ∀ i : Int, w = .d (.int i) → (i = 0 ∨ i = 1) → ∃ pp xs ii vv, (V.ref p : V) = .ref pp ∧ v = .int ii ∧ SqL X.K H1 pp xs ∧ atI xs ii = some vv ∧ ∃ F2 fp2, St X.K F2 H1 σ ρ1 fp2 ∧ Xt F H fp F2 H1 fp2 ∧ ((w = .d (.int 0) ∧ vv = .ref a1) ∨ (w = .d (.int 1) ∧ vv = .ref a2)) := fun i e hi => by
        subst e
        rcases hi with rfl | rfl
        · exact ⟨p, [.ref a1, .ref a2], 0, .ref a1, rfl, hd1.ow.dat.int_inv, SqL.of hpl, rfl, F1, fp1, s1, n0.xt.trans t1, .inl ⟨rfl, rfl⟩⟩
        · exact ⟨p, [.ref a1, .ref a2], 1, .ref a2, rfl, hd1.ow.dat.int_inv, SqL.of hpl, rfl, F1, fp1, s1, n0.xt.trans t1, .inr ⟨rfl, rfl⟩⟩
      cases w with
      | d w =>
        cases w with
        | int i =>
          dsimp only at hd
          by_cases h0 : i = 0
          · exact key i rfl (.inl h0)
          · rw [if_neg h0] at hd
            by_cases hi1 : i = 1
            · exact key i rfl (.inr hi1)
            · rw [if_neg hi1] at hd
              cases hd
        | _ => cases hd
      | _ => cases hd
    · rcases q with ⟨rfl, rfl⟩ | ⟨rfl, rfl⟩
      · obtain rfl : u = Value.ref a1 := r1
        have hd' : den T G (.call f as) ρ1 = .ok (z, ρ') := by simp only [den]; exact hd
        have hc := le_call (X := X) nd hp hl σ H1 Q ⟨F2, ρ1, fp2, z, ρ', st2, hd', fun v H' F' fp' P' s' t' hh sub => k v H' F' fp' P' s' (xt2.trans t') hh (xt2.subP sub)⟩
        refine PySem.W.callWith_K (h₀ := X.base) I1.ok.mod.kin m2 (thn (ha.run pos pins s1 σ H1 _ I1 hc) fun us s2 ⟨vs, H2, I2, r, q⟩ => ⟨I2.kIn, ?_⟩) (star_ok hst.1) (plain_tail hst.2)
        exact run_fn (E := E0) m4 o.room m3 .nil pass0 I2 r q
      · obtain rfl : u = Value.ref a2 := r1
        have hd' : den T G (.call g as) ρ1 = .ok (z, ρ') := by simp only [den]; exact hd
        have hc := le_call (X := X) nd hp' hl' σ H1 Q ⟨F2, ρ1, fp2, z, ρ', st2, hd', fun v H' F' fp' P' s' t' hh sub => k v H' F' fp' P' s' (xt2.trans t') hh (xt2.subP sub)⟩
        refine PySem.W.callWith_K (h₀ := X.base) I1.ok.mod.kin n2 (thn (ha.run pos pins s1 σ H1 _ I1 hc) fun us s2 ⟨vs, H2, I2, r, q⟩ => ⟨I2.kIn, ?_⟩) (star_ok hst.1) (plain_tail hst.2)
        exact run_fn (E := E0) n4 o.room n3 .nil pass0 I2 r q
include o in
theorem s_ixG {x : Str} {y : E} {a : Expr} {p pos : Pos} (he : PE X a (tX X.K T G y)) (hg : glo sc x = true) (hp : PlainIx a) : PE X (.Subscript (.Name x p) a pos) (tX X.K T G (.ixG x y)) := by
  obtain ⟨g1, g2, g3⟩ := glo_ok o hg
  cases hG : G x with
  | none =>
    refine ⟨fun pins s σ H Q I ⟨F, ρ, fp, z, ρ', s', hd, k⟩ => ?_⟩
    obtain ⟨_, _, _, e, _⟩ := den_ixG hd
    rw [hG] at e
    cases e
  | some d =>
    obtain ⟨u, v, m1, m2, m3⟩ := o.gls x d hG
    refine (pe_ix ix_kdict (pe_glob g1 m1 m2 g2) he hp).mono fun σ H Q ⟨F, ρ, fp, z, ρ', s, hd, k⟩ => ?_
    obtain ⟨kvs, kk, d', e, h1, hk, rfl⟩ := den_ixG hd
    rw [hG] at e
    cases e
    obtain ⟨q, r, rfl, q1, q2⟩ := gdct_get m3 hk
    refine ⟨F, ρ, fp, _, _, s, h1, fun v H1 F1 fp1 P1 s1 t1 hd1 sub => ?_⟩
    exact ⟨q, kk, r, rfl, hd1.ow.dat.str_inv, q1, fin0 k s1 t1 rfl (q2 F1)⟩
include o in
theorem s_inG {x : Str} {y : E} {a : Expr} {p pos : Pos} (he : PE X a (tX X.K T G y)) (hg : glo sc x = true) : PE X (.Compare a [.In] [.Name x p] pos) (tX X.K T G (.inG x y)) := by
  obtain ⟨g1, g2, g3⟩ := glo_ok o hg
  cases hG : G x with
  | none =>
    refine ⟨fun pins s σ H Q I ⟨F, ρ, fp, z, ρ', s', hd, k⟩ => ?_⟩
    obtain ⟨_, _, e, _⟩ := den_inG hd
    rw [hG] at e
    cases e
  | some d =>
    obtain ⟨u, v, m1, m2, m3⟩ := o.gls x d hG
    refine (pe_cmpR op_inK he (pe_glob g1 m1 m2 g2) rfl).mono fun σ H Q ⟨F, ρ, fp, z, ρ', s, hd, k⟩ => ?_
    obtain ⟨kvs, kk, e, h1, rfl⟩ := den_inG hd
    rw [hG] at e
    cases e
    obtain ⟨q, rfl, q1⟩ := gdct_in m3 kk
    refine ⟨F, ρ, fp, _, _, s, h1, fun v H1 F1 fp1 P1 s1 t1 hd1 sub => ?_⟩
    exact ⟨q, kk, _, hd1.ow.dat.str_inv, rfl, q1, fin0 k s1 t1 rfl (.bl _)⟩
include o in
theorem t_inG {x : Str} {y : E} {a : Expr} {p pos : Pos} (he : PE X a (tX X.K T G y)) (hg : glo sc x = true) : PT X (.Compare a [.In] [.Name x p] pos) (tT X.K T G (.inG x y)) := by
  obtain ⟨g1, g2, g3⟩ := glo_ok o hg
  cases hG : G x with
  | none =>
    refine ⟨fun pins s σ H Q I ⟨F, ρ, fp, z, ρ', b, s', hd, _, k⟩ => ?_⟩
    obtain ⟨_, _, e, _⟩ := den_inG hd
    rw [hG] at e
    cases e
  | some d =>
    obtain ⟨u, v, m1, m2, m3⟩ := o.gls x d hG
    refine (pt_cmpR op_inK he (pe_glob g1 m1 m2 g2) rfl).mono fun σ H Q ⟨F, ρ, fp, z, ρ', c, s, hd, hc, k⟩ => ?_
    obtain ⟨kvs, kk, e, h1, rfl⟩ := den_inG hd
    cases hc
    rw [hG] at e
    cases e
    obtain ⟨q, rfl, q1⟩ := gdct_in m3 kk
    refine ⟨F, ρ, fp, _, _, s, h1, fun v H1 F1 fp1 P1 s1 t1 hd1 sub => ?_⟩
    exact ⟨q, kk, _, hd1.ow.dat.str_inv, rfl, q1, ⟨_, rfl, k _ _ _ s1 t1⟩⟩
end
end Rf
set_option maxRecDepth 100000
set_option maxHeartbeats 8000000
/-! Rf, part L: every term that passes the look has its reading. -/
namespace Rf
open PySem PySem.Spec PyProof.Rows L2 Evl
section
variable {P : Prg} {G : Gls} {T : Tab} {n : Nat} {N : List Str}
theorem le_bwT {K : Frag} {e : E} : ∀ σ H Q, tT K T G (.bw e) σ H Q → tT K T G e σ H Q := fun σ H Q ⟨F, ρ, fp, x, ρ', b, s, hd, hb, k⟩ => by
  simp only [den] at hd
  obtain ⟨⟨y, ρ1⟩, h1, h2⟩ := Res.bind_inv hd
  obtain ⟨_, h3, h4⟩ := Res.bind_inv h2
  cases h4
  refine ⟨H, frzRo ρ, _, y, ρ1, b, lent_st s, h1, hb, fun H' F' fp' s1 t1 => ?_⟩
  have hh' : Ex H H' := fun a u q => t1.fr a u q fun _ z => z
  have nw : Nw F H F H' := ⟨s.le.trans hh', Ex.refl F, hh', fun _ _ q => .inl q⟩
  exact k H' F fp (nw.st s) nw.xt
theorem le_frzT {K : Frag} {e : E} : ∀ σ H Q, tT K T G (.frz e) σ H Q → tT K T G e σ H Q := fun σ H Q ⟨F, ρ, fp, x, ρ', b, s, hd, hb, k⟩ => by
  simp only [den] at hd
  obtain ⟨⟨y, ρ1⟩, h1, h2⟩ := Res.bind_inv hd
  obtain ⟨z, h3, h4⟩ := Res.bind_inv h2
  cases h4
  cases y with
  | d y => cases h3; exact ⟨F, ρ, fp, _, _, b, s, h1, hb, k⟩
  | L xs => cases h3; cases hb
  | M => cases h3
def isBO : E → Bool
  | .and _ _ => true
  | .or _ _ => true
  | _ => false
/-- the pairs of a dict display -/
def trs (K : Frag) (T : Tab) (G : Gls) : List Str → E → List (TE × TE)
  | k :: ks, .cons a r => (tC (.str k), tX K T G a) :: trs K T G ks r
  | _, _ => []
structure Snd (P : Prg) (G : Gls) (T : Tab) (n : Nat) (N : List Str) (e : E) : Prop where
  pe : ∀ sc top X, XOk P G T n N sc top X → ∀ a, chkE P N e sc top a = true → PE X a (tX X.K T G e)
  pt : ∀ sc top X, XOk P G T n N sc top X → ∀ a, chkE P N e sc top a = true → PT X a (tT X.K T G e)
  pw : isBO e = true → ∀ sc top X, XOk P G T n N sc top X → ∀ a, chkE P N e sc top a = true → PW X a (tT X.K T G e)
  pa : ∀ sc top X, XOk P G T n N sc top X → ∀ es, chkA P N e sc top es = true → PA X es (tA X.K T G e) ∧ es.all noStar = true ∧ es.length = alen e ∧ (es = [] → e = .nil)
  pi : ∀ sc top X, XOk P G T n N sc top X → ∀ tg a, chkI P N e sc top tg a = true → PI X tg a (tI X.K T G e) ∧ ∀ x, foldedSetIterable a X.env x = pure x
  pp : ∀ sc top X, XOk P G T n N sc top X → ∀ pos ks keys es, keysAre ks keys = true → chkA P N e sc top es = true → noIo e = true → ks.length = es.length → PPs X pos keys es (trs X.K T G ks e)
/-- a term that is no argument list, no iterator, no and, or; whose text is no and, or, not, comparison -/
theorem Snd.of {e : E} (hb : isBO e = false) (ha : ∀ sc top es, chkA P N e sc top es = false) (hi : ∀ sc top tg a, chkI P N e sc top tg a = false)
    (pe : ∀ sc top X, XOk P G T n N sc top X → ∀ a, chkE P N e sc top a = true → PE X a (tX X.K T G e)) (pt : ∀ sc top X, XOk P G T n N sc top X → ∀ a, chkE P N e sc top a = true → PT X a (tT X.K T G e)) : Snd P G T n N e :=
  ⟨pe, pt, fun h => by (rw [hb] at h; cases h), fun sc top X _ es h => (by rw [ha] at h; cases h), fun sc top X _ tg a h => (by rw [hi] at h; cases h), fun sc top X _ _ _ _ _ _ h => (by rw [ha] at h; cases h)⟩
/-- .. a value as a test -/
theorem Snd.ofV {e : E} (hb : isBO e = false) (ha : ∀ sc top es, chkA P N e sc top es = false) (hi : ∀ sc top tg a, chkI P N e sc top tg a = false)
    (pe : ∀ sc top X, XOk P G T n N sc top X → ∀ a, chkE P N e sc top a = true → PE X a (tX X.K T G e) ∧ ∀ whole, isTrue a X.env whole = (do let v ← whole; standAt a.pos; holding [v] (truthy v))) : Snd P G T n N e :=
  Snd.of hb ha hi (fun sc top X o a h => (pe sc top X o a h).1) fun sc top X o a h => t_val (pe sc top X o a h).1 (pe sc top X o a h).2
theorem Snd.ofI {e : E} (hb : isBO e = false) (he : ∀ sc top a, chkE P N e sc top a = false) (ha : ∀ sc top es, chkA P N e sc top es = false)
    (pi : ∀ sc top X, XOk P G T n N sc top X → ∀ tg a, chkI P N e sc top tg a = true → PI X tg a (tI X.K T G e) ∧ ∀ x, foldedSetIterable a X.env x = pure x) : Snd P G T n N e :=
  ⟨fun sc top X _ a h => (by rw [he] at h; cases h), fun sc top X _ a h => (by rw [he] at h; cases h), fun h => (by rw [hb] at h; cases h), fun sc top X _ es h => (by rw [ha] at h; cases h), pi, fun sc top X _ _ _ _ _ _ h => (by rw [ha] at h; cases h)⟩
theorem Snd.no {e : E} (hb : isBO e = false) (he : ∀ sc top a, chkE P N e sc top a = false) (ha : ∀ sc top es, chkA P N e sc top es = false) (hi : ∀ sc top tg a, chkI P N e sc top tg a = false) : Snd P G T n N e :=
  Snd.of hb ha hi (fun sc top X _ a h => (by rw [he] at h; cases h)) fun sc top X _ a h => (by rw [he] at h; cases h)
theorem name_true {i : Nat} {sc : Scope} {a : Expr} {env : Env} (h : chkN N i sc a = true) : ∀ whole, isTrue a env whole = (do let v ← whole; standAt a.pos; holding [v] (truthy v)) := by
  unfold chkN at h
  split at h
  · intro _; rfl
  · cases h
theorem and3 {a b c : Bool} (h : (a && b && c) = true) : a = true ∧ b = true ∧ c = true := by
  rw [Bool.and_eq_true, Bool.and_eq_true] at h
  exact ⟨h.1.1, h.1.2, h.2⟩
theorem and2 {a b : Bool} (h : (a && b) = true) : a = true ∧ b = true := by
  rw [Bool.and_eq_true] at h
  exact h
theorem blk_ok {sc scope : Scope} {top : Bool} {X : Cx} (o : XOk P G T n N sc top X) (hk : scope.kind = .function) (s : Shared) (H : Hp) (C : Addr) (cl : List (Str × Addr)) (fp : List Addr) :
    XOk P G T n N (relS scope sc) false (X.blk s H scope (compEnvC scope cl C X.env) fp) where
  hN := o.hN
  hsc := by
    show (compEnvC scope cl C X.env).scope = _
    have : (compEnvC scope cl C X.env).scope = relS scope X.env.scope := rfl
    rw [this, o.hsc]
  nd := o.nd
  kind := hk
  calm := o.calm
  room := o.room
  fns := fun f d h => ⟨(o.fns f d h).ok⟩
  blt := o.blt
  gls := o.gls
  fn := fun h => by cases h
theorem foldedSet_ok {a : Expr} {env : Env} (h : (match a with | .Set .. => false | _ => true) = true) : ∀ x, foldedSetIterable a env x = pure x := by
  intro x
  cases a <;> first | rfl | (cases h)

def tIfT (t ta tb : TT) : TT := fun σ H Q => t σ H fun c H1 => if c = true then ta σ H1 Q else tb σ H1 Q
theorem pt_ifE {X : Cx} {c a b : Expr} {tA ta tb : TT} {pos : Pos} (hc : PT X c tA) (ha : PT X a ta) (hb : PT X b tb) : PT X (.IfExp c a b pos) (tIfT tA ta tb) := by
  refine ⟨fun pins s σ H Q I h => ?_⟩
  refine PyProof.Rows.isTrue_IfExp (thn (hc.run pins s σ H _ I h) fun d s1 ⟨H1, I1, q1⟩ => ?_)
  cases d with
  | true => exact ha.run pins s1 σ H1 Q I1 q1
  | false => exact hb.run pins s1 σ H1 Q I1 q1
theorem t_ife {X : Cx} {c x y : E} {t a b : Expr} {pos : Pos} (hc : PT X t (tT X.K T G c)) (ha : PT X a (tT X.K T G x)) (hb : PT X b (tT X.K T G y)) : PT X (.IfExp t a b pos) (tT X.K T G (.ife c x y)) :=
  (pt_ifE hc ha hb).mono fun σ H Q ⟨F, ρ, fp, z, ρ', b', s, hd, hb', k⟩ => by
    simp only [den] at hd
    obtain ⟨⟨x1, ρ1⟩, h1, hd⟩ := Res.bind_inv hd
    obtain ⟨b, h2, hd⟩ := Res.bind_inv hd
    refine ⟨F, ρ, fp, _, _, b, s, h1, h2, fun H' F' fp' s1 t1 => ?_⟩
    cases b with
    | true => exact ⟨F', _, fp', _, _, _, s1, hd, hb', fun H2 F2 fp2 s2 t2 => k H2 F2 fp2 s2 (t1.trans t2)⟩
    | false => exact ⟨F', _, fp', _, _, _, s1, hd, hb', fun H2 F2 fp2 s2 t2 => k H2 F2 fp2 s2 (t1.trans t2)⟩
theorem keysAre_len : ∀ {ks : List Str} {keys : List (Option Expr)}, keysAre ks keys = true → keys.length = ks.length ∧ keys.all (·.isSome) = true
  | [], [], _ => ⟨rfl, rfl⟩
  | [], _ :: _, h => by simp [keysAre] at h
  | _ :: _, [], h => by simp [keysAre] at h
  | k :: ks, e :: es, h => by
    unfold keysAre at h
    split at h
    · rename_i q _; cases q
    · rename_i q1 q2
      cases q1
      cases q2
      obtain ⟨h1, h2⟩ := and2 h
      obtain ⟨q1, q2⟩ := keysAre_len h2
      exact ⟨by simp [q1], by simp [q2]⟩
    · cases h
theorem dens_len : ∀ (as : E) {ρ ρ1 : Ro} {xs : List PV}, noIo as = true → dens T G as ρ = .ok (xs, ρ1) → xs.length = alen as := fun as => by
  induction as with
  | nil => intro ρ ρ1 xs _ h; simp only [dens] at h; cases h; rfl
  | cons a r _ ih =>
    intro ρ ρ1 xs hio h
    have hn : ∀ i, a ≠ .io i := fun i q => by rw [q] at hio; cases hio
    have hio' : noIo r = true := by cases a <;> first | exact hio | exact absurd rfl (hn _)
    have hd' : (do
      let (x, ρ1) ← den T G a ρ
      let (ys, ρ2) ← dens T G r ρ1
      Res.ok (x :: ys, ρ2) : Res (List PV × Ro)) = Res.ok (xs, ρ1) := by
      rw [← h]
      cases a <;> first | rfl | exact absurd rfl (hn _)
    obtain ⟨⟨x, ρ2⟩, h1, h2⟩ := Res.bind_inv hd'
    obtain ⟨⟨ys, ρ3⟩, h3, h4⟩ := Res.bind_inv h2
    cases h4
    simp [alen, ih hio' h3]
  | _ => intros; rename_i h; cases h
/-- the values of a display, one behind another -/
theorem le_pairs {K : Frag} : ∀ (ks : List Str) (as : E) {F H : Hp} {ρ ρ1 : Ro} {fp : Nat → As} {σ : L2.St} {xs : List PV} {R : List (V × V) → Hp → Prop}, noIo as = true → ks.length = alen as → St K F H σ ρ fp → dens T G as ρ = .ok (xs, ρ1) →
    (∀ vs H' F' fp' P, St K F' H' σ ρ1 fp' → Xt F H fp F' H' fp' → HdA K F' H' σ ρ1 fp' as vs xs P → (∀ a, P a → (∃ j, fp j a) ∨ H a = none) → R ((ks.map V.str).zip vs) H') → tPairs (trs K T G ks as) σ H R
  | [], .nil, F, H, ρ, ρ1, fp, σ, xs, R, _, _, s, hd, k => by
    simp only [dens] at hd
    cases hd
    exact k [] H F fp none0 s (Xt.refl s.le) ⟨.nil, fun _ z => z.elim, fun _ z => z.elim, fun _ z => z.elim⟩ fun _ z => z.elim
  | _ :: _, .nil, F, H, ρ, ρ1, fp, σ, xs, R, _, h, _, _, _ => by simp [alen] at h
  | [], .cons _ _, F, H, ρ, ρ1, fp, σ, xs, R, _, h, _, _, _ => by simp [alen] at h
  | k0 :: ks, .cons a r, F, H, ρ, ρ1, fp, σ, xs, R, hio, hl, s, hd, k => by
    have hn : ∀ i, a ≠ .io i := fun i q => by rw [q] at hio; cases hio
    have hio' : noIo r = true := by cases a <;> first | exact hio | exact absurd rfl (hn _)
    have hd' : (do
      let (x, ρ1) ← den T G a ρ
      let (ys, ρ2) ← dens T G r ρ1
      Res.ok (x :: ys, ρ2) : Res (List PV × Ro)) = Res.ok (xs, ρ1) := by
      rw [← hd]
      cases a <;> first | rfl | exact absurd rfl (hn _)
    obtain ⟨⟨x, ρ2⟩, h1, h2⟩ := Res.bind_inv hd'
    obtain ⟨⟨ys, ρ3⟩, h3, h4⟩ := Res.bind_inv h2
    cases h4
    refine ⟨F, ρ, fp, x, ρ2, s, h1, fun v H1 F1 fp1 P1 s1 t1 hd1 sub1 => ?_⟩
    refine le_pairs ks r hio' (by simpa [alen] using hl) s1 h3 fun vs H2 F2 fp2 P2 s2 t2 hd2 sub2 => ?_
    have hd1' := hd1.keep t2
    have dj : ∀ c, P1 c → ¬ P2 c := fun c h3 h4 => by
      rcases sub2 c h4 with ⟨j, hj⟩ | h5
      · exact hd1.dj c h3 j hj
      · exact (hd1.kn c h3).ne h5
    refine k (v :: vs) H2 F2 fp2 (fun c => P1 c ∨ P2 c) s2 (t1.trans t2) ⟨.cons hn hd1'.ow hd2.ow dj, fun c h => h.elim (hd1'.nf c) (hd2.nf c), fun c h => h.elim (hd1'.kn c) (hd2.kn c), fun c h => h.elim (hd1'.dj c) (hd2.dj c)⟩ fun c h => ?_
    rcases h with h | h
    · exact sub1 c h
    · exact t1.subP sub2 c h
  | _, .nm _, _, _, _, _, _, _, _, _, _, _, _, hd, _ => by cases hd
  | _, .mv _, _, _, _, _, _, _, _, _, _, _, _, hd, _ => by cases hd
  | _, .fz _, _, _, _, _, _, _, _, _, _, _, _, hd, _ => by cases hd
  | _, .frz _, _, _, _, _, _, _, _, _, _, _, _, hd, _ => by cases hd
  | _, .bw _, _, _, _, _, _, _, _, _, _, _, _, hd, _ => by cases hd
  | _, .gl _, _, _, _, _, _, _, _, _, _, _, _, hd, _ => by cases hd
  | _, .int _, _, _, _, _, _, _, _, _, _, _, _, hd, _ => by cases hd
  | _, .bl _, _, _, _, _, _, _, _, _, _, _, _, hd, _ => by cases hd
  | _, .non, _, _, _, _, _, _, _, _, _, _, _, hd, _ => by cases hd
  | _, .str _, _, _, _, _, _, _, _, _, _, _, _, hd, _ => by cases hd
  | _, .bin _ _ _, _, _, _, _, _, _, _, _, _, _, _, hd, _ => by cases hd
  | _, .neg _, _, _, _, _, _, _, _, _, _, _, _, hd, _ => by cases hd
  | _, .not _, _, _, _, _, _, _, _, _, _, _, _, hd, _ => by cases hd
  | _, .and _ _, _, _, _, _, _, _, _, _, _, _, _, hd, _ => by cases hd
  | _, .or _ _, _, _, _, _, _, _, _, _, _, _, _, hd, _ => by cases hd
  | _, .cmp _ _ _, _, _, _, _, _, _, _, _, _, _, _, hd, _ => by cases hd
  | _, .chain _ _ _ _ _, _, _, _, _, _, _, _, _, _, _, _, hd, _ => by cases hd
  | _, .isN _, _, _, _, _, _, _, _, _, _, _, _, hd, _ => by cases hd
  | _, .notN _, _, _, _, _, _, _, _, _, _, _, _, hd, _ => by cases hd
  | _, .ife _ _ _, _, _, _, _, _, _, _, _, _, _, _, hd, _ => by cases hd
  | _, .io _, _, _, _, _, _, _, _, _, _, _, _, hd, _ => by cases hd
  | _, .tup _, _, _, _, _, _, _, _, _, _, _, _, hd, _ => by cases hd
  | _, .lst _, _, _, _, _, _, _, _, _, _, _, _, hd, _ => by cases hd
  | _, .dct _ _, _, _, _, _, _, _, _, _, _, _, _, hd, _ => by cases hd
  | _, .ix _ _, _, _, _, _, _, _, _, _, _, _, _, hd, _ => by cases hd
  | _, .sl _ _ _, _, _, _, _, _, _, _, _, _, _, _, hd, _ => by cases hd
  | _, .ixP _ _, _, _, _, _, _, _, _, _, _, _, _, hd, _ => by cases hd
  | _, .lenP _, _, _, _, _, _, _, _, _, _, _, _, hd, _ => by cases hd
  | _, .bi _ _, _, _, _, _, _, _, _, _, _, _, _, hd, _ => by cases hd
  | _, .isi _ _, _, _, _, _, _, _, _, _, _, _, _, hd, _ => by cases hd
  | _, .call _ _, _, _, _, _, _, _, _, _, _, _, _, hd, _ => by cases hd
  | _, .mt _ _ _, _, _, _, _, _, _, _, _, _, _, _, hd, _ => by cases hd
  | _, .mtv _ _ _, _, _, _, _, _, _, _, _, _, _, _, hd, _ => by cases hd
  | _, .lc _ _ _ _ _, _, _, _, _, _, _, _, _, _, _, _, hd, _ => by cases hd
  | _, .lrev _, _, _, _, _, _, _, _, _, _, _, _, hd, _ => by cases hd
  | _, .rev _, _, _, _, _, _, _, _, _, _, _, _, hd, _ => by cases hd
  | _, .ixG _ _, _, _, _, _, _, _, _, _, _, _, _, hd, _ => by cases hd
  | _, .ixM _ _, _, _, _, _, _, _, _, _, _, _, _, hd, _ => by cases hd
  | _, .callL _ _ _ _, _, _, _, _, _, _, _, _, _, _, _, hd, _ => by cases hd
  | _, .inG _ _, _, _, _, _, _, _, _, _, _, _, _, hd, _ => by cases hd
  | _, .itL _, _, _, _, _, _, _, _, _, _, _, _, hd, _ => by cases hd
  | _, .itR1 _, _, _, _, _, _, _, _, _, _, _, _, hd, _ => by cases hd
  | _, .itR2 _ _, _, _, _, _, _, _, _, _, _, _, _, hd, _ => by cases hd
  | _, .itEn _, _, _, _, _, _, _, _, _, _, _, _, hd, _ => by cases hd
  | _, .itZip _ _, _, _, _, _, _, _, _, _, _, _, _, hd, _ => by cases hd
  | _, .itZipN _ _, _, _, _, _, _, _, _, _, _, _, _, hd, _ => by cases hd
theorem cvs_of {K : Frag} {F H : Hp} {σ : L2.St} {ρ : Ro} : ∀ {as : E} {vs : List V} {xs : List PV} {P : As} {ks : List Str} {ys : List CV}, Args K F H σ ρ as vs xs P → noIo as = true → ks.length = alen as → xs.mapM PV.cv = some ys →
    ∃ las, Cvs K F H ((ks.zip vs).map fun kv => ((.inr kv.1 : Key), kv.2)) (ks.zip ys) las ∧ (∀ a ∈ las, P a)
  | _, _, _, _, [], ys, .nil, _, _, e => by
    simp at e
    subst e
    exact ⟨[], .nil, fun _ h => by cases h⟩
  | _, _, _, _, _ :: _, _, .nil, _, h, _ => by simp [alen] at h
  | _, _, _, _, _, _, .io _ _ _, h, _, _ => by cases h
  | _, _, _, _, [], _, .cons _ _ _ _, _, h, _ => by simp [alen] at h
  | _, _, _, _, k :: ks, ys, .cons (P := P1) (P' := P2) h1 h2 r h3, hio, hl, e => by
    have hio' := noIo_tail h1 hio
    rw [List.mapM_cons] at e
    obtain ⟨c, e1, e⟩ := Option.bind_eq_some_iff.mp e
    obtain ⟨cs, e2, e⟩ := Option.bind_eq_some_iff.mp e
    cases e
    obtain ⟨las, q1, q2⟩ := cvs_of (ks := ks) r hio' (by simpa [alen] using hl) e2
    cases h2 with
    | d hd =>
      cases e1
      exact ⟨las, .d hd q1, fun a ha => .inr (q2 a ha)⟩
    | @L p _ _ _ hp g1 g2 =>
      cases e1
      refine ⟨p :: las, .L g1 g2 (fun z => h3 p hp (q2 p z)) q1, fun a ha => ?_⟩
      rcases List.mem_cons.mp ha with z | z
      · rw [z]; exact .inl hp
      · exact .inr (q2 a z)
    | M => cases e1
theorem merge_new : ∀ (kvs acc : List (Key × V)), (acc.map (·.1) ++ kvs.map (·.1)).Nodup → mergeK acc kvs = acc ++ kvs
  | [], acc, _ => by simp [mergeK]
  | kv :: kvs, acc, nd => by
    have hno : (acc.any fun x => decide (x.1 = kv.1)) = false := by
      rw [List.any_eq_false]
      intro x hx
      simp only [decide_eq_true_eq]
      intro e
      rw [List.nodup_append] at nd
      exact nd.2.2 x.1 (List.mem_map.mpr ⟨x, hx, rfl⟩) kv.1 (by simp) e
    have h := merge_new kvs (acc ++ [kv]) (by simpa using nd)
    show mergeK (putK acc kv.1 kv.2) kvs = _
    have : putK acc kv.1 kv.2 = acc ++ [kv] := by
      unfold putK
      rw [if_neg (by rw [hno]; simp)]
    rw [this, h]
    simp
theorem s_dct {X : Cx} {pos : Pos} {ks : List Str} {keys : List (Option Expr)} {values : List Expr} {as : E} (h : PPs X pos keys values (trs X.K T G ks as)) (hk : keysAre ks keys = true) (hl : ks.length = values.length) (h15 : ks.length ≤ 15) (h0 : ks ≠ []) (nd : ks.Nodup) (hio : noIo as = true) :
    PE X (.Dict keys values pos) (tX X.K T G (.dct ks as)) := by
  obtain ⟨l1, l2⟩ := keysAre_len hk
  refine (pe_disp h l2 (by rw [l1, hl]) (fun e => h0 (List.eq_nil_of_length_eq_zero (by rw [← l1, e]; rfl))) (by rw [l1]; exact h15)).mono fun σ H Q ⟨F, ρ, fp, z, ρ', s, hd, k⟩ => ?_
  simp only [den] at hd
  obtain ⟨⟨xs, ρ1⟩, h1, hd⟩ := Res.bind_inv hd
  obtain ⟨_, h2, hd⟩ := Res.bind_inv hd
  dsimp only at h2 hd
  obtain ⟨hlen, _⟩ := of_decide_eq_true (Res.guard_inv h2)
  split at hd
  · rename_i ys hys
    cases hd
    intro p hp
    have hf := fresh_back s.le hp
    have n0 : Nw F H F (upd H p (.dK [])) := ⟨s.le.trans (Ex.new hp), Ex.refl _, Ex.new hp, fun _ _ q => .inl q⟩
    have s0 := n0.st s
    have hal : ks.length = alen as := by
      rw [hlen]
      exact dens_len as hio h1
    refine le_pairs ks as hio hal s0 h1 fun vs H1 F1 fp1 P1 s1 t1 hd1 sub1 => ?_
    -- the dict in hand
    have hD : Hd X.K F (upd H p (.dK [])) fp (.ref p) (.M []) (fun a => a = p) :=
      ⟨.M rfl upd_same .nil (by simp) (fun _ h => by cases h) (by simp), fun a ha => by subst ha; exact hf, fun a ha => by subst ha; exact ⟨_, upd_same, rfl⟩, fun a ha i hi => by subst ha; exact (s.kn i a hi).ne hp⟩
    have hD1 := hD.keep t1
    cases hD1.ow with
    | @M _ kv0 _ las0 _ hp1 g1 g2 g3 g4 g5 =>
      cases g2
      have hvl := hd1.ow.len.1
      refine ⟨g1, (ks.zip vs).map (fun kv => ((.inr kv.1 : Key), kv.2)), ?_, by simp; omega, ?_⟩
      · rw [List.map_map, List.zip_map_left]
        rfl
      rw [merge_new _ [] (by
        simp only [List.map_nil, List.nil_append, List.map_map]
        have e1 : (ks.zip vs).map ((fun x => x.1) ∘ fun kv : Str × V => ((.inr kv.1 : Key), kv.2)) = ks.map (fun k => (.inr k : Key)) := by
          rw [show ((fun x : Key × V => x.1) ∘ fun kv : Str × V => ((.inr kv.1 : Key), kv.2)) = (fun k : Str => (.inr k : Key)) ∘ Prod.fst from rfl, ← List.map_map, List.map_fst_zip (by omega)]
        rw [e1]
        exact List.Pairwise.map _ (fun a b h e => h (by cases e; rfl)) nd)]
      rw [List.nil_append]
      obtain ⟨las, c1, c2⟩ := cvs_of hd1.ow hio hal hys
      have hpP : ¬ P1 p := fun z => by
        rcases sub1 p z with ⟨j, hj⟩ | hj
        · exact (s.kn j p hj).ne hp
        · rw [upd_same] at hj; cases hj
      have hF1 := hD1.nf p rfl
      have hfp1 : ∀ i, ¬ fp1 i p := fun i => hD1.dj p rfl i
      have keepH : ∀ a, a ≠ p → ∀ u, H1 a = some u → upd H1 p (.dK ((ks.zip vs).map fun kv => ((.inr kv.1 : Key), kv.2))) a = some u := fun a ha u hu => by rw [upd_ne ha]; exact hu
      have st2 : St X.K F1 (upd H1 p (.dK ((ks.zip vs).map fun kv => ((.inr kv.1 : Key), kv.2)))) σ ρ' fp1 :=
        ⟨fun a u ha => by rw [upd_ne (ne_of_none ha hF1)]; exact s1.le a u ha, s1.len, fun i x hx => by
          obtain ⟨v, e1, e2⟩ := s1.ow i x hx
          exact ⟨v, e1, e2.up (Ex.refl _) (fun a ha u hu => keepH a (fun e => hfp1 i (e ▸ ha)) u hu) fun _ z => z⟩, s1.dj, fun i a ha => by
          obtain ⟨u, e1, e2⟩ := s1.kn i a ha
          exact ⟨u, keepH a (fun e => hfp1 i (e ▸ ha)) u e1, e2⟩, s1.nf⟩
      have xt2 : Xt F H fp F1 (upd H1 p (.dK ((ks.zip vs).map fun kv => ((.inr kv.1 : Key), kv.2)))) fp1 :=
        (n0.xt.trans t1).mutH hp hF1
      refine k (.ref p) _ F1 fp1 (fun a => a = p ∨ P1 a) st2 xt2 ⟨.M (.inl rfl) upd_same (c1.up (Ex.refl _) fun a ha u hu => keepH a (fun e => hpP (e ▸ c2 a ha)) u hu) (fun z => hpP (c2 p z)) (fun a ha => .inr (c2 a ha)) ?_, fun a ha => ?_, fun a ha => ?_, fun a ha i hi => ?_⟩ fun a ha => ?_
      · rw [List.map_fst_zip]
        · exact nd
        · have := mapM_len hys
          omega
      · rcases ha with rfl | ha
        · exact hF1
        · exact hd1.nf a ha
      · rcases ha with rfl | ha
        · exact ⟨_, upd_same, rfl⟩
        · obtain ⟨u, e1, e2⟩ := hd1.kn a ha
          exact ⟨u, keepH a (fun e => hpP (e ▸ ha)) u e1, e2⟩
      · rcases ha with rfl | ha
        · exact hfp1 i hi
        · exact hd1.dj a ha i hi
      · rcases ha with rfl | ha
        · exact .inr hp
        · rcases sub1 a ha with z | z
          · exact .inl z
          · refine .inr ?_
            by_cases e : a = p
            · rw [e]; exact hp
            · rw [upd_ne e] at z; exact z
  · cases hd
where
  mapM_len : ∀ {xs : List PV} {ys : List CV}, xs.mapM PV.cv = some ys → ys.length = xs.length
    | [], ys, h => by simp at h; subst h; rfl
    | x :: xs, ys, e => by
      rw [List.mapM_cons] at e
      obtain ⟨c, e1, e⟩ := Option.bind_eq_some_iff.mp e
      obtain ⟨cs, e2, e⟩ := Option.bind_eq_some_iff.mp e
      cases e
      simp [mapM_len e2]
theorem snd : ∀ e : E, Snd P G T n N e
  | .nm i => Snd.ofV rfl (fun _ _ _ => rfl) (fun _ _ _ _ => rfl) fun sc top X o a h => ⟨s_nm o h, name_true h⟩
  | .mv i => Snd.ofV rfl (fun _ _ _ => rfl) (fun _ _ _ _ => rfl) fun sc top X o a h => ⟨s_mv o h, name_true h⟩
  | .fz i => Snd.ofV rfl (fun _ _ _ => rfl) (fun _ _ _ _ => rfl) fun sc top X o a h => ⟨s_fz o h, name_true h⟩
  | .frz e => Snd.of rfl (fun _ _ _ => rfl) (fun _ _ _ _ => rfl) (fun sc top X o a h => s_frz o ((snd e).pe sc top X o a h)) fun sc top X o a h => ((snd e).pt sc top X o a h).mono le_frzT
  | .bw e => Snd.of rfl (fun _ _ _ => rfl) (fun _ _ _ _ => rfl) (fun sc top X o a h => ((snd e).pe sc top X o a h).mono le_bw) fun sc top X o a h => ((snd e).pt sc top X o a h).mono le_bwT
  | .gl x => Snd.ofV rfl (fun _ _ _ => rfl) (fun _ _ _ _ => rfl) fun sc top X o a h => by
    simp only [chkE] at h
    split at h
    · obtain ⟨h1, h2⟩ := and2 h
      have e : _ = _ := eq_of_beq h1
      subst e
      obtain ⟨g1, g2, g3⟩ := glo_ok o h2
      refine ⟨?_, fun _ => rfl⟩
      cases hg : G x with
      | none =>
        refine ⟨fun pins s σ H Q I ⟨F, ρ, fp, z, ρ', s', hd, k⟩ => ?_⟩
        simp only [den, hg] at hd
        cases hd
      | some d =>
        obtain ⟨u, v, m1, m2, m3⟩ := o.gls x d hg
        refine (pe_glob g1 m1 m2 g2).mono fun σ H Q ⟨F, ρ, fp, z, ρ', s', hd, k⟩ => ?_
        simp only [den, hg] at hd
        cases d <;> first | (cases hd; exact fin0 k s' (Xt.refl s'.le) rfl (m3 F)) | cases hd
    · cases h
  | .int i => Snd.ofV rfl (fun _ _ _ => rfl) (fun _ _ _ _ => rfl) fun sc top X o a h => by
    simp only [chkE] at h
    split at h
    · have e := eq_of_beq h
      subst e
      exact ⟨pe_int.mono fun σ H Q ⟨F, ρ, fp, z, ρ', s', hd, k⟩ => by (simp only [den] at hd; cases hd; exact fin0 k s' (Xt.refl s'.le) rfl (.int _)), fun _ => rfl⟩
    · cases h
  | .bl b => Snd.ofV rfl (fun _ _ _ => rfl) (fun _ _ _ _ => rfl) fun sc top X o a h => by
    simp only [chkE] at h
    split at h
    · have e := eq_of_beq h
      subst e
      exact ⟨pe_bl.mono fun σ H Q ⟨F, ρ, fp, z, ρ', s', hd, k⟩ => by (simp only [den] at hd; cases hd; exact fin0 k s' (Xt.refl s'.le) rfl (.bl _)), fun _ => rfl⟩
    · cases h
  | .non => Snd.ofV rfl (fun _ _ _ => rfl) (fun _ _ _ _ => rfl) fun sc top X o a h => by
    simp only [chkE] at h
    split at h
    · exact ⟨pe_non.mono fun σ H Q ⟨F, ρ, fp, z, ρ', s', hd, k⟩ => by (simp only [den] at hd; cases hd; exact fin0 k s' (Xt.refl s'.le) rfl .non), fun _ => rfl⟩
    · cases h
  | .str x => Snd.ofV rfl (fun _ _ _ => rfl) (fun _ _ _ _ => rfl) fun sc top X o a h => by
    simp only [chkE] at h
    split at h
    · have e := eq_of_beq h
      subst e
      exact ⟨pe_str.mono fun σ H Q ⟨F, ρ, fp, z, ρ', s', hd, k⟩ => by (simp only [den] at hd; cases hd; exact fin0 k s' (Xt.refl s'.le) rfl (.str _)), fun _ => rfl⟩
    · cases h
  | .bin op x y => Snd.ofV rfl (fun _ _ _ => rfl) (fun _ _ _ _ => rfl) fun sc top X o a h => by
    simp only [chkE] at h
    split at h
    · obtain ⟨h1, h2, h3⟩ := and3 h
      have e := of_decide_eq_true h1
      subst e
      exact ⟨s_bin ((snd x).pe sc top X o _ h2) ((snd y).pe sc top X o _ h3), fun _ => rfl⟩
    · cases h
  | .neg x => Snd.ofV rfl (fun _ _ _ => rfl) (fun _ _ _ _ => rfl) fun sc top X o a h => by
    simp only [chkE] at h
    split at h
    · exact ⟨s_neg ((snd x).pe sc top X o _ h), fun _ => rfl⟩
    · cases h
  | .not x => Snd.of rfl (fun _ _ _ => rfl) (fun _ _ _ _ => rfl) (fun sc top X o a h => by
      simp only [chkE] at h
      split at h
      · exact s_not ((snd x).pe sc top X o _ h)
      · cases h) fun sc top X o a h => by
      simp only [chkE] at h
      split at h
      · exact t_not ((snd x).pt sc top X o _ h)
      · cases h
  | .and x y => by
    have pw : ∀ sc top X, XOk P G T n N sc top X → ∀ a, chkE P N (.and x y) sc top a = true → PW X a (tT X.K T G (.and x y)) := fun sc top X o a h => by
      simp only [chkE] at h
      split at h
      · rename_i l m r p
        obtain ⟨h1, h2⟩ := and2 h
        refine (pw_and ((snd x).pt sc top X o _ h1) (tB' := tT X.K T G y) ?_).mono le_andT
        cases r with
        | nil => exact pw_and1 ((snd y).pt sc top X o _ h2)
        | cons q r =>
          obtain ⟨h3, h4⟩ := and2 h2
          exact (snd y).pw (by cases y <;> first | rfl | cases h3) sc top X o _ h4
      · cases h
    refine ⟨fun sc top X o a h => ?_, fun sc top X o a h => (pw sc top X o a h).pt, fun _ => pw, fun _ _ _ _ _ h => (by cases h), fun _ _ _ _ _ _ h => (by cases h), fun _ _ _ _ _ _ _ _ _ h => (by cases h)⟩
    simp only [chkE] at h
    split at h
    · rename_i l m r p
      obtain ⟨h1, h2⟩ := and2 h
      refine (pe_and ((snd x).pe sc top X o _ h1) (tb := tX X.K T G y) ?_).mono le_and
      cases r with
      | nil => exact pe_one ((snd y).pe sc top X o _ h2)
      | cons q r => exact (snd y).pe sc top X o _ (and2 h2).2
    · cases h
  | .or x y => by
    have pw : ∀ sc top X, XOk P G T n N sc top X → ∀ a, chkE P N (.or x y) sc top a = true → PW X a (tT X.K T G (.or x y)) := fun sc top X o a h => by
      simp only [chkE] at h
      split at h
      · rename_i l m r p
        obtain ⟨h1, h2⟩ := and2 h
        refine (pw_or ((snd x).pt sc top X o _ h1) (tB' := tT X.K T G y) ?_).mono le_orT
        cases r with
        | nil => exact pw_or1 ((snd y).pt sc top X o _ h2)
        | cons q r =>
          obtain ⟨h3, h4⟩ := and2 h2
          exact (snd y).pw (by cases y <;> first | rfl | cases h3) sc top X o _ h4
      · cases h
    refine ⟨fun sc top X o a h => ?_, fun sc top X o a h => (pw sc top X o a h).pt, fun _ => pw, fun _ _ _ _ _ h => (by cases h), fun _ _ _ _ _ _ h => (by cases h), fun _ _ _ _ _ _ _ _ _ h => (by cases h)⟩
    simp only [chkE] at h
    split at h
    · rename_i l m r p
      obtain ⟨h1, h2⟩ := and2 h
      refine (pe_or ((snd x).pe sc top X o _ h1) (tb := tX X.K T G y) ?_).mono le_or
      cases r with
      | nil => exact pe_one ((snd y).pe sc top X o _ h2)
      | cons q r => exact (snd y).pe sc top X o _ (and2 h2).2
    · cases h
  | .cmp op x y => by
    have key : ∀ sc top X, XOk P G T n N sc top X → ∀ a, chkE P N (.cmp op x y) sc top a = true → PE X a (tX X.K T G (.cmp op x y)) ∧ PT X a (tT X.K T G (.cmp op x y)) := fun sc top X o a h => by
      simp only [chkE] at h
      split at h
      · obtain ⟨h0, h2, h3⟩ := and3 h
        obtain ⟨h0, h1⟩ := and2 h0
        have e := of_decide_eq_true h0
        subst e
        have hm := by simpa using h1
        exact ⟨s_cmp o ((snd x).pe sc top X o _ h2) ((snd y).pe sc top X o _ h3) hm, t_cmp o ((snd x).pe sc top X o _ h2) ((snd y).pe sc top X o _ h3) hm⟩
      · cases h
    exact Snd.of rfl (fun _ _ _ => rfl) (fun _ _ _ _ => rfl) (fun sc top X o a h => (key sc top X o a h).1) fun sc top X o a h => (key sc top X o a h).2
  | .chain op op' x y z => by
    have key : ∀ sc top X, XOk P G T n N sc top X → ∀ a, chkE P N (.chain op op' x y z) sc top a = true → PE X a (tX X.K T G (.chain op op' x y z)) ∧ PT X a (tT X.K T G (.chain op op' x y z)) := fun sc top X o a h => by
      simp only [chkE] at h
      split at h
      · rename_i l o1 o2 m r p
        obtain ⟨h0, h4, h5⟩ := and3 h
        obtain ⟨h0, h2, h3⟩ := and3 h0
        obtain ⟨h0, h1⟩ := and2 h0
        have e := of_decide_eq_true h0
        subst e
        have e := of_decide_eq_true h1
        subst e
        have hm : lastMarks [o1, o2] [m, r] = false := by
          show behindInMarks o2 r = false
          simpa using h2
        have pe := pe_chain (op_cmp (units_ok o) o1) (op_cmp (units_ok o) o2) ((snd x).pe sc top X o _ h3) ((snd y).pe sc top X o _ h4) ((snd z).pe sc top X o _ h5) hm (pos := p)
        have pt := pt_chain (op_cmp (units_ok o) o1) (op_cmp (units_ok o) o2) ((snd x).pe sc top X o _ h3) ((snd y).pe sc top X o _ h4) ((snd z).pe sc top X o _ h5) hm (pos := p)
        refine ⟨pe.mono (le_chain o), pt.mono fun σ H Q ⟨F, ρ, fp, w, ρ', b, s, hd, hb, k⟩ => ?_⟩
        refine le_chain (top := top) o σ H _ ⟨F, ρ, fp, w, ρ', s, hd, fun v H' F' fp' P' s1 t1 hh _ => ⟨b, (hh.bool hb).1, k H' F' fp' s1 t1⟩⟩
      · cases h
    exact Snd.of rfl (fun _ _ _ => rfl) (fun _ _ _ _ => rfl) (fun sc top X o a h => (key sc top X o a h).1) fun sc top X o a h => (key sc top X o a h).2
  | .isN x => by
    have key : ∀ sc top X, XOk P G T n N sc top X → ∀ a, chkE P N (.isN x) sc top a = true → PE X a (tX X.K T G (.isN x)) ∧ PT X a (tT X.K T G (.isN x)) := fun sc top X o a h => by
      simp only [chkE] at h
      split at h
      · have hx := (snd x).pe sc top X o _ h
        refine ⟨s_isN hx, (pt_cmp (pc_isN hx) rfl).mono fun σ H Q ⟨F, ρ, fp, w, ρ', b, s, hd, hb, k⟩ => ?_⟩
        simp only [den] at hd
        obtain ⟨⟨x1, ρ1⟩, h1, hd⟩ := Res.bind_inv hd
        cases hd
        cases hb
        refine ⟨F, ρ, fp, _, _, s, h1, fun v H' F' fp' P' s1 t1 hh _ => ⟨_, rfl, ?_⟩⟩
        cases hh.ow with
        | d hq => cases hq <;> exact k H' F' fp' s1 t1
        | L => exact k H' F' fp' s1 t1
        | M => exact k H' F' fp' s1 t1
      · cases h
    exact Snd.of rfl (fun _ _ _ => rfl) (fun _ _ _ _ => rfl) (fun sc top X o a h => (key sc top X o a h).1) fun sc top X o a h => (key sc top X o a h).2
  | .notN x => by
    have key : ∀ sc top X, XOk P G T n N sc top X → ∀ a, chkE P N (.notN x) sc top a = true → PE X a (tX X.K T G (.notN x)) ∧ PT X a (tT X.K T G (.notN x)) := fun sc top X o a h => by
      simp only [chkE] at h
      split at h
      · have hx := (snd x).pe sc top X o _ h
        refine ⟨s_notN hx, (pt_cmp (pc_notN hx) rfl).mono fun σ H Q ⟨F, ρ, fp, w, ρ', b, s, hd, hb, k⟩ => ?_⟩
        simp only [den] at hd
        obtain ⟨⟨x1, ρ1⟩, h1, hd⟩ := Res.bind_inv hd
        cases hd
        cases hb
        refine ⟨F, ρ, fp, _, _, s, h1, fun v H' F' fp' P' s1 t1 hh _ => ⟨_, rfl, ?_⟩⟩
        cases hh.ow with
        | d hq => cases hq <;> exact k H' F' fp' s1 t1
        | L => exact k H' F' fp' s1 t1
        | M => exact k H' F' fp' s1 t1
      · cases h
    exact Snd.of rfl (fun _ _ _ => rfl) (fun _ _ _ _ => rfl) (fun sc top X o a h => (key sc top X o a h).1) fun sc top X o a h => (key sc top X o a h).2
  | .ife c x y => Snd.of rfl (fun _ _ _ => rfl) (fun _ _ _ _ => rfl) (fun sc top X o a h => by
      simp only [chkE] at h
      split at h
      · obtain ⟨h1, h2, h3⟩ := and3 h
        exact s_ife ((snd c).pt sc top X o _ h1) ((snd x).pe sc top X o _ h2) ((snd y).pe sc top X o _ h3)
      · cases h) fun sc top X o a h => by
      simp only [chkE] at h
      split at h
      · obtain ⟨h1, h2, h3⟩ := and3 h
        exact t_ife ((snd c).pt sc top X o _ h1) ((snd x).pt sc top X o _ h2) ((snd y).pt sc top X o _ h3)
      · cases h
  | .tup as => Snd.ofV rfl (fun _ _ _ => rfl) (fun _ _ _ _ => rfl) fun sc top X o a h => by
    simp only [chkE] at h
    split at h
    · obtain ⟨h1, h2, h3⟩ := and3 h
      exact ⟨s_tup ((snd as).pa sc top X o _ h1).1 h2 (of_decide_eq_true h3), fun _ => rfl⟩
    · cases h
  | .lst as => Snd.ofV rfl (fun _ _ _ => rfl) (fun _ _ _ _ => rfl) fun sc top X o a h => by
    simp only [chkE] at h
    split at h
    · obtain ⟨h1, h2, h3⟩ := and3 h
      exact ⟨s_lst ((snd as).pa sc top X o _ h1).1 h2 (of_decide_eq_true h3), fun _ => rfl⟩
    · cases h
  | .ix x y => Snd.ofV rfl (fun _ _ _ => rfl) (fun _ _ _ _ => rfl) fun sc top X o a h => by
    simp only [chkE] at h
    split at h
    · obtain ⟨h1, h2, h3⟩ := and3 h
      exact ⟨s_ix ((snd x).pe sc top X o _ h2) ((snd y).pe sc top X o _ h3) (slice_ok h1), fun _ => rfl⟩
    · cases h
  | .sl x lo hi => Snd.ofV rfl (fun _ _ _ => rfl) (fun _ _ _ _ => rfl) fun sc top X o a h => by
    simp only [chkE] at h
    split at h
    · rename_i l l1 h1 p2 p
      obtain ⟨g1, g2, g3⟩ := and3 h
      refine ⟨s_sl ((snd x).pe sc top X o _ g1) (po_of ?_) (po_of ?_), fun _ => rfl⟩
      · cases l1 with
        | none => exact .inl ⟨rfl, g2⟩
        | some e =>
          obtain ⟨q1, q2⟩ := and2 g2
          exact .inr ⟨e, rfl, by simpa using q2, (snd lo).pe sc top X o _ q1⟩
      · cases h1 with
        | none => exact .inl ⟨rfl, g3⟩
        | some e =>
          obtain ⟨q1, q2⟩ := and2 g3
          exact .inr ⟨e, rfl, by simpa using q2, (snd hi).pe sc top X o _ q1⟩
    · cases h
  | .ixP p y => Snd.ofV rfl (fun _ _ _ => rfl) (fun _ _ _ _ => rfl) fun sc top X o a h => by
    simp only [chkE] at h
    split at h
    · obtain ⟨h1, h2, h3⟩ := and3 h
      cases p with
      | s i => exact ⟨s_ixP o h3 ((snd y).pe sc top X o _ h2) (slice_ok h1), fun _ => rfl⟩
      | k i key => exact ⟨s_ixK o h3 ((snd y).pe sc top X o _ h2) (nosl o h1), fun _ => rfl⟩
    · cases h
  | .lenP p => Snd.ofV rfl (fun _ _ _ => rfl) (fun _ _ _ _ => rfl) fun sc top X o a h => by
    simp only [chkE] at h
    split at h
    · obtain ⟨h0, h2, h3⟩ := and3 h
      obtain ⟨h0, h1⟩ := and2 h0
      cases p with
      | s i => exact ⟨s_lenP o h3 (eq_of_beq h0) h1, fun _ => rfl⟩
      | k i key => exact ⟨s_lenK o h3 (eq_of_beq h0) h1, fun _ => rfl⟩
    · cases h
  | .bi b as => Snd.ofV rfl (fun _ _ _ => rfl) (fun _ _ _ _ => rfl) fun sc top X o a h => by
    simp only [chkE] at h
    split at h
    · obtain ⟨h0, h3, h4⟩ := and3 h
      obtain ⟨h0, h1, h2⟩ := and3 h0
      obtain ⟨p1, p2, p3, p4⟩ := (snd as).pa sc top X o _ h2
      exact ⟨s_bi o p1 p3 p2 (eq_of_beq h0) h1 h3 h4, fun _ => rfl⟩
    · cases h
  | .isi x t => Snd.ofV rfl (fun _ _ _ => rfl) (fun _ _ _ _ => rfl) fun sc top X o a h => by
    simp only [chkE] at h
    split at h
    · obtain ⟨h0, h4, h5⟩ := and3 h
      obtain ⟨h0, h2, h3⟩ := and3 h0
      obtain ⟨h0, h1⟩ := and2 h0
      exact ⟨s_isi o ((snd x).pe sc top X o _ h5) h4 (eq_of_beq h0) h1 (eq_of_beq h2) h3, fun _ => rfl⟩
    · cases h
  | .call f as => Snd.ofV rfl (fun _ _ _ => rfl) (fun _ _ _ _ => rfl) fun sc top X o a h => by
    simp only [chkE] at h
    split at h
    · split at h
      · rename_i d hf
        obtain ⟨h0, h4, h5⟩ := and3 h
        obtain ⟨h0, h2, h3⟩ := and3 h0
        obtain ⟨h0, h1⟩ := and2 h0
        obtain ⟨p1, p2, p3, p4⟩ := (snd as).pa sc top X o _ h2
        exact ⟨s_call o hf p1 p2 (eq_of_beq h0) h1 (of_decide_eq_true h4) h3 (of_decide_eq_true h5) p4, fun _ => rfl⟩
      · cases h
    · cases h
  | .mt m p as => Snd.ofV rfl (fun _ _ _ => rfl) (fun _ _ _ _ => rfl) fun sc top X o a h => by
    simp only [chkE] at h
    split at h
    · obtain ⟨k0, h5, h6⟩ := and3 h
      obtain ⟨k1, h3, h4⟩ := and3 k0
      obtain ⟨h0, h1, h2⟩ := and3 k1
      obtain ⟨p1, p2, p3, p4⟩ := (snd as).pa sc top X o _ h2
      cases p with
      | s i => exact ⟨s_mt o h1 p1 p2 (by rw [p3]; exact of_decide_eq_true h4) p4 h3 (eq_of_beq h0) h6, fun _ => rfl⟩
      | k i key =>
        have hl0 := p3.trans (of_decide_eq_true h5)
        have hes := List.eq_nil_of_length_eq_zero hl0
        obtain rfl := p4 hes
        subst hes
        exact ⟨s_mtK o h1 (eq_of_beq h0) h6, fun _ => rfl⟩
    · cases h
  | .lc g it c e vs => Snd.ofV rfl (fun _ _ _ => rfl) (fun _ _ _ _ => rfl) fun sc top X o a h => by
    simp only [chkE] at h
    split at h
    · rename_i elt tg iter ifs asy scope p
      obtain ⟨k0, h7, h8⟩ := and3 h
      obtain ⟨k1, h5, h6⟩ := and3 k0
      obtain ⟨k2, h3, h4⟩ := and3 k1
      obtain ⟨h0, h2⟩ := and2 k2
      clear h k0 k1 k2
      have e0 := of_decide_eq_true h0
      subst e0
      obtain ⟨pi1, pi2⟩ := (snd it).pi sc top X o _ _ h2
      have hown : (ownOf N vs).map (·.2) = vs := by
        unfold ownOf
        rw [List.map_map]
        exact List.map_id' vs
      have ok : BlkOk X.N X.env.scope scope (ownOf N vs) := by
        rw [o.hN, o.hsc]
        exact blkOk_by h4
      cases ifs with
      | nil =>
        have hc : c = .bl true := by
          cases c with
          | bl b => exact congrArg E.bl h7
          | _ => cases h7
        subst hc
        have q := pe_lc (pos := p) (g := tG X.K g) (te := tX X.K T G e) o.calm (by rw [o.hN]; exact o.nd) pi1 ok (fun s H C cl fp => pg_of (blk_ok o ok.kind s H C cl fp) g tg h5) (fun _ _ _ _ _ => pts_nil) (fun s H C cl fp => (snd e).pe _ _ _ (blk_ok o ok.kind s H C cl fp) _ h6) pi2
        rw [hown] at q
        refine ⟨q.mono (le_lc h3 fun σ H Q ⟨F, ρ, fp, w, ρ', b, s, hd, hb, k⟩ => ?_), fun _ => rfl⟩
        simp only [den] at hd
        cases hd
        cases hb
        exact k H F fp s (Xt.refl s.le)
      | cons t r =>
        cases r with
        | cons _ _ => cases h7
        | nil =>
          have q := pe_lc (pos := p) (g := tG X.K g) (tt := tT X.K T G c) (te := tX X.K T G e) o.calm (by rw [o.hN]; exact o.nd) pi1 ok (fun s H C cl fp => pg_of (blk_ok o ok.kind s H C cl fp) g tg h5) (fun s H C cl fp => pts_one ((snd c).pt _ _ _ (blk_ok o ok.kind s H C cl fp) _ h7)) (fun s H C cl fp => (snd e).pe _ _ _ (blk_ok o ok.kind s H C cl fp) _ h6) pi2
          rw [hown] at q
          exact ⟨q.mono (le_lc h3 fun σ H Q q => q), fun _ => rfl⟩
    · cases h
  | .nil => ⟨fun _ _ _ _ _ h => (by cases h), fun _ _ _ _ _ h => (by cases h), fun h => (by cases h), fun sc top X o es h => by
      simp only [chkA] at h
      have : es = [] := by simpa using h
      subst this
      exact ⟨pa_nil.mono le_nilA, rfl, rfl, fun _ => rfl⟩, fun _ _ _ _ _ _ h => (by cases h), fun sc top X o pos ks keys es hk h _ hl => by
      simp only [chkA] at h
      have : es = [] := by simpa using h
      subst this
      cases ks with
      | cons _ _ => simp at hl
      | nil =>
        cases keys with
        | cons _ _ => simp [keysAre] at hk
        | nil => exact pps_nil⟩
  | .cons a r => ⟨fun _ _ _ _ _ h => (by cases h), fun _ _ _ _ _ h => (by cases h), fun h => (by cases h), fun sc top X o es h => by
      cases es with
      | nil => cases h
      | cons e es =>
        unfold chkA at h
        obtain ⟨h1, h2, h3⟩ := and3 h
        obtain ⟨p1, p2, p3, p4⟩ := (snd r).pa sc top X o _ h3
        refine ⟨?_, by rw [List.all_cons, h1, p2] <;> rfl, by simp [alen, p3], fun q => by cases q⟩
        by_cases hi : ∃ i, a = .io i
        · obtain ⟨i, rfl⟩ := hi
          exact (pa_cons (nm_ok o h2).1 p1 (star_ok h1)).mono le_ioA
        · have hn : ∀ i, a ≠ .io i := fun i q => hi ⟨i, q⟩
          have h2' : chkE P N a sc top e = true := by
            cases a <;> first | exact h2 | exact absurd rfl (hn _)
          exact (pa_cons ((snd a).pe sc top X o _ h2') p1 (star_ok h1)).mono (le_consA hn), fun _ _ _ _ _ _ h => (by cases h), fun sc top X o pos ks keys es hk h hio hl => by
      cases es with
      | nil => cases h
      | cons e es =>
        cases ks with
        | nil => simp at hl
        | cons k ks =>
          cases keys with
          | nil => simp [keysAre] at hk
          | cons k0 keys =>
            unfold keysAre at hk
            split at hk
            · rename_i q _; cases q
            · rename_i q1 q2
              cases q1
              cases q2
              obtain ⟨g1, g2⟩ := and2 hk
              have e0 := eq_of_beq g1
              subst e0
              unfold chkA at h
              obtain ⟨h1, h2, h3⟩ := and3 h
              have hn : ∀ i, a ≠ .io i := fun i q => by rw [q] at hio; cases hio
              have h2' : chkE P N a sc top e = true := by
                cases a <;> first | exact h2 | exact absurd rfl (hn _)
              have hio' : noIo r = true := by
                cases a <;> first | exact hio | exact absurd rfl (hn _)
              exact pps_cons pe_str ((snd a).pe sc top X o _ h2') ((snd r).pp sc top X o pos _ _ es g2 h3 hio' (by simpa using hl))
            · cases hk⟩
  | .itL e => Snd.ofI rfl (fun _ _ _ => rfl) (fun _ _ _ => rfl) fun sc top X o tg a h => by
      simp only [chkI] at h
      obtain ⟨h1, h2⟩ := and2 h
      exact ⟨i_itL ((snd e).pe sc top X o _ h1), foldedSet_ok h2⟩
  | .itR1 x => Snd.ofI rfl (fun _ _ _ => rfl) (fun _ _ _ => rfl) fun sc top X o tg a h => by
      simp only [chkI] at h
      split at h
      · obtain ⟨h0, h2, h3⟩ := and3 h
        obtain ⟨h0, h1⟩ := and2 h0
        exact ⟨i_itR1 o ((snd x).pe sc top X o _ h3) h2 (eq_of_beq h0) h1, fun _ => rfl⟩
      · cases h
  | .itR2 x y => Snd.ofI rfl (fun _ _ _ => rfl) (fun _ _ _ => rfl) fun sc top X o tg a h => by
      simp only [chkI] at h
      split at h
      · obtain ⟨h0, h4, h5⟩ := and3 h
        obtain ⟨h0, h2, h3⟩ := and3 h0
        obtain ⟨h0, h1⟩ := and2 h0
        exact ⟨i_itR2 o ((snd x).pe sc top X o _ h3) h2 ((snd y).pe sc top X o _ h5) h4 (eq_of_beq h0) h1, fun _ => rfl⟩
      · cases h
  | .itEn x => Snd.ofI rfl (fun _ _ _ => rfl) (fun _ _ _ => rfl) fun sc top X o tg a h => by
      simp only [chkI] at h
      split at h
      · obtain ⟨h0, h2, h3⟩ := and3 h
        obtain ⟨h0, h1⟩ := and2 h0
        exact ⟨i_itEn o ((snd x).pe sc top X o _ h3) h2 (eq_of_beq h0) h1, fun _ => rfl⟩
      · cases h
  | .itZip x y => Snd.ofI rfl (fun _ _ _ => rfl) (fun _ _ _ => rfl) fun sc top X o tg a h => by
      simp only [chkI] at h
      split at h
      · obtain ⟨h0, h4, h5⟩ := and3 h
        obtain ⟨h0, h2, h3⟩ := and3 h0
        obtain ⟨h0, h1⟩ := and2 h0
        exact ⟨i_itZip o ((snd x).pe sc top X o _ h3) h2 ((snd y).pe sc top X o _ h5) h4 (eq_of_beq h0) h1, fun _ => rfl⟩
      · cases h
  | .itZipN x y => Snd.ofI rfl (fun _ _ _ => rfl) (fun _ _ _ => rfl) fun sc top X o tg a h => by
      simp only [chkI] at h
      split at h
      · obtain ⟨h0, h4, h5⟩ := and3 h
        obtain ⟨h0, h2, h3⟩ := and3 h0
        obtain ⟨h0, h1⟩ := and2 h0
        exact ⟨i_itZipN o ((snd x).pe sc top X o _ h3) h2 ((snd y).pe sc top X o _ h5) h4 (eq_of_beq h0) h1, fun _ => rfl⟩
      · cases h
  | .io _ => Snd.no rfl (fun _ _ _ => rfl) (fun _ _ _ => rfl) (fun _ _ _ _ => rfl)
  | .dct ks as => Snd.ofV rfl (fun _ _ _ => rfl) (fun _ _ _ _ => rfl) fun sc top X o a h => by
    simp only [chkE] at h
    split at h
    · rename_i keys values pos
      obtain ⟨k0, h6, h7⟩ := and3 h
      obtain ⟨k1, h4, h5⟩ := and3 k0
      obtain ⟨k2, h2, h3⟩ := and3 k1
      have h1 := k2
      clear h k0 k1 k2
      have hl : ks.length = values.length := of_decide_eq_true h2
      have hkl := keysAre_len h1
      exact ⟨s_dct ((snd as).pp sc top X o pos ks keys values h1 h6 h7 hl) h1 hl (of_decide_eq_true h3) (by simpa using h4) (of_decide_eq_true h5) h7, fun _ => rfl⟩
    · cases h
  | .lrev e => Snd.ofV rfl (fun _ _ _ => rfl) (fun _ _ _ _ => rfl) fun sc top X o a h => by
    simp only [chkE] at h
    split at h
    · obtain ⟨k0, h5, h6⟩ := and3 h
      obtain ⟨k1, h3, h4⟩ := and3 k0
      obtain ⟨h1, h2⟩ := and2 k1
      exact ⟨s_lrev o ((snd e).pe sc top X o _ h6) h5 (eq_of_beq h1) h2 (eq_of_beq h3) h4, fun _ => rfl⟩
    · cases h
  | .rev e => Snd.ofV rfl (fun _ _ _ => rfl) (fun _ _ _ _ => rfl) fun sc top X o a h => by
    simp only [chkE] at h
    split at h
    · exact ⟨s_rev ((snd e).pe sc top X o _ h), fun _ => rfl⟩
    · cases h
  | .callL f g b as => Snd.ofV rfl (fun _ _ _ => rfl) (fun _ _ _ _ => rfl) fun sc top X o a h => by
    simp only [chkE] at h
    split at h
    · split at h
      · rename_i d d' hf hg
        obtain ⟨h, q11⟩ := and2 h
        obtain ⟨h, q9, q10⟩ := and3 h
        obtain ⟨h, q7, q8⟩ := and3 h
        obtain ⟨h, q5, q6⟩ := and3 h
        obtain ⟨h, q3, q4⟩ := and3 h
        obtain ⟨q1, q2⟩ := and2 h
        obtain ⟨q3, q3'⟩ := and2 q3
        obtain ⟨q4, q4'⟩ := and2 q4
        obtain ⟨p1, p2, p3, p4⟩ := (snd as).pa sc top X o _ q5
        exact ⟨s_callL o hf hg ((snd b).pe sc top X o _ q4') (slice_ok q4) p1 p2 (eq_of_beq q1) q2 (eq_of_beq q3) q3' (of_decide_eq_true q8) q6 q7 (of_decide_eq_true q9) (of_decide_eq_true q10) (fun z => by rw [z] at q11; cases q11), fun _ => rfl⟩
      · cases h
    · cases h
  | .ixM x y => Snd.ofV rfl (fun _ _ _ => rfl) (fun _ _ _ _ => rfl) fun sc top X o a h => by
    simp only [chkE] at h
    split at h
    · obtain ⟨h1, h2, h3⟩ := and3 h
      exact ⟨s_ixM o ((snd x).pe sc top X o _ h2) ((snd y).pe sc top X o _ h3) (nosl o h1), fun _ => rfl⟩
    · cases h
  | .ixG x e => Snd.ofV rfl (fun _ _ _ => rfl) (fun _ _ _ _ => rfl) fun sc top X o a h => by
    simp only [chkE] at h
    split at h
    · obtain ⟨k0, h3, h4⟩ := and3 h
      obtain ⟨h1, h2⟩ := and2 k0
      have e := eq_of_beq h1
      subst e
      exact ⟨s_ixG o ((snd _).pe sc top X o _ h4) h2 (slice_ok h3), fun _ => rfl⟩
    · cases h
  | .inG x y => by
    have key : ∀ sc top X, XOk P G T n N sc top X → ∀ a, chkE P N (.inG x y) sc top a = true → PE X a (tX X.K T G (.inG x y)) ∧ PT X a (tT X.K T G (.inG x y)) := fun sc top X o a h => by
      simp only [chkE] at h
      split at h
      · obtain ⟨h1, h2, h3⟩ := and3 h
        have e := eq_of_beq h1
        subst e
        exact ⟨s_inG o ((snd y).pe sc top X o _ h3) h2, t_inG o ((snd y).pe sc top X o _ h3) h2⟩
      · cases h
    exact Snd.of rfl (fun _ _ _ => rfl) (fun _ _ _ _ => rfl) (fun sc top X o a h => (key sc top X o a h).1) fun sc top X o a h => (key sc top X o a h).2
  | .mtv m ob as => Snd.ofV rfl (fun _ _ _ => rfl) (fun _ _ _ _ => rfl) fun sc top X o a h => by
    simp only [chkE] at h
    split at h
    · obtain ⟨k0, h7, h8⟩ := and3 h
      obtain ⟨k1, h5, h6⟩ := and3 k0
      obtain ⟨k2, h3, h4⟩ := and3 k1
      obtain ⟨h1, h2⟩ := and2 k2
      obtain ⟨p1, p2, p3, p4⟩ := (snd as).pa sc top X o _ h4
      exact ⟨s_mtv o h2 ((snd ob).pe sc top X o _ h3) p1 p2 (by rw [p3]; exact of_decide_eq_true h6) (fun z => by rw [z] at h7; cases h7) h5 (eq_of_beq h1) h8, fun _ => rfl⟩
    · cases h
end
end Rf
set_option maxRecDepth 100000
set_option maxHeartbeats 8000000
/-! Rf, part M: statements. -/
namespace Rf
open PySem PySem.Spec PyProof.Rows L2 Evl

/-! ### xs[lo:hi] = ys -/
def gSetSl (K : Frag) (to tl th : TE) : TG := fun v σ H Q => to σ H fun x H1 => tl σ H1 fun a H2 => th σ H2 fun c H3 => ∃ p b xs ys, ∃ i j : Int, x = .ref p ∧ v = .ref b ∧ a = .int i ∧ c = .int j ∧ H3 p = some (.lst xs) ∧ RdL K H3 b ys ∧ (p ≠ b ∨ (K.lookup b).isSome) ∧ 0 ≤ i ∧ i ≤ j ∧ j ≤ xs.length ∧
  xs.length + ys.length ≤ sizeLine ∧ Q σ (upd H3 p (.lst (xs.take i.toNat ++ ys ++ xs.drop j.toNat)))
theorem pg_setSl {X : Cx} {o l h : Expr} {p2 pos : Pos} {to tl th : TE} (ho : PE X o to) (hl : PE X l tl) (hh : PE X h th) : PG X (.Subscript o (.Slice (some l) (some h) none p2) pos) (gSetSl X.K to tl th) := by
  refine ⟨fun pins s σ H v u Q I r h' => ?_⟩
  rw [arm_assign_Subscript]
  refine wpAny_bind (wpAny_holding (thn (ho.run pins s σ H _ I h') fun ov s1 ⟨x, H1, I1, r1, q1⟩ => ?_))
  refine wpAny_bind (wpAny_holding (wpAny_Slice (thn (hl.run pins s1 σ H1 _ I1 q1) fun vl s2 ⟨a, H2, I2, ra, q2⟩ => thn (hh.run pins s2 σ H2 _ I2 q2) fun vu s3 ⟨c, H3, I3, rc, q3⟩ => ?_)))
  rw [evalPart_none]
  refine wpAny_pure ?_
  have I4 : Inv X pins σ H3 { s3 with heap := s3.heap.push { cls := .type "slice", data := .fields #[vl, vu, .none] } } := I3.kept (t' := s3.toks) fun b ob q => Heap.get?_push_of_some _ q
  obtain ⟨p, b, xs, ys, i, j, rfl, rfl, rfl, rfl, hp, hb, hne, h0, h1, h2, hz, q⟩ := q3
  cases r1
  cases r
  obtain ⟨ta, rfl⟩ := ra
  obtain ⟨tc, rfl⟩ := rc
  refine wpAny_bind (wpAny_standAt (wpAny_bind (wpAny_holding ?_)))
  obtain ⟨i', rfl⟩ := Int.eq_ofNat_of_zero_le h0
  obtain ⟨j', rfl⟩ := Int.eq_ofNat_of_zero_le (Int.le_trans h0 h1)
  simp only [Int.toNat_natCast] at q
  have hne : p ≠ b := hne.elim id fun z w => by
    obtain ⟨ob, ez⟩ := Option.isSome_iff_exists.mp z
    have nb := (I4.bs b ob (I4.ok.mod.kin b ob ez)).2
    rw [← w, hp] at nb
    cases nb
  obtain ⟨z, its, n, rr, hl', e⟩ := I4.lstM hp
  obtain ⟨z2, its2, n2, r2, hl2, e2⟩ := I4.lstR hb
  refine setItem_slice (a := i') (c := j') e e2 hne (Heap.IsSliceOf.new ..) (.int _ _) (.int _ _) (by omega) (by rw [List.size_toArray]; omega) (by rw [List.size_toArray, List.size_toArray]; omega) ?_
  refine wpAny_release ⟨σ, _, I4.lset (its' := its.take i' ++ its2 ++ its.drop j') (t' := s3.toks) hp e ?_ (Vals.append (Vals.append (rr.take _) r2) (rr.drop _)) ?_, q⟩
  · exact splice_eq its its2 i' j'
  · rw [List.length_append, List.length_append, List.length_take, List.length_drop]
    omega

/-! ### the readings -/
section
variable (K : Frag) (T : Tab) (G : Gls) (io : List Nat)
/-- what is wanted behind a statement, by its end -/
def Fin (K : Frag) (io : List Nat) (D : Ends) (F H : Hp) (σ : L2.St) (fp : Nat → As) (ρ' : Ro) : Fl → Prop
  | .nx => ∀ σ' H' F' fp', St K F' H' σ' ρ' fp' → Xt F H fp F' H' fp' → (∀ i ∈ io, σ'[i]? = σ[i]?) → D.nx σ' H'
  | .bk => ∀ σ' H' F' fp', St K F' H' σ' ρ' fp' → Xt F H fp F' H' fp' → (∀ i ∈ io, σ'[i]? = σ[i]?) → D.bk σ' H'
  | .ct => ∀ σ' H' F' fp', St K F' H' σ' ρ' fp' → Xt F H fp F' H' fp' → (∀ i ∈ io, σ'[i]? = σ[i]?) → D.ct σ' H'
  | .rt x => ∀ v σ' H' F' fp' P, St K F' H' σ' ρ' fp' → Xt F H fp F' H' fp' → (∀ i ∈ io, σ'[i]? = σ[i]?) → Hd K F' H' fp' v x P → (∀ a, P a → (∃ j, fp j a) ∨ H a = none) → D.rt v H'
def tS (s : S) : TS := fun D σ H => ∃ F ρ fp f ρ', St K F H σ ρ fp ∧ denS T G s ρ = .ok (f, ρ') ∧ Fin K io D F H σ fp ρ' f
end
theorem Fin.later {K : Frag} {io : List Nat} {D : Ends} {F H F1 H1 : Hp} {σ σ1 : L2.St} {fp fp1 : Nat → As} {ρ' : Ro} {f : Fl} (k : Fin K io D F H σ fp ρ' f) (t : Xt F H fp F1 H1 fp1) (hi : ∀ i ∈ io, σ1[i]? = σ[i]?) : Fin K io D F1 H1 σ1 fp1 ρ' f := by
  cases f with
  | nx => exact fun σ' H' F' fp' s' t' h => k σ' H' F' fp' s' (t.trans t') fun i q => (h i q).trans (hi i q)
  | bk => exact fun σ' H' F' fp' s' t' h => k σ' H' F' fp' s' (t.trans t') fun i q => (h i q).trans (hi i q)
  | ct => exact fun σ' H' F' fp' s' t' h => k σ' H' F' fp' s' (t.trans t') fun i q => (h i q).trans (hi i q)
  | rt x => exact fun v σ' H' F' fp' P s' t' h hh sub => k v σ' H' F' fp' P s' (t.trans t') (fun i q => (h i q).trans (hi i q)) hh (t.subP sub)

section
variable {P : Prg} {G : Gls} {T : Tab} {n : Nat} {N : List Str} {sc : Scope} {X : Cx} {io : List Nat} (o : XOk P G T n N sc true X)
theorem set_ne_io {σ : L2.St} {i : Nat} {x : Option V} (h : io.contains i = false) : ∀ j ∈ io, (σ.set i x)[j]? = σ[j]? := fun j hj => by
  rw [List.getElem?_set_ne]
  rintro rfl
  have : io.contains i = true := by simpa using hj
  rw [h] at this; cases this
theorem le_peel : ∀ (e : E) σ H Q, tX X.K T G e σ H Q → tX X.K T G (peel e) σ H Q
  | .frz e, σ, H, Q, h => le_peel e σ H Q (le_frz σ H Q h)
  | .bw e, σ, H, Q, h => le_peel e σ H Q (le_bw σ H Q h)
  | .nm _, _, _, _, h => h | .mv _, _, _, _, h => h | .fz _, _, _, _, h => h | .gl _, _, _, _, h => h | .int _, _, _, _, h => h | .bl _, _, _, _, h => h | .non, _, _, _, h => h | .str _, _, _, _, h => h
  | .bin _ _ _, _, _, _, h => h | .neg _, _, _, _, h => h | .not _, _, _, _, h => h | .and _ _, _, _, _, h => h | .or _ _, _, _, _, h => h | .cmp _ _ _, _, _, _, h => h | .chain _ _ _ _ _, _, _, _, h => h
  | .isN _, _, _, _, h => h | .notN _, _, _, _, h => h | .ife _ _ _, _, _, _, h => h | .nil, _, _, _, h => h | .cons _ _, _, _, _, h => h | .io _, _, _, _, h => h | .tup _, _, _, _, h => h | .lst _, _, _, _, h => h
  | .dct _ _, _, _, _, h => h | .ix _ _, _, _, _, h => h | .sl _ _ _, _, _, _, h => h | .ixP _ _, _, _, _, h => h | .lenP _, _, _, _, h => h | .bi _ _, _, _, _, h => h | .isi _ _, _, _, _, h => h | .call _ _, _, _, _, h => h
  | .mt _ _ _, _, _, _, h => h | .mtv _ _ _, _, _, _, h => h | .lc _ _ _ _ _, _, _, _, h => h | .lrev _, _, _, _, h => h | .rev _, _, _, _, h => h | .ixG _ _, _, _, _, h => h | .ixM _ _, _, _, _, h => h | .callL _ _ _ _, _, _, _, h => h | .inG _ _, _, _, _, h => h | .itZipN _ _, _, _, _, h => h | .itL _, _, _, _, h => h | .itR1 _, _, _, _, h => h | .itR2 _ _, _, _, _, h => h | .itEn _, _, _, _, h => h | .itZip _ _, _, _, _, h => h
theorem chk_peel : ∀ (e : E) (sc : Scope) (top : Bool) (a : Expr), chkE P N e sc top a = true → chkE P N (peel e) sc top a = true
  | .frz e, sc, top, a, h => chk_peel e sc top a h
  | .bw e, sc, top, a, h => chk_peel e sc top a h
  | .nm _, _, _, _, h => h | .mv _, _, _, _, h => h | .fz _, _, _, _, h => h | .gl _, _, _, _, h => h | .int _, _, _, _, h => h | .bl _, _, _, _, h => h | .non, _, _, _, h => h | .str _, _, _, _, h => h
  | .bin _ _ _, _, _, _, h => h | .neg _, _, _, _, h => h | .not _, _, _, _, h => h | .and _ _, _, _, _, h => h | .or _ _, _, _, _, h => h | .cmp _ _ _, _, _, _, h => h | .chain _ _ _ _ _, _, _, _, h => h
  | .isN _, _, _, _, h => h | .notN _, _, _, _, h => h | .ife _ _ _, _, _, _, h => h | .nil, _, _, _, h => h | .cons _ _, _, _, _, h => h | .io _, _, _, _, h => h | .tup _, _, _, _, h => h | .lst _, _, _, _, h => h
  | .dct _ _, _, _, _, h => h | .ix _ _, _, _, _, h => h | .sl _ _ _, _, _, _, h => h | .ixP _ _, _, _, _, h => h | .lenP _, _, _, _, h => h | .bi _ _, _, _, _, h => h | .isi _ _, _, _, _, h => h | .call _ _, _, _, _, h => h
  | .mt _ _ _, _, _, _, h => h | .mtv _ _ _, _, _, _, h => h | .lc _ _ _ _ _, _, _, _, h => h | .lrev _, _, _, _, h => h | .rev _, _, _, _, h => h | .ixG _ _, _, _, _, h => h | .ixM _ _, _, _, _, h => h | .callL _ _ _ _, _, _, _, h => h | .inG _ _, _, _, _, h => h | .itZipN _ _, _, _, _, h => h | .itL _, _, _, _, h => h | .itR1 _, _, _, _, h => h | .itR2 _ _, _, _, _, h => h | .itEn _, _, _, _, h => h | .itZip _ _, _, _, _, h => h
theorem peel_lc : ∀ (e : E) {sc : Scope} {top : Bool} {elt : Expr} {gs : List Comprehension} {scope : Scope} {p : Pos}, chkE P N e sc top (.ListComp elt gs scope p) = true → ∃ g it c e2 vs, peel e = .lc g it c e2 vs
  | .frz e, _, _, _, _, _, _, h => peel_lc e (show chkE P N e _ _ _ = true from h)
  | .bw e, _, _, _, _, _, _, h => peel_lc e (show chkE P N e _ _ _ = true from h)
  | .lc g it c e vs, _, _, _, _, _, _, _ => ⟨g, it, c, e, vs, rfl⟩
  | .nm _, _, _, _, _, _, _, h => by cases h
  | .mv _, _, _, _, _, _, _, h => by cases h
  | .fz _, _, _, _, _, _, _, h => by cases h
  | .gl _, _, _, _, _, _, _, h => by cases h
  | .int _, _, _, _, _, _, _, h => by cases h
  | .bl _, _, _, _, _, _, _, h => by cases h
  | .non, _, _, _, _, _, _, h => by cases h
  | .str _, _, _, _, _, _, _, h => by cases h
  | .bin _ _ _, _, _, _, _, _, _, h => by cases h
  | .neg _, _, _, _, _, _, _, h => by cases h
  | .not _, _, _, _, _, _, _, h => by cases h
  | .and _ _, _, _, _, _, _, _, h => by cases h
  | .or _ _, _, _, _, _, _, _, h => by cases h
  | .cmp _ _ _, _, _, _, _, _, _, h => by cases h
  | .chain _ _ _ _ _, _, _, _, _, _, _, h => by cases h
  | .isN _, _, _, _, _, _, _, h => by cases h
  | .notN _, _, _, _, _, _, _, h => by cases h
  | .ife _ _ _, _, _, _, _, _, _, h => by cases h
  | .nil, _, _, _, _, _, _, h => by cases h
  | .cons _ _, _, _, _, _, _, _, h => by cases h
  | .io _, _, _, _, _, _, _, h => by cases h
  | .tup _, _, _, _, _, _, _, h => by cases h
  | .lst _, _, _, _, _, _, _, h => by cases h
  | .dct _ _, _, _, _, _, _, _, h => by (simp only [chkE] at h; cases h)
  | .ix _ _, _, _, _, _, _, _, h => by cases h
  | .sl _ _ _, _, _, _, _, _, _, h => by cases h
  | .ixP _ _, _, _, _, _, _, _, h => by cases h
  | .lenP _, _, _, _, _, _, _, h => by cases h
  | .bi _ _, _, _, _, _, _, _, h => by cases h
  | .isi _ _, _, _, _, _, _, _, h => by cases h
  | .call _ _, _, _, _, _, _, _, h => by cases h
  | .mt _ _ _, _, _, _, _, _, _, h => by cases h
  | .mtv _ _ _, _, _, _, _, _, _, h => by cases h
  | .itL _, _, _, _, _, _, _, h => by cases h
  | .itZipN _ _, _, _, _, _, _, _, h => by cases h
  | .lrev e, _, _, _, _, _, _, h => by (simp only [chkE] at h; cases h)
  | .rev e, _, _, _, _, _, _, h => by (simp only [chkE] at h; cases h)
  | .ixG _ _, _, _, _, _, _, _, h => by (simp only [chkE] at h; cases h)
  | .inG _ _, _, _, _, _, _, _, h => by (simp only [chkE] at h; cases h)
  | .itR1 _, _, _, _, _, _, _, h => by cases h
  | .itR2 _ _, _, _, _, _, _, _, h => by cases h
  | .itEn _, _, _, _, _, _, _, h => by cases h
  | .itZip _ _, _, _, _, _, _, _, h => by cases h
theorem swap_no {v : Expr} {t : Option Expr} {l : Nat} {env : Env} (h : isLc v = false) : swapsWith v t l env = pure false := by
  cases v <;> first | rfl | (cases h)
theorem swap_cell {elt : Expr} {gs : List Comprehension} {scope : Scope} {p : Pos} {x : Str} {px : Pos} {l : Nat} {env : Env} (h : env.scope.names.lookup x = some .cell) : swapsWith (.ListComp elt gs scope p) (some (.Name x px)) l env = pure false := by
  have k : env.kindOf x = some .cell := h
  unfold swapsWith
  simp only [k]
  have : (some NameKind.cell == some NameKind.local) = false := rfl
  simp only [this, Bool.and_false, Bool.false_and]
theorem asgOk_lc {sc : Scope} {y : Str} {py spos pos : Pos} {el : Expr} {gs : List Comprehension} {scope : Scope} : asgOk sc y py spos (.ListComp el gs scope pos) = (match sc.names.lookup y with
    | some .cell => true
    | some .local => py.line == pos.line && !(scope.names.any fun (n, k) => n == y && (k == .local || k == .cell))
    | _ => false) := rfl
include o in
theorem s_asg {i : Nat} {e : E} {a : Stmt} (h : chkS P N (.asg i e) sc io a = true) : PS X a (tS X.K T G io (.asg i e)) := by
  simp only [chkS] at h
  split at h
  · rename_i x px v pos
    obtain ⟨k0, h4, h5⟩ := and3 h
    obtain ⟨h1, h2, h3⟩ := and3 k0
    clear h k0
    obtain ⟨l1, l2⟩ := sto_ok o h2
    have hi : X.N[i]? = some x := by rw [o.hN]; simpa using h1
    have hN : X.N.Nodup := by rw [o.hN]; exact o.nd
    have hio : io.contains i = false := by simpa using h3
    have le : ∀ {te : TE}, (∀ σ H Q, tX X.K T G e σ H Q → te σ H Q) → ∀ D σ H, tS X.K T G io (.asg i e) D σ H → tAsg te (gName i) D σ H := fun {te} hle D σ H ⟨F, ρ, fp, f, ρ', s, hd, k⟩ => by
      simp only [denS] at hd
      obtain ⟨⟨y, ρ1⟩, g1, hd⟩ := Res.bind_inv hd
      cases hd
      refine hle σ H _ ⟨F, ρ, fp, y, ρ1, s, g1, fun w H1 F1 fp1 P1 s1 t1 hd1 sub => ?_⟩
      have s2 := s1.put hd1 i
      refine k _ H1 F1 _ s2 ⟨t1.ff, t1.fr, t1.le, t1.nw, fun j a hj => ?_, t1.kn⟩ (set_ne_io hio)
      rcases fpSet_cases hj with ⟨_, z⟩ | ⟨_, z⟩
      · exact sub a z
      · exact t1.sub j a z
    have plain : swapsWith v (some (.Name x px)) pos.line X.env = pure false → PS X (.Assign [.Name x px] v pos) (tS X.K T G io (.asg i e)) := fun hs =>
      (ps_set hN hi l1 ((snd e).pe sc true X o v h4) hs l2).mono (le fun _ _ _ q => q)
    cases hb : isLc v with
    | false => exact plain (swap_no hb)
    | true =>
      cases v <;> first | (cases hb; done) | (exact absurd (show false = true from h5) (by decide)) | skip
      rename_i elt gs scope pos2
      rw [asgOk_lc] at h5
      split at h5
      · rename_i hc
        exact plain (swap_cell (by rw [o.hsc]; exact hc))
      · rename_i hl
        obtain ⟨q1, q2⟩ := and2 h5
        obtain ⟨g, it, c, e2, vs, hp⟩ := peel_lc e h4
        have hcp := chk_peel e sc true _ h4
        have hpe : ∀ σ H Q, tX X.K T G e σ H Q → tX X.K T G (peel e) σ H Q := le_peel e
        rw [hp] at hcp hpe
        simp only [chkE] at hcp
        split at hcp
        · rename_i elt' tg iter ifs asy scope' p' heq
          cases heq
          obtain ⟨k0, h7, h8⟩ := and3 hcp
          obtain ⟨k1, h5', h6⟩ := and3 k0
          obtain ⟨k2, h3', h4'⟩ := and3 k1
          obtain ⟨h0, h2'⟩ := and2 k2
          clear hcp k0 k1 k2
          have e0 := of_decide_eq_true h0
          subst e0
          obtain ⟨pi1, pi2⟩ := (snd it).pi sc true X o _ _ h2'
          have hown : (ownOf N vs).map (·.2) = vs := by
            unfold ownOf
            rw [List.map_map]
            exact List.map_id' vs
          have ok : BlkOk X.N X.env.scope scope (ownOf N vs) := by
            rw [o.hN, o.hsc]
            exact blkOk_by h4'
          have hyl : X.env.scope.names.lookup x = some .local := by rw [o.hsc]; exact hl
          have hk : X.env.scope.kind = .function := by rw [o.hsc]; exact o.kind
          have hsw := sw_true (elt := elt) (gs := [⟨tg, iter, ifs, 0⟩]) (scope := scope) (pos := pos2) (py := px) (y := x) (l := pos.line) hk hyl q1 (by simpa using q2)
          cases ifs with
          | nil =>
            have hc : c = .bl true := by
              cases c with
              | bl b => exact congrArg E.bl h7
              | _ => cases h7
            subst hc
            have q := ps_setLc (spos := pos) (g := tG X.K g) (te := tX X.K T G e2) o.calm hN hi hyl hsw pi1 ok (fun s H C cl fp => pg_of (blk_ok o ok.kind s H C cl fp) g tg h5') (fun _ _ _ _ _ => pts_nil) (fun s H C cl fp => (snd e2).pe _ _ _ (blk_ok o ok.kind s H C cl fp) _ h6) pi2
            rw [hown] at q
            refine q.mono (le fun σ H Q z => le_lc h3' (fun σ H Q ⟨F, ρ, fp, w, ρ', b, s, hd, hb, k⟩ => ?_) σ H Q (hpe σ H Q z))
            simp only [den] at hd
            cases hd
            cases hb
            exact k H F fp s (Xt.refl s.le)
          | cons t r =>
            cases r with
            | cons _ _ => cases h7
            | nil =>
              have q := ps_setLc (spos := pos) (g := tG X.K g) (te := tX X.K T G e2) (tt := tT X.K T G c) o.calm hN hi hyl hsw pi1 ok (fun s H C cl fp => pg_of (blk_ok o ok.kind s H C cl fp) g tg h5') (fun s H C cl fp => pts_one ((snd c).pt _ _ _ (blk_ok o ok.kind s H C cl fp) _ h7)) (fun s H C cl fp => (snd e2).pe _ _ _ (blk_ok o ok.kind s H C cl fp) _ h6) pi2
              rw [hown] at q
              exact q.mono (le fun σ H Q z => le_lc h3' (fun _ _ _ q => q) σ H Q (hpe σ H Q z))
        · cases hcp
      · cases h5
  · cases h
end
end Rf
set_option maxRecDepth 100000
set_option maxHeartbeats 8000000
/-! Rf, part N: the other statements. -/
namespace Rf
open PySem PySem.Spec PyProof.Rows L2 Evl
theorem rd_ne {F : Hp} {b : Addr} {u : HO} (h : Rd F b u) : F b ≠ none := by
  rcases h with h | ⟨_, h⟩ <;> rw [h] <;> simp
section
variable {P : Prg} {G : Gls} {T : Tab} {n : Nat} {N : List Str} {sc : Scope} {X : Cx} {io : List Nat} (o : XOk P G T n N sc true X)
theorem tS_next {K : Frag} {D : Ends} {F H F' H' : Hp} {σ σ' : L2.St} {fp fp' : Nat → As} {ρ' : Ro} (k : Fin K io D F H σ fp ρ' .nx) (s : St K F' H' σ' ρ' fp') (t : Xt F H fp F' H' fp') (hi : ∀ i ∈ io, σ'[i]? = σ[i]?) : D.nx σ' H' := k σ' H' F' fp' s t hi
include o
theorem s_unp {g : Tg} {e : E} {a : Stmt} (h : chkS P N (.unp g e) sc io a = true) : PS X a (tS X.K T G io (.unp g e)) := by
  simp only [chkS] at h
  split at h
  · rename_i t v pos
    obtain ⟨k0, h5, h6⟩ := and3 h
    obtain ⟨k1, h3, h4⟩ := and3 k0
    obtain ⟨h1, h2⟩ := and2 k1
    clear h k0 k1
    have hv : isTupE v = false := by simpa using h2
    have hl : isLc v = false := by simpa using h3
    have hs : swapsWithSole [t] v pos.line X.env = pure false := swap_no hl
    have hw : swappedStores [t] v X.env = pure none := by
      cases t <;> first | (cases h1; done) | skip
      cases v <;> first | rfl | (cases hv; done)
    have ha : (assignEach [t] X.env).map (·.2) = [assign t X.env] := by
      cases t <;> first | rfl | (cases h1; done)
    refine (ps_asg ((snd e).pe sc true X o v h6) (pg_of o g t h4) hs hw ha).mono fun D σ H ⟨F, ρ, fp, f, ρ', s, hd, k⟩ => ?_
    simp only [denS] at hd
    obtain ⟨⟨y, ρ1⟩, g1, hd⟩ := Res.bind_inv hd
    obtain ⟨y', g2, hd⟩ := Res.bind_inv hd
    obtain ⟨ρ2, g3, hd⟩ := Res.bind_inv hd
    cases hd
    refine ⟨F, ρ, fp, y, ρ1, s, g1, fun w H1 F1 fp1 P1 s1 t1 hd1 sub => ?_⟩
    obtain ⟨F2, s2, e2, q2, d2⟩ := hd1.settle s1 g2
    refine ⟨F2, ρ1, fp1, y', _, s2, d2, g3, fun σ' fp' s3 fr sb => ?_⟩
    refine tS_next k s3 ((t1.grow sub e2 s2.le q2).lower fun i a z => ⟨i, sb i a z⟩) fun i hi => fr i fun hm => ?_
    have := List.all_eq_true.mp h5 i hm
    simp [hi] at this
  · cases h
theorem s_aug {i : Nat} {op : Operator} {e : E} {a : Stmt} (h : chkS P N (.aug i op e) sc io a = true) : PS X a (tS X.K T G io (.aug i op e)) := by
  simp only [chkS] at h
  split at h
  · rename_i x px op2 v pos
    obtain ⟨k0, h5, h6⟩ := and3 h
    obtain ⟨k1, h3, h4⟩ := and3 k0
    obtain ⟨h1, h2⟩ := and2 k1
    clear h k0 k1
    have e0 := of_decide_eq_true h4
    subst e0
    obtain ⟨l1, l2⟩ := sto_ok o h2
    have hi : X.N[i]? = some x := by rw [o.hN]; simpa using h1
    have hN : X.N.Nodup := by rw [o.hN]; exact o.nd
    have hio : io.contains i = false := by simpa using h3
    have le : ∀ (fn : Int → Int → Int), (∀ (x : PyData) (y : PV) (z : Int), augS op2 x y = .ok z → ∃ a b, x = .int a ∧ y = .d (.int b) ∧ z = fn a b) →
        ∀ D σ H, tS X.K T G io (.aug i op2 e) D σ H → tAug i (tX X.K T G e) (ipI fn) D σ H := fun fn hfn D σ H ⟨F, ρ, fp, f, ρ', s, hd, k⟩ => by
      simp only [denS] at hd
      obtain ⟨x0, g0, hd⟩ := Res.bind_inv hd
      obtain ⟨⟨y, ρ1⟩, g1, hd⟩ := Res.bind_inv hd
      obtain ⟨z, g2, hd⟩ := Res.bind_inv hd
      cases hd
      obtain ⟨a, b, r1, r2, r3⟩ := hfn x0 y z g2
      subst r1; subst r2; subst r3
      unfold getD at g0
      split at g0
      · rename_i z hz
        cases g0
        obtain ⟨u, u1, u2⟩ := s.ow i _ hz
        have hu := u2.dat.int_inv
        subst hu
        refine ⟨_, u1, F, ρ, fp, _, ρ1, s, g1, fun w H1 F1 fp1 P1 s1 t1 hd1 sub => ?_⟩
        have hw := hd1.ow.dat.int_inv
        subst hw
        refine ⟨a, b, rfl, rfl, ?_⟩
        refine tS_next k (s1.putD (.int (fn a b)) i) (t1.trans ?_) (set_ne_io hio)
        exact (Xt.refl s1.le).lower fun j c hj => by
          rcases fpSet_cases hj with ⟨_, z⟩ | ⟨_, z⟩
          · exact z.elim
          · exact ⟨j, z⟩
      · cases g0
    cases op2 <;> first | (cases h5; done) | skip
    · refine (ps_aug hN hi l1 ((snd e).pe sc true X o v h6) ip_add l2).mono (le _ fun x y z hq => ?_)
      unfold augS at hq
      split at hq
      · cases hq; exact ⟨_, _, rfl, rfl, rfl⟩
      · rename_i hh; cases hh
      · cases hq
    · refine (ps_aug hN hi l1 ((snd e).pe sc true X o v h6) ip_sub l2).mono (le _ fun x y z hq => ?_)
      unfold augS at hq
      split at hq
      · rename_i hh; cases hh
      · cases hq; exact ⟨_, _, rfl, rfl, rfl⟩
      · cases hq
  · cases h
theorem s_setP {p : Pl} {ke ve : E} {a : Stmt} (h : chkS P N (.setP p ke ve) sc io a = true) : PS X a (tS X.K T G io (.setP p ke ve)) := by
  simp only [chkS] at h
  split at h
  · rename_i i o1 j1 p1 w1 pos
    obtain ⟨k0, h4, h5⟩ := and3 h
    obtain ⟨k1, h2, h3⟩ := and3 k0
    have h1 := k1
    clear h k0 k1
    have hl : isLc w1 = false := by simpa using h3
    have ha : ∀ v, assign (.Subscript o1 j1 p1) X.env v = (do
      let ov ← holding [v] (eval o1 X.env)
      let iv ← holding [v, ov] (eval j1 X.env)
      standAt p1
      holding [v, ov, iv] (setItem ov iv v)
      release [v, ov, iv] []) := by
      intro v
      cases j1 <;> first | rfl | (cases h2; done)
    have hs0 : swapsWith w1 (some (.Subscript o1 j1 p1)) pos.line X.env = pure false := swap_no hl
    refine (ps_asg (tg := .Subscript o1 j1 p1) ((snd ve).pe sc true X o w1 h5) (pg_sub (nm_ok o h1).1 ((snd ke).pe sc true X o j1 h4) set_list ha) (show swapsWithSole [_] w1 pos.line X.env = pure false from hs0) rfl rfl).mono fun D σ H ⟨F, ρ, fp, f, ρ', s, hd, k⟩ => ?_
    simp only [denS] at hd
    obtain ⟨⟨y, ρ1⟩, g1, hd⟩ := Res.bind_inv hd
    dsimp only at hd
    split at hd
    · cases hd
    rename_i x0 hx0
    obtain ⟨⟨kk, ρ2⟩, g2, hd⟩ := Res.bind_inv hd
    dsimp only at hd
    split at hd
    · rename_i xs j hxs
      obtain ⟨y', g3, hd⟩ := Res.bind_inv hd
      split at hd
      · rename_i m hm
        cases hd
        refine ⟨F, ρ, fp, y, ρ1, s, g1, fun w H1 F1 fp1 P1 s1 t1 hd1 sub1 => ?_⟩
        obtain ⟨u, e1, e2⟩ := s1.ow i _ hx0
        refine ⟨u, e1, F1, ρ1, fp1, _, ρ2, s1, g2, fun kv H2 F2 fp2 P2 s2 t2 hd2 sub2 => ?_⟩
        have hk := hd2.ow.dat.int_inv
        subst hk
        have hd1' := hd1.keep t2
        obtain ⟨F3, s3, e3, q3, d3⟩ := hd1'.settle s2 g3
        obtain ⟨q, ys, f1, f2, f3, f4⟩ := s3.list hxs
        rw [e1] at f1
        cases f1
        have hst := s3.mut hxs (by exact e1) f2 f3 (f4.set d3 m)
        have t12 := t1.trans t2
        refine ⟨q, ys, j, m, rfl, rfl, f3, by rw [f4.length]; exact hm, ?_⟩
        refine tS_next k hst.1 ((t12.grow (P := P1) (fun a ha => ?_) e3 s3.le q3).trans hst.2) fun _ _ => rfl
        exact sub1 a ha
      · cases hd
    · cases hd
  · rename_i i key o1 j1 p1 w1 pos
    obtain ⟨k0, h4, h5⟩ := and3 h
    obtain ⟨h1, h2, h3⟩ := and3 k0
    clear h k0
    have hl : isLc w1 = false := by simpa using h3
    refine (ps_dput (dunits o) (nm_ok o h1).1 ((snd ke).pe sc true X o j1 h4) ((snd ve).pe sc true X o w1 h5) (swap_no hl)).mono fun D σ H ⟨F, ρ, fp, f, ρ', s, hd, k⟩ => ?_
    simp only [denS] at hd
    obtain ⟨⟨y, ρ1⟩, g1, hd⟩ := Res.bind_inv hd
    dsimp only at hd
    split at hd
    · cases hd
    rename_i x0 hx0
    obtain ⟨⟨kk, ρ2⟩, g2, hd⟩ := Res.bind_inv hd
    dsimp only at hd
    split at hd
    · rename_i kvs sk hxs
      obtain ⟨y', g3, hd⟩ := Res.bind_inv hd
      split at hd
      · rename_i c hk hc
        cases hd
        obtain ⟨hke, hsm⟩ := of_decide_eq_true hk
        subst hke
        refine ⟨F, ρ, fp, y, ρ1, s, g1, fun w H1 F1 fp1 P1 s1 t1 hd1 sub1 => ?_⟩
        obtain ⟨u, e1, e2⟩ := s1.ow i _ hx0
        refine ⟨u, e1, F1, ρ1, fp1, _, ρ2, s1, g2, fun kv H2 F2 fp2 P2 s2 t2 hd2 sub2 => ?_⟩
        have hk := hd2.ow.dat.str_inv
        subst hk
        have hd1' := hd1.keep t2
        obtain ⟨F3, s3, e3, q3, d3⟩ := hd1'.settle s2 g3
        obtain ⟨q, kv, as, f1, f2, f3, f4, f5, f6, f7⟩ := s3.dict hxs
        rw [e1] at f1
        cases f1
        obtain ⟨as', c1, c2⟩ := f4.putD (key := sk) d3 f7
        have hput : putK kv (.inr sk : Key) w = mapK kv (.inr sk) w := by
          unfold putK
          rw [if_pos (f4.any hc)]
          rfl
        have ow' : Ow X.K F3 (upd H2 q (.dK (putK kv (.inr sk : Key) w))) (.ref q) (.M (kvSet sk (.d y') kvs)) (fp2 i) := by
          rw [hput]
          refine .M f2 upd_same (c1.up (Ex.refl _) fun a ha o ho => ?_) (fun z => f5 (c2 q z)) (fun a ha => f6 a (c2 a ha)) (by rw [kvSet_keys]; exact f7)
          rw [upd_ne]
          · exact ho
          · rintro rfl; exact f5 (c2 _ ha)
        obtain ⟨s4, t4⟩ := s3.mutG f2 rfl e1 ow'
        have t12 := t1.trans t2
        have hlen : kv.length < sizeLine := mil_lt (by rw [f4.length]; exact hsm)
        refine ⟨q, _, rfl, DPut.k (k := .inr sk) f3 hlen, ?_⟩
        refine tS_next k s4 ((t12.grow (P := P1) sub1 e3 s3.le q3).trans t4) fun _ _ => rfl
      · cases hd
    · cases hd
  · cases h
theorem s_setSl {p : Pl} {le he ve : E} {a : Stmt} (h : chkS P N (.setSl p le he ve) sc io a = true) : PS X a (tS X.K T G io (.setSl p le he ve)) := by
  simp only [chkS] at h
  split at h
  · rename_i i o1 l1 h1' p1 p2 w1 pos
    obtain ⟨k0, h4, h5⟩ := and3 h
    obtain ⟨k1, h2, h3⟩ := and3 k0
    have h1 := k1
    clear h k0 k1
    have hl : isLc w1 = false := by simpa using h2
    have hs0 : swapsWith w1 (some (.Subscript o1 (.Slice (some l1) (some h1') none p1) p2)) pos.line X.env = pure false := swap_no hl
    refine (ps_asg (tg := .Subscript o1 (.Slice (some l1) (some h1') none p1) p2) ((snd ve).pe sc true X o w1 h5) (pg_setSl (nm_ok o h1).1 ((snd le).pe sc true X o l1 h3) ((snd he).pe sc true X o h1' h4)) (show swapsWithSole [_] w1 pos.line X.env = pure false from hs0) rfl rfl).mono fun D σ H ⟨F, ρ, fp, f, ρ', s, hd, k⟩ => ?_
    simp only [denS] at hd
    obtain ⟨⟨y, ρ1⟩, g1, hd⟩ := Res.bind_inv hd
    dsimp only at hd
    split at hd
    · cases hd
    rename_i x0 hx0
    obtain ⟨⟨lv, ρ2⟩, g2, hd⟩ := Res.bind_inv hd
    obtain ⟨⟨hv, ρ3⟩, g3, hd⟩ := Res.bind_inv hd
    obtain ⟨y', g4, hd⟩ := Res.bind_inv hd
    dsimp only at hd
    split at hd
    · rename_i xs a b ys hxs _ _
      obtain ⟨_, g5, hd⟩ := Res.bind_inv hd
      cases hd
      obtain ⟨c1, c2, c3, c4⟩ := of_decide_eq_true (Res.guard_inv g5)
      refine ⟨F, ρ, fp, y, ρ1, s, g1, fun w H1 F1 fp1 P1 s1 t1 hd1 sub1 => ?_⟩
      obtain ⟨u, e1, e2⟩ := s1.ow i _ hx0
      refine ⟨u, e1, F1, ρ1, fp1, _, ρ2, s1, g2, fun kv H2 F2 fp2 P2 s2 t2 hd2 sub2 => ?_⟩
      have hk := hd2.ow.dat.int_inv
      subst hk
      have hd1' := hd1.keep t2
      refine ⟨F2, ρ2, fp2, _, ρ3, s2, g3, fun kv H3 F3 fp3 P3 s3 t3 hd3 sub3 => ?_⟩
      have hk := hd3.ow.dat.int_inv
      subst hk
      have hd1'' := hd1'.keep t3
      obtain ⟨F4, s4, e4, q4, d4⟩ := hd1''.settle s3 g4
      obtain ⟨q, zs, f1, f2, f3, f4⟩ := s4.list hxs
      rw [e1] at f1
      cases f1
      obtain ⟨b1, vs, rfl, v1, v2⟩ := d4.lst_inv
      have hne : q ≠ b1 ∨ (X.K.lookup b1).isSome := by
        rcases v1 with v1 | ⟨_, _, v1, _, _⟩
        · exact .inl fun z => rd_ne v1 (z ▸ s4.nf i q f2)
        · exact .inr (by rw [v1]; rfl)
      have hst := s4.mut hxs (by exact e1) f2 f3 (((f4.take a.toNat).append v2).append (f4.drop b.toNat))
      have t12 := (t1.trans t2).trans t3
      refine ⟨q, b1, zs, vs, a, b, rfl, rfl, rfl, rfl, f3, v1.up s4.le, hne, c1, c2, by rw [f4.length]; exact c3, by rw [f4.length, v2.length]; exact Nat.le_trans c4 (by decide), ?_⟩
      refine tS_next k hst.1 ((t12.grow (P := P1) (fun a ha => ?_) e4 s4.le q4).trans hst.2) fun _ _ => rfl
      exact sub1 a ha
    · cases hd
  · cases h
theorem s_ex {e : E} {a : Stmt} (h : chkS P N (.ex e) sc io a = true) : PS X a (tS X.K T G io (.ex e)) := by
  simp only [chkS] at h
  split at h
  · obtain ⟨h1, h2⟩ := and2 h
    refine (ps_expr ((snd e).pe sc true X o _ h1) (swap_no (by simpa using h2))).mono fun D σ H ⟨F, ρ, fp, f, ρ', s, hd, k⟩ => ?_
    simp only [denS] at hd
    obtain ⟨⟨y, ρ1⟩, g1, hd⟩ := Res.bind_inv hd
    cases hd
    exact ⟨F, ρ, fp, y, ρ1, s, g1, fun w H1 F1 fp1 P1 s1 t1 hd1 sub => tS_next k s1 t1 fun _ _ => rfl⟩
  · cases h
theorem s_ret {e : E} {a : Stmt} (h : chkS P N (.ret e) sc io a = true) : PS X a (tS X.K T G io (.ret e)) := by
  simp only [chkS] at h
  split at h
  · refine (ps_ret ((snd e).pe sc true X o _ h)).mono fun D σ H ⟨F, ρ, fp, f, ρ', s, hd, k⟩ => ?_
    simp only [denS] at hd
    obtain ⟨⟨y, ρ1⟩, g1, hd⟩ := Res.bind_inv hd
    cases hd
    exact ⟨F, ρ, fp, y, ρ1, s, g1, fun w H1 F1 fp1 P1 s1 t1 hd1 sub => k w σ H1 F1 fp1 P1 s1 t1 (fun _ _ => rfl) hd1 sub⟩
  · cases h
omit o in
theorem Fin.seq {K : Frag} {D : Ends} {F H : Hp} {σ : L2.St} {fp : Nat → As} {ρ1 : Ro} {r : S} {f : Fl} {ρ' : Ro} (e : denS T G r ρ1 = .ok (f, ρ')) (k : Fin K io D F H σ fp ρ' f) : Fin K io { D with nx := tS K T G io r D } F H σ fp ρ1 .nx :=
  fun σ' H' F' fp' s' t' hi => ⟨F', ρ1, fp', f, ρ', s', e, k.later t' hi⟩
theorem s_ite {c : E} {x y : S} {t : Expr} {b r : List Stmt} {pos : Pos} (hc : chkE P N c sc true t = true) (hb : PSs X b (tS X.K T G io x)) (hr : PSs X r (tS X.K T G io y)) : PS X (.If t b r pos) (tS X.K T G io (.ife c x y)) := by
  refine (ps_if ((snd c).pt sc true X o t hc) hb hr).mono fun D σ H ⟨F, ρ, fp, f, ρ', s, hd, k⟩ => ?_
  simp only [denS] at hd
  obtain ⟨⟨z, ρ1⟩, g1, hd⟩ := Res.bind_inv hd
  obtain ⟨u, g2, hd⟩ := Res.bind_inv hd
  dsimp only at hd
  refine ⟨F, ρ, fp, z, ρ1, u, s, g1, g2, fun H1 F1 fp1 s1 t1 => ?_⟩
  cases u with
  | true => exact ⟨F1, ρ1, fp1, f, ρ', s1, hd, k.later t1 fun _ _ => rfl⟩
  | false => exact ⟨F1, ρ1, fp1, f, ρ', s1, hd, k.later t1 fun _ _ => rfl⟩
theorem s_whl (hx : X.xe = fun _ _ => False) {c : E} {x : S} {t : Expr} {b : List Stmt} {pos : Pos} (hc : chkE P N c sc true t = true) (hb : PSs X b (tS X.K T G io x)) : PS X (.While t b [] pos) (tS X.K T G io (.whl c x)) := by
  refine (ps_while (by rw [hx]; exact PassesOwn.never) ((snd c).pt sc true X o t hc) hb).mono fun D σ H ⟨F, ρ, fp, f, ρ', s, hd, k⟩ => ?_
  simp only [denS] at hd
  obtain ⟨m0, hm0⟩ := whl_inv hd
  refine ⟨fun m σ1 H1 => ∃ F1 ρ1 fp1, St X.K F1 H1 σ1 ρ1 fp1 ∧ loopN (fun ρ => do let (x, ρ1) ← den T G c ρ; let t ← asBool x; .ok (t, ρ1)) (fun ρ => denS T G x ρ) m ρ1 = some (.ok (f, ρ')) ∧ Fin X.K io D F1 H1 σ1 fp1 ρ' f,
    ⟨m0, F, ρ, fp, s, hm0, k⟩, fun m σ1 H1 ⟨F1, ρ1, fp1, s1, hl, k1⟩ => ?_⟩
  cases m with
  | zero => cases hl
  | succ m =>
    unfold loopN at hl
    split at hl
    · rename_i ρ2 hc2
      obtain ⟨⟨z, ρ2'⟩, g1, g2⟩ := Res.bind_inv hc2
      obtain ⟨u, g3, g4⟩ := Res.bind_inv g2
      cases g4
      refine ⟨F1, ρ1, fp1, z, _, true, s1, g1, g3, fun H2 F2 fp2 s2 t2 => ?_⟩
      dsimp only
      rw [if_pos rfl]
      have k2 := k1.later t2 fun _ _ => rfl
      refine ⟨fun σ3 H3 => ∃ F3 ρ3 fp3, St X.K F3 H3 σ3 ρ3 fp3 ∧ loopN (fun ρ => do let (x, ρ1) ← den T G c ρ; let t ← asBool x; .ok (t, ρ1)) (fun ρ => denS T G x ρ) m ρ3 = some (.ok (f, ρ')) ∧ Fin X.K io D F3 H3 σ3 fp3 ρ' f, fun σ3 H3 w => ⟨m, Nat.lt_succ_self m, w⟩, ?_⟩
      split at hl
      · rename_i ρ3 hb3
        exact ⟨F2, _, fp2, .nx, ρ3, s2, hb3, fun σ4 H4 F4 fp4 s4 t4 h4 => ⟨F4, ρ3, fp4, s4, hl, k2.later t4 h4⟩⟩
      · rename_i ρ3 hb3
        exact ⟨F2, _, fp2, .ct, ρ3, s2, hb3, fun σ4 H4 F4 fp4 s4 t4 h4 => ⟨F4, ρ3, fp4, s4, hl, k2.later t4 h4⟩⟩
      · rename_i ρ3 hb3
        cases hl
        exact ⟨F2, _, fp2, .bk, _, s2, hb3, k2⟩
      · rename_i x3 ρ3 hb3
        cases hl
        exact ⟨F2, _, fp2, .rt x3, _, s2, hb3, k2⟩
      · cases hl
      · cases hl
    · rename_i ρ2 hc2
      cases hl
      obtain ⟨⟨z, ρ2'⟩, g1, g2⟩ := Res.bind_inv hc2
      obtain ⟨u, g3, g4⟩ := Res.bind_inv g2
      cases g4
      refine ⟨F1, ρ1, fp1, z, _, false, s1, g1, g3, fun H2 F2 fp2 s2 t2 => ?_⟩
      dsimp only
      rw [if_neg Bool.false_ne_true]
      exact k1 σ1 H2 F2 fp2 s2 t2 fun _ _ => rfl
    · cases hl
    · cases hl
theorem s_for (hx : X.xe = fun _ _ => False) {g : Tg} {it : E} {x : S} {t i : Expr} {b : List Stmt} {pos : Pos} (hi : chkI P N it sc true t i = true) (hg : chkT N g sc true t = true) (hio : (slots g).all (fun i => !io.contains i) = true) (hb : PSs X b (tS X.K T G io x)) :
    PS X (.For t i b [] pos) (tS X.K T G io (.for_ g it x)) := by
  obtain ⟨p1, p2⟩ := (snd it).pi sc true X o _ _ hi
  refine (ps_for (by rw [hx]; exact PassesOwn.never) o.calm p1 (pg_of o g t hg) hb p2).mono fun D σ H ⟨F, ρ, fp, f, ρ', s, hd, k⟩ => ?_
  simp only [denS] at hd
  obtain ⟨⟨xs, ρ1⟩, g1, hd⟩ := Res.bind_inv hd
  dsimp only at hd
  refine ⟨F, ρ, fp, xs, ρ1, s, g1, fun J H1 F1 fp1 s1 t1 its => ?_⟩
  refine ⟨fun i m σ2 H2 => m = xs.length - i ∧ ∃ F2 ρ2 fp2, Ex F1 F2 ∧ St X.K F2 H2 σ2 ρ2 fp2 ∧ forF (fun x' ρ => do let ρ2 ← stTg g x' ρ; denS T G x ρ2) (xs.drop i) ρ2 = .ok (f, ρ') ∧ Fin X.K io D F2 H2 σ2 fp2 ρ' f,
    ⟨_, rfl, F1, ρ1, fp1, Ex.refl F1, s1, by simpa using hd, k.later t1 fun _ _ => rfl⟩, ?_⟩
  rintro i m σ2 H2 ⟨rfl, F2, ρ2, fp2, e2, s2, hf, k2⟩
  obtain ⟨j1, j2⟩ := its i H2 F2 e2 s2.le
  by_cases hlt : i < xs.length
  · have hx0 : xs[i]? = some xs[i] := List.getElem?_eq_getElem hlt
    obtain ⟨j3, j4⟩ := j1 _ hx0
    refine .inr ⟨j3, fun σ3 H3 => ∃ F3 ρ3 fp3, Ex F1 F3 ∧ St X.K F3 H3 σ3 ρ3 fp3 ∧ forF (fun x' ρ => do let ρ2 ← stTg g x' ρ; denS T G x ρ2) (xs.drop (i + 1)) ρ3 = .ok (f, ρ') ∧ Fin X.K io D F3 H3 σ3 fp3 ρ' f,
      fun σ3 H3 w => ⟨_, by omega, rfl, w⟩, fun v H3 hy => ?_⟩
    obtain ⟨F3, nw, r3⟩ := j4 v H3 hy
    have s3 := nw.st s2
    rw [List.drop_eq_getElem_cons hlt] at hf
    unfold forF at hf
    have step : ∀ {fl : Fl} {ρ4 : Ro}, (do let ρ2 ← stTg g xs[i] ρ2; denS T G x ρ2) = .ok (fl, ρ4) → ∃ ρ3, stTg g xs[i] ρ2 = .ok ρ3 ∧ denS T G x ρ3 = .ok (fl, ρ4) := fun hq => Res.bind_inv hq
    have k3 := k2.later (nw.xt (fp := fp2)) fun _ _ => rfl
    have go : ∀ {fl : Fl} {ρ4 : Ro} {D' : Ends}, (do let ρ2 ← stTg g xs[i] ρ2; denS T G x ρ2) = .ok (fl, ρ4) → Fin X.K io D' F3 H3 σ2 fp2 ρ4 fl → tG X.K g v σ2 H3 fun σ4 H4 => tS X.K T G io x D' σ4 H4 := fun {fl ρ4 D'} hq kk => by
      obtain ⟨ρ3, q1, q2⟩ := step hq
      refine ⟨F3, ρ2, fp2, _, ρ3, s3, r3, q1, fun σ5 fp5 s5 fr sb => ⟨F3, ρ3, fp5, fl, ρ4, s5, q2, ?_⟩⟩
      refine kk.later ((Xt.refl s5.le).lower fun i a z => ⟨i, sb i a z⟩) fun j hj => fr j fun hm => ?_
      have := List.all_eq_true.mp hio j hm
      simp [hj] at this
    split at hf
    · rename_i ρ4 hq
      exact go hq fun σ5 H5 F5 fp5 s5 t5 h5 => ⟨F5, ρ4, fp5, (e2.trans nw.ff).trans t5.ff, s5, hf, k3.later t5 h5⟩
    · rename_i ρ4 hq
      exact go hq fun σ5 H5 F5 fp5 s5 t5 h5 => ⟨F5, ρ4, fp5, (e2.trans nw.ff).trans t5.ff, s5, hf, k3.later t5 h5⟩
    · rename_i ρ4 hq
      cases hf
      exact go hq k3
    · rename_i x4 ρ4 hq
      cases hf
      exact go hq k3
    · cases hf
    · cases hf
  · refine .inl ⟨j2 (by omega), ?_⟩
    rw [List.drop_eq_nil_of_le (by omega)] at hf
    cases hf
    exact k2 σ2 H2 F2 fp2 s2 (Xt.refl s2.le) fun _ _ => rfl
end
end Rf
set_option maxRecDepth 100000
set_option maxHeartbeats 8000000
/-! Rf, part O: all statements, functions. -/
namespace Rf
open PySem PySem.Spec PyProof.Rows L2 Evl
section
variable {P : Prg} {G : Gls} {T : Tab} {n : Nat} {N : List Str} {sc : Scope} {X : Cx} {io : List Nat} (o : XOk P G T n N sc true X) (hx : X.xe = fun _ _ => False)
structure SndS (P : Prg) (G : Gls) (T : Tab) (N : List Str) (sc : Scope) (X : Cx) (io : List Nat) (s : S) : Prop where
  st : ∀ a, chkS P N s sc io a = true → PS X a (tS X.K T G io s)
  bl : ∀ b, chkS.chkB P N s sc io b = true → PSs X b (tS X.K T G io s)
theorem SndS.of {s : S} (hb : ∀ b, chkS.chkB P N s sc io b = false) (h : ∀ a, chkS P N s sc io a = true → PS X a (tS X.K T G io s)) : SndS P G T N sc X io s :=
  ⟨h, fun b q => by rw [hb b] at q; cases q⟩
include o hx
theorem sndS : ∀ s : S, SndS P G T N sc X io s
  | .nil => ⟨fun a h => by simp [chkS] at h, fun b h => by
      have hb : b = [] := by simpa [chkS.chkB] using h
      subst hb
      refine pss_nil.mono fun D σ H ⟨F, ρ, fp, f, ρ', s, hd, k⟩ => ?_
      simp only [denS] at hd
      cases hd
      exact tS_next k s (Xt.refl s.le) fun _ _ => rfl⟩
  | .seq s r => ⟨fun a h => by simp [chkS] at h, fun b h => by
      cases b with
      | nil => simp [chkS.chkB] at h
      | cons st b =>
        simp only [chkS.chkB] at h
        obtain ⟨h1, h2⟩ := and2 h
        refine (pss_cons ((sndS s).st st h1) ((sndS r).bl b h2)).mono fun D σ H ⟨F, ρ, fp, f, ρ', s0, hd, k⟩ => ?_
        simp only [denS] at hd
        obtain ⟨⟨f1, ρ1⟩, g1, hd⟩ := Res.bind_inv hd
        dsimp only at hd
        refine ⟨F, ρ, fp, f1, ρ1, s0, g1, ?_⟩
        cases f1 with
        | nx => exact Fin.seq hd k
        | bk => cases hd; exact k
        | ct => cases hd; exact k
        | rt x => cases hd; exact k⟩
  | .asg i e => .of (fun b => rfl) fun a h => s_asg o h
  | .unp g e => .of (fun b => rfl) fun a h => s_unp o h
  | .aug i op e => .of (fun b => rfl) fun a h => s_aug o h
  | .setP p k v => .of (fun b => rfl) fun a h => s_setP o h
  | .setSl p lo hi v => .of (fun b => rfl) fun a h => s_setSl o h
  | .ex e => .of (fun b => rfl) fun a h => s_ex o h
  | .ife c x y => .of (fun b => rfl) fun a h => by
      simp only [chkS] at h
      split at h
      · obtain ⟨h1, h2, h3⟩ := and3 h
        exact s_ite o h1 ((sndS x).bl _ h2) ((sndS y).bl _ h3)
      · cases h
  | .whl c x => .of (fun b => rfl) fun a h => by
      simp only [chkS] at h
      split at h
      · obtain ⟨h1, h2⟩ := and2 h
        exact s_whl o hx h1 ((sndS x).bl _ h2)
      · cases h
  | .for_ g it x => .of (fun b => rfl) fun a h => by
      simp only [chkS] at h
      split at h
      · obtain ⟨k0, h3, h4⟩ := and3 h
        obtain ⟨h1, h2⟩ := and2 k0
        exact s_for o hx h1 h2 h3 ((sndS x).bl _ h4)
      · cases h
  | .ret e => .of (fun b => rfl) fun a h => s_ret o h
  | .retN => .of (fun b => rfl) fun a h => by
      simp only [chkS] at h
      split at h
      · refine ps_retN.mono fun D σ H ⟨F, ρ, fp, f, ρ', s, hd, k⟩ => ?_
        simp only [denS] at hd
        cases hd
        exact k .non σ H F fp none0 s (Xt.refl s.le) (fun _ _ => rfl) ⟨.d .non, fun _ z => z.elim, fun _ z => z.elim, fun _ z => z.elim⟩ fun _ z => z.elim
      · cases h
  | .pass => .of (fun b => rfl) fun a h => by
      simp only [chkS] at h
      split at h
      · refine ps_pass.mono fun D σ H ⟨F, ρ, fp, f, ρ', s, hd, k⟩ => ?_
        simp only [denS] at hd
        cases hd
        exact tS_next k s (Xt.refl s.le) fun _ _ => rfl
      · cases h
  | .brk => .of (fun b => rfl) fun a h => by
      simp only [chkS] at h
      split at h
      · refine ps_break.mono fun D σ H ⟨F, ρ, fp, f, ρ', s, hd, k⟩ => ?_
        simp only [denS] at hd
        cases hd
        exact k σ H F fp s (Xt.refl s.le) fun _ _ => rfl
      · cases h
  | .cnt => .of (fun b => rfl) fun a h => by
      simp only [chkS] at h
      split at h
      · refine ps_continue.mono fun D σ H ⟨F, ρ, fp, f, ρ', s, hd, k⟩ => ?_
        simp only [denS] at hd
        cases hd
        exact k σ H F fp s (Xt.refl s.le) fun _ _ => rfl
      · cases h
  | .raise c e => .of (fun b => rfl) fun a h => ps_never.mono fun D σ H ⟨F, ρ, fp, f, ρ', s, hd, k⟩ => by
      simp only [denS] at hd
      obtain ⟨⟨x, ρ1⟩, g1, hd⟩ := Res.bind_inv hd
      obtain ⟨x', g2, hd⟩ := Res.bind_inv hd
      cases hd
end

end Rf
set_option maxRecDepth 100000
set_option maxHeartbeats 8000000
/-! Rf, part P: functions, the end of a law. -/
namespace Rf
open PySem PySem.Spec PyProof.Rows L2 Evl
/-- the look at a def -/
def chkF (P : Prg) (d : Fn) (st : Stmt) : Bool :=
  decide ((defScope st).kind = .function) && !(defScope st).isCoroutine && !(defScope st).isGenerator && decide d.N.Nodup &&
  (d.N.take d.np).all (fun x => decide ((defScope st).names.lookup x = some .local) || decide ((defScope st).names.lookup x = some .cell)) && (defScope st).names.all (fun y => !decide (y.2 = .free)) &&
  chkS.chkB P d.N d.body (defScope st) d.io (defBody st) && decide (d.np ≤ d.N.length) && d.io.all (fun i => decide (i < d.np))
structure ChkF (P : Prg) (d : Fn) (st : Stmt) : Prop where
  sc : FnScope d.N (d.N.take d.np) (defScope st)
  bd : chkS.chkB P d.N d.body (defScope st) d.io (defBody st) = true
  np : d.np ≤ d.N.length
  io : ∀ i ∈ d.io, i < d.np
theorem chkF_ok {P : Prg} {d : Fn} {st : Stmt} (h : chkF P d st = true) : ChkF P d st := by
  unfold chkF at h
  simp only [Bool.and_eq_true, decide_eq_true_eq, List.all_eq_true, Bool.not_eq_true', Bool.or_eq_true, decide_eq_false_iff_not] at h
  obtain ⟨⟨⟨⟨⟨⟨⟨⟨h1, h2⟩, h3⟩, h4⟩, h5⟩, h6⟩, h7⟩, h8⟩, h9⟩ := h
  exact ⟨⟨h1, h2, h3, h4, by rw [List.length_take, Nat.min_eq_left h8], h5, h6⟩, h7, h8, h9⟩
structure DefAt (P : Prg) (K : Frag) (mg : Str → Option Value) (d : Fn) (st : Stmt) (a : Addr) (fd : FuncData) : Prop where
  nm : mg d.name = some (.ref a)
  fn : Fun K d.name d.name st a fd
  bd : ∀ us : List Value, us.length = (d.N.take d.np).length → bindArgs fd ⟨us, []⟩ = pure ((d.N.take d.np).zip us)
  ck : ChkF P d st
def DefOk (P : Prg) (K : Frag) (mg : Str → Option Value) (d : Fn) : Prop := ∃ st a fd, DefAt P K mg d st a fd
theorem takeRo_get {io : List Nat} {n : Nat} {ρ : Ro} {i : Nat} (h : i < n) (hi : i ∈ io) : getRo (takeRo io n ρ) i = getRo ρ i := by
  have e : (takeRo io n ρ)[i]? = some (getRo ρ i) := by
    unfold takeRo
    rw [List.getElem?_map, List.getElem?_range h]
    have hc : io.contains i = true := by simpa using hi
    show some (if io.contains i then getRo ρ i else none) = _
    rw [if_pos hc]
  show ((takeRo io n ρ)[i]?).join = _
  rw [e]
  rfl
theorem takeRo_len {io : List Nat} {n : Nat} {ρ : Ro} : (takeRo io n ρ).length = n := by simp [takeRo]
theorem mask_inv {io : List Nat} {os : Ro} {j : Nat} {x : PV} (h : getRo (mask io os) j = some x) : j ∈ io ∧ j < os.length ∧ getRo os j = some x := by
  have h' : ((mask io os)[j]?).join = some x := h
  unfold mask at h'
  rw [List.getElem?_map] at h'
  by_cases hl : j < os.length
  · rw [List.getElem?_range hl] at h'
    have h2 : (if io.contains j then getRo os j else none) = some x := h'
    split at h2
    · rename_i hc
      exact ⟨by simpa using hc, hl, h2⟩
    · cases h2
  · rw [List.getElem?_eq_none (by simpa using Nat.le_of_not_lt hl)] at h'
    cases h'
section
variable {P : Prg} {G : Gls} {w : World} {K : Frag} {mg : Str → Option Value} {base : Heap} {pr : Program}
theorem fn_zero {K : Frag} {T : Tab} {f : Nat} {d : Fn} (hT : ∀ xs, T f xs = .bad) {a : Addr} {fd : FuncData} : FnOk pr w K mg base CX0 0 a fd (d.N.take d.np) (spF K T f d.np d.io) :=
  have no : ∀ {vs H Q E}, ¬ spF K T f d.np d.io vs H Q E := fun {vs H Q E} h => by
    obtain ⟨_, F, ap, xs, r, os, _, h, _⟩ := h
    rw [hT] at h
    cases h
  ⟨fun vs H Q E h => (no h).elim, fun A outer s H args us vs Q E _ _ _ _ h => (no h).elim⟩
theorem run_ok (D : ∀ (f : Nat) (d : Fn), P[f]? = some d → DefOk P K mg d) (hb : ∀ b ∈ builtinsUsed, mg b = none) (hg : ∀ x d, G x = some d → ∃ u v, mg x = some u ∧ RelV v u ∧ GOk K w v d) :
    ∀ (n f : Nat) (d : Fn) (st : Stmt) (a : Addr) (fd : FuncData), P[f]? = some d → DefAt P K mg d st a fd → FnOk pr w K mg base CX0 n a fd (d.N.take d.np) (spF K (run P G n) f d.np d.io)
  | 0, f, d, st, a, fd, hf, _ => fn_zero fun xs => rfl
  | n + 1, f, d, st, a, fd, hf, ⟨e1, e2, e3, e4⟩ => by
    refine e2.ok e4.sc (fun vs H Q E h => ?_) fun cdv A outer s H vs Q E hr h => ?_
    · rw [h.1, List.length_take, Nat.min_eq_left e4.np]
    · obtain ⟨hl, F, ap, xs, r, os, st0, hT, k⟩ := h
      have o : XOk P G (run P G n) n d.N (defScope st) true (cxOf CX0 pr w K mg base d.N d.name (defScope st) a cdv A outer s H E).nox :=
        ⟨rfl, rfl, e4.sc.nd, e4.sc.kind, rfl, hr, fun f' d' h' => ⟨let ⟨st', a', fd', D'⟩ := D f' d' h'; ⟨a', fd', D'.nm, D'.fn.kp, .all D'.bd, run_ok D hb hg n f' d' st' a' fd' h' D'⟩⟩, hb, hg, fun _ x => rfl⟩
      refine ⟨_, (sndS (io := d.io) o rfl d.body).bl _ e4.bd, ?_⟩
      unfold run at hT
      rw [hf] at hT
      dsimp only at hT
      obtain ⟨_, g1, hT⟩ := Res.bind_inv hT
      obtain ⟨⟨fl, ρ⟩, g2, hT⟩ := Res.bind_inv hT
      have hx : xs.length = d.np := of_decide_eq_true (Res.guard_inv g1)
      dsimp only at hT
      have hσ : ∀ i, i < d.np → (L2.start d.N vs)[i]? = (vs.map some)[i]? := fun i hi => by
        unfold L2.start
        rw [List.getElem?_append_left (by simpa [hl] using hi)]
      refine ⟨F, _, ap, fl, ρ, ⟨st0.le, ?_, fun i x hi => ?_, st0.dj, st0.kn, st0.nf⟩, g2, ?_⟩
      · unfold L2.start
        simp [hl, hx]
      · have hlt : i < xs.length := by
          rcases Nat.lt_or_ge i xs.length with h1 | h1
          · exact h1
          · exfalso
            have h2 : ((xs.map some ++ List.replicate (d.N.length - d.np) none)[i]?).join = some x := hi
            rw [List.getElem?_append_right (by simpa using h1)] at h2
            rw [List.getElem?_replicate] at h2
            split at h2 <;> cases h2
        have hi' : getRo (xs.map some) i = some x := by
          have h2 : ((xs.map some ++ List.replicate (d.N.length - d.np) none)[i]?).join = some x := hi
          rw [List.getElem?_append_left (by simpa using hlt)] at h2
          exact h2
        obtain ⟨v, q1, q2⟩ := st0.ow i x hi'
        exact ⟨v, by rw [hσ i (by rw [← hx]; exact hlt)]; exact q1, q2⟩
      · have done : ∀ {v : V} {y : PV} {σ' : L2.St} {H' F' : Hp} {fp' : Nat → As} {PP : As}, .ok (y, takeRo d.io d.np ρ) = Res.ok (r, os) → St K F' H' σ' ρ fp' → Xt F H ap F' H' fp' → (∀ i ∈ d.io, σ'[i]? = (L2.start d.N vs)[i]?) → Hd K F' H' fp' v y PP →
            (∀ a, PP a → (∃ j, ap j a) ∨ H a = none) → Q v H' := fun {v y σ' H' F' fp' PP} he s1 t1 hio h1 sub => by
          cases he
          refine k v H' F' fp' PP ⟨s1.le, ?_, fun i x hi => ?_, s1.dj, s1.kn, s1.nf⟩ t1 h1 sub
          · unfold mask
            simp [takeRo_len, hl]
          · obtain ⟨i1, i2, i3⟩ := mask_inv hi
            rw [takeRo_len] at i2
            rw [takeRo_get i2 i1] at i3
            obtain ⟨u, q1, q2⟩ := s1.ow i x i3
            exact ⟨u, by rw [← hσ i i2, ← hio i i1]; exact q1, q2⟩
        cases fl with
        | rt x => exact fun v σ' H' F' fp' PP s1 t1 hio h1 sub => done hT s1 t1 hio h1 sub
        | nx => exact fun σ' H' F' fp' s1 t1 hio => done (v := .non) (PP := none0) hT s1 t1 hio ⟨.d .non, fun _ z => z.elim, fun _ z => z.elim, fun _ z => z.elim⟩ fun _ z => z.elim
        | bk => cases hT
        | ct => cases hT
/-- one def's facts -/
theorem def_mk {h : Heap} (X : K.In h) (GN : h.Ns mainGlobals mg) {d : Fn} {x : Str} {st : Stmt} {f : Addr} {od an : Option Addr} {sl : Array (Option Value)} {oc kV dc pm cd ct : Value} {ps : List Str}
    (a1 : PySem.W.nsIn K mainGlobals x = some (some (.ref f))) (l1 : K.lookup f = some ⟨oc, od, .func (PySem.W.fnOf x x (defArgs st) (defBody st) (defScope st) .none kV dc pm an cd ct), sl⟩) (c1 : PySem.W.codeIn K cd x = true) (k1 : PySem.W.keepIn K (.ref f) = true)
    (hx : d.name = x) (hp : d.N.take d.np = ps) (b : ∀ (kV doc pm : Value) (an : Option Addr) (cdv ct : Value) (us : List Value), us.length = ps.length → bindArgs (PySem.W.fnOf x x (defArgs st) (defBody st) (defScope st) .none kV doc pm an cdv ct) ⟨us, []⟩ = pure (ps.zip us))
    (chk : chkF P d st = true) : DefOk P K mg d := by
  subst hx
  subst hp
  have F := fun_mk (st := st) l1 c1 k1
  exact ⟨st, f, _, PySem.W.mg_of X GN a1, F, b _ _ _ _ _ _, chkF_ok chk⟩
end
/-- a list whose cells are K's own, if it is the heap's -/
theorem rdl_of {K : Frag} {H : Hp} {h : Heap} {a : Addr} {xs : List V} {vs : List Value} (KX : K.In h) (e : h.get? a = some { cls := .type "list", data := .seq vs.toArray }) (s : SqL K H a xs) : RdL K H a xs := by
  rcases s with s | ⟨ob, its, m, k1, k2, k3, k4, k5, k6⟩
  · exact .inl s
  · have q := KX a ob k1
    rw [e] at q
    cases q
    cases k4
    exact .inr ⟨_, _, k1, k5, k6⟩
def scriptD (ns : List Int) : PyData := .list (ns.map .int)
theorem rps_ints {K : Frag} {H : Hp} : ∀ ns : List Int, Rps K H (ns.map V.int) (ns.map .int)
  | [] => .nil
  | i :: r => .cons (.int i) (rps_ints r)
/-- the promise at a script -/
theorem sp_script {K : Frag} {T : Tab} {f : Nat} {H : Hp} {a : Addr} {ns : List Int} {os : Ro} (h : RdL K H a (ns.map V.int)) (e : T f [.d (scriptD ns)] = .ok (.d (.bool true), os)) : spF K T f 1 [] [.ref a] H (fun v _ => v = .bl true) fun _ _ _ => False := by
  refine ⟨rfl, H, fun _ => none0, [.d (scriptD ns)], _, os, ⟨Ex.refl H, rfl, fun i x hi => ?_, fun _ _ _ z => z.elim, fun _ _ z => z.elim, fun _ _ z => z.elim⟩, e, fun v H' F' ap' PP _ _ hd _ => hd.ow.dat.bl_inv⟩
  cases i with
  | zero =>
    cases hi
    exact ⟨_, rfl, .d (.lst h (rps_ints ns))⟩
  | succ i => cases hi
section
open PySem.W
/-- THE END of a law -/
theorem walkR {l : PySem.W.OpenLaw} {m k f : Nat} {q : Program} {loose : List Str} {XP : (Str → Option Value) → Heap → Prop} {YP : World → Heap → Prop} {d : DefRec} {K : Params → Frag} {x : Str} {T : Tab}
    (hm : l.most = some m) (m2 : m ≤ sizeLine) (df : d.params.defaults = []) (room : Room k callerA) (hY : ∀ (w : World) (h : Heap), YP w h → (K w.params).In h)
    (FF : ∀ (w : World) (mg : Str → Option Value) (fa : Addr) (h : Heap), (K w.params).In h → h.Ns mainGlobals mg → mg d.name = some (.ref fa) →
      ∃ fd : FuncData, (∀ (s : Shared) (u : Value), BindsTo s fd ⟨[u], []⟩ [(x, u)]) ∧ ∀ b : Heap, (K w.params).In b → b.Ns mainGlobals mg → FnOk l.prog w (K w.params) mg b CX0 k fa fd [x] (spF (K w.params) T f 1 []))
    (law : ∀ ns : List Int, ns.length ≤ m → (∀ z ∈ ns, Builtin.Int.intBits z ≤ 1048576) → ∃ os, T f [.d (scriptD ns)] = .ok (.d (.bool true), os)) :
    PySem.W.WalkO q loose XP YP l.row.toRowW d [] (fun f vs => PySem.call f vs) := by
  refine Att.attach_callB hm df fun w _ s1 mg mb fa _ _ _ _ a vs ns GG Y _ _ _ nm obj isI le bits gens => ?_
  have KX := hY w _ Y
  obtain ⟨fd, b1, b2⟩ := FF w mg fa _ KX GG.T.g nm
  obtain ⟨os, e⟩ := law ns le bits
  exact L2.law_call KX GG.T.g GG.T.b GG.T.builtins GG.T.nolimit gens obj isI (Nat.le_trans le m2) room b2 b1 (fun H _ S => sp_script (rdl_of KX obj S) e) fun _ _ _ z => z
end
/-- .. and its own facts, from those of the defs -/
theorem law_mk {P : Prg} {G : Gls} {l : PySem.W.OpenLaw} {w : World} {K : Frag} {h : Heap} {mg : Str → Option Value} {fa : Addr} {f k : Nat} {d : Fn} {x : Str} (D : ∀ (f : Nat) (d : Fn), P[f]? = some d → DefOk P K mg d) (hb : ∀ b ∈ builtinsUsed, mg b = none)
    (hg : ∀ x d, G x = some d → ∃ u v, mg x = some u ∧ RelV v u ∧ GOk K w v d) (hf : P[f]? = some d) (hn : mg d.name = some (.ref fa)) (h1 : d.N.take d.np = [x]) (h2 : d.np = 1) (h3 : d.io = []) :
    ∃ fd : FuncData, (∀ (s : Shared) (u : Value), BindsTo s fd ⟨[u], []⟩ [(x, u)]) ∧ ∀ b : Heap, K.In b → b.Ns mainGlobals mg → FnOk l.prog w K mg b CX0 k fa fd [x] (spF K (run P G k) f 1 []) := by
  obtain ⟨st, a, fd, DD⟩ := D f d hf
  have e1 := DD.nm
  have e3 := DD.bd
  have ea := e1.symm.trans hn
  cases ea
  refine ⟨fd, fun s u => .of_eq (by rw [e3 [u] (by rw [h1]; rfl), h1]; rfl), fun b KB NB => ?_⟩
  have q4 := run_ok (G := G) (w := w) (base := b) (pr := l.prog) D hb hg k f d st fa fd hf DD
  rw [h1, h2, h3] at q4
  exact q4
/-! ### a module's constants -/
def VOk (K : Frag) (u : Value) (d : PyData) : Prop := ∃ v, RelV v u ∧ ∀ H, Rp K H v d
def VsOk (K : Frag) : List Value → List PyData → Prop
  | [], [] => True
  | u :: us, d :: ds => VOk K u d ∧ VsOk K us ds
  | _, _ => False
theorem v_str {K : Frag} {s : Str} {t : Tok} : VOk K (.str s t) (.str s) := ⟨.str s, ⟨t, rfl⟩, fun _ => .str s⟩
theorem v_int {K : Frag} {i : Int} {t : Tok} : VOk K (.int i t) (.int i) := ⟨.int i, ⟨t, rfl⟩, fun _ => .int i⟩
theorem vs_of {K : Frag} : ∀ {us : List Value} {ds : List PyData}, VsOk K us ds → ∃ vs, Vals vs us ∧ ∀ H, Rps K H vs ds
  | [], [], _ => ⟨[], .nil, fun _ => .nil⟩
  | _ :: _, _ :: _, ⟨⟨v, h1, h2⟩, h⟩ => let ⟨vs, q1, q2⟩ := vs_of h; ⟨v :: vs, .cons h1 q1, fun H => .cons (h2 H) (q2 H)⟩
  | [], _ :: _, h => h.elim
  | _ :: _, [], h => h.elim
theorem v_tup {K : Frag} {a : Addr} {od : Option Addr} {its : Array Value} {n : Nat} {sl : Array (Option Value)} {ds : List PyData} (l : K.lookup a = some ⟨.type "tuple", od, .seq its n, sl⟩) (hz : its.size ≤ sizeLine) (h : VsOk K its.toList ds) : VOk K (.ref a) (.tuple ds) := by
  obtain ⟨vs, q1, q2⟩ := vs_of h
  exact ⟨.ref a, rfl, fun H => .tup (.inr ⟨_, _, _, l, rfl, rfl, hz, q1⟩) (q2 H)⟩
def GlK (K : Frag) (w : World) (mg : Str → Option Value) (x : Str) (d : PyData) : Prop := ∃ u v, mg x = some u ∧ RelV v u ∧ GOk K w v d
section
variable {K : Frag} {w : World} {h : Heap} {mg : Str → Option Value} (X : K.In h) (GN : h.Ns mainGlobals mg) {x : Str}
include X GN
theorem gl_str {s : Str} {t : Tok} (a1 : PySem.W.nsIn K mainGlobals x = some (some (.str s t))) : GlK K w mg x (.str s) := ⟨_, .str s, PySem.W.mg_of X GN a1, ⟨t, rfl⟩, fun _ => .str s⟩
theorem gl_int {i : Int} {t : Tok} (a1 : PySem.W.nsIn K mainGlobals x = some (some (.int i t))) : GlK K w mg x (.int i) := ⟨_, .int i, PySem.W.mg_of X GN a1, ⟨t, rfl⟩, fun _ => .int i⟩
theorem gl_tup {a : Addr} {ds : List PyData} (a1 : PySem.W.nsIn K mainGlobals x = some (some (.ref a))) (v : VOk K (.ref a) (.tuple ds)) : GlK K w mg x (.tuple ds) := by
  obtain ⟨v, q1, q2⟩ := v
  exact ⟨_, v, PySem.W.mg_of X GN a1, q1, q2⟩
theorem gl_dct {p : Addr} {es : Array DictEntry} {n : Nat} {kvs : List (PyData × PyData)} (a1 : PySem.W.nsIn K mainGlobals x = some (some (.ref p))) (l1 : K.lookup p = some ⟨.type "dict", none, .dict es n, #[]⟩)
    (kl : PySem.W.KeysLit w.params es.toList) (hs : (p == sysModules) = false) (en : Ents K es.toList kvs) : GlK K w mg x (.dict kvs) :=
  ⟨.ref p, .ref p, PySem.W.mg_of X GN a1, rfl, p, es, n, rfl, l1, kl, hs, en⟩
end
end Rf
set_option maxRecDepth 100000
/-! Rf, part Q: how a term is carried out (for the plain law), by what is wanted behind it. -/
namespace Rf
open PySem Res
@[simp] theorem getRo_zero (x : Option PV) (r : Ro) : getRo (x :: r) 0 = x := rfl
@[simp] theorem getRo_succ (x : Option PV) (r : Ro) (n : Nat) : getRo (x :: r) (n + 1) = getRo r n := rfl
@[simp] theorem frzRo_nil : frzRo [] = [] := rfl
@[simp] theorem frzRo_none {r : Ro} : frzRo (none :: r) = none :: frzRo r := rfl
@[simp] theorem frzRo_d {x : PyData} {r : Ro} : frzRo (some (.d x) :: r) = some (.d x) :: frzRo r := rfl
@[simp] theorem frzRo_L {x : List PyData} {r : Ro} : frzRo (some (.L x) :: r) = some (.d (.list x)) :: frzRo r := rfl
@[simp] theorem frzRo_o {x : Option PV} {r : Ro} : frzRo (x :: r) = x.bind PV.lent :: frzRo r := rfl
@[simp] theorem lent_d {x : PyData} : (PV.d x).lent = some (.d x) := rfl
@[simp] theorem lent_L {x : List PyData} : (PV.L x).lent = some (.d (.list x)) := rfl
@[simp] theorem flat_int {i : Int} : (PV.d (.int i)).flat = true := rfl
@[simp] theorem flat_bool {i : Bool} : (PV.d (.bool i)).flat = true := rfl
@[simp] theorem flat_str {i : Str} : (PV.d (.str i)).flat = true := rfl
section
variable (T : Tab) (G : Gls)
def D (e : E) (ρ : Ro) (Q : PV → Ro → Prop) : Prop := ∃ x ρ', den T G e ρ = ok (x, ρ') ∧ Q x ρ'
def DA (e : E) (ρ : Ro) (Q : List PV → Ro → Prop) : Prop := ∃ x ρ', dens T G e ρ = ok (x, ρ') ∧ Q x ρ'
def DI (e : E) (ρ : Ro) (Q : List PyData → Ro → Prop) : Prop := ∃ x ρ', deni T G e ρ = ok (x, ρ') ∧ Q x ρ'
def W (s : S) (ρ : Ro) (Q : Fl → Ro → Prop) : Prop := ∃ f ρ', denS T G s ρ = ok (f, ρ') ∧ Q f ρ'
def Qs (r : S) (Q : Fl → Ro → Prop) : Fl → Ro → Prop
  | .nx, ρ => W T G r ρ Q
  | f, ρ => Q f ρ
end
/-- data of a value -/
def Fz (x : PV) (K : PyData → Prop) : Prop := ∃ y, x.fz = ok y ∧ K y
def Bl (x : PV) (K : Bool → Prop) : Prop := ∃ y, asBool x = ok y ∧ K y
def Bop (op : Operator) (x y : PyData) (K : PV → Prop) : Prop := ∃ z, binS op x y = ok z ∧ K z
def Cop (op : CmpOp) (x y : PyData) (K : Bool → Prop) : Prop := ∃ z, cmpS op x y = ok z ∧ K z
def Iop (x y : PyData) (K : PyData → Prop) : Prop := ∃ z, ixD x y = ok z ∧ K z
def Uop (b : Bi) (xs : List PyData) (K : PV → Prop) : Prop := ∃ z, biS b xs = ok z ∧ K z
def Mop (m : Mt) (xs zs : List PyData) (K : List PyData → PyData → Prop) : Prop := ∃ x r, mtS m xs zs = ok (x, r) ∧ K x r
def Vop (m : Mv) (x : PyData) (zs : List PyData) (K : PV → Prop) : Prop := ∃ z, mvS m x zs = ok z ∧ K z
def Fzs (xs : List PV) (K : List PyData → Prop) : Prop := ∃ y, fzs xs = ok y ∧ K y
def Cl (T : Tab) (f : Nat) (xs : List PV) (K : PV → Ro → Prop) : Prop := ∃ r os, T f xs = ok (r, os) ∧ K r os
theorem bex {α β : Type} {m : Res α} {f : α → Res β} {Q : β → Prop} : (∃ b, (Bind.bind m f : Res β) = ok b ∧ Q b) ↔ ∃ a, m = ok a ∧ ∃ b, f a = ok b ∧ Q b := by
  constructor
  · rintro ⟨b, h, q⟩
    obtain ⟨a, h1, h2⟩ := bind_inv h
    exact ⟨a, h1, b, h2, q⟩
  · rintro ⟨a, h1, b, h2, q⟩
    exact ⟨b, by rw [h1]; exact h2, q⟩
theorem pex {α β : Type} {P : α × β → Prop} : (∃ b, P b) ↔ ∃ x y, P (x, y) := ⟨fun ⟨⟨x, y⟩, h⟩ => ⟨x, y, h⟩, fun ⟨x, y, h⟩ => ⟨(x, y), h⟩⟩
theorem oex {α : Type} {x : α} {Q : α → Prop} : (∃ b, (ok x : Res α) = ok b ∧ Q b) ↔ Q x := ⟨fun ⟨b, h, q⟩ => by cases h; exact q, fun q => ⟨x, rfl, q⟩⟩
theorem bpex {α β γ : Type} {m : Res (α × β)} {f : α → β → Res γ} {Q : γ → Prop} : (∃ b, (Bind.bind m (fun z => f z.1 z.2) : Res γ) = ok b ∧ Q b) ↔ ∃ x y, m = ok (x, y) ∧ ∃ b, f x y = ok b ∧ Q b := by
  rw [bex, pex]
@[simp] theorem Fz_d (x : PyData) (K : PyData → Prop) : Fz (.d x) K ↔ K x := oex
@[simp] theorem Fz_L (x : List PyData) (K : PyData → Prop) : Fz (.L x) K ↔ K (.list x) := oex
@[simp] theorem Bl_b (b : Bool) (K : Bool → Prop) : Bl (.d (.bool b)) K ↔ K b := oex
@[simp] theorem Fzs_nil (K : List PyData → Prop) : Fzs [] K ↔ K [] := oex
@[simp] theorem Fzs_cons (x : PV) (r : List PV) (K : List PyData → Prop) : Fzs (x :: r) K ↔ Fz x fun y => Fzs r fun ys => K (y :: ys) := by
  unfold Fzs Fz
  rw [fzs_cons, bex]
  simp only [bex, oex]
section
variable {T : Tab} {G : Gls} {ρ : Ro} {Q : PV → Ro → Prop}
theorem D_def {e : E} : D T G e ρ Q ↔ ∃ z, den T G e ρ = ok z ∧ Q z.1 z.2 := by unfold D; rw [pex]
theorem DA_def {e : E} {Q : List PV → Ro → Prop} : DA T G e ρ Q ↔ ∃ z, dens T G e ρ = ok z ∧ Q z.1 z.2 := by unfold DA; rw [pex]
theorem DI_def {e : E} {Q : List PyData → Ro → Prop} : DI T G e ρ Q ↔ ∃ z, deni T G e ρ = ok z ∧ Q z.1 z.2 := by unfold DI; rw [pex]
theorem W_def {s : S} {Q : Fl → Ro → Prop} : W T G s ρ Q ↔ ∃ z, denS T G s ρ = ok z ∧ Q z.1 z.2 := by unfold W; rw [pex]
theorem Cl_def {f : Nat} {xs : List PV} : Cl T f xs Q ↔ ∃ z, T f xs = ok z ∧ Q z.1 z.2 := by unfold Cl; rw [pex]
theorem Mop_def {m : Mt} {xs zs : List PyData} {K : List PyData → PyData → Prop} : Mop m xs zs K ↔ ∃ z, mtS m xs zs = ok z ∧ K z.1 z.2 := by unfold Mop; rw [pex]
@[simp] theorem D_nm {i : Nat} : D T G (.nm i) ρ Q ↔ ∃ x, getRo ρ i = some (.d x) ∧ Q (.d x) ρ := by
  rw [D_def]
  simp only [den, bex, oex]
  constructor
  · rintro ⟨a, h, q⟩
    unfold getD at h
    split at h
    · rename_i z hz; cases h; exact ⟨_, hz, q⟩
    · cases h
  · rintro ⟨a, h, q⟩
    exact ⟨a, by unfold getD; rw [h], q⟩
@[simp] theorem D_mv {i : Nat} : D T G (.mv i) ρ Q ↔ ∃ x, getRo ρ i = some x ∧ Q x (ρ.set i none) := by
  rw [D_def]
  simp only [den]
  cases getRo ρ i with
  | none => simp
  | some x => simp [oex]
@[simp] theorem D_fz {i : Nat} : D T G (.fz i) ρ Q ↔ ∃ x, getRo ρ i = some x ∧ Fz x fun y => Q (.d y) (ρ.set i (some (.d y))) := by
  rw [D_def]
  simp only [den]
  cases getRo ρ i with
  | none => simp
  | some x =>
    simp only [bex, oex, Option.some.injEq, exists_eq_left']
    rfl
@[simp] theorem D_frz {e : E} : D T G (.frz e) ρ Q ↔ D T G e ρ fun x ρ1 => Fz x fun y => Q (.d y) ρ1 := by
  rw [D_def, D_def]; simp only [den, bex, oex]; rfl
@[simp] theorem D_bw {e : E} : D T G (.bw e) ρ Q ↔ D T G e (frzRo ρ) fun x _ => x.flat = true ∧ Q x ρ := by
  rw [D_def, D_def]; simp only [den, bex, oex]
  constructor
  · rintro ⟨a, h, u, g, q⟩
    exact ⟨a, h, guard_inv g, q⟩
  · rintro ⟨a, h, g, q⟩
    exact ⟨a, h, (), by rw [g]; rfl, q⟩
@[simp] theorem D_int {i : Int} : D T G (.int i) ρ Q ↔ Q (.d (.int i)) ρ := by rw [D_def]; exact oex
@[simp] theorem D_bl {i : Bool} : D T G (.bl i) ρ Q ↔ Q (.d (.bool i)) ρ := by rw [D_def]; exact oex
@[simp] theorem D_non : D T G .non ρ Q ↔ Q (.d .none) ρ := by rw [D_def]; exact oex
@[simp] theorem D_str {i : Str} : D T G (.str i) ρ Q ↔ Q (.d (.str i)) ρ := by rw [D_def]; exact oex
@[simp] theorem D_bin {op : Operator} {a b : E} : D T G (.bin op a b) ρ Q ↔ D T G a ρ fun x ρ1 => D T G b ρ1 fun y ρ2 => Fz x fun x' => Fz y fun y' => Bop op x' y' fun z => Q z ρ2 := by
  rw [D_def, D_def]; simp only [den, bex, oex, D_def]; rfl
@[simp] theorem D_neg {a : E} : D T G (.neg a) ρ Q ↔ D T G a ρ fun x ρ1 => ∃ i, x = .d (.int i) ∧ Q (.d (.int (-i))) ρ1 := by
  rw [D_def, D_def]; simp only [den, bex]
  constructor
  · rintro ⟨a, h, b, h2, q⟩
    split at h2
    · cases h2; rename_i e; exact ⟨a, h, _, e, q⟩
    · cases h2
  · rintro ⟨a, h, i, e, q⟩
    exact ⟨a, h, _, by rw [e], q⟩
@[simp] theorem D_not {a : E} : D T G (.not a) ρ Q ↔ D T G a ρ fun x ρ1 => Bl x fun b => Q (.d (.bool (!b))) ρ1 := by
  rw [D_def, D_def]; simp only [den, bex, oex]; rfl
@[simp] theorem D_and {a b : E} : D T G (.and a b) ρ Q ↔ D T G a ρ fun x ρ1 => Bl x fun c => if c = true then D T G b ρ1 fun y ρ2 => Bl y fun c' => Q (.d (.bool c')) ρ2 else Q (.d (.bool false)) ρ1 := by
  rw [D_def, D_def]; simp only [den, bex]
  refine exists_congr fun z => and_congr_right fun _ => exists_congr fun c => and_congr_right fun _ => ?_
  cases c with
  | true => simp only [if_true, D_def, bex, oex]; rfl
  | false => simp only [Bool.false_eq_true, if_false]; exact oex
@[simp] theorem D_or {a b : E} : D T G (.or a b) ρ Q ↔ D T G a ρ fun x ρ1 => Bl x fun c => if c = true then Q (.d (.bool true)) ρ1 else D T G b ρ1 fun y ρ2 => Bl y fun c' => Q (.d (.bool c')) ρ2 := by
  rw [D_def, D_def]; simp only [den, bex]
  refine exists_congr fun z => and_congr_right fun _ => exists_congr fun c => and_congr_right fun _ => ?_
  cases c with
  | true => simp only [if_true]; exact oex
  | false => simp only [Bool.false_eq_true, if_false, D_def, bex, oex]; rfl
@[simp] theorem D_cmp {op : CmpOp} {a b : E} : D T G (.cmp op a b) ρ Q ↔ D T G a ρ fun x ρ1 => D T G b ρ1 fun y ρ2 => Fz x fun x' => Fz y fun y' => Cop op x' y' fun z => Q (.d (.bool z)) ρ2 := by
  rw [D_def, D_def]; simp only [den, bex, oex, D_def]; rfl
@[simp] theorem D_chain {op op' : CmpOp} {a b c : E} : D T G (.chain op op' a b c) ρ Q ↔ D T G a ρ fun x ρ1 => D T G b ρ1 fun y ρ2 => Fz x fun x' => Fz y fun y' => Cop op x' y' fun z => if z = true then D T G c ρ2 fun w ρ3 => Fz w fun w' => Cop op' y' w' fun z' => Q (.d (.bool z')) ρ3 else Q (.d (.bool false)) ρ2 := by
  rw [D_def, D_def]; simp only [den, bex, D_def]
  refine exists_congr fun z => and_congr_right fun _ => exists_congr fun c => and_congr_right fun _ => exists_congr fun c => and_congr_right fun _ => exists_congr fun c => and_congr_right fun _ => exists_congr fun c => and_congr_right fun _ => ?_
  cases c with
  | true => simp only [if_true, bex, oex]; rfl
  | false => simp only [Bool.false_eq_true, if_false]; exact oex
@[simp] theorem D_isN {a : E} : D T G (.isN a) ρ Q ↔ D T G a ρ fun x ρ1 => Q (.d (.bool (match x with | .d .none => true | _ => false))) ρ1 := by
  rw [D_def, D_def]; simp only [den, bex, oex] <;> exact Iff.rfl
@[simp] theorem D_notN {a : E} : D T G (.notN a) ρ Q ↔ D T G a ρ fun x ρ1 => Q (.d (.bool (match x with | .d .none => false | _ => true))) ρ1 := by
  rw [D_def, D_def]; simp only [den, bex, oex] <;> exact Iff.rfl
@[simp] theorem D_ife {c a b : E} : D T G (.ife c a b) ρ Q ↔ D T G c ρ fun x ρ1 => Bl x fun t => if t = true then D T G a ρ1 Q else D T G b ρ1 Q := by
  rw [D_def, D_def]; simp only [den, bex]
  refine exists_congr fun z => and_congr_right fun _ => exists_congr fun c => and_congr_right fun _ => ?_
  cases c with
  | true => simp only [if_true, D_def]
  | false => simp only [Bool.false_eq_true, if_false, D_def]
@[simp] theorem D_tup {as : E} : D T G (.tup as) ρ Q ↔ DA T G as ρ fun xs ρ1 => Fzs xs fun ys => Q (.d (.tuple ys)) ρ1 := by
  rw [D_def, DA_def]; simp only [den, bex, oex]; rfl
@[simp] theorem D_lst {as : E} : D T G (.lst as) ρ Q ↔ DA T G as ρ fun xs ρ1 => Fzs xs fun ys => Q (.L ys) ρ1 := by
  rw [D_def, DA_def]; simp only [den, bex, oex]; rfl
@[simp] theorem D_ix {a b : E} : D T G (.ix a b) ρ Q ↔ D T G a ρ fun x ρ1 => D T G b ρ1 fun y ρ2 => Fz x fun x' => Fz y fun y' => Iop x' y' fun z => Q (.d z) ρ2 := by
  rw [D_def, D_def]; simp only [den, bex, oex, D_def]; rfl
@[simp] theorem D_sl {a lo hi : E} : D T G (.sl a lo hi) ρ Q ↔ D T G a ρ fun x ρ1 => D T G lo ρ1 fun l ρ2 => D T G hi ρ2 fun h ρ3 => Fz x fun x' => Fz l fun lo' => Fz h fun hi' => ∃ l' h' z, optI lo lo' = ok l' ∧ optI hi hi' = ok h' ∧ slS x' l' h' = ok z ∧ Q z ρ3 := by
  rw [D_def, D_def]; simp only [den, bex, oex, D_def]
  refine exists_congr fun _ => and_congr_right fun _ => exists_congr fun _ => and_congr_right fun _ => exists_congr fun _ => and_congr_right fun _ => exists_congr fun _ => and_congr_right fun _ => exists_congr fun _ => and_congr_right fun _ => exists_congr fun _ => and_congr_right fun _ => ?_
  constructor
  · rintro ⟨a, h, b, h2, c, h3, q⟩; exact ⟨a, b, c, h, h2, h3, q⟩
  · rintro ⟨a, b, c, h, h2, h3, q⟩; exact ⟨a, h, b, h2, c, h3, q⟩
@[simp] theorem D_lenP {p : Pl} : D T G (.lenP p) ρ Q ↔ ∃ xs, plList ρ p = ok xs ∧ Q (.d (.int xs.length)) ρ := by
  rw [D_def]; simp only [den, bex, oex]
@[simp] theorem D_bi {b : Bi} {as : E} : D T G (.bi b as) ρ Q ↔ DA T G as ρ fun xs ρ1 => Fzs xs fun ys => Uop b ys fun z => Q z ρ1 := by
  rw [D_def, DA_def]; simp only [den, bex, oex]; rfl
@[simp] theorem D_isi {a : E} {t : Ty} : D T G (.isi a t) ρ Q ↔ D T G a ρ fun x ρ1 => Fz x fun y => Q (.d (.bool (isS t y))) ρ1 := by
  rw [D_def, D_def]; simp only [den, bex, oex]; rfl
@[simp] theorem D_call {f : Nat} {as : E} : D T G (.call f as) ρ Q ↔ DA T G as ρ fun xs ρ1 => Cl T f xs fun r os => Q r (ioSet ρ1 (ios as) os) := by
  rw [D_def, DA_def]; simp only [den, bex, oex, Cl_def]
@[simp] theorem D_mt {m : Mt} {p : Pl} {as : E} : D T G (.mt m p as) ρ Q ↔ (∃ u, plList ρ p = ok u) ∧ DA T G as ρ fun ys ρ1 => Fzs ys fun zs => ∃ xs, plList ρ1 p = ok xs ∧ Mop m xs zs fun xs' r => Q (.d r) (plSet ρ1 p xs') := by
  rw [D_def, DA_def]; simp only [den, bex, oex, Mop_def]
  constructor
  · rintro ⟨u, h, q⟩; exact ⟨⟨u, h⟩, q⟩
  · rintro ⟨⟨u, h⟩, q⟩; exact ⟨u, h, q⟩
@[simp] theorem D_mtv {m : Mv} {ob as : E} : D T G (.mtv m ob as) ρ Q ↔ D T G ob ρ fun x ρ1 => DA T G as ρ1 fun ys ρ2 => Fz x fun x' => Fzs ys fun zs => Vop m x' zs fun r => Q r ρ2 := by
  rw [D_def, D_def]; simp only [den, bex, oex, DA_def]; rfl
@[simp] theorem D_ixP {i : Nat} {b : E} : D T G (.ixP (.s i) b) ρ Q ↔ (∃ u, getRo ρ i = some u) ∧ D T G b ρ fun y ρ1 => ∃ xs j x, getRo ρ1 i = some (.L xs) ∧ y = .d (.int j) ∧ L2.atI xs j = some x ∧ Q (.d x) ρ1 := by
  rw [D_def, D_def]
  simp only [den]
  cases getRo ρ i with
  | none => simp
  | some u =>
    simp only [bex, Option.some.injEq, exists_eq', true_and]
    refine exists_congr fun z => and_congr_right fun _ => ?_
    constructor
    · rintro ⟨w, h, q⟩
      split at h
      · rename_i xs j e e2
        split at h
        · rename_i x hx
          cases h
          exact ⟨xs, j, x, e, e2, hx, q⟩
        · cases h
      · cases h
    · rintro ⟨xs, j, x, e1, e2, e3, q⟩
      refine ⟨(.d x, z.2), ?_, q⟩
      rw [e1, e2]
      simp only [e3]
@[simp] theorem D_ixK {i : Nat} {key : Str} {b : E} : D T G (.ixP (.k i key) b) ρ Q ↔ (∃ u, getRo ρ i = some u) ∧ D T G b ρ fun y ρ1 => ∃ kvs k x, getRo ρ1 i = some (.M kvs) ∧ y = .d (.str k) ∧ kvGet k kvs = some (.d x) ∧ Q (.d x) ρ1 := by
  rw [D_def, D_def]
  simp only [den]
  cases getRo ρ i with
  | none => simp
  | some u =>
    simp only [bex, Option.some.injEq, exists_eq', true_and]
    refine exists_congr fun z => and_congr_right fun _ => ?_
    constructor
    · rintro ⟨w, h, q⟩
      split at h
      · rename_i kvs k e e2
        split at h
        · rename_i x hx
          cases h
          exact ⟨kvs, k, x, e, e2, hx, q⟩
        · cases h
      · cases h
    · rintro ⟨kvs, k, x, e1, e2, e3, q⟩
      refine ⟨(.d x, z.2), ?_, q⟩
      rw [e1, e2]
      simp only [e3]
@[simp] theorem D_lrev {e : E} : D T G (.lrev e) ρ Q ↔ D T G e ρ fun x ρ1 => Fz x fun y => ∃ xs, y = .list xs ∧ Q (.L xs.reverse) ρ1 := by
  rw [D_def, D_def]; simp only [den, bex]
  refine exists_congr fun z => and_congr_right fun _ => ?_
  show _ ↔ ∃ y, _ ∧ _
  refine exists_congr fun y => and_congr_right fun _ => ?_
  constructor
  · rintro ⟨w, h, q⟩
    split at h
    · cases h; exact ⟨_, rfl, q⟩
    · cases h
  · rintro ⟨xs, rfl, q⟩
    exact ⟨_, rfl, q⟩
@[simp] theorem D_ixG {x : Str} {e : E} : D T G (.ixG x e) ρ Q ↔ D T G e ρ fun y ρ1 => ∃ kvs k d, G x = some (.dict kvs) ∧ y = .d (.str k) ∧ dget k kvs = some d ∧ Q (.d d) ρ1 := by
  rw [D_def, D_def]; simp only [den, bex]
  refine exists_congr fun ⟨y, ρ1⟩ => and_congr_right fun _ => ?_
  dsimp only
  constructor
  · rintro ⟨z, h, q⟩
    split at h
    · rename_i kvs k e1 _
      split at h
      · rename_i d e2
        cases h
        exact ⟨kvs, k, d, e1, rfl, e2, q⟩
      · cases h
    · cases h
  · rintro ⟨kvs, k, d, e1, rfl, e2, q⟩
    refine ⟨(.d d, ρ1), ?_, q⟩
    simp only [e1, e2]
@[simp] theorem D_inG {x : Str} {e : E} : D T G (.inG x e) ρ Q ↔ D T G e ρ fun y ρ1 => ∃ kvs k, G x = some (.dict kvs) ∧ y = .d (.str k) ∧ Q (.d (.bool (dget k kvs).isSome)) ρ1 := by
  rw [D_def, D_def]; simp only [den, bex]
  refine exists_congr fun ⟨y, ρ1⟩ => and_congr_right fun _ => ?_
  dsimp only
  constructor
  · rintro ⟨z, h, q⟩
    split at h
    · rename_i kvs k e1 _
      cases h
      exact ⟨kvs, k, e1, rfl, q⟩
    · cases h
  · rintro ⟨kvs, k, e1, rfl, q⟩
    refine ⟨(_, ρ1), ?_, q⟩
    simp only [e1]
def RevO (y : PyData) (Q : PV → Prop) : Prop := match y with
  | .list xs => Q (.L xs.reverse)
  | .tuple xs => Q (.d (.tuple xs.reverse))
  | _ => False
@[simp] theorem RevO_lst {xs : List PyData} {Q : PV → Prop} : RevO (.list xs) Q ↔ Q (.L xs.reverse) := Iff.rfl
@[simp] theorem RevO_tup {xs : List PyData} {Q : PV → Prop} : RevO (.tuple xs) Q ↔ Q (.d (.tuple xs.reverse)) := Iff.rfl
@[simp] theorem D_rev {e : E} : D T G (.rev e) ρ Q ↔ D T G e ρ fun x ρ1 => Fz x fun y => RevO y fun z => Q z ρ1 := by
  rw [D_def, D_def]; simp only [den, bex]
  refine exists_congr fun z => and_congr_right fun _ => ?_
  show _ ↔ ∃ y, _ ∧ _
  refine exists_congr fun y => and_congr_right fun _ => ?_
  constructor
  · rintro ⟨w, h, q⟩
    split at h
    · cases h; exact q
    · cases h; exact q
    · cases h
  · intro q
    cases y with
    | list xs => exact ⟨_, rfl, q⟩
    | tuple xs => exact ⟨_, rfl, q⟩
    | _ => exact q.elim
@[simp] theorem D_ixM {a b : E} : D T G (.ixM a b) ρ Q ↔ D T G a ρ fun x ρ1 => D T G b ρ1 fun y ρ2 => ∃ kvs k z, x = .M kvs ∧ y = .d (.str k) ∧ kvGet k kvs = some (.d z) ∧ Q (.d z) ρ2 := by
  rw [D_def, D_def]; simp only [den, bex]
  refine exists_congr fun ⟨x, ρ1⟩ => and_congr_right fun _ => ?_
  rw [D_def]
  refine exists_congr fun ⟨y, ρ2⟩ => and_congr_right fun _ => ?_
  dsimp only
  constructor
  · rintro ⟨w, h, q⟩
    split at h
    · rename_i kvs k _ _
      split at h
      · rename_i z e2
        cases h
        exact ⟨kvs, k, z, rfl, rfl, e2, q⟩
      · cases h
    · cases h
  · rintro ⟨kvs, k, z, rfl, rfl, e2, q⟩
    refine ⟨(.d z, ρ2), ?_, q⟩
    simp only [e2]
theorem D_callL {f g : Nat} {b as : E} : D T G (.callL f g b as) ρ Q ↔ D T G b ρ fun y ρ1 => ∃ i : Int, y = .d (.int i) ∧ ((i = 0 ∧ D T G (.call f as) ρ1 Q) ∨ (i = 1 ∧ D T G (.call g as) ρ1 Q)) := by
  rw [D_def, D_def]
  constructor
  · rintro ⟨z, h, q⟩
    simp only [den] at h
    obtain ⟨⟨y, ρ1⟩, h1, h2⟩ := Res.bind_inv h
    refine ⟨(y, ρ1), h1, ?_⟩
    cases y with
    | d y =>
      cases y with
      | int i =>
        refine ⟨i, rfl, ?_⟩
        dsimp only at h2
        by_cases h0 : i = 0
        · rw [if_pos h0] at h2
          refine .inl ⟨h0, D_def.mpr ⟨z, ?_, q⟩⟩
          simp only [den]
          exact h2
        · rw [if_neg h0] at h2
          by_cases h1 : i = 1
          · rw [if_pos h1] at h2
            refine .inr ⟨h1, D_def.mpr ⟨z, ?_, q⟩⟩
            simp only [den]
            exact h2
          · rw [if_neg h1] at h2
            cases h2
      | _ => cases h2
    | _ => cases h2
  · rintro ⟨⟨y, ρ1⟩, h1, i, h2, h3⟩
    dsimp only at h2 h3
    subst h2
    rcases h3 with ⟨rfl, h3⟩ | ⟨rfl, h3⟩
    · obtain ⟨z, h4, q⟩ := D_def.mp h3
      refine ⟨z, ?_, q⟩
      simp only [den] at h4 ⊢
      rw [h1]
      exact h4
    · obtain ⟨z, h4, q⟩ := D_def.mp h3
      refine ⟨z, ?_, q⟩
      simp only [den] at h4 ⊢
      rw [h1]
      exact h4
def DctOk (ks : List Str) (xs : List PV) (K : List (Str × CV) → Prop) : Prop := (ks.length = xs.length ∧ ks.Nodup) ∧ ∃ ys, xs.mapM PV.cv = some ys ∧ K (ks.zip ys)
@[simp] theorem D_dct {ks : List Str} {as : E} : D T G (.dct ks as) ρ Q ↔ DA T G as ρ fun xs ρ1 => DctOk ks xs fun kvs => Q (.M kvs) ρ1 := by
  rw [D_def, DA_def]; simp only [den, bex]
  refine exists_congr fun z => and_congr_right fun _ => ?_
  unfold DctOk
  constructor
  · rintro ⟨u, g, w, h, q⟩
    refine ⟨of_decide_eq_true (guard_inv g), ?_⟩
    split at h
    · rename_i ys hy
      cases h
      exact ⟨ys, hy, q⟩
    · cases h
  · rintro ⟨g, ys, hy, q⟩
    refine ⟨(), by rw [decide_eq_true g]; rfl, (.M (ks.zip ys), z.2), ?_, q⟩
    rw [hy]
@[simp] theorem DA_nil {Q : List PV → Ro → Prop} : DA T G .nil ρ Q ↔ Q [] ρ := by rw [DA_def]; exact oex
@[simp] theorem DA_cons {a r : E} {Q : List PV → Ro → Prop} (h : ∀ i, a ≠ .io i) : DA T G (.cons a r) ρ Q ↔ D T G a ρ fun x ρ1 => DA T G r ρ1 fun xs ρ2 => Q (x :: xs) ρ2 := by
  rw [DA_def, D_def]
  have e : dens T G (.cons a r) ρ = (do
    let (x, ρ1) ← den T G a ρ
    let (xs, ρ2) ← dens T G r ρ1
    ok (x :: xs, ρ2)) := by
    cases a <;> first | rfl | exact absurd rfl (h _)
  rw [e]
  simp only [bex, oex, DA_def]
@[simp] theorem DA_io {i : Nat} {r : E} {Q : List PV → Ro → Prop} : DA T G (.cons (.io i) r) ρ Q ↔ (∃ u, getRo ρ i = some u) ∧ DA T G r ρ fun xs ρ1 => ∃ x, getRo ρ1 i = some x ∧ Q (x :: xs) ρ1 := by
  rw [DA_def, DA_def]
  simp only [dens]
  cases getRo ρ i with
  | none => simp
  | some u =>
    simp only [bex, Option.some.injEq, exists_eq', true_and]
    refine exists_congr fun z => and_congr_right fun _ => ?_
    cases getRo z.2 i with
    | none => simp
    | some x => simp [oex]
@[simp] theorem DI_itL {e : E} {Q : List PyData → Ro → Prop} : DI T G (.itL e) ρ Q ↔ D T G e ρ fun x ρ1 => Fz x fun y => ∃ xs, itemsD y = ok xs ∧ Q xs ρ1 := by
  rw [DI_def, D_def]; simp only [deni, bex, oex]; rfl
def ZipO (x y : PyData) (Q : List PyData → Prop) : Prop := match x, y with
  | .list xs, .list ys => Q (zip2 xs ys)
  | .tuple xs, .tuple ys => Q (zip2 xs ys)
  | _, _ => False
@[simp] theorem ZipO_lst {xs ys : List PyData} {Q : List PyData → Prop} : ZipO (.list xs) (.list ys) Q ↔ Q (zip2 xs ys) := Iff.rfl
@[simp] theorem ZipO_tup {xs ys : List PyData} {Q : List PyData → Prop} : ZipO (.tuple xs) (.tuple ys) Q ↔ Q (zip2 xs ys) := Iff.rfl
@[simp] theorem DI_itZip {a b : E} {Q : List PyData → Ro → Prop} : DI T G (.itZip a b) ρ Q ↔ D T G a ρ fun x ρ1 => D T G b ρ1 fun y ρ2 => Fz x fun x' => Fz y fun y' => ZipO x' y' fun xs => Q xs ρ2 := by
  rw [DI_def, D_def]; simp only [deni, bex, D_def]
  refine exists_congr fun z => and_congr_right fun _ => exists_congr fun z => and_congr_right fun _ => ?_
  show _ ↔ ∃ y, _ ∧ ∃ y, _ ∧ _
  refine exists_congr fun y => and_congr_right fun _ => exists_congr fun y => and_congr_right fun _ => ?_
  unfold ZipO
  constructor
  · rintro ⟨w, h, q⟩
    split at h
    · cases h; exact q
    · cases h; exact q
    · cases h
  · intro q
    split at q
    · exact ⟨_, rfl, q⟩
    · exact ⟨_, rfl, q⟩
    · exact q.elim
@[simp] theorem DI_itEn {a : E} {Q : List PyData → Ro → Prop} : DI T G (.itEn a) ρ Q ↔ D T G a ρ fun x ρ1 => Fz x fun x' => ∃ xs, x' = .list xs ∧ Q (zipI 0 xs) ρ1 := by
  rw [DI_def, D_def]; simp only [deni, bex]
  refine exists_congr fun z => and_congr_right fun _ => ?_
  show _ ↔ ∃ y, _ ∧ _
  refine exists_congr fun y => and_congr_right fun _ => ?_
  constructor
  · rintro ⟨w, h, q⟩
    split at h
    · cases h; exact ⟨_, rfl, q⟩
    · cases h
  · rintro ⟨xs, rfl, q⟩
    exact ⟨_, rfl, q⟩
@[simp] theorem DI_itZipN {a b : E} {Q : List PyData → Ro → Prop} : DI T G (.itZipN a b) ρ Q ↔ D T G a ρ fun x ρ1 => D T G b ρ1 fun y ρ2 => Fz x fun x' => Fz y fun y' => ∃ xs ys, x' = .list xs ∧ y' = .list ys ∧ Q (zip2 xs ys) ρ2 := by
  rw [DI_def, D_def]; simp only [deni, bex, D_def]
  refine exists_congr fun z => and_congr_right fun _ => exists_congr fun z => and_congr_right fun _ => ?_
  show _ ↔ ∃ y, _ ∧ ∃ y, _ ∧ _
  refine exists_congr fun y => and_congr_right fun _ => exists_congr fun y => and_congr_right fun _ => ?_
  constructor
  · rintro ⟨w, h, q⟩
    split at h
    · cases h; exact ⟨_, _, rfl, rfl, q⟩
    · cases h
  · rintro ⟨xs, ys, rfl, rfl, q⟩
    exact ⟨_, rfl, q⟩
theorem guard_ex {b : Bool} {K : Prop} : (∃ u, Res.guard b = ok u ∧ K) ↔ b = true ∧ K := ⟨fun ⟨u, h, k⟩ => ⟨guard_inv h, k⟩, fun ⟨h, k⟩ => ⟨(), by rw [h]; rfl, k⟩⟩
@[simp] theorem DI_itR1 {e : E} {Q : List PyData → Ro → Prop} : DI T G (.itR1 e) ρ Q ↔ D T G e ρ fun x ρ1 => ∃ n : Int, x = .d (.int n) ∧ (n < 2 ^ 62 ∧ -(2 ^ 62) ≤ n) ∧ Q (rngI 0 n.toNat) ρ1 := by
  rw [DI_def, D_def]; simp only [deni, bex]
  refine exists_congr fun z => and_congr_right fun _ => ?_
  constructor
  · rintro ⟨b, h, q⟩
    split at h
    · rename_i n e
      obtain ⟨u, g, h⟩ := bind_inv h
      cases h
      exact ⟨n, e, of_decide_eq_true (guard_inv g), q⟩
    · cases h
  · rintro ⟨n, e, g, q⟩
    refine ⟨(rngI 0 n.toNat, z.2), ?_, q⟩
    rw [e]
    simp only [decide_eq_true g]
    rfl
@[simp] theorem DI_itR2 {a b : E} {Q : List PyData → Ro → Prop} : DI T G (.itR2 a b) ρ Q ↔ D T G a ρ fun x ρ1 => D T G b ρ1 fun y ρ2 => ∃ m n : Int, x = .d (.int m) ∧ y = .d (.int n) ∧ (n < 2 ^ 62 ∧ -(2 ^ 62) ≤ n ∧ m < 2 ^ 62 ∧ -(2 ^ 62) ≤ m) ∧ Q (rngI m (n - m).toNat) ρ2 := by
  rw [DI_def, D_def]; simp only [deni, bex, D_def]
  refine exists_congr fun z => and_congr_right fun _ => exists_congr fun z => and_congr_right fun _ => ?_
  constructor
  · rintro ⟨b, h, q⟩
    split at h
    · rename_i m n e e2
      obtain ⟨u, g, h⟩ := bind_inv h
      cases h
      exact ⟨m, n, e, e2, of_decide_eq_true (guard_inv g), q⟩
    · cases h
  · rintro ⟨m, n, e, e2, g, q⟩
    refine ⟨(rngI m (n - m).toNat, _), ?_, q⟩
    rw [e, e2]
    simp only [decide_eq_true g]
    rfl
end
section
variable (T : Tab) (G : Gls)
/-- one turn of a list comprehension -/
def LB (g : Tg) (c e : E) (vs : List Nat) (x : PyData) (ρ : Ro) : Res (Option PyData × Ro) := do
  let ρ3 ← stTg g x ρ
  let (t, ρ4) ← den T G c ρ3
  let b ← asBool t
  if b then (do let (y, ρ5) ← den T G e ρ4; let y' ← y.fz; ok (some y', wipeR ρ5 vs)) else ok (none, wipeR ρ4 vs)
def LBw (g : Tg) (c e : E) (vs : List Nat) (x : PyData) (ρ : Ro) (K : Option PyData → Ro → Prop) : Prop :=
  ∃ ρ3, stTg g x ρ = ok ρ3 ∧ D T G c ρ3 fun t ρ4 => Bl t fun b => if b = true then D T G e ρ4 fun y ρ5 => Fz y fun y' => K (some y') (wipeR ρ5 vs) else K none (wipeR ρ4 vs)
end
section
variable {T : Tab} {G : Gls} {ρ : Ro} {Q : PV → Ro → Prop}
theorem LB_of {g : Tg} {c e : E} {vs : List Nat} {x : PyData} {o : Option PyData} {ρ' : Ro} (h : LBw T G g c e vs x ρ fun o' ρ'' => o' = o ∧ ρ'' = ρ') : LB T G g c e vs x ρ = ok (o, ρ') := by
  obtain ⟨ρ3, h1, t, ρ4, h2, b, h3, h4⟩ := h
  unfold LB
  rw [h1]
  show (do let (t, ρ4) ← den T G c ρ3; _) = _
  rw [h2]
  show (do let b ← asBool t; _) = _
  rw [h3]
  cases b with
  | true =>
    obtain ⟨y, ρ5, h5, y', h6, rfl, rfl⟩ := h4
    show (do let (y, ρ5) ← den T G e ρ4; _) = _
    rw [h5]
    show (do let y' ← y.fz; _) = _
    rw [h6]
    rfl
  | false =>
    obtain ⟨rfl, rfl⟩ := h4
    rfl
theorem lc_ok {g : Tg} {c e : E} {vs : List Nat} (h : PyData → Option PyData) : ∀ (xs : List PyData) (ρ0 : Ro), (∀ x ∈ xs, LBw T G g c e vs x ρ0 fun o ρ' => o = h x ∧ ρ' = ρ0) → lcF (LB T G g c e vs) xs ρ0 = ok (xs.filterMap h, ρ0)
  | [], ρ0, _ => rfl
  | x :: xs, ρ0, hb => by
    have h1 := LB_of (hb x List.mem_cons_self)
    have h2 := lc_ok h xs ρ0 fun y hy => hb y (List.mem_cons_of_mem _ hy)
    show (do let (o, ρ1) ← LB T G g c e vs x ρ0; let (ys, ρ2) ← lcF (LB T G g c e vs) xs ρ1; ok (oCons o ys, ρ2)) = _
    rw [h1]
    show (do let (ys, ρ2) ← lcF (LB T G g c e vs) xs ρ0; ok (oCons (h x) ys, ρ2)) = _
    rw [h2]
    cases hh : h x with
    | none => rw [List.filterMap_cons_none hh]; rfl
    | some y => rw [List.filterMap_cons_some hh]; rfl
theorem D_lc {g : Tg} {it c e : E} {vs : List Nat} : D T G (.lc g it c e vs) ρ Q ↔ DI T G it ρ fun xs ρ1 => wipeOk ρ1 vs = true ∧ ∃ ys ρ2, lcF (LB T G g c e vs) xs (wipeR ρ1 vs) = ok (ys, ρ2) ∧ ys.length ≤ 1000000 ∧ Q (.L ys) (wipeBack ρ1 ρ2 vs) := by
  rw [D_def, DI_def]
  simp only [den, bex, oex]
  refine exists_congr fun z => and_congr_right fun _ => ?_
  constructor
  · rintro ⟨u, g1, w, h1, u2, g2, q⟩
    exact ⟨guard_inv g1, w.1, w.2, h1, of_decide_eq_true (guard_inv g2), q⟩
  · rintro ⟨g1, ys, ρ2, h1, g2, q⟩
    exact ⟨(), by rw [g1]; rfl, (ys, ρ2), h1, (), by rw [decide_eq_true g2]; rfl, q⟩
/-- .. whose turns leave all else as it is -/
theorem D_lcF {g : Tg} {it c e : E} {vs : List Nat} (h : PyData → Option PyData) (hw : DI T G it ρ fun xs ρ1 => wipeOk ρ1 vs = true ∧ (∀ x ∈ xs, LBw T G g c e vs x (wipeR ρ1 vs) fun o ρ' => o = h x ∧ ρ' = wipeR ρ1 vs) ∧ xs.length ≤ 1000000 ∧ Q (.L (xs.filterMap h)) (wipeBack ρ1 (wipeR ρ1 vs) vs)) : D T G (.lc g it c e vs) ρ Q := by
  refine D_lc.mpr ?_
  obtain ⟨xs, ρ1, e1, h1, h2, h3, h4⟩ := hw
  exact ⟨xs, ρ1, e1, h1, _, _, lc_ok h xs _ h2, Nat.le_trans (List.length_filterMap_le _ _) h3, h4⟩
end
section
variable {T : Tab} {G : Gls} {ρ : Ro} {Q : Fl → Ro → Prop}
@[simp] theorem Qs_nx {r : S} : Qs T G r Q .nx ρ ↔ W T G r ρ Q := Iff.rfl
@[simp] theorem Qs_rt {r : S} {x : PV} : Qs T G r Q (.rt x) ρ ↔ Q (.rt x) ρ := Iff.rfl
@[simp] theorem Qs_bk {r : S} : Qs T G r Q .bk ρ ↔ Q .bk ρ := Iff.rfl
@[simp] theorem Qs_ct {r : S} : Qs T G r Q .ct ρ ↔ Q .ct ρ := Iff.rfl
@[simp] theorem W_nil : W T G .nil ρ Q ↔ Q .nx ρ := by rw [W_def]; simp only [denS]; exact oex
@[simp] theorem W_seq {s r : S} : W T G (.seq s r) ρ Q ↔ W T G s ρ (Qs T G r Q) := by
  rw [W_def, W_def]; simp only [denS, bex]
  refine exists_congr fun z => and_congr_right fun _ => ?_
  obtain ⟨f, ρ1⟩ := z
  cases f with
  | nx => exact W_def.symm
  | rt x => exact oex
  | bk => exact oex
  | ct => exact oex
@[simp] theorem W_asg {i : Nat} {e : E} : W T G (.asg i e) ρ Q ↔ D T G e ρ fun x ρ1 => Q .nx (ρ1.set i (some x)) := by
  rw [W_def, D_def]; simp only [denS, bex, oex]
@[simp] theorem W_unp {g : Tg} {e : E} : W T G (.unp g e) ρ Q ↔ D T G e ρ fun x ρ1 => Fz x fun y => ∃ ρ2, stTg g y ρ1 = ok ρ2 ∧ Q .nx ρ2 := by
  rw [W_def, D_def]; simp only [denS, bex, oex]; rfl
@[simp] theorem W_aug {i : Nat} {op : Operator} {e : E} : W T G (.aug i op e) ρ Q ↔ ∃ x, getRo ρ i = some (.d x) ∧ D T G e ρ fun y ρ1 => ∃ z, augS op x y = ok z ∧ Q .nx (ρ1.set i (some (.d (.int z)))) := by
  rw [W_def]; simp only [denS, bex, oex, D_def]
  constructor
  · rintro ⟨x, h, q⟩
    unfold getD at h
    split at h
    · rename_i z hz; cases h; exact ⟨_, hz, q⟩
    · cases h
  · rintro ⟨x, h, q⟩
    exact ⟨x, by unfold getD; rw [h], q⟩
@[simp] theorem W_setP {i : Nat} {k v : E} : W T G (.setP (.s i) k v) ρ Q ↔ D T G v ρ fun y ρ1 => (∃ u, getRo ρ1 i = some u) ∧ D T G k ρ1 fun kk ρ2 => ∃ xs j, getRo ρ2 i = some (.L xs) ∧ kk = .d (.int j) ∧ Fz y fun y' => ∃ m, L2.ixN xs.length j = some m ∧ Q .nx (ρ2.set i (some (.L (xs.set m y')))) := by
  rw [W_def, D_def]; simp only [denS, bex, D_def]
  refine exists_congr fun z => and_congr_right fun _ => ?_
  cases getRo z.2 i with
  | none => simp
  | some u =>
    simp only [bex, Option.some.injEq, exists_eq', true_and]
    refine exists_congr fun w => and_congr_right fun _ => ?_
    constructor
    · rintro ⟨r, h, q⟩
      split at h
      · rename_i xs j e e2
        obtain ⟨y', g1, h⟩ := bind_inv h
        split at h
        · rename_i m hm
          cases h
          exact ⟨xs, j, e, e2, y', g1, m, hm, q⟩
        · cases h
      · cases h
    · rintro ⟨xs, j, e1, e2, y', g1, m, hm, q⟩
      refine ⟨(.nx, w.2.set i (some (.L (xs.set m y')))), ?_, q⟩
      rw [e1, e2]
      simp only [g1, bind_ok, hm]
@[simp] theorem W_setK {i : Nat} {key : Str} {k v : E} : W T G (.setP (.k i key) k v) ρ Q ↔ D T G v ρ fun y ρ1 => (∃ u, getRo ρ1 i = some u) ∧ D T G k ρ1 fun kk ρ2 => ∃ kvs c, getRo ρ2 i = some (.M kvs) ∧ kk = .d (.str key) ∧ kvs.length < 1000000 ∧ kvGet key kvs = some c ∧ Fz y fun y' => Q .nx (ρ2.set i (some (.M (kvSet key (.d y') kvs)))) := by
  rw [W_def, D_def]; simp only [denS, bex, D_def]
  refine exists_congr fun z => and_congr_right fun _ => ?_
  cases getRo z.2 i with
  | none => simp
  | some u =>
    simp only [bex, Option.some.injEq, exists_eq', true_and]
    refine exists_congr fun w => and_congr_right fun _ => ?_
    constructor
    · rintro ⟨r, h, q⟩
      split at h
      · rename_i kvs s e e2
        obtain ⟨y', g1, h⟩ := bind_inv h
        split at h
        · rename_i c hk hc
          cases h
          obtain ⟨rfl, hs⟩ := of_decide_eq_true hk
          exact ⟨kvs, c, e, e2, hs, hc, y', g1, q⟩
        · cases h
      · cases h
    · rintro ⟨kvs, c, e1, e2, hs, hc, y', g1, q⟩
      refine ⟨(.nx, w.2.set i (some (.M (kvSet key (.d y') kvs)))), ?_, q⟩
      rw [e1, e2]
      simp only [g1, bind_ok, hc, hs, and_self, decide_true]
@[simp] theorem W_setSl {i : Nat} {lo hi v : E} : W T G (.setSl (.s i) lo hi v) ρ Q ↔ D T G v ρ fun y ρ1 => (∃ u, getRo ρ1 i = some u) ∧ D T G lo ρ1 fun l ρ2 => D T G hi ρ2 fun h ρ3 => Fz y fun y' => ∃ xs a b ys, getRo ρ3 i = some (.L xs) ∧ l = .d (.int a) ∧ h = .d (.int b) ∧ y' = .list ys ∧
    (0 ≤ a ∧ a ≤ b ∧ b ≤ xs.length ∧ xs.length + ys.length ≤ 1000000) ∧ Q .nx (ρ3.set i (some (.L (xs.take a.toNat ++ ys ++ xs.drop b.toNat)))) := by
  rw [W_def, D_def]; simp only [denS, bex, D_def]
  refine exists_congr fun z => and_congr_right fun _ => ?_
  cases getRo z.2 i with
  | none => simp
  | some u =>
    simp only [bex, Option.some.injEq, exists_eq', true_and]
    refine exists_congr fun w => and_congr_right fun _ => exists_congr fun w2 => and_congr_right fun _ => ?_
    constructor
    · rintro ⟨y', g1, r, h, q⟩
      refine ⟨y', g1, ?_⟩
      split at h
      · rename_i xs a b ys e1 e2 e3
        obtain ⟨u2, g2, h⟩ := bind_inv h
        cases h
        exact ⟨xs, a, b, ys, e1, e2, e3, rfl, of_decide_eq_true (guard_inv g2), q⟩
      · cases h
    · rintro ⟨y', g1, xs, a, b, ys, e1, e2, e3, rfl, g2, q⟩
      refine ⟨_, g1, (.nx, w2.2.set i (some (.L (xs.take a.toNat ++ ys ++ xs.drop b.toNat)))), ?_, q⟩
      rw [e1, e2, e3]
      simp only [decide_eq_true g2]
      rfl
@[simp] theorem W_ex {e : E} : W T G (.ex e) ρ Q ↔ D T G e ρ fun _ ρ1 => Q .nx ρ1 := by
  rw [W_def, D_def]; simp only [denS, bex, oex]
@[simp] theorem W_ife {c : E} {a b : S} : W T G (.ife c a b) ρ Q ↔ D T G c ρ fun x ρ1 => Bl x fun t => if t = true then W T G a ρ1 Q else W T G b ρ1 Q := by
  rw [W_def, D_def]; simp only [denS, bex]
  refine exists_congr fun z => and_congr_right fun _ => exists_congr fun c => and_congr_right fun _ => ?_
  cases c with
  | true => simp only [if_true, W_def]
  | false => simp only [Bool.false_eq_true, if_false, W_def]
@[simp] theorem W_ret {e : E} : W T G (.ret e) ρ Q ↔ D T G e ρ fun x ρ1 => Q (.rt x) ρ1 := by
  rw [W_def, D_def]; simp only [denS, bex, oex]
@[simp] theorem W_retN : W T G .retN ρ Q ↔ Q (.rt (.d .none)) ρ := by rw [W_def]; simp only [denS]; exact oex
@[simp] theorem W_pass : W T G .pass ρ Q ↔ Q .nx ρ := by rw [W_def]; simp only [denS]; exact oex
@[simp] theorem W_brk : W T G .brk ρ Q ↔ Q .bk ρ := by rw [W_def]; simp only [denS]; exact oex
@[simp] theorem W_cnt : W T G .cnt ρ Q ↔ Q .ct ρ := by rw [W_def]; simp only [denS]; exact oex
@[simp] theorem W_for {g : Tg} {it : E} {b : S} : W T G (.for_ g it b) ρ Q ↔ DI T G it ρ fun xs ρ1 => ∃ f ρ', forF (fun x ρ => do let ρ2 ← stTg g x ρ; denS T G b ρ2) xs ρ1 = ok (f, ρ') ∧ Q f ρ' := by
  rw [W_def, DI_def]; simp only [denS, bex]
  refine exists_congr fun z => and_congr_right fun _ => ?_
  rw [pex]
/-- the end of a turn -/
def Tu (P : Ro → Prop) (Q : Fl → Ro → Prop) : Fl → Ro → Prop
  | .nx, ρ => P ρ
  | .ct, ρ => P ρ
  | .bk, ρ => Q .nx ρ
  | .rt x, ρ => Q (.rt x) ρ
@[simp] theorem Tu_nx {P : Ro → Prop} : Tu P Q .nx ρ ↔ P ρ := Iff.rfl
@[simp] theorem Tu_ct {P : Ro → Prop} : Tu P Q .ct ρ ↔ P ρ := Iff.rfl
@[simp] theorem Tu_bk {P : Ro → Prop} : Tu P Q .bk ρ ↔ Q .nx ρ := Iff.rfl
@[simp] theorem Tu_rt {P : Ro → Prop} {x : PV} : Tu P Q (.rt x) ρ ↔ Q (.rt x) ρ := Iff.rfl
/-- a for, by what holds with so many items left -/
theorem for_ok {g : Tg} {b : S} (P : List PyData → Ro → Prop) (hn : ∀ ρ, P [] ρ → Q .nx ρ) (hc : ∀ x xs ρ, P (x :: xs) ρ → ∃ ρ2, stTg g x ρ = ok ρ2 ∧ W T G b ρ2 (Tu (P xs) Q)) :
    ∀ (xs : List PyData) (ρ : Ro), P xs ρ → ∃ f ρ', forF (fun x ρ => do let ρ2 ← stTg g x ρ; denS T G b ρ2) xs ρ = ok (f, ρ') ∧ Q f ρ'
  | [], ρ, h => ⟨.nx, ρ, rfl, hn ρ h⟩
  | x :: xs, ρ, h => by
    obtain ⟨ρ2, e, f, ρ3, e2, q⟩ := hc x xs ρ h
    have e3 : (do let ρ2 ← stTg g x ρ; denS T G b ρ2) = ok (f, ρ3) := by rw [e]; exact e2
    unfold forF
    rw [e3]
    cases f with
    | nx => exact for_ok P hn hc xs ρ3 q
    | ct => exact for_ok P hn hc xs ρ3 q
    | bk => exact ⟨_, _, rfl, q⟩
    | rt x => exact ⟨_, _, rfl, q⟩
theorem whl_step {c : E} {b : S} {P : Ro → Prop} {m : Ro → Nat} (h : ∀ ρ, P ρ → D T G c ρ fun x ρ1 => Bl x fun t => if t = true then W T G b ρ1 (Tu (fun ρ2 => P ρ2 ∧ m ρ2 < m ρ) Q) else Q .nx ρ1) (ρ : Ro) (hp : P ρ) (ih : ∀ ρ2, P ρ2 → m ρ2 < m ρ → W T G (.whl c b) ρ2 Q) : W T G (.whl c b) ρ Q := by
  obtain ⟨x, ρ1, e, t, et, q⟩ := h ρ hp
  unfold W
  simp only [denS]
  rw [whl_eq]
  have ec : (do let (x, ρ1) ← den T G c ρ; let t ← asBool x; ok (t, ρ1)) = ok (t, ρ1) := by
    rw [e]
    show (do let t ← asBool x; ok (t, ρ1)) = _
    rw [et]
    rfl
  rw [ec]
  cases t with
  | false => exact ⟨_, _, rfl, q⟩
  | true =>
    obtain ⟨f, ρ2, e2, q2⟩ := q
    dsimp only
    rw [e2]
    cases f with
    | nx =>
      obtain ⟨f', ρ', e4, q4⟩ := ih ρ2 q2.1 q2.2
      simp only [denS] at e4
      exact ⟨f', ρ', e4, q4⟩
    | ct =>
      obtain ⟨f', ρ', e4, q4⟩ := ih ρ2 q2.1 q2.2
      simp only [denS] at e4
      exact ⟨f', ρ', e4, q4⟩
    | bk => exact ⟨_, _, rfl, q2⟩
    | rt x => exact ⟨_, _, rfl, q2⟩
/-- one turn of a while -/
theorem W_turn {c : E} {b : S} (h : D T G c ρ fun x ρ1 => Bl x fun t => if t = true then W T G b ρ1 (Tu (fun ρ2 => W T G (.whl c b) ρ2 Q) Q) else Q .nx ρ1) : W T G (.whl c b) ρ Q := by
  obtain ⟨x, ρ1, e, t, et, q⟩ := h
  unfold W
  simp only [denS]
  rw [whl_eq]
  have ec : (do let (x, ρ1) ← den T G c ρ; let t ← asBool x; ok (t, ρ1)) = ok (t, ρ1) := by
    rw [e]
    show (do let t ← asBool x; ok (t, ρ1)) = _
    rw [et]
    rfl
  rw [ec]
  cases t with
  | false => exact ⟨_, _, rfl, q⟩
  | true =>
    obtain ⟨f, ρ2, e2, q2⟩ := q
    dsimp only
    rw [e2]
    cases f with
    | nx =>
      obtain ⟨f', ρ', e4, q4⟩ := q2
      simp only [denS] at e4
      exact ⟨f', ρ', e4, q4⟩
    | ct =>
      obtain ⟨f', ρ', e4, q4⟩ := q2
      simp only [denS] at e4
      exact ⟨f', ρ', e4, q4⟩
    | bk => exact ⟨_, _, rfl, q2⟩
    | rt x => exact ⟨_, _, rfl, q2⟩
/-- a while, by what holds at its head, with a measure -/
theorem W_whl {c : E} {b : S} (P : Ro → Prop) (m : Ro → Nat) (h : ∀ ρ, P ρ → D T G c ρ fun x ρ1 => Bl x fun t => if t = true then W T G b ρ1 (Tu (fun ρ2 => P ρ2 ∧ m ρ2 < m ρ) Q) else Q .nx ρ1) : ∀ ρ, P ρ → W T G (.whl c b) ρ Q := by
  have key : ∀ n ρ, m ρ ≤ n → P ρ → W T G (.whl c b) ρ Q := by
    intro n
    induction n with
    | zero => exact fun ρ hm hp => whl_step h ρ hp fun ρ2 hp2 hl => by omega
    | succ n ih => exact fun ρ hm hp => whl_step h ρ hp fun ρ2 hp2 hl => ih ρ2 (by omega) hp2
  exact fun ρ hp => key _ ρ (Nat.le_refl _) hp
end
/-- what a def hands back -/
def Rt (io : List Nat) (np : Nat) (Q : PV → Ro → Prop) : Fl → Ro → Prop
  | .rt x, ρ => Q x (takeRo io np ρ)
  | .nx, ρ => Q (.d .none) (takeRo io np ρ)
  | _, _ => False
@[simp] theorem Rt_rt {io : List Nat} {np : Nat} {Q : PV → Ro → Prop} {x : PV} {ρ : Ro} : Rt io np Q (.rt x) ρ ↔ Q x (takeRo io np ρ) := Iff.rfl
@[simp] theorem Rt_nx {io : List Nat} {np : Nat} {Q : PV → Ro → Prop} {ρ : Ro} : Rt io np Q .nx ρ ↔ Q (.d .none) (takeRo io np ρ) := Iff.rfl
def retR (d : Fn) (z : Fl × Ro) : Res (PV × Ro) := match z.1 with
  | .rt x => ok (x, takeRo d.io d.np z.2)
  | .nx => ok (.d .none, takeRo d.io d.np z.2)
  | _ => bad
theorem run_W {P : Prg} {G : Gls} {n f : Nat} {xs : List PV} {d : Fn} {Q : PV → Ro → Prop} (h : P[f]? = some d) (hx : xs.length = d.np) (w : W (run P G n) G d.body (xs.map some ++ List.replicate (d.N.length - d.np) none) (Rt d.io d.np Q)) :
    Cl (run P G (n + 1)) f xs Q := by
  obtain ⟨fl, ρ, e, q⟩ := w
  have e2 : run P G (n + 1) f xs = retR d (fl, ρ) := by
    show (match P[f]? with | none => bad | some d => _) = _
    rw [h]
    show (do guard (decide (xs.length = d.np)); _) = _
    rw [decide_eq_true hx]
    show (Bind.bind (denS (run P G n) G d.body _) (retR d) : Res (PV × Ro)) = _
    rw [e]
    rfl
  unfold Cl
  rw [e2]
  cases fl with
  | rt x => exact ⟨_, _, rfl, q⟩
  | nx => exact ⟨_, _, rfl, q⟩
  | bk => exact q.elim
  | ct => exact q.elim
theorem Cl.mono {T : Tab} {f : Nat} {xs : List PV} {Q Q' : PV → Ro → Prop} (h : Cl T f xs Q) (m : ∀ x ρ, Q x ρ → Q' x ρ) : Cl T f xs Q' := by
  obtain ⟨r, os, e, q⟩ := h
  exact ⟨r, os, e, m _ _ q⟩
theorem Cl_eq {T : Tab} {f : Nat} {xs : List PV} {r : PV} {os : Ro} (h : T f xs = ok (r, os)) {Q : PV → Ro → Prop} : Cl T f xs Q ↔ Q r os := by
  unfold Cl
  rw [h]
  exact ⟨fun ⟨_, _, e, q⟩ => by cases e; exact q, fun q => ⟨_, _, rfl, q⟩⟩
end Rf
set_option maxRecDepth 100000
/-! Rf, part R: operations at known data. -/
namespace Rf
open PySem Res
section
variable {i j : Int} {x y : Str} {xs ys : List PyData} {K : PV → Prop} {L : Bool → Prop} {M : PyData → Prop}
@[simp] theorem Bop_add : Bop .Add (.int i) (.int j) K ↔ K (.d (.int (i + j))) := oex
@[simp] theorem Bop_sub : Bop .Sub (.int i) (.int j) K ↔ K (.d (.int (i - j))) := oex
theorem Bop_g {b : Bool} {r : PV} : (∃ z, (do guard b; ok r : Res PV) = ok z ∧ K z) ↔ b = true ∧ K r := by
  rw [bex]
  simp only [oex]
  exact guard_ex
@[simp] theorem Bop_mul : Bop .Mult (.int i) (.int j) K ↔ bits i + bits j ≤ 134217728 ∧ K (.d (.int (i * j))) := by
  refine Bop_g.trans ?_; rw [decide_eq_true_iff]
@[simp] theorem Bop_mulT {x : Str} {n : Int} : Bop .Mult (.str x) (.int n) K ↔ (1 ≤ n ∧ n ≤ 1000 ∧ 1 ≤ x.length ∧ x.length ≤ 1000) ∧ K (.d (.str (repT n.toNat x))) := by
  refine Bop_g.trans ?_
  rw [decide_eq_true_eq]
@[simp] theorem Bop_div : Bop .FloorDiv (.int i) (.int j) K ↔ (0 < j ∧ j.natAbs.log2 < 9000) ∧ K (.d (.int (i / j))) := by
  refine Bop_g.trans ?_; rw [decide_eq_true_iff]
@[simp] theorem Bop_mod : Bop .Mod (.int i) (.int j) K ↔ 0 < j ∧ K (.d (.int (i % j))) := by
  refine Bop_g.trans ?_; rw [decide_eq_true_iff]
@[simp] theorem Bop_pow : Bop .Pow (.int i) (.int j) K ↔ (0 ≤ j ∧ j ≤ 1000000 ∧ i.natAbs < 2 ^ 64) ∧ K (.d (.int (i ^ j.toNat))) := by
  refine Bop_g.trans ?_; rw [decide_eq_true_iff]
@[simp] theorem Bop_shl : Bop .LShift (.int i) (.int j) K ↔ (0 ≤ j ∧ (bits i : Int) + j ≤ 2 ^ 27) ∧ K (.d (.int (i * 2 ^ j.toNat))) := by
  refine Bop_g.trans ?_; rw [decide_eq_true_iff]
@[simp] theorem Bop_shr : Bop .RShift (.int i) (.int j) K ↔ 0 ≤ j ∧ K (.d (.int (i / 2 ^ j.toNat))) := by
  refine Bop_g.trans ?_; rw [decide_eq_true_iff]
@[simp] theorem Bop_addS : Bop .Add (.str x) (.str y) K ↔ x.length + y.length ≤ 1000000 ∧ K (.d (.str (x ++ y))) := by
  refine Bop_g.trans ?_; rw [decide_eq_true_iff]
@[simp] theorem Bop_addL : Bop .Add (.list xs) (.list ys) K ↔ xs.length + ys.length ≤ 1000000 ∧ K (.L (xs ++ ys)) := by
  refine Bop_g.trans ?_; rw [decide_eq_true_iff]
@[simp] theorem Bop_addT : Bop .Add (.tuple xs) (.tuple ys) K ↔ xs.length + ys.length ≤ 1000000 ∧ K (.d (.tuple (xs ++ ys))) := by
  refine Bop_g.trans ?_; rw [decide_eq_true_iff]
@[simp] theorem Cop_lt : Cop .Lt (.int i) (.int j) L ↔ L (decide (i < j)) := oex
@[simp] theorem Cop_le : Cop .LtE (.int i) (.int j) L ↔ L (decide (i ≤ j)) := oex
@[simp] theorem Cop_gt : Cop .Gt (.int i) (.int j) L ↔ L (decide (j < i)) := oex
@[simp] theorem Cop_ge : Cop .GtE (.int i) (.int j) L ↔ L (decide (j ≤ i)) := oex
theorem Cop_g {b : Bool} {r : Bool} : (∃ z, (do guard b; ok r : Res Bool) = ok z ∧ L z) ↔ b = true ∧ L r := by
  rw [bex]
  simp only [oex]
  exact guard_ex
@[simp] theorem Cop_eq {u v : PyData} : Cop .Eq u v L ↔ eqOk u v = true ∧ L (PyData.eqv u v) := Cop_g
@[simp] theorem Cop_ne {u v : PyData} : Cop .NotEq u v L ↔ eqOk u v = true ∧ L (!PyData.eqv u v) := Cop_g
@[simp] theorem Cop_in {u : PyData} : Cop .In u (.list ys) L ↔ inOk u ys = true ∧ L (ys.any fun z => PyData.eqv z u) := Cop_g
@[simp] theorem Cop_nin {u : PyData} : Cop .NotIn u (.list ys) L ↔ inOk u ys = true ∧ L (!ys.any fun z => PyData.eqv z u) := Cop_g
@[simp] theorem eqOk_int {i : Int} {u : PyData} : eqOk u (.int i) = u.canLay0 := by
  unfold eqOk
  rw [show (PyData.int i).canLay0 = true by rw [PyData.canLay0], show (PyData.int i).depth = 0 by rw [PyData.depth]]
  simp
@[simp] theorem eqOk_bool {i : Bool} {u : PyData} : eqOk u (.bool i) = u.canLay0 := by
  unfold eqOk
  rw [show (PyData.bool i).canLay0 = true by rw [PyData.canLay0], show (PyData.bool i).depth = 0 by rw [PyData.depth]]
  simp
@[simp] theorem lay_int {i : Int} : (PyData.int i).canLay0 = true := by rw [PyData.canLay0]
@[simp] theorem lay_bool {i : Bool} : (PyData.bool i).canLay0 = true := by rw [PyData.canLay0]
@[simp] theorem lay_tup {xs : List PyData} : (PyData.tuple xs).canLay0 = PyData.canLayAll0 xs := by rw [PyData.canLay0]
@[simp] theorem lay_lst {xs : List PyData} : (PyData.list xs).canLay0 = PyData.canLayAll0 xs := by rw [PyData.canLay0]
@[simp] theorem lay_nil : PyData.canLayAll0 [] = true := by rw [PyData.canLayAll0]
@[simp] theorem lay_cons {x : PyData} {xs : List PyData} : PyData.canLayAll0 (x :: xs) = (x.canLay0 && PyData.canLayAll0 xs) := by rw [PyData.canLayAll0]
@[simp] theorem eqv_int {i j : Int} : PyData.eqv (.int i) (.int j) = decide (i = j) := by rw [PyData.eqv]; rfl
@[simp] theorem eqv_bool {i j : Bool} : PyData.eqv (.bool i) (.bool j) = decide (i = j) := by rw [PyData.eqv]; cases i <;> cases j <;> rfl
@[simp] theorem eqv_str {i j : Str} : PyData.eqv (.str i) (.str j) = decide (i = j) := by rw [PyData.eqv]; rfl
@[simp] theorem Iop_tup : Iop (.tuple xs) (.int i) M ↔ ∃ x, L2.atI xs i = some x ∧ M x := by
  show (∃ z, (match L2.atI xs i with | some x => ok x | none => bad) = ok z ∧ M z) ↔ _
  cases L2.atI xs i with
  | none => simp
  | some x => simp [oex]
@[simp] theorem Iop_lst : Iop (.list xs) (.int i) M ↔ ∃ x, L2.atI xs i = some x ∧ M x := by
  show (∃ z, (match L2.atI xs i with | some x => ok x | none => bad) = ok z ∧ M z) ↔ _
  cases L2.atI xs i with
  | none => simp
  | some x => simp [oex]
section
variable {α : Type} {a b c d : α} {r : List α}
@[simp] theorem at0 : L2.atI (a :: r) 0 = some a := L2.atI_nat (j := 0) rfl
@[simp] theorem at1 : L2.atI (a :: b :: r) 1 = some b := L2.atI_nat (j := 1) rfl
@[simp] theorem at2 : L2.atI (a :: b :: c :: r) 2 = some c := L2.atI_nat (j := 2) rfl
@[simp] theorem at3 : L2.atI (a :: b :: c :: d :: r) 3 = some d := L2.atI_nat (j := 3) rfl
end
section
variable {J : List PyData → PyData → Prop} {z : PyData}
@[simp] theorem Mop_append : Mop .append xs [z] J ↔ xs.length < 1000000 ∧ J (xs ++ [z]) .none := by
  rw [Mop_def]
  simp only [mtS, bex, oex]
  rw [guard_ex, decide_eq_true_iff]
@[simp] theorem Mop_extend : Mop .extend xs [.list ys] J ↔ xs.length + ys.length ≤ 1000000 ∧ J (xs ++ ys) .none := by
  rw [Mop_def]
  simp only [mtS, bex, oex]
  rw [guard_ex, decide_eq_true_iff]
@[simp] theorem Mop_pop : Mop .pop xs [] J ↔ ∃ x, xs[xs.length - 1]? = some x ∧ J xs.dropLast x := by
  rw [Mop_def]
  simp only [mtS]
  cases xs[xs.length - 1]? with
  | none => simp
  | some x => simp [oex]
@[simp] theorem Mop_clear : Mop .clear xs [] J ↔ J [] .none := by rw [Mop_def]; exact oex
@[simp] theorem Mop_reverse : Mop .reverse xs [] J ↔ J xs.reverse .none := by rw [Mop_def]; exact oex
end
@[simp] theorem Uop_len : Uop .len [.list xs] K ↔ K (.d (.int xs.length)) := oex
@[simp] theorem Uop_lenT : Uop .len [.tuple xs] K ↔ K (.d (.int xs.length)) := oex
@[simp] theorem Uop_max : Uop .max [.int i, .int j] K ↔ K (.d (.int (if j > i then j else i))) := oex
@[simp] theorem Uop_min : Uop .min [.int i, .int j] K ↔ K (.d (.int (if j < i then j else i))) := oex
@[simp] theorem Vop_lindex {u : PyData} : Vop .lindex (.list xs) [u] K ↔ inOk u xs = true ∧ ∃ k, xs.findIdx? (fun z => PyData.eqv z u) = some k ∧ K (.d (.int k)) := by
  unfold Vop
  simp only [mvS, bex]
  rw [guard_ex]
  refine and_congr_right fun _ => ?_
  cases xs.findIdx? (fun z => PyData.eqv z u) with
  | none => simp
  | some k => simp [oex]
@[simp] theorem intsOf_map : ∀ ns : List Int, intsOf (ns.map .int) = some ns
  | [] => rfl
  | n :: ns => by
    rw [List.map_cons]
    show (intsOf (ns.map .int)).map (n :: ·) = _
    rw [intsOf_map ns]
    rfl
theorem Uop_maxL {n : Int} {ns : List Int} (h : xs = (n :: ns).map .int) : Uop .max [.list xs] K ↔ K (.d (.int (maxI n ns))) := by
  subst h
  show (∃ z, (match intsOf ((n :: ns).map .int) with | some (m :: r) => ok (.d (.int (maxI m r))) | _ => bad) = ok z ∧ K z) ↔ _
  rw [intsOf_map]
  exact oex
theorem Uop_minL {n : Int} {ns : List Int} (h : xs = (n :: ns).map .int) : Uop .min [.list xs] K ↔ K (.d (.int (minI n ns))) := by
  subst h
  show (∃ z, (match intsOf ((n :: ns).map .int) with | some (m :: r) => ok (.d (.int (minI m r))) | _ => bad) = ok z ∧ K z) ↔ _
  rw [intsOf_map]
  exact oex
@[simp] theorem Uop_abs : Uop .abs [.int i] K ↔ K (.d (.int (if i < 0 then -i else i))) := oex
@[simp] theorem Uop_list : Uop .list [.list xs] K ↔ K (.L xs) := oex
@[simp] theorem Uop_listT : Uop .list [.tuple xs] K ↔ K (.L xs) := oex
@[simp] theorem Uop_tuple : Uop .tuple [.list xs] K ↔ K (.d (.tuple xs)) := oex
@[simp] theorem Uop_int : Uop .int [.int i] K ↔ K (.d (.int i)) := oex
theorem Uop_intT {a : Str} {n : Int} (h : PySem.intText? a = some n) : Uop .int [.str a] K ↔ a.length ≤ 640 ∧ K (.d (.int n)) := by
  show (∃ z, (match PySem.intText? a with | some n => (do guard (decide (a.length ≤ 640)); ok (.d (.int n)) : Res PV) | none => bad) = ok z ∧ K z) ↔ _
  rw [h]
  refine Bop_g.trans ?_
  rw [decide_eq_true_eq]
@[simp] theorem aug_add : augS .Add (.int i) (.d (.int j)) = ok (i + j) := rfl
@[simp] theorem aug_sub : augS .Sub (.int i) (.d (.int j)) = ok (i - j) := rfl
@[simp] theorem ok_inj {α : Type} {a b : α} : (ok a : Res α) = ok b ↔ a = b := ⟨fun h => by cases h; rfl, fun h => by rw [h]⟩
@[simp] theorem items_lst : itemsD (.list xs) = ok xs := rfl
@[simp] theorem items_tup2 : itemsD (.tuple xs) = ok xs := rfl
@[simp] theorem optI_non : optI .non .none = ok none := rfl
@[simp] theorem optI_int {e : E} : optI e (.int i) = ok (some i) := rfl
@[simp] theorem slS_lst {lo hi : Option Int} : slS (.list xs) lo hi = ok (.L (cut xs lo hi)) := rfl
@[simp] theorem slS_tup {lo hi : Option Int} : slS (.tuple xs) lo hi = ok (.d (.tuple (cut xs lo hi))) := rfl
@[simp] theorem pl_s {ρ : Ro} {i : Nat} {ys : List PyData} : plList ρ (.s i) = ok ys ↔ getRo ρ i = some (.L ys) := by
  show (match getRo ρ i with | some (.L xs) => ok xs | _ => bad) = ok ys ↔ _
  cases getRo ρ i with
  | none => simp
  | some x => cases x <;> simp
@[simp] theorem plList_kk {ρ : Ro} {i : Nat} {key : Str} {ys : List PyData} : plList ρ (.k i key) = ok ys ↔ ∃ kvs, getRo ρ i = some (.M kvs) ∧ kvGet key kvs = some (.L ys) := by
  show (match getRo ρ i with | some (.M kvs) => (match kvGet key kvs with | some (.L xs) => ok xs | _ => bad) | _ => bad) = ok ys ↔ _
  cases getRo ρ i with
  | none => simp
  | some x =>
    cases x with
    | d x => simp
    | L x => simp
    | M kvs =>
      simp only [Option.some.injEq, PV.M.injEq, exists_eq_left']
      cases kvGet key kvs with
      | none => simp
      | some c => cases c <;> simp
@[simp] theorem plSet_k0 {kvs : List (Str × CV)} {r : Ro} {key : Str} {xs : List PyData} : plSet (some (.M kvs) :: r) (.k 0 key) xs = some (.M (kvSet key (.L xs) kvs)) :: r := rfl
theorem plSet_kS {x : Option PV} {r : Ro} {i : Nat} {key : Str} {xs : List PyData} : plSet (x :: r) (.k (i + 1) key) xs = x :: plSet r (.k i key) xs := by
  show (match getRo (x :: r) (i + 1) with | some (.M kvs) => (x :: r).set (i + 1) (some (.M (kvSet key (.L xs) kvs))) | _ => x :: r) = _
  rw [getRo_succ]
  show _ = x :: (match getRo r i with | some (.M kvs) => r.set i (some (.M (kvSet key (.L xs) kvs))) | _ => r)
  cases getRo r i with
  | none => rfl
  | some y => cases y <;> rfl
@[simp] theorem take01 {ρ : Ro} : takeRo [0] 1 ρ = [getRo ρ 0] := rfl
@[simp] theorem take02 {ρ : Ro} : takeRo [0] 2 ρ = [getRo ρ 0, none] := rfl
@[simp] theorem take03 {ρ : Ro} : takeRo [0] 3 ρ = [getRo ρ 0, none, none] := rfl
@[simp] theorem take04 {ρ : Ro} : takeRo [0] 4 ρ = [getRo ρ 0, none, none, none] := rfl
@[simp] theorem take12 {ρ : Ro} : takeRo [1] 2 ρ = [none, getRo ρ 1] := rfl
@[simp] theorem take23 {ρ : Ro} : takeRo [2] 3 ρ = [none, none, getRo ρ 2] := rfl
@[simp] theorem plSet_s {ρ : Ro} {i : Nat} {ys : List PyData} : plSet ρ (.s i) ys = ρ.set i (some (.L ys)) := rfl
@[simp] theorem stTg_n {i : Nat} {u : PyData} {ρ ρ' : Ro} : stTg (.n i) u ρ = ok ρ' ↔ ρ.set i (some (.d u)) = ρ' := by simp [stTg]
@[simp] theorem stTg_cons {t r : Tg} {u : PyData} {us : List PyData} {ρ ρ' : Ro} : stTg (.cons t r) (.tuple (u :: us)) ρ = ok ρ' ↔ ∃ ρ1, stTg t u ρ = ok ρ1 ∧ stTg r (.tuple us) ρ1 = ok ρ' := by
  simp only [stTg]
  cases stTg t u ρ <;> simp
@[simp] theorem stTg_nil {ρ ρ' : Ro} : stTg .nil (.tuple []) ρ = ok ρ' ↔ ρ = ρ' := by simp [stTg]
theorem cut_from {α : Type} (xs : List α) (k : Nat) : cut xs (some k) none = xs.drop k := by
  unfold cut
  rw [HT.sIx_none, HT.sIx_nat]
  rcases Nat.le_total k xs.length with h | h
  · rw [Nat.min_eq_left h]
    exact List.take_of_length_le (by simp)
  · rw [Nat.min_eq_right h, List.drop_of_length_le (Nat.le_refl _), List.drop_of_length_le h]
    simp
@[simp] theorem eqv_tup {xs ys : List PyData} : PyData.eqv (.tuple xs) (.tuple ys) = PyData.eqvAll xs ys := by rw [PyData.eqv]
@[simp] theorem eqv_lst {xs ys : List PyData} : PyData.eqv (.list xs) (.list ys) = PyData.eqvAll xs ys := by rw [PyData.eqv]
@[simp] theorem eqva_nil : PyData.eqvAll [] [] = true := by rw [PyData.eqvAll]
@[simp] theorem eqva_cons {x y : PyData} {xs ys : List PyData} : PyData.eqvAll (x :: xs) (y :: ys) = (PyData.eqv x y && PyData.eqvAll xs ys) := by rw [PyData.eqvAll]
@[simp] theorem eqOk_pair {u : PyData} {a b : Int} : eqOk u (.tuple [.int a, .int b]) = u.canLay0 := by
  unfold eqOk
  rw [show (PyData.tuple [.int a, .int b]).depth = 1 by simp [PyData.depth, PyData.depthAll]]
  simp
  intro _
  omega
@[simp] theorem takeRo_none {n : Nat} {ρ : Ro} : takeRo [] n ρ = List.replicate n none := by
  unfold takeRo
  refine List.ext_getElem (by simp) fun i h1 h2 => ?_
  simp
@[simp] theorem len_script {ns : List Int} : Uop .len [scriptD ns] K ↔ K (.d (.int ns.length)) := by
  unfold scriptD
  rw [Uop_len, List.length_map]
@[simp] theorem ios_nil : ios .nil = [] := rfl
@[simp] theorem ioSet_no {ρ os : Ro} {o : Option PV} {is : List (Option Nat)} : ioSet ρ (none :: is) (o :: os) = ioSet ρ is os := rfl
@[simp] theorem ioSet_yes {ρ os : Ro} {o : Option PV} {i : Nat} {is : List (Option Nat)} : ioSet ρ (some i :: is) (o :: os) = ioSet (ρ.set i o) is os := rfl
@[simp] theorem ioSet_end {ρ os : Ro} : ioSet ρ [] os = ρ := by cases os <;> rfl
@[simp] theorem ios_io' {i : Nat} {r : E} : ios (.cons (.io i) r) = some i :: ios r := rfl
@[simp] theorem ios_cons' {a r : E} (h : ∀ i, a ≠ .io i) : ios (.cons a r) = none :: ios r := ios_cons h
theorem Cl_of {T : Tab} {f : Nat} {xs : List PV} {r : PV} {os : Ro} (h : Cl T f xs fun x ρ => x = r ∧ ρ = os) : T f xs = ok (r, os) := by
  obtain ⟨_, _, e, rfl, rfl⟩ := h
  exact e
theorem bits_le {i : Int} {m : Nat} (h : i.natAbs < 2 ^ m) : bits i ≤ m := intBits_le_iff.mpr h
theorem bits_iff {i : Int} {m : Nat} : bits i ≤ m ↔ i.natAbs < 2 ^ m := intBits_le_iff
end
end Rf
/-! Th: trees, ways, maps as what they do to streams of halves; trimming. Plain Lean. -/
namespace Th
inductive Tr where
  | leaf
  | node (l r : Tr)
  deriving DecidableEq
def lv : Tr → Nat
  | .leaf => 1
  | .node l r => lv l + lv r
def hg : Tr → Nat
  | .leaf => 0
  | .node l r => 1 + max (hg l) (hg r)
theorem lv_pos : ∀ t : Tr, 1 ≤ lv t
  | .leaf => Nat.le_refl _
  | .node l r => by have := lv_pos l; simp only [lv]; omega
theorem hg_lt : ∀ t : Tr, hg t < lv t
  | .leaf => by decide
  | .node l r => by
    have := hg_lt l; have := hg_lt r; have := lv_pos l; have := lv_pos r
    simp only [hg, lv]; omega
abbrev W := List Bool
def pths : Tr → List W
  | .leaf => [[]]
  | .node l r => (pths l).map (false :: ·) ++ (pths r).map (true :: ·)
@[simp] theorem pths_len : ∀ t : Tr, (pths t).length = lv t
  | .leaf => rfl
  | .node l r => by simp [pths, lv, pths_len l, pths_len r]
theorem pths_hg : ∀ (t : Tr) (w : W), w ∈ pths t → w.length ≤ hg t
  | .leaf, w, h => by simp [pths] at h; subst h; simp [hg]
  | .node l r, w, h => by
    simp only [pths, List.mem_append, List.mem_map] at h
    rcases h with ⟨u, h, rfl⟩ | ⟨u, h, rfl⟩
    · have := pths_hg l u h; simp only [hg, List.length_cons]; omega
    · have := pths_hg r u h; simp only [hg, List.length_cons]; omega

/-! ### streams -/
abbrev Sm := Nat → Bool
def cns (b : Bool) (x : Sm) : Sm
  | 0 => b
  | n + 1 => x n
def tl (x : Sm) : Sm := fun n => x (n + 1)
@[simp] theorem tl_cns (b : Bool) (x : Sm) : tl (cns b x) = x := rfl
@[simp] theorem cns_zero (b : Bool) (x : Sm) : cns b x 0 = b := rfl
theorem cns_tl (x : Sm) : cns (x 0) (tl x) = x := by
  funext n
  cases n <;> rfl
theorem cns_inj {a b : Bool} {x y : Sm} (h : cns a x = cns b y) : a = b ∧ x = y :=
  ⟨congrFun h 0, congrArg tl h⟩
def app : W → Sm → Sm
  | [], x => x
  | b :: w, x => cns b (app w x)
@[simp] theorem app_nil (x : Sm) : app [] x = x := rfl
@[simp] theorem app_cons (b : Bool) (w : W) (x : Sm) : app (b :: w) x = cns b (app w x) := rfl
theorem app_append : ∀ (u v : W) (x : Sm), app (u ++ v) x = app u (app v x)
  | [], _, _ => rfl
  | b :: u, v, x => by simp [app_append u v x]
theorem app_inj_r : ∀ {w : W} {x y : Sm}, app w x = app w y → x = y
  | [], _, _, h => h
  | _ :: w, _, _, h => app_inj_r (w := w) (cns_inj h).2
theorem app_word : ∀ {u v : W}, (∀ z, app u z = app v z) → u = v
  | [], [], _ => rfl
  | [], b :: v, h => by
    have h1 := congrFun (h (fun _ => !b)) 0
    simp at h1
  | b :: u, [], h => by
    have h1 := congrFun (h (fun _ => !b)) 0
    simp at h1
  | a :: u, b :: v, h => by
    have h1 := (cns_inj (h (fun _ => true))).1
    have h2 := app_word (u := u) (v := v) fun z => (cns_inj (h z)).2
    rw [h1, h2]
theorem cover : ∀ (t : Tr) (x : Sm), ∃ (k : Nat) (w : W) (z : Sm), (pths t)[k]? = some w ∧ x = app w z
  | .leaf, x => ⟨0, [], x, rfl, rfl⟩
  | .node l r, x => by
    cases hb : x 0 with
    | false =>
      obtain ⟨k, w, z, h1, h2⟩ := cover l (tl x)
      refine ⟨k, false :: w, z, ?_, ?_⟩
      · have hk : k < (pths l).length := (List.getElem?_eq_some_iff.mp h1).1
        simp only [pths]
        rw [List.getElem?_append_left (by simpa using hk), List.getElem?_map, h1]
        rfl
      · rw [app_cons, ← h2, ← hb, cns_tl]
    | true =>
      obtain ⟨k, w, z, h1, h2⟩ := cover r (tl x)
      refine ⟨lv l + k, true :: w, z, ?_, ?_⟩
      · simp only [pths]
        rw [List.getElem?_append_right (by simp)]
        simp [h1]
      · rw [app_cons, ← h2, ← hb, cns_tl]

/-! ### trees with ways at their leaves -/
inductive LT where
  | leaf (v : W)
  | node (l r : LT)
def act : LT → Sm → Sm
  | .leaf v, x => app v x
  | .node l r, x => if x 0 then act r (tl x) else act l (tl x)
def shape : LT → Tr
  | .leaf _ => .leaf
  | .node l r => .node (shape l) (shape r)
def labs : LT → List W
  | .leaf v => [v]
  | .node l r => labs l ++ labs r
@[simp] theorem labs_len : ∀ L : LT, (labs L).length = lv (shape L)
  | .leaf _ => rfl
  | .node l r => by simp [labs, shape, lv, labs_len l, labs_len r]
def lab : Tr → List W → LT
  | .leaf, vs => .leaf (vs.headD [])
  | .node l r, vs => .node (lab l (vs.take (lv l))) (lab r (vs.drop (lv l)))
@[simp] theorem shape_lab : ∀ (t : Tr) (vs : List W), shape (lab t vs) = t
  | .leaf, _ => rfl
  | .node l r, vs => by simp [lab, shape, shape_lab]
theorem labs_lab : ∀ (t : Tr) (vs : List W), vs.length = lv t → labs (lab t vs) = vs
  | .leaf, vs, h => by
    match vs, h with
    | [v], _ => rfl
  | .node l r, vs, h => by
    simp only [lv] at h
    simp only [lab, labs]
    rw [labs_lab l _ (by simp; omega), labs_lab r _ (by simp; omega), List.take_append_drop]
theorem lab_labs : ∀ L : LT, lab (shape L) (labs L) = L
  | .leaf v => rfl
  | .node l r => by
    simp only [shape, labs, lab]
    rw [List.take_left' (by simp), List.drop_left' (by simp), lab_labs l, lab_labs r]
theorem act_lab : ∀ (t : Tr) (vs : List W) (k : Nat) (w v : W) (z : Sm), (pths t)[k]? = some w → vs[k]? = some v → act (lab t vs) (app w z) = app v z
  | .leaf, vs, k, w, v, z, h1, h2 => by
    cases k with
    | zero =>
      simp [pths] at h1
      subst h1
      cases vs with
      | nil => simp at h2
      | cons a vs => simp at h2; subst h2; rfl
    | succ k => simp [pths] at h1
  | .node l r, vs, k, w, v, z, h1, h2 => by
    simp only [pths] at h1
    simp only [lab]
    by_cases hk : k < lv l
    · rw [List.getElem?_append_left (by simpa using hk), List.getElem?_map] at h1
      obtain ⟨u, h3, rfl⟩ := Option.map_eq_some_iff.mp h1
      simp only [app_cons, act, cns_zero, tl_cns, Bool.false_eq_true, if_false]
      exact act_lab l _ k u v z h3 (by rw [List.getElem?_take_of_lt hk]; exact h2)
    · rw [List.getElem?_append_right (by simp; omega), List.length_map, pths_len, List.getElem?_map] at h1
      obtain ⟨u, h3, rfl⟩ := Option.map_eq_some_iff.mp h1
      simp only [app_cons, act, cns_zero, tl_cns, if_true]
      exact act_lab r _ (k - lv l) u v z h3 (by rw [List.getElem?_drop, show lv l + (k - lv l) = k by omega]; exact h2)
/-- two ways to the two halves of one -/
def joins (a b : W) : Bool := a.dropLast == b.dropLast && (a.drop (a.length - 1) ++ b.drop (b.length - 1) == [false, true])
theorem joins_iff {a b : W} : joins a b = true ↔ ∃ v, a = v ++ [false] ∧ b = v ++ [true] := by
  constructor
  · intro h
    simp only [joins, Bool.and_eq_true, beq_iff_eq] at h
    obtain ⟨h1, h2⟩ := h
    rcases List.eq_nil_or_concat a with rfl | ⟨u, x, rfl⟩
    · rcases List.eq_nil_or_concat b with rfl | ⟨u', y, rfl⟩
      · simp at h2
      · simp at h2
    · rcases List.eq_nil_or_concat b with rfl | ⟨u', y, rfl⟩
      · simp at h2
      · simp at h1 h2
        obtain ⟨rfl, rfl⟩ := h2
        exact ⟨u, by simp, by simp [h1]⟩
  · rintro ⟨v, rfl, rfl⟩
    simp [joins]
def mk : LT → LT → LT
  | .leaf a, .leaf b => if joins a b then .leaf a.dropLast else .node (.leaf a) (.leaf b)
  | l, r => .node l r
def trim : LT → LT
  | .leaf v => .leaf v
  | .node l r => mk (trim l) (trim r)
theorem mk_joins (v : W) : mk (.leaf (v ++ [false])) (.leaf (v ++ [true])) = .leaf v := by
  simp [mk, joins_iff.mpr ⟨v, rfl, rfl⟩]
theorem mk_cases (l r : LT) : (∃ v, l = .leaf (v ++ [false]) ∧ r = .leaf (v ++ [true]) ∧ mk l r = .leaf v) ∨ ((∀ v, ¬ (l = .leaf (v ++ [false]) ∧ r = .leaf (v ++ [true]))) ∧ mk l r = .node l r) := by
  cases l with
  | node a b => exact .inr ⟨fun v h => (by cases h.1), (by cases r <;> rfl)⟩
  | leaf a =>
    cases r with
    | node c d => exact .inr ⟨fun v h => (by cases h.2), rfl⟩
    | leaf b =>
      by_cases h : joins a b = true
      · obtain ⟨v, rfl, rfl⟩ := joins_iff.mp h
        exact .inl ⟨v, rfl, rfl, mk_joins v⟩
      · refine .inr ⟨fun v hv => h (joins_iff.mpr ⟨v, by cases hv.1; rfl, by cases hv.2; rfl⟩), by simp [mk, h]⟩
theorem act_mk (l r : LT) : act (mk l r) = act (.node l r) := by
  rcases mk_cases l r with ⟨v, rfl, rfl, e⟩ | ⟨_, e⟩
  · rw [e]
    funext x
    simp only [act]
    cases h : x 0 with
    | false => simp only [Bool.false_eq_true, if_false]; rw [app_append, app_cons, app_nil, ← h, cns_tl]
    | true => simp only [if_true]; rw [app_append, app_cons, app_nil, ← h, cns_tl]
  · rw [e]
theorem act_trim : ∀ L : LT, act (trim L) = act L
  | .leaf _ => rfl
  | .node l r => by
    rw [trim, act_mk]
    funext x
    simp only [act, act_trim l, act_trim r]
theorem act_node_l {l r : LT} {x : Sm} : act (.node l r) (cns false x) = act l x := by simp [act]
theorem act_node_r {l r : LT} {x : Sm} : act (.node l r) (cns true x) = act r x := by simp [act]
theorem trim_leaf_of : ∀ (L : LT) (v : W), (∀ x, act L x = app v x) → trim L = .leaf v
  | .leaf u, v, h => by rw [trim, app_word h]
  | .node l r, v, h => by
    have h1 := trim_leaf_of l (v ++ [false]) fun x => by rw [← act_node_l (r := r), h, app_append]; rfl
    have h2 := trim_leaf_of r (v ++ [true]) fun x => by rw [← act_node_r (l := l), h, app_append]; rfl
    rw [trim, h1, h2, mk_joins]
theorem trim_unique : ∀ (L M : LT), act L = act M → trim L = trim M
  | .leaf v, M, h => by rw [trim, trim_leaf_of M v fun x => by rw [← h]; rfl]
  | .node l r, .leaf v, h => by rw [trim_leaf_of (.node l r) v fun x => by rw [h]; rfl, trim]
  | .node l r, .node l' r', h => by
    have h1 := trim_unique l l' (funext fun x => by rw [← act_node_l (r := r), h, act_node_l])
    have h2 := trim_unique r r' (funext fun x => by rw [← act_node_r (l := l), h, act_node_r])
    rw [trim, trim, h1, h2]
theorem trim_trim (L : LT) : trim (trim L) = trim L := trim_unique _ _ (act_trim L)

/-! ### the trees of ways -/
def IsT (ws : List W) : Prop := ∃ S, ws = pths S
theorem pths_nil : ∀ {t : Tr}, [] ∈ pths t → t = .leaf
  | .leaf, _ => rfl
  | .node l r, h => by simp [pths] at h


def tpush : List (W × Tr) → W → Tr → List (W × Tr)
  | [], w, t => [(w, t)]
  | (u, s) :: r, w, t => if joins u w then tpush r w.dropLast (.node s t) else (w, t) :: (u, s) :: r
def wpush : List W → W → List W
  | [], w => [w]
  | u :: r, w => if joins u w then wpush r w.dropLast else w :: u :: r
theorem joins_false {u w : W} : joins u (w ++ [false]) = false := by
  cases h : joins u (w ++ [false]) with
  | false => rfl
  | true =>
    obtain ⟨v, _, h2⟩ := joins_iff.mp h
    have := congrArg List.getLast? h2
    simp at this
theorem joins_self {w : W} : joins (w ++ [false]) (w ++ [true]) = true := joins_iff.mpr ⟨w, rfl, rfl⟩
theorem wpush_false (st : List W) (w : W) : wpush st (w ++ [false]) = (w ++ [false]) :: st := by
  cases st with
  | nil => rfl
  | cons u r => rw [wpush, if_neg (by rw [joins_false]; simp)]
theorem tpush_false (st : List (W × Tr)) (w : W) (t : Tr) : tpush st (w ++ [false]) t = (w ++ [false], t) :: st := by
  cases st with
  | nil => rfl
  | cons u r => obtain ⟨u, s⟩ := u; rw [tpush, if_neg (by rw [joins_false]; simp)]
theorem wpush_true (st : List W) (w : W) : wpush ((w ++ [false]) :: st) (w ++ [true]) = wpush st w := by
  rw [wpush, if_pos joins_self]; simp
theorem tpush_true (st : List (W × Tr)) (w : W) (s t : Tr) : tpush ((w ++ [false], s) :: st) (w ++ [true]) t = tpush st w (.node s t) := by
  rw [tpush, if_pos joins_self]; simp
def wparse (st : List W) (ws : List W) : List W := ws.foldl wpush st
def tparse (st : List (W × Tr)) (ws : List W) : List (W × Tr) := ws.foldl (fun st w => tpush st w .leaf) st
theorem tparse_app (st : List (W × Tr)) (a b : List W) : tparse st (a ++ b) = tparse (tparse st a) b := by simp [tparse]
theorem wparse_app (st : List W) (a b : List W) : wparse st (a ++ b) = wparse (wparse st a) b := by simp [wparse]
theorem tparse_pths : ∀ (t : Tr) (w : W) (st : List (W × Tr)), tparse st ((pths t).map (w ++ ·)) = tpush st w t
  | .leaf, w, st => by simp [pths, tparse]
  | .node l r, w, st => by
    have e1 := tparse_pths l (w ++ [false]) st
    have e2 := tparse_pths r (w ++ [true]) ((w ++ [false], l) :: st)
    rw [tpush_false] at e1
    rw [tpush_true] at e2
    rw [← e2, ← e1, ← tparse_app]
    simp [pths, Function.comp_def]
theorem tpush_words : ∀ (st : List (W × Tr)) (w : W) (t : Tr), (tpush st w t).map (·.1) = wpush (st.map (·.1)) w
  | [], w, t => rfl
  | (u, s) :: r, w, t => by
    rw [tpush, List.map_cons, wpush]
    split
    · exact tpush_words r _ _
    · rfl
theorem tparse_words : ∀ (ws : List W) (st : List (W × Tr)), (tparse st ws).map (·.1) = wparse (st.map (·.1)) ws
  | [], st => rfl
  | w :: ws, st => by
    have := tparse_words ws (tpush st w .leaf)
    rw [tpush_words] at this
    exact this
def flat (st : List (W × Tr)) : List W := st.reverse.flatMap fun x => (pths x.2).map (x.1 ++ ·)
theorem flat_cons (x : W × Tr) (st : List (W × Tr)) : flat (x :: st) = flat st ++ (pths x.2).map (x.1 ++ ·) := by simp [flat]
theorem flat_push : ∀ (st : List (W × Tr)) (w : W) (t : Tr), flat (tpush st w t) = flat st ++ (pths t).map (w ++ ·)
  | [], w, t => by simp [tpush, flat]
  | (u, s) :: r, w, t => by
    rw [tpush]
    split
    · rename_i h
      obtain ⟨v, rfl, rfl⟩ := joins_iff.mp h
      rw [flat_push r, flat_cons]
      simp [pths, Function.comp_def]
    · rw [flat_cons]
theorem flat_parse : ∀ (ws : List W) (st : List (W × Tr)), flat (tparse st ws) = flat st ++ ws
  | [], st => by simp [tparse]
  | w :: ws, st => by
    have := flat_parse ws (tpush st w .leaf)
    rw [flat_push] at this
    rw [show tparse st (w :: ws) = tparse (tpush st w .leaf) ws from rfl, this]
    simp [pths]
theorem isT_iff (ws : List W) : IsT ws ↔ wparse [] ws = [[]] := by
  constructor
  · rintro ⟨S, rfl⟩
    have h := tparse_words (pths S) []
    have h2 := tparse_pths S [] []
    simp at h2
    rw [h2] at h
    exact h.symm
  · intro h
    have h1 := tparse_words ws []
    rw [List.map_nil, h] at h1
    have h2 := flat_parse ws []
    cases q : tparse [] ws with
    | nil => rw [q] at h1; simp at h1
    | cons x r =>
      cases r with
      | cons _ _ => rw [q] at h1; simp at h1
      | nil =>
        obtain ⟨w, t⟩ := x
        rw [q] at h1 h2
        simp at h1
        subst h1
        exact ⟨t, by simpa [flat] using h2.symm⟩
/-- the tree of its ways -/
def tof (ws : List W) : Tr := match tparse [] ws with
  | (_, t) :: _ => t
  | [] => .leaf
theorem tof_pths (t : Tr) : tof (pths t) = t := by
  have h2 := tparse_pths t [] []
  simp at h2
  simp [tof, h2, tpush]
theorem pths_inj {s t : Tr} (h : pths s = pths t) : s = t := by rw [← tof_pths s, h, tof_pths]
theorem tof_isT {ws : List W} (h : IsT ws) : pths (tof ws) = ws := by
  obtain ⟨S, rfl⟩ := h
  rw [tof_pths]
theorem wparse_trim : ∀ (L : LT) (st : List W), wparse st (labs (trim L)) = wparse st (labs L)
  | .leaf _, _ => rfl
  | .node l r, st => by
    have e : wparse st (labs (.node (trim l) (trim r))) = wparse st (labs (.node l r)) := by
      simp only [labs]
      rw [wparse_app, wparse_app, wparse_trim l, wparse_trim r]
    rw [← e, trim]
    rcases mk_cases (trim l) (trim r) with ⟨v, h1, h2, h3⟩ | ⟨_, h3⟩
    · rw [h3, h1, h2]
      simp only [labs]
      show wpush st v = wparse st ([v ++ [false]] ++ [v ++ [true]])
      rw [wparse_app]
      show _ = wpush (wpush st (v ++ [false])) (v ++ [true])
      rw [wpush_false, wpush_true]
    · rw [h3]
theorem isT_trim {L : LT} (h : IsT (labs L)) : IsT (labs (trim L)) := by
  rw [isT_iff, wparse_trim, ← isT_iff]; exact h

theorem trim_len : ∀ L : LT, lv (shape (trim L)) ≤ lv (shape L)
  | .leaf _ => Nat.le_refl _
  | .node l r => by
    have h1 := trim_len l
    have h2 := trim_len r
    have h3 := lv_pos (shape l)
    have h4 := lv_pos (shape r)
    rw [trim]
    rcases mk_cases (trim l) (trim r) with ⟨v, e1, e2, e3⟩ | ⟨_, e3⟩
    · rw [e3]
      simp only [shape, lv]
      omega
    · rw [e3]
      simp only [shape, lv]
      omega
/-! ### maps -/
abbrev Mp := Tr × Tr
def labM (M : Mp) : LT := lab M.1 (pths M.2)
def actM (M : Mp) : Sm → Sm := act (labM M)
def okM (M : Mp) : Prop := lv M.1 = lv M.2
def trm (M : Mp) : Mp := (shape (trim (labM M)), tof (labs (trim (labM M))))
theorem labs_labM {M : Mp} (h : okM M) : labs (labM M) = pths M.2 := labs_lab _ _ (by rw [pths_len]; exact h.symm)
theorem pths_trm {M : Mp} (h : okM M) : pths (trm M).2 = labs (trim (labM M)) := tof_isT (isT_trim ⟨M.2, labs_labM h⟩)
theorem labM_trm {M : Mp} (h : okM M) : labM (trm M) = trim (labM M) := by
  show lab (shape (trim (labM M))) (pths (trm M).2) = _
  rw [pths_trm h, lab_labs]
theorem ok_trm {M : Mp} (h : okM M) : okM (trm M) := by
  have := congrArg List.length (pths_trm h)
  rw [pths_len, labs_len] at this
  exact this.symm
theorem lv_trm (M : Mp) : lv (trm M).1 ≤ lv M.1 := by
  have := trim_len (labM M)
  rw [labM, shape_lab] at this
  exact this
theorem act_trm {M : Mp} (h : okM M) : actM (trm M) = actM M := by
  unfold actM; rw [labM_trm h, act_trim]
theorem labM_inj {M N : Mp} (hM : okM M) (hN : okM N) (h : labM M = labM N) : M = N := by
  have h1 := congrArg shape h
  have h2 := congrArg labs h
  rw [labs_labM hM, labs_labM hN] at h2
  simp only [labM, shape_lab] at h1
  exact Prod.ext h1 (pths_inj h2)
theorem trm_unique {M N : Mp} (hM : okM M) (hN : okM N) (h : actM M = actM N) : trm M = trm N :=
  labM_inj (ok_trm hM) (ok_trm hN) (by rw [labM_trm hM, labM_trm hN, trim_unique _ _ h])
theorem trm_trm {M : Mp} (h : okM M) : trm (trm M) = trm M := trm_unique (ok_trm h) h (act_trm h)
/-- no place is needless -/
def isTrm (M : Mp) : Prop := trm M = M
theorem actM_at {M : Mp} {k : Nat} {w v : W} (z : Sm) (h1 : (pths M.1)[k]? = some w) (h2 : (pths M.2)[k]? = some v) : actM M (app w z) = app v z := act_lab _ _ k w v z h1 h2
theorem act_ext {M : Mp} {g : Sm → Sm} (hM : okM M) (h : ∀ (k : Nat) (w v : W) (z : Sm), (pths M.1)[k]? = some w → (pths M.2)[k]? = some v → g (app w z) = app v z) : actM M = g := by
  funext x
  obtain ⟨k, w, z, h1, rfl⟩ := cover M.1 x
  have hk : k < (pths M.2).length := by
    have := (List.getElem?_eq_some_iff.mp h1).1
    rw [pths_len] at this ⊢
    rw [← hM]; exact this
  have h2 : (pths M.2)[k]? = some (pths M.2)[k] := List.getElem?_eq_getElem hk
  rw [actM_at z h1 h2, h k w _ z h1 h2]
/-- one behind another, by a tree between -/
theorem act_comp {T C S : Tr} (h1 : lv T = lv C) (h2 : lv C = lv S) : actM (T, S) = fun x => actM (C, S) (actM (T, C) x) := by
  refine act_ext (h1.trans h2) fun k w v z e1 e2 => ?_
  have hk : k < (pths C).length := by
    have := (List.getElem?_eq_some_iff.mp e1).1
    rw [pths_len] at this ⊢
    rw [← h1]; exact this
  have e3 : (pths C)[k]? = some (pths C)[k] := List.getElem?_eq_getElem hk
  show actM (C, S) (actM (T, C) (app w z)) = _
  rw [actM_at (M := (T, C)) z e1 e3, actM_at (M := (C, S)) z e3 e2]

/-! ### leaves exchanged for trees -/
def graft : Tr → List Tr → Tr
  | .leaf, us => us.headD .leaf
  | .node l r, us => .node (graft l (us.take (lv l))) (graft r (us.drop (lv l)))
def sumlv (us : List Tr) : Nat := (us.map lv).sum
theorem lv_graft : ∀ (t : Tr) (us : List Tr), us.length = lv t → lv (graft t us) = sumlv us
  | .leaf, us, h => by
    match us, h with
    | [u], _ => simp [graft, sumlv]
  | .node l r, us, h => by
    simp only [lv] at h
    simp only [graft, lv]
    rw [lv_graft l _ (by simp; omega), lv_graft r _ (by simp; omega)]
    simp only [sumlv]
    rw [← List.sum_append, ← List.map_append, List.take_append_drop]
theorem ok_graft {M : Mp} {us : List Tr} (h : okM M) (hu : us.length = lv M.1) : okM (graft M.1 us, graft M.2 us) := by
  show lv _ = lv _
  rw [lv_graft _ _ hu, lv_graft _ _ (by rw [hu]; exact h)]
def gpths : List W → List Tr → List W
  | w :: ws, u :: us => (pths u).map (w ++ ·) ++ gpths ws us
  | _, _ => []
theorem gpths_app : ∀ (a b : List W) (c d : List Tr), a.length = c.length → gpths (a ++ b) (c ++ d) = gpths a c ++ gpths b d
  | [], b, [], d, _ => rfl
  | w :: a, b, u :: c, d, h => by
    simp only [List.cons_append, gpths]
    rw [gpths_app a b c d (by simpa using h), List.append_assoc]
theorem gpths_map (b : Bool) : ∀ (ws : List W) (us : List Tr), gpths (ws.map (b :: ·)) us = (gpths ws us).map (b :: ·)
  | [], us => by cases us <;> rfl
  | w :: ws, [] => rfl
  | w :: ws, u :: us => by
    simp only [List.map_cons, gpths, List.map_append, gpths_map b ws us, List.map_map]
    rfl
theorem pths_graft : ∀ (t : Tr) (us : List Tr), us.length = lv t → pths (graft t us) = gpths (pths t) us
  | .leaf, us, h => by
    match us, h with
    | [u], _ => simp [graft, pths, gpths]
  | .node l r, us, h => by
    simp only [lv] at h
    simp only [graft, pths]
    rw [pths_graft l _ (by simp; omega), pths_graft r _ (by simp; omega)]
    have e : us = us.take (lv l) ++ us.drop (lv l) := (List.take_append_drop _ _).symm
    rw [← gpths_map, ← gpths_map, ← gpths_app _ _ _ _ (by simp; omega), ← e]
theorem gpths_get : ∀ (us : List Tr) (ws vs : List W) (k : Nat) (w v : W), ws.length = us.length → vs.length = us.length → (gpths ws us)[k]? = some w → (gpths vs us)[k]? = some v →
    ∃ (j : Nat) (a b p : W), ws[j]? = some a ∧ vs[j]? = some b ∧ w = a ++ p ∧ v = b ++ p
  | [], ws, vs, k, w, v, h1, h2, e1, e2 => by
    cases ws with
    | nil => simp [gpths] at e1
    | cons _ _ => simp at h1
  | u :: us, [], vs, k, w, v, h1, h2, e1, e2 => by simp at h1
  | u :: us, a :: ws, [], k, w, v, h1, h2, e1, e2 => by simp at h2
  | u :: us, a :: ws, b :: vs, k, w, v, h1, h2, e1, e2 => by
    simp only [gpths] at e1 e2
    by_cases hk : k < lv u
    · rw [List.getElem?_append_left (by simpa using hk), List.getElem?_map] at e1 e2
      obtain ⟨p, q1, rfl⟩ := Option.map_eq_some_iff.mp e1
      rw [q1] at e2
      cases e2
      exact ⟨0, a, b, p, rfl, rfl, rfl, rfl⟩
    · rw [List.getElem?_append_right (by simp; omega), List.length_map, pths_len] at e1 e2
      obtain ⟨j, c, d, p, q1, q2, q3, q4⟩ := gpths_get us ws vs _ w v (by simpa using h1) (by simpa using h2) e1 e2
      exact ⟨j + 1, c, d, p, by simpa using q1, by simpa using q2, q3, q4⟩
theorem act_graft {M : Mp} {us : List Tr} (h : okM M) (hu : us.length = lv M.1) : actM (graft M.1 us, graft M.2 us) = actM M := by
  refine act_ext (ok_graft h hu) fun k w v z e1 e2 => ?_
  dsimp only at e1 e2
  have hu2 : us.length = lv M.2 := by rw [hu]; exact h
  rw [pths_graft _ _ hu] at e1
  rw [pths_graft _ _ hu2] at e2
  obtain ⟨j, a, b, p, q1, q2, rfl, rfl⟩ := gpths_get us _ _ k w v (by simp [hu]) (by simp [hu2]) e1 e2
  rw [app_append, app_append, actM_at _ q1 q2]
def both : Tr → Tr → Tr
  | .leaf, u => u
  | t, .leaf => t
  | .node l r, .node l' r' => .node (both l l') (both r r')
def exc : Tr → Tr → List Tr
  | .leaf, m => [m]
  | .node l r, .node l' r' => exc l l' ++ exc r r'
  | .node l r, .leaf => List.replicate (lv (.node l r)) .leaf
theorem exc_len : ∀ t m : Tr, (exc t m).length = lv t
  | .leaf, m => rfl
  | .node l r, .leaf => by simp [exc]
  | .node l r, .node l' r' => by simp [exc, lv, exc_len l l', exc_len r r']
theorem exc_self : ∀ t u : Tr, graft t (exc t (both t u)) = both t u
  | .leaf, u => rfl
  | .node l r, .leaf => by
    have h : ∀ t : Tr, graft t (exc t t) = t := fun t => by
      induction t with
      | leaf => rfl
      | node l r il ir => simp only [exc, graft]; rw [List.take_left' (exc_len l l), List.drop_left' (exc_len l l), il, ir]
    exact h _
  | .node l r, .node l' r' => by
    simp only [both, exc, graft]
    rw [List.take_left' (exc_len _ _), List.drop_left' (exc_len _ _), exc_self l l', exc_self r r']
theorem both_comm : ∀ t u : Tr, both t u = both u t
  | .leaf, .leaf => rfl
  | .leaf, .node _ _ => rfl
  | .node _ _, .leaf => rfl
  | .node l r, .node l' r' => by simp only [both]; rw [both_comm l l', both_comm r r']
theorem exc_other (t u : Tr) : graft u (exc u (both t u)) = both t u := by rw [both_comm, exc_self]
/-- one, then another: ahead of trimming -/
def thn0 (f g : Mp) : Mp := (graft f.1 (exc f.2 (both f.2 g.1)), graft g.2 (exc g.1 (both f.2 g.1)))
def thn (f g : Mp) : Mp := trm (thn0 f g)
theorem lv_thn0 {f g : Mp} (hf : okM f) (hg : okM g) : lv (thn0 f g).1 = lv (both f.2 g.1) ∧ lv (both f.2 g.1) = lv (thn0 f g).2 := by
  constructor
  · show lv (graft _ _) = _
    rw [lv_graft _ _ (by rw [exc_len]; exact hf.symm), ← lv_graft f.2 _ (exc_len _ _), exc_self]
  · show _ = lv (graft _ _)
    rw [lv_graft g.2 _ (by rw [exc_len]; exact hg), ← lv_graft g.1 _ (exc_len _ _), exc_other]
theorem ok_thn0 {f g : Mp} (hf : okM f) (hg : okM g) : okM (thn0 f g) := (lv_thn0 hf hg).1.trans (lv_thn0 hf hg).2
theorem act_thn0 {f g : Mp} (hf : okM f) (hg : okM g) : actM (thn0 f g) = fun x => actM g (actM f x) := by
  obtain ⟨h1, h2⟩ := lv_thn0 hf hg
  rw [show thn0 f g = ((thn0 f g).1, (thn0 f g).2) from rfl, act_comp h1 h2]
  have a1 : actM ((thn0 f g).1, both f.2 g.1) = actM f := by
    have := act_graft (us := exc f.2 (both f.2 g.1)) hf (by rw [exc_len]; exact hf.symm)
    rw [exc_self] at this
    exact this
  have a2 : actM (both f.2 g.1, (thn0 f g).2) = actM g := by
    have := act_graft (us := exc g.1 (both f.2 g.1)) hg (by rw [exc_len])
    rw [exc_other] at this
    exact this
  rw [a1, a2]
theorem ok_thn {f g : Mp} (hf : okM f) (hg : okM g) : okM (thn f g) := ok_trm (ok_thn0 hf hg)
theorem act_thn {f g : Mp} (hf : okM f) (hg : okM g) : actM (thn f g) = fun x => actM g (actM f x) := by
  rw [thn, act_trm (ok_thn0 hf hg), act_thn0 hf hg]
theorem thn_trm {f g : Mp} (hf : okM f) (hg : okM g) : trm (thn f g) = thn f g := trm_trm (ok_thn0 hf hg)
theorem thn_assoc {f g h : Mp} (hf : okM f) (hg : okM g) (hh : okM h) : thn (thn f g) h = thn f (thn g h) := by
  rw [← thn_trm (ok_thn hf hg) hh, ← thn_trm hf (ok_thn hg hh)]
  refine trm_unique (ok_thn (ok_thn hf hg) hh) (ok_thn hf (ok_thn hg hh)) ?_
  rw [act_thn (ok_thn hf hg) hh, act_thn hf hg, act_thn hf (ok_thn hg hh), act_thn hg hh]
def one : Mp := (.leaf, .leaf)
theorem act_one : actM one = id := by funext x; rfl
theorem ok_one : okM one := rfl
theorem trm_one : trm one = one := rfl
theorem thn_one {f : Mp} (hf : okM f) : thn f one = trm f := by
  rw [← thn_trm hf ok_one]
  refine trm_unique (ok_thn hf ok_one) hf ?_
  rw [act_thn hf ok_one, act_one]; rfl
theorem one_thn {f : Mp} (hf : okM f) : thn one f = trm f := by
  rw [← thn_trm ok_one hf]
  refine trm_unique (ok_thn ok_one hf) hf ?_
  rw [act_thn ok_one hf, act_one]; rfl
def bck (f : Mp) : Mp := trm (f.2, f.1)
theorem ok_swap {f : Mp} (hf : okM f) : okM (f.2, f.1) := Eq.symm hf
theorem ok_bck {f : Mp} (hf : okM f) : okM (bck f) := ok_trm (ok_swap hf)
theorem act_swap {f : Mp} (hf : okM f) : (∀ x, actM (f.2, f.1) (actM f x) = x) ∧ ∀ x, actM f (actM (f.2, f.1) x) = x := by
  have key : ∀ {f : Mp}, okM f → ∀ x, actM (f.2, f.1) (actM f x) = x := fun {f} hf x => by
    obtain ⟨k, w, z, h1, rfl⟩ := cover f.1 x
    have hk : k < (pths f.2).length := by
      have := (List.getElem?_eq_some_iff.mp h1).1
      rw [pths_len] at this ⊢
      rw [← hf]; exact this
    have h2 : (pths f.2)[k]? = some (pths f.2)[k] := List.getElem?_eq_getElem hk
    rw [actM_at z h1 h2, actM_at (M := (f.2, f.1)) z h2 h1]
  exact ⟨key hf, key (f := (f.2, f.1)) (ok_swap hf)⟩
theorem act_bck {f : Mp} (hf : okM f) : (∀ x, actM (bck f) (actM f x) = x) ∧ ∀ x, actM f (actM (bck f) x) = x := by
  unfold bck
  rw [act_trm (ok_swap hf)]
  exact act_swap hf
theorem bck_thn {f : Mp} (hf : okM f) : thn f (bck f) = one ∧ thn (bck f) f = one := by
  constructor
  · rw [← thn_trm hf (ok_bck hf), ← trm_one]
    refine trm_unique (ok_thn hf (ok_bck hf)) ok_one ?_
    rw [act_thn hf (ok_bck hf), act_one]
    exact funext (act_bck hf).1
  · rw [← thn_trm (ok_bck hf) hf, ← trm_one]
    refine trm_unique (ok_thn (ok_bck hf) hf) ok_one ?_
    rw [act_thn (ok_bck hf) hf, act_one]
    exact funext (act_bck hf).2
theorem bck_bck {f : Mp} (hf : okM f) : bck (bck f) = trm f := by
  have e : trm (bck (bck f)) = bck (bck f) := trm_trm (ok_swap (ok_bck hf))
  rw [← e]
  refine trm_unique (ok_bck (ok_bck hf)) hf (funext fun x => ?_)
  have h1 := (act_bck (ok_bck hf)).1 (actM f x)
  rw [(act_bck hf).1] at h1
  exact h1

/-! ### trimming by a stack of rows -/
def rowsOf : LT → W → List (W × W)
  | .leaf v, p => [(p, v)]
  | .node l r, p => rowsOf l (p ++ [false]) ++ rowsOf r (p ++ [true])
def rpush : List (W × W) → W → W → List (W × W)
  | [], w, v => [(w, v)]
  | (a, b) :: r, w, v => if joins a w && joins b v then rpush r w.dropLast v.dropLast else (w, v) :: (a, b) :: r
def rparse (st : List (W × W)) (rs : List (W × W)) : List (W × W) := rs.foldl (fun st x => rpush st x.1 x.2) st
def settle (st : List (W × W)) (p : W) : LT → List (W × W)
  | .leaf v => rpush st p v
  | .node l r => (rowsOf (.node l r) p).reverse ++ st
theorem rparse_app (st a b : List (W × W)) : rparse st (a ++ b) = rparse (rparse st a) b := by simp [rparse]
theorem rpush_false (st : List (W × W)) (w v : W) : rpush st (w ++ [false]) v = (w ++ [false], v) :: st := by
  cases st with
  | nil => rfl
  | cons u r => obtain ⟨a, b⟩ := u; rw [rpush, joins_false]; simp
theorem joins_len {a b : W} (h : joins a b = true) : a.length = b.length := by
  obtain ⟨v, rfl, rfl⟩ := joins_iff.mp h
  simp
theorem rows_len : ∀ (L : LT) (p : W), (rowsOf L p).length = lv (shape L)
  | .leaf _, _ => rfl
  | .node l r, p => by simp [rowsOf, shape, lv, rows_len l, rows_len r]
theorem rows_last : ∀ (L : LT) (p : W), ∃ q v rs, rowsOf L p = rs ++ [(q, v)] ∧ p.length ≤ q.length
  | .leaf v, p => ⟨p, v, [], rfl, Nat.le_refl _⟩
  | .node l r, p => by
    obtain ⟨q, v, rs, e, h⟩ := rows_last r (p ++ [true])
    refine ⟨q, v, rowsOf l (p ++ [false]) ++ rs, by simp [rowsOf, e], ?_⟩
    simp at h; omega
theorem rparse_rows : ∀ (L : LT) (p : W) (st : List (W × W)), rparse st (rowsOf L p) = settle st p (trim L)
  | .leaf v, p, st => rfl
  | .node l r, p, st => by
    have e1 := rparse_rows l (p ++ [false]) st
    rw [rowsOf, rparse_app, e1, rparse_rows r, trim]
    cases hl : trim l with
    | leaf a =>
      rw [settle, rpush_false]
      cases hr : trim r with
      | leaf b =>
        rw [settle, rpush, joins_self, Bool.true_and]
        simp only [mk]
        split
        · rename_i hj
          obtain ⟨v, rfl, rfl⟩ := joins_iff.mp hj
          simp [settle]
        · simp [settle, rowsOf]
      | node c d => simp [settle, mk, rowsOf]
    | node a b =>
      have hm : mk (.node a b) (trim r) = .node (.node a b) (trim r) := rfl
      rw [hm]
      cases hr : trim r with
      | node c d => simp [settle, rowsOf]
      | leaf v =>
        obtain ⟨q, u, rs, e, h⟩ := rows_last b (p ++ [false] ++ [true])
        have hj : joins q (p ++ [true]) = false := by
          cases z : joins q (p ++ [true]) with
          | false => rfl
          | true =>
            have := joins_len z
            simp at this h
            omega
        have er : rowsOf (.node a b) (p ++ [false]) = (rowsOf a (p ++ [false] ++ [false]) ++ rs) ++ [(q, u)] := by simp only [rowsOf]; rw [e]; simp
        rw [settle, settle, er, settle, rowsOf, er]
        simp [rpush, hj, rowsOf]
theorem settle_nil (L : LT) : settle [] [] L = (rowsOf L []).reverse := by
  cases L with
  | leaf v => rfl
  | node l r => simp [settle]
theorem rows_fst : ∀ (L : LT) (p : W), (rowsOf L p).map (·.1) = (pths (shape L)).map (p ++ ·)
  | .leaf _, p => by simp [rowsOf, shape, pths]
  | .node l r, p => by
    simp only [rowsOf, List.map_append, rows_fst l, rows_fst r, shape, pths, List.map_map]
    congr 1 <;> (refine List.map_congr_left fun w _ => ?_; simp)
theorem rows_snd : ∀ (L : LT) (p : W), (rowsOf L p).map (·.2) = labs L
  | .leaf _, p => rfl
  | .node l r, p => by simp [rowsOf, labs, rows_snd l, rows_snd r]
theorem zip_of : ∀ {rs : List (W × W)}, (rs.map (·.1)).zip (rs.map (·.2)) = rs
  | [] => rfl
  | (a, b) :: rs => by simp [zip_of (rs := rs)]
theorem rows_zip {M : Mp} (h : okM M) : rowsOf (labM M) [] = (pths M.1).zip (pths M.2) := by
  have e1 := rows_fst (labM M) []
  have e2 := rows_snd (labM M) []
  rw [labs_labM h] at e2
  have e3 : shape (labM M) = M.1 := shape_lab _ _
  rw [e3] at e1
  rw [← zip_of (rs := rowsOf (labM M) []), e1, e2]
  simp
/-- what trimming by rows tells -/
theorem trm_rows {M : Mp} (h : okM M) : rparse [] ((pths M.1).zip (pths M.2)) = ((pths (trm M).1).zip (pths (trm M).2)).reverse := by
  rw [← rows_zip h, rparse_rows, settle_nil, ← labM_trm h, rows_zip (ok_trm h)]

/-! ### a leaf exchanged -/
def put : Tr → Nat → Tr → Tr
  | .leaf, _, u => u
  | .node l r, k, u => if k < lv l then .node (put l k u) r else .node l (put r (k - lv l) u)
theorem lv_put : ∀ (t : Tr) (k : Nat) (u : Tr), k < lv t → lv (put t k u) + 1 = lv t + lv u
  | .leaf, k, u, h => by simp [put, lv]; omega
  | .node l r, k, u, h => by
    simp only [lv] at h
    rw [put]
    split
    · rename_i hk
      have := lv_put l k u hk
      simp only [lv]; omega
    · have := lv_put r (k - lv l) u (by omega)
      simp only [lv]; omega
theorem ok_put {M : Mp} (h : okM M) (k : Nat) (u : Tr) (hk : k < lv M.1) : okM (put M.1 k u, put M.2 k u) := by
  have h1 := lv_put M.1 k u hk
  have h2 := lv_put M.2 k u (by rw [← h]; exact hk)
  have : lv M.1 = lv M.2 := h
  show lv _ = lv _
  dsimp only
  omega
end Th
/-! Pn: points of the line, and where maps send them. Plain Lean. -/
namespace Pn
open Th
def low : Int → Nat → Int × Nat
  | n, 0 => (n, 0)
  | n, d + 1 => if n % 2 = 0 then low (n / 2) d else (n, d + 1)
theorem low_step {n : Int} {d : Nat} (h : 0 < d) (h2 : n % 2 = 0) : low n d = low (n / 2) (d - 1) := by
  cases d with
  | zero => omega
  | succ d => simp [low, h2]
theorem low_stop {n : Int} {d : Nat} (h : ¬ (0 < d ∧ n % 2 = 0)) : low n d = (n, d) := by
  cases d with
  | zero => rfl
  | succ d =>
    have : ¬ n % 2 = 0 := fun z => h ⟨by omega, z⟩
    simp [low, this]
theorem low_shift (n : Int) (d : Nat) : ∀ k : Nat, low (n * 2 ^ k) (d + k) = low n d
  | 0 => by simp
  | k + 1 => by
    have e : n * 2 ^ (k + 1) = n * 2 ^ k * 2 := by rw [Int.pow_succ, Int.mul_assoc]
    rw [show d + (k + 1) = d + k + 1 from rfl]
    simp only [low]
    rw [if_pos (by rw [e]; exact Int.mul_emod_left _ _), e, Int.mul_ediv_cancel _ (by decide)]
    exact low_shift n d k
theorem low_le : ∀ (d : Nat) (n : Int), (low n d).2 ≤ d ∧ (low n d).1.natAbs ≤ n.natAbs
  | 0, n => by simp [low]
  | d + 1, n => by
    simp only [low]
    split
    · obtain ⟨h1, h2⟩ := low_le d (n / 2)
      exact ⟨by omega, by omega⟩
    · exact ⟨Nat.le_refl _, Nat.le_refl _⟩

def bin : W → Nat
  | [] => 0
  | b :: w => (if b then 2 ^ w.length else 0) + bin w
theorem bin_lt : ∀ w : W, bin w < 2 ^ w.length
  | [] => by decide
  | b :: w => by
    have := bin_lt w
    have e : 2 ^ (w.length + 1) = 2 ^ w.length + 2 ^ w.length := by rw [Nat.pow_succ]; omega
    simp only [bin, List.length_cons]
    split <;> omega
theorem bin_app : ∀ u v : W, bin (u ++ v) = bin u * 2 ^ v.length + bin v
  | [], v => by simp [bin]
  | b :: u, v => by
    simp only [List.cons_append, bin, bin_app u v, List.length_append]
    split
    · rw [Nat.pow_add, Nat.add_mul]; omega
    · simp
theorem bin_inj : ∀ {u v : W}, u.length = v.length → bin u = bin v → u = v
  | [], [], _, _ => rfl
  | [], _ :: _, h, _ => by simp at h
  | _ :: _, [], h, _ => by simp at h
  | a :: u, b :: v, h, e => by
    have hl : u.length = v.length := by simpa using h
    have h1 := bin_lt u
    have h2 := bin_lt v
    simp only [bin, hl] at e h1
    have : a = b := by
      cases a <;> cases b <;> simp at e ⊢ <;> omega
    subst this
    rw [bin_inj hl (by split at e <;> omega)]
def bts : Nat → Nat → W
  | 0, _ => []
  | d + 1, n => (decide (2 ^ d ≤ n)) :: bts d (n % 2 ^ d)
@[simp] theorem bts_len : ∀ d n : Nat, (bts d n).length = d
  | 0, _ => rfl
  | d + 1, n => by simp [bts, bts_len d]
theorem bin_bts : ∀ (d n : Nat), n < 2 ^ d → bin (bts d n) = n
  | 0, n, h => by simp at h; subst h; rfl
  | d + 1, n, h => by
    have hp : 0 < 2 ^ d := Nat.two_pow_pos d
    rw [Nat.pow_succ] at h
    simp only [bts, bin, bts_len]
    rw [bin_bts d _ (Nat.mod_lt _ hp)]
    by_cases hc : 2 ^ d ≤ n
    · rw [if_pos (by simpa using hc)]
      have : n % 2 ^ d = n - 2 ^ d := by rw [Nat.mod_eq_sub_mod hc, Nat.mod_eq_of_lt (by omega)]
      omega
    · rw [if_neg (by simpa using hc), Nat.mod_eq_of_lt (by omega)]
      omega
def zs : Sm := fun _ => false
theorem zs_cns : cns false zs = zs := by funext n; cases n <;> rfl
theorem app_zeros (u : W) : ∀ k : Nat, app (u ++ List.replicate k false) zs = app u zs
  | 0 => by simp
  | k + 1 => by
    rw [List.replicate_succ', ← List.append_assoc, app_append]
    show app _ (cns false zs) = _
    rw [zs_cns, app_zeros u k]
/-- the point of a word -/
def vl (u : W) : Int × Nat := low (bin u) u.length
theorem vl_zeros (u : W) (k : Nat) : vl (u ++ List.replicate k false) = vl u := by
  have h0 : ∀ k : Nat, bin (List.replicate k false) = 0 := fun k => by
    induction k with
    | zero => rfl
    | succ k ih => simp [List.replicate_succ, bin, ih]
  unfold vl
  rw [bin_app, h0, List.length_append, List.length_replicate, Nat.add_zero]
  have := low_shift (bin u) u.length k
  rw [← this]
  congr 1
/-- the lowest pair tells the same number -/
theorem low_val : ∀ (d : Nat) (n : Int), (low n d).1 * 2 ^ (d - (low n d).2) = n
  | 0, n => by simp [low]
  | d + 1, n => by
    simp only [low]
    split
    · rename_i h
      have h1 := low_val d (n / 2)
      have h2 := (low_le d (n / 2)).1
      rw [show d + 1 - (low (n / 2) d).2 = (d - (low (n / 2) d).2) + 1 by omega, Int.pow_succ, ← Int.mul_assoc, h1]
      omega
    · simp
theorem low_cross {n m : Int} {d e : Nat} (h : low n d = low m e) : n * 2 ^ e = m * 2 ^ d := by
  have h1 := low_val d n
  have h2 := low_val e m
  have l1 := (low_le d n).1
  have l2 := (low_le e m).1
  rw [h] at h1 l1
  generalize (low m e).1 = a at *
  generalize (low m e).2 = b at *
  rw [← h1, ← h2, Int.mul_assoc, Int.mul_assoc, ← Int.pow_add, ← Int.pow_add]
  congr 2
  omega
theorem vl_inj {u v : W} (h : vl u = vl v) : app u zs = app v zs := by
  have h1 := low_cross h
  have h2 : bin u * 2 ^ v.length = bin v * 2 ^ u.length := by exact_mod_cast h1
  rw [← app_zeros u v.length, ← app_zeros v u.length]
  congr 1
  have h0 : ∀ k : Nat, bin (List.replicate k false) = 0 := fun k => by
    induction k with
    | zero => rfl
    | succ k ih => simp [List.replicate_succ, bin, ih]
  refine bin_inj (by simp; omega) ?_
  rw [bin_app, bin_app, h0, h0, List.length_replicate, List.length_replicate]
  omega
theorem app_vl {u v : W} (h : app u zs = app v zs) : vl u = vl v := by
  rw [← vl_zeros u v.length, ← vl_zeros v u.length]
  have e : app (u ++ List.replicate v.length false) zs = app (v ++ List.replicate u.length false) zs := by rw [app_zeros, app_zeros, h]
  have key : ∀ {a b : W}, a.length = b.length → ∀ {x y : Sm}, app a x = app b y → a = b := fun {a} => by
    induction a with
    | nil => intro b hl x y _; cases b with | nil => rfl | cons _ _ => simp at hl
    | cons c a ih =>
      intro b hl x y he
      cases b with
      | nil => simp at hl
      | cons d b =>
        obtain ⟨h1, h2⟩ := cns_inj he
        rw [h1, ih (by simpa using hl) h2]
  rw [key (by simp; omega) e]
/-- a point is sent to a point -/
def Img (M : Mp) (P P' : Int × Nat) : Prop := (P = (1, 0) ∧ P' = (1, 0)) ∨ ∃ u u', P = vl u ∧ P' = vl u' ∧ actM M (app u zs) = app u' zs
theorem low_lt {n : Int} {d : Nat} (h0 : 0 ≤ n) (h : n < 2 ^ d) : (low n d).1 < 2 ^ (low n d).2 ∧ 0 ≤ (low n d).1 := by
  have h1 := low_val d n
  have h2 := (low_le d n).1
  have hp : (0 : Int) < 2 ^ (d - (low n d).2) := Int.pow_pos (by decide)
  have e : (2 : Int) ^ d = 2 ^ (low n d).2 * 2 ^ (d - (low n d).2) := by rw [← Int.pow_add]; congr 1; omega
  constructor
  · refine Int.lt_of_mul_lt_mul_right (a := 2 ^ (d - (low n d).2)) ?_ (Int.le_of_lt hp)
    rw [h1, ← e]; exact h
  · refine Int.le_of_mul_le_mul_right (a := 2 ^ (d - (low n d).2)) ?_ hp
    rw [h1, Int.zero_mul]; exact h0
theorem vl_ne_one (u : W) : vl u ≠ (1, 0) := fun h => by
  have := (low_lt (n := bin u) (d := u.length) (by omega) (by exact_mod_cast bin_lt u)).1
  unfold vl at h
  rw [h] at this
  simp at this
theorem img_fun {M : Mp} {P a b : Int × Nat} (h1 : Img M P a) (h2 : Img M P b) : a = b := by
  rcases h1 with ⟨h1, rfl⟩ | ⟨u, u', rfl, rfl, e1⟩
  · rcases h2 with ⟨_, rfl⟩ | ⟨v, v', e, rfl, _⟩
    · rfl
    · rw [h1] at e; exact absurd e.symm (vl_ne_one v)
  · rcases h2 with ⟨e, rfl⟩ | ⟨v, v', e, rfl, e2⟩
    · exact absurd e (vl_ne_one u)
    · rw [vl_inj e] at e1
      rw [e1] at e2
      exact app_vl e2
theorem img_act {M N : Mp} (h : actM M = actM N) {P a : Int × Nat} (h1 : Img M P a) : Img N P a := by
  rcases h1 with h1 | ⟨u, u', h1, h2, e⟩
  · exact .inl h1
  · exact .inr ⟨u, u', h1, h2, by rw [← h]; exact e⟩
theorem img_bck {M : Mp} (hM : okM M) {P a : Int × Nat} (h1 : Img M P a) : Img (bck M) a P := by
  rcases h1 with ⟨h1, h2⟩ | ⟨u, u', h1, h2, e⟩
  · exact .inl ⟨h2, h1⟩
  · exact .inr ⟨u', u, h2, h1, by rw [← e]; exact (act_bck hM).1 _⟩
theorem img_thn {f g : Mp} (hf : okM f) (hg : okM g) {P a b : Int × Nat} (h1 : Img f P a) (h2 : Img g a b) : Img (thn f g) P b := by
  rcases h1 with ⟨h1, rfl⟩ | ⟨u, u', rfl, rfl, e1⟩
  · rcases h2 with ⟨_, rfl⟩ | ⟨v, v', e, _, _⟩
    · exact .inl ⟨h1, rfl⟩
    · exact absurd e.symm (vl_ne_one v)
  · rcases h2 with ⟨e, _⟩ | ⟨v, v', e, rfl, e2⟩
    · exact absurd e (vl_ne_one u')
    · refine .inr ⟨u, v', rfl, rfl, ?_⟩
      rw [act_thn hf hg]
      show actM g (actM f (app u zs)) = _
      rw [e1, vl_inj e, e2]

/-! ### neighbours -/
theorem abut : ∀ (t : Tr) (k : Nat) (w : W), (pths t)[k]? = some w → (∀ w', (pths t)[k + 1]? = some w' → (bin w + 1) * 2 ^ w'.length = bin w' * 2 ^ w.length) ∧ (k + 1 = lv t → bin w + 1 = 2 ^ w.length) ∧ (k = 0 → bin w = 0)
  | .leaf, k, w, h => by
    cases k with
    | zero =>
      simp [pths] at h
      subst h
      exact ⟨fun w' h => by simp [pths] at h, fun _ => rfl, fun _ => rfl⟩
    | succ k => simp [pths] at h
  | .node l r, k, w, h => by
    have pl := lv_pos l
    have pr := lv_pos r
    simp only [pths] at h ⊢
    by_cases hk : k < lv l
    · rw [List.getElem?_append_left (by simpa using hk), List.getElem?_map] at h
      obtain ⟨u, hu, rfl⟩ := Option.map_eq_some_iff.mp h
      obtain ⟨a1, a2, a3⟩ := abut l k u hu
      refine ⟨fun w' hw' => ?_, fun e => ?_, fun e => ?_⟩
      · by_cases hk2 : k + 1 < lv l
        · rw [List.getElem?_append_left (by simpa using hk2), List.getElem?_map] at hw'
          obtain ⟨u', hu', rfl⟩ := Option.map_eq_some_iff.mp hw'
          have := a1 u' hu'
          simp only [bin, List.length_cons, Bool.false_eq_true, if_false, Nat.zero_add, Nat.pow_succ]
          rw [← Nat.mul_assoc, ← Nat.mul_assoc, this]
        · have e : k + 1 = lv l := by omega
          rw [List.getElem?_append_right (by simp; omega), List.length_map, pths_len, e, Nat.sub_self, List.getElem?_map] at hw'
          obtain ⟨u', hu', rfl⟩ := Option.map_eq_some_iff.mp hw'
          have b1 := a2 e
          have b3 := (abut r 0 u' hu').2.2 rfl
          simp only [bin, List.length_cons, Bool.false_eq_true, if_false, if_true, Nat.zero_add, Nat.pow_succ, b3, b1, Nat.add_zero]
          rw [← Nat.mul_assoc, ← Nat.mul_assoc, Nat.mul_comm (2 ^ u.length) (2 ^ u'.length)]
      · simp only [lv] at e; omega
      · simp only [bin, Bool.false_eq_true, if_false, Nat.zero_add]; exact a3 e
    · rw [List.getElem?_append_right (by simp; omega), List.length_map, pths_len, List.getElem?_map] at h
      obtain ⟨u, hu, rfl⟩ := Option.map_eq_some_iff.mp h
      obtain ⟨a1, a2, a3⟩ := abut r (k - lv l) u hu
      refine ⟨fun w' hw' => ?_, fun e => ?_, fun e => by omega⟩
      · rw [List.getElem?_append_right (by simp; omega), List.length_map, pths_len, List.getElem?_map, show k + 1 - lv l = k - lv l + 1 by omega] at hw'
        obtain ⟨u', hu', rfl⟩ := Option.map_eq_some_iff.mp hw'
        have := a1 u' hu'
        simp only [bin, List.length_cons, if_true, Nat.pow_succ]
        rw [show (2 ^ u.length + bin u + 1) = (bin u + 1) + 2 ^ u.length by omega, show (2 ^ u'.length + bin u') = bin u' + 2 ^ u'.length by omega, ← Nat.mul_assoc, ← Nat.mul_assoc, Nat.add_mul, Nat.add_mul, this, Nat.mul_comm (2 ^ u.length) (2 ^ u'.length), Nat.add_mul, Nat.add_mul]
      · simp only [lv] at e
        have := a2 (by omega)
        simp only [bin, List.length_cons, if_true, Nat.pow_succ]
        omega
theorem low_of_cross {n m : Nat} {d e : Nat} (h : n * 2 ^ e = m * 2 ^ d) : low n d = low m e := by
  rw [← low_shift n d e, ← low_shift m e d, Nat.add_comm e d]
  congr 1
  exact_mod_cast h

/-! ### the stretch that has a point -/
/-- the stretch of a word has the point (ends and all) -/
def Has (w : W) (P : Int × Nat) : Prop := (bin w : Int) * 2 ^ P.2 ≤ P.1 * 2 ^ w.length ∧ P.1 * 2 ^ w.length ≤ ((bin w : Int) + 1) * 2 ^ P.2
def val (w v : W) (P : Int × Nat) : Int × Nat :=
  low ((bin v : Int) * 2 ^ (max w.length P.2 - w.length) + (P.1 * 2 ^ (max w.length P.2 - P.2) - (bin w : Int) * 2 ^ (max w.length P.2 - w.length))) (v.length + (max w.length P.2 - w.length))
/-- a lowest pair from 0 to 1 -/
def IsP (P : Int × Nat) : Prop := P = (1, 0) ∨ ∃ u, P = vl u
theorem low_low (n : Int) (d : Nat) : low (low n d).1 (low n d).2 = low n d := by
  have h1 := low_val d n
  have h2 := (low_le d n).1
  have := low_shift (low n d).1 (low n d).2 (d - (low n d).2)
  rw [h1, show (low n d).2 + (d - (low n d).2) = d by omega] at this
  exact this.symm
theorem isP_low {P : Int × Nat} (h : IsP P) : low P.1 P.2 = P := by
  rcases h with rfl | ⟨u, rfl⟩
  · rfl
  · exact low_low _ _
theorem val_img {M : Mp} (hM : okM M) {k : Nat} {w v : W} (h1 : (pths M.1)[k]? = some w) (h2 : (pths M.2)[k]? = some v) {P : Int × Nat} (hP : IsP P) (h : Has w P) : Img M P (val w v P) := by
  obtain ⟨c1, c2⟩ := h
  have hlow := isP_low hP
  generalize hδ : max w.length P.2 = δ at *
  have d1 : w.length ≤ δ := by omega
  have d2 : P.2 ≤ δ := by omega
  have pw : ∀ n : Nat, (0 : Int) < 2 ^ n := fun n => Int.pow_pos (by decide)
  have up : ∀ {a b : Nat}, a ≤ b → (2 : Int) ^ b = 2 ^ a * 2 ^ (b - a) := fun {a b} hab => by rw [← Int.pow_add]; congr 1; omega
  -- at the depth δ
  have e1 : (bin w : Int) * 2 ^ (δ - w.length) ≤ P.1 * 2 ^ (δ - P.2) := by
    refine Int.le_of_mul_le_mul_right (a := 2 ^ (w.length + P.2)) ?_ (pw _)
    rw [Int.mul_assoc, Int.mul_assoc, ← Int.pow_add, ← Int.pow_add, show δ - w.length + (w.length + P.2) = P.2 + δ by omega, show δ - P.2 + (w.length + P.2) = w.length + δ by omega, Int.pow_add, Int.pow_add, ← Int.mul_assoc, ← Int.mul_assoc]
    exact Int.mul_le_mul_of_nonneg_right c1 (Int.le_of_lt (pw _))
  have e2 : P.1 * 2 ^ (δ - P.2) ≤ ((bin w : Int) + 1) * 2 ^ (δ - w.length) := by
    refine Int.le_of_mul_le_mul_right (a := 2 ^ (w.length + P.2)) ?_ (pw _)
    rw [Int.mul_assoc, Int.mul_assoc, ← Int.pow_add, ← Int.pow_add, show δ - w.length + (w.length + P.2) = P.2 + δ by omega, show δ - P.2 + (w.length + P.2) = w.length + δ by omega, Int.pow_add, Int.pow_add, ← Int.mul_assoc, ← Int.mul_assoc]
    exact Int.mul_le_mul_of_nonneg_right c2 (Int.le_of_lt (pw _))
  have hPl : low (P.1 * 2 ^ (δ - P.2)) δ = P := by
    have := low_shift P.1 P.2 (δ - P.2)
    rw [show P.2 + (δ - P.2) = δ by omega, hlow] at this
    exact this
  obtain ⟨st, hst⟩ := Int.eq_ofNat_of_zero_le (Int.sub_nonneg_of_le e1)
  have hstle : st ≤ 2 ^ (δ - w.length) := by
    have : (st : Int) ≤ 2 ^ (δ - w.length) := by rw [← hst]; rw [Int.add_mul] at e2; omega
    exact_mod_cast this
  have hval : val w v P = low ((bin v * 2 ^ (δ - w.length) + st : Nat) : Int) (v.length + (δ - w.length)) := by
    unfold val
    rw [hδ, hst]
    congr 1
  have hPe : P.1 * 2 ^ (δ - P.2) = ((bin w * 2 ^ (δ - w.length) + st : Nat) : Int) := by
    have : ((bin w * 2 ^ (δ - w.length) + st : Nat) : Int) = (bin w : Int) * 2 ^ (δ - w.length) + st := by simp [Int.natCast_add, Int.natCast_mul, Int.natCast_pow]
    omega
  rw [hPe] at hPl
  rw [hval]
  rcases Nat.lt_or_ge st (2 ^ (δ - w.length)) with hlt | hge
  · refine .inr ⟨w ++ bts (δ - w.length) st, v ++ bts (δ - w.length) st, ?_, ?_, ?_⟩
    · rw [← hPl, vl, bin_app, bts_len, bin_bts _ _ hlt, List.length_append, bts_len]
      congr 1; omega
    · rw [vl, bin_app, bts_len, bin_bts _ _ hlt, List.length_append, bts_len]
    · rw [app_append, app_append, actM_at _ h1 h2]
  · have he : st = 2 ^ (δ - w.length) := by omega
    subst he
    have q1 : P = low ((bin w + 1 : Nat) : Int) w.length := by
      rw [← hPl, ← low_shift ((bin w + 1 : Nat) : Int) w.length (δ - w.length), show w.length + (δ - w.length) = δ by omega]
      congr 1
      rw [show bin w * 2 ^ (δ - w.length) + 2 ^ (δ - w.length) = (bin w + 1) * 2 ^ (δ - w.length) by rw [Nat.add_mul, Nat.one_mul]]
      simp [Int.natCast_mul, Int.natCast_pow]
    have q2 : low ((bin v * 2 ^ (δ - w.length) + 2 ^ (δ - w.length) : Nat) : Int) (v.length + (δ - w.length)) = low ((bin v + 1 : Nat) : Int) v.length := by
      rw [← low_shift ((bin v + 1 : Nat) : Int) v.length (δ - w.length)]
      congr 1
      rw [show bin v * 2 ^ (δ - w.length) + 2 ^ (δ - w.length) = (bin v + 1) * 2 ^ (δ - w.length) by rw [Nat.add_mul, Nat.one_mul]]
      simp [Int.natCast_mul, Int.natCast_pow]
    rw [q2]
    obtain ⟨a1, a2, _⟩ := abut M.1 k w h1
    obtain ⟨b1, b2, _⟩ := abut M.2 k v h2
    have hkl : k < lv M.1 := by
      have := (List.getElem?_eq_some_iff.mp h1).1
      rwa [pths_len] at this
    have hM' : lv M.1 = lv M.2 := hM
    by_cases hlast : k + 1 = lv M.1
    · have one : ∀ n : Nat, low ((2 ^ n : Nat) : Int) n = (1, 0) := fun n => by
        have := low_shift 1 0 n
        simp at this
        have e : low ((2 ^ n : Nat) : Int) n = low 1 0 := by rw [← this]; congr 1
        rw [e]; rfl
      refine .inl ⟨?_, ?_⟩
      · rw [q1, a2 hlast, one]
      · rw [b2 (by omega), one]
    · have k1 : k + 1 < (pths M.1).length := by rw [pths_len]; omega
      have k2 : k + 1 < (pths M.2).length := by rw [pths_len]; omega
      have g1 : (pths M.1)[k + 1]? = some (pths M.1)[k + 1] := List.getElem?_eq_getElem k1
      have g2 : (pths M.2)[k + 1]? = some (pths M.2)[k + 1] := List.getElem?_eq_getElem k2
      refine .inr ⟨_, _, ?_, ?_, actM_at zs g1 g2⟩
      · rw [q1]; exact low_of_cross (a1 _ g1)
      · exact low_of_cross (b1 _ g2)
theorem has_some (t : Tr) {P : Int × Nat} (hP : IsP P) : ∃ (k : Nat) (w : W), (pths t)[k]? = some w ∧ Has w P := by
  rcases hP with rfl | ⟨u, rfl⟩
  · have hl := lv_pos t
    have hk : lv t - 1 < (pths t).length := by rw [pths_len]; omega
    have g := List.getElem?_eq_getElem hk
    have := (abut t _ _ g).2.1 (by omega)
    refine ⟨_, _, g, ?_⟩
    unfold Has
    have e : ((bin (pths t)[lv t - 1] : Int) + 1) = 2 ^ (pths t)[lv t - 1].length := by exact_mod_cast this
    constructor
    · simp; omega
    · simp; omega
  · obtain ⟨k, w, z, h1, h2⟩ := cover t (app u zs)
    refine ⟨k, w, h1, ?_⟩
    -- a word long enough
    have hc := low_val u.length (bin u)
    have hl := (low_le u.length (bin u)).1
    have key : ∃ r : W, app (u ++ List.replicate w.length false) zs = app (w ++ r) zs ∧ (w ++ r).length = u.length + w.length := by
      refine ⟨(u ++ List.replicate w.length false).drop w.length, ?_⟩
      have pre : ∀ (a b : W) (x y : Sm), b.length ≤ a.length → app a x = app b y → a = b ++ a.drop b.length := fun a => by
        induction a with
        | nil => intro b x y hb _; cases b with | nil => rfl | cons _ _ => simp at hb
        | cons c a ih =>
          intro b x y hb e
          cases b with
          | nil => rfl
          | cons d b =>
            obtain ⟨e1, e2⟩ := cns_inj e
            rw [List.length_cons, List.drop_succ_cons, List.cons_append, ← ih b x y (by simpa using hb) e2, e1]
      have e := pre (u ++ List.replicate w.length false) w zs z (by simp) (by rw [app_zeros]; exact h2)
      rw [← e]
      exact ⟨rfl, by simp⟩
    obtain ⟨r, h3, h4⟩ := key
    have e5 : vl u = vl (w ++ r) := by rw [← vl_zeros u w.length]; exact app_vl h3
    rw [e5]
    have hc := low_val (w ++ r).length (bin (w ++ r))
    have hl := (low_le (w ++ r).length (bin (w ++ r))).1
    have hr := bin_lt r
    unfold Has vl
    generalize (low (bin (w ++ r)) (w ++ r).length).1 = a at *
    generalize (low (bin (w ++ r)) (w ++ r).length).2 = b at *
    have pw : ∀ n : Nat, (0 : Int) < 2 ^ n := fun n => Int.pow_pos (by decide)
    rw [bin_app, List.length_append] at hc
    rw [List.length_append] at hl
    have hc' : a * 2 ^ (w.length + r.length - b) = (bin w : Int) * 2 ^ r.length + bin r := by rw [hc]; simp [Int.natCast_add, Int.natCast_mul, Int.natCast_pow]
    have hr' : (bin r : Int) ≤ 2 ^ r.length := by exact_mod_cast Nat.le_of_lt hr
    have hr0 : (0 : Int) ≤ bin r := by omega
    have lhs : ∀ c : Int, c * 2 ^ b * 2 ^ (w.length + r.length - b) = c * 2 ^ r.length * 2 ^ w.length := fun c => by
      rw [Int.mul_assoc, Int.mul_assoc, ← Int.pow_add, ← Int.pow_add]; congr 2; omega
    have mid : a * 2 ^ w.length * 2 ^ (w.length + r.length - b) = ((bin w : Int) * 2 ^ r.length + bin r) * 2 ^ w.length := by
      rw [Int.mul_right_comm, hc']
    constructor
    · refine Int.le_of_mul_le_mul_right (a := 2 ^ (w.length + r.length - b)) ?_ (pw _)
      rw [lhs, mid]
      exact Int.mul_le_mul_of_nonneg_right (by omega) (Int.le_of_lt (pw _))
    · refine Int.le_of_mul_le_mul_right (a := 2 ^ (w.length + r.length - b)) ?_ (pw _)
      rw [lhs, mid]
      refine Int.mul_le_mul_of_nonneg_right ?_ (Int.le_of_lt (pw _))
      rw [Int.add_mul]; omega
theorem img_isP {M : Mp} {P a : Int × Nat} (h : Img M P a) : IsP P ∧ IsP a := by
  rcases h with ⟨h1, h2⟩ | ⟨u, u', h1, h2, _⟩
  · exact ⟨.inl h1, .inl h2⟩
  · exact ⟨.inr ⟨u, h1⟩, .inr ⟨u', h2⟩⟩
theorem isP_of {n : Int} {d : Nat} (h0 : 0 ≤ n) (h : n ≤ 2 ^ d) : IsP (low n d) := by
  obtain ⟨m, rfl⟩ := Int.eq_ofNat_of_zero_le h0
  have h' : m ≤ 2 ^ d := by exact_mod_cast h
  rcases Nat.lt_or_ge m (2 ^ d) with hl | hl
  · refine .inr ⟨bts d m, ?_⟩
    rw [vl, bin_bts _ _ hl, bts_len]
  · have : m = 2 ^ d := by omega
    subst this
    left
    have := low_shift 1 0 d
    simp at this
    have e : low ((2 ^ d : Nat) : Int) d = low 1 0 := by rw [← this]; congr 1
    rw [e]; rfl
theorem low_odd : ∀ (d : Nat) (n : Int), (low n d).2 = 0 ∨ (low n d).1 % 2 = 1
  | 0, n => .inl rfl
  | d + 1, n => by
    simp only [low]
    split
    · exact low_odd d _
    · exact .inr (by show n % 2 = 1; omega)
/-- what a point looks like -/
theorem isP_look {P : Int × Nat} (h : IsP P) : P = (0, 0) ∨ P = (1, 0) ∨ (0 < P.1 ∧ P.1 < 2 ^ P.2 ∧ P.1 % 2 = 1) := by
  rcases h with rfl | ⟨u, rfl⟩
  · exact .inr (.inl rfl)
  · obtain ⟨h1, h2⟩ := low_lt (n := bin u) (d := u.length) (by omega) (by exact_mod_cast bin_lt u)
    have h3 := low_odd u.length (bin u)
    unfold vl
    generalize low (bin u) u.length = P at *
    obtain ⟨a, b⟩ := P
    simp only at *
    rcases h3 with h3 | h3
    · subst h3
      left
      have : a = 0 := by simp at h1; omega
      rw [this]
    · exact .inr (.inr ⟨by omega, h1, h3⟩)

theorem pw (n : Nat) : (0 : Int) < 2 ^ n := Int.pow_pos (by decide)
theorem le_cross {a b : Int} {w p δ : Nat} (h1 : w ≤ δ) (h2 : p ≤ δ) : a * 2 ^ (δ - w) ≤ b * 2 ^ (δ - p) ↔ a * 2 ^ p ≤ b * 2 ^ w := by
  have e1 : a * 2 ^ (δ - w) * 2 ^ (w + p) = a * 2 ^ p * 2 ^ δ := by
    rw [Int.mul_assoc, Int.mul_assoc, ← Int.pow_add, ← Int.pow_add]; congr 2; omega
  have e2 : b * 2 ^ (δ - p) * 2 ^ (w + p) = b * 2 ^ w * 2 ^ δ := by
    rw [Int.mul_assoc, Int.mul_assoc, ← Int.pow_add, ← Int.pow_add]; congr 2; omega
  constructor
  · intro h
    refine Int.le_of_mul_le_mul_right (a := 2 ^ δ) ?_ (pw _)
    rw [← e1, ← e2]
    exact Int.mul_le_mul_of_nonneg_right h (Int.le_of_lt (pw _))
  · intro h
    refine Int.le_of_mul_le_mul_right (a := 2 ^ (w + p)) ?_ (pw _)
    rw [e1, e2]
    exact Int.mul_le_mul_of_nonneg_right h (Int.le_of_lt (pw _))
theorem has_iff {w : W} {P : Int × Nat} {δ : Nat} (h1 : w.length ≤ δ) (h2 : P.2 ≤ δ) :
    ((bin w : Int) * 2 ^ (δ - w.length) ≤ P.1 * 2 ^ (δ - P.2) ∧ P.1 * 2 ^ (δ - P.2) ≤ ((bin w : Int) + 1) * 2 ^ (δ - w.length)) ↔ Has w P := by
  unfold Has
  rw [le_cross h1 h2, le_cross h2 h1]
theorem low_eq_shift {n m : Int} {d e : Nat} (k : Nat) (h1 : n = m * 2 ^ k) (h2 : d = e + k) : low n d = low m e := by
  subst h1; subst h2; exact low_shift m e k
theorem val_at {w v : W} {P : Int × Nat} {δ : Nat} (h1 : w.length ≤ δ) (h2 : P.2 ≤ δ) :
    low ((bin v : Int) * 2 ^ (δ - w.length) + (P.1 * 2 ^ (δ - P.2) - (bin w : Int) * 2 ^ (δ - w.length))) (v.length + (δ - w.length)) = val w v P := by
  unfold val
  refine low_eq_shift (δ - max w.length P.2) ?_ (by omega)
  have e : ∀ (a : Int) (x : Nat), x ≤ max w.length P.2 → a * 2 ^ (max w.length P.2 - x) * 2 ^ (δ - max w.length P.2) = a * 2 ^ (δ - x) := fun a x hx => by
    rw [Int.mul_assoc, ← Int.pow_add]; congr 2; omega
  rw [Int.add_mul, Int.sub_mul, e _ _ (by omega), e _ _ (by omega), e _ _ (by omega)]
theorem isP_rng {P : Int × Nat} (h : IsP P) : 0 ≤ P.1 ∧ P.1 ≤ 2 ^ P.2 := by
  rcases h with rfl | ⟨u, rfl⟩
  · decide
  · obtain ⟨h1, h2⟩ := low_lt (n := bin u) (d := u.length) (by omega) (by exact_mod_cast bin_lt u)
    unfold vl
    exact ⟨h2, by omega⟩
theorem zip_at {α β : Type} : ∀ {as : List α} {bs : List β} {x : α × β}, x ∈ as.zip bs → ∃ k : Nat, as[k]? = some x.1 ∧ bs[k]? = some x.2
  | [], _, _, h => by simp at h
  | _ :: _, [], _, h => by simp at h
  | a :: as, b :: bs, x, h => by
    rw [List.zip_cons_cons, List.mem_cons] at h
    rcases h with rfl | h
    · exact ⟨0, rfl, rfl⟩
    · obtain ⟨k, h1, h2⟩ := zip_at h
      exact ⟨k + 1, by simpa using h1, by simpa using h2⟩
theorem mem_zip {α β : Type} : ∀ {as : List α} {bs : List β} {k : Nat} {a : α} {b : β}, as[k]? = some a → bs[k]? = some b → (a, b) ∈ as.zip bs
  | [], _, _, _, _, h, _ => by simp at h
  | _ :: _, [], _, _, _, _, h => by simp at h
  | a :: as, b :: bs, 0, _, _, h1, h2 => by simp at h1 h2; subst h1; subst h2; simp
  | a :: as, b :: bs, k + 1, _, _, h1, h2 => by
    rw [List.zip_cons_cons]
    exact List.mem_cons_of_mem _ (mem_zip (k := k) (by simpa using h1) (by simpa using h2))
theorem has_row {M : Mp} (hM : okM M) {P : Int × Nat} (hP : IsP P) : ∃ x ∈ (pths M.1).zip (pths M.2), Has x.1 P := by
  obtain ⟨k, w, h1, h2⟩ := has_some M.1 hP
  have hk : k < (pths M.2).length := by
    have := (List.getElem?_eq_some_iff.mp h1).1
    rw [pths_len] at this ⊢
    rw [← hM]; exact this
  exact ⟨(w, _), mem_zip h1 (List.getElem?_eq_getElem hk), h2⟩
theorem row_img {M : Mp} (hM : okM M) {x : W × W} (hx : x ∈ (pths M.1).zip (pths M.2)) {P : Int × Nat} (hP : IsP P) (h : Has x.1 P) : Img M P (val x.1 x.2 P) := by
  obtain ⟨k, h1, h2⟩ := zip_at hx
  exact val_img hM h1 h2 hP h
end Pn
set_option maxRecDepth 100000
/-! Rf, part T: what data of a law's own are told as (trees, ways, points, lists of numbers); helpers. -/
namespace Rf
open PySem Res Th Pn

/-! ### numbers -/
theorem bits_mod {i j : Int} {m : Nat} (h : 0 < j) (hj : j ≤ 2 ^ m) : bits (i % j) ≤ m := by
  refine bits_le ?_
  have h1 := Int.emod_nonneg i (by omega : j ≠ 0)
  have h2 := Int.emod_lt_of_pos i h
  have : ((i % j).natAbs : Int) < 2 ^ m := by omega
  exact_mod_cast this
theorem bits_rng {i : Int} {m : Nat} (h : 0 ≤ i) (hj : i < 2 ^ m) : bits i ≤ m := by
  refine bits_le ?_
  have : (i.natAbs : Int) < 2 ^ m := by omega
  exact_mod_cast this
theorem bits_pow {n : Int} {d : Nat} (h : n.natAbs ≤ 2 ^ d) : bits n ≤ d + 1 := bits_le (Nat.lt_of_le_of_lt h (Nat.pow_lt_pow_right (by decide) (by omega)))
theorem bits_up {i : Int} {m n : Nat} (h : bits i ≤ m) (h2 : m ≤ n) : bits i ≤ n := Nat.le_trans h h2
theorem bits_abs {i j : Int} {m : Nat} (h : bits i ≤ m) (e : j.natAbs ≤ i.natAbs) : bits j ≤ m := bits_le (Nat.lt_of_le_of_lt e (bits_iff.mp h))
theorem rng_cons {lo : Int} {n : Nat} {x : PyData} {xs : List PyData} (h : rngI lo n = x :: xs) : ∃ m, n = m + 1 ∧ x = .int lo ∧ xs = rngI (lo + 1) m := by
  cases n with
  | zero => cases h
  | succ n => cases h; exact ⟨n, rfl, rfl, rfl⟩
theorem rng_nil {lo : Int} {n : Nat} (h : rngI lo n = []) : n = 0 := by
  cases n with
  | zero => rfl
  | succ n => cases h
def nat (d : Nat) : PyData := .int d
theorem ints_at {ws : List Int} {k : Nat} (h : k < ws.length) : L2.atI (ws.map PyData.int) (k : Int) = some (.int (ws[k])) := L2.atI_nat (by rw [List.getElem?_map, List.getElem?_eq_getElem h]; rfl)
theorem at_map {α : Type} {f : α → PyData} {ws : List α} {k : Nat} {a : α} (h : ws[k]? = some a) : L2.atI (ws.map f) (k : Int) = some (f a) := L2.atI_nat (by rw [List.getElem?_map, h]; rfl)
section
variable {α : Type} {a b c d e f g h : α} {r : List α}
@[simp] theorem at4 : L2.atI (a :: b :: c :: d :: e :: r) 4 = some e := L2.atI_nat (j := 4) rfl
@[simp] theorem at5 : L2.atI (a :: b :: c :: d :: e :: f :: r) 5 = some f := L2.atI_nat (j := 5) rfl
@[simp] theorem at6 : L2.atI (a :: b :: c :: d :: e :: f :: g :: r) 6 = some g := L2.atI_nat (j := 6) rfl
@[simp] theorem at7 : L2.atI (a :: b :: c :: d :: e :: f :: g :: h :: r) 7 = some h := L2.atI_nat (j := 7) rfl
end
@[simp] theorem at_last {α : Type} {xs : List α} {x : α} : L2.atI (xs ++ [x]) (-1) = some x := L2.atI_last _ _
theorem at_last2 {α : Type} {xs : List α} {x y : α} : L2.atI (xs ++ [x, y]) (-2) = some x := by
  unfold L2.atI L2.ixN
  have h : ((xs ++ [x, y]).length : Int) = xs.length + 2 := by simp
  rw [if_neg (by omega), if_pos (by omega)]
  show (xs ++ [x, y])[((-2 : Int) + (xs ++ [x, y]).length).toNat]? = some x
  rw [show ((-2 : Int) + (xs ++ [x, y]).length).toNat = xs.length by omega]
  simp
theorem cut_to {α : Type} (xs : List α) (k : Nat) : cut xs none (some (k : Int)) = xs.take k := by
  unfold cut
  rw [HT.sIx_none, HT.sIx_nat, List.drop_zero, Nat.sub_zero]
  rcases Nat.le_total k xs.length with h | h
  · rw [Nat.min_eq_left h]
  · rw [Nat.min_eq_right h, List.take_of_length_le (Nat.le_refl _), List.take_of_length_le h]
theorem cut_two {α : Type} (xs : List α) (i j : Nat) : cut xs (some (i : Int)) (some (j : Int)) = (xs.take j).drop i := by
  unfold cut
  rw [HT.sIx_nat, HT.sIx_nat, List.drop_take]
  rcases Nat.le_total i xs.length with h | h
  · rw [Nat.min_eq_left h]
    rcases Nat.le_total j xs.length with h2 | h2
    · rw [Nat.min_eq_left h2]
    · rw [Nat.min_eq_right h2, List.take_of_length_le (by simp), List.take_of_length_le (by simp; omega)]
  · rw [Nat.min_eq_right h, List.drop_of_length_le (Nat.le_refl _), List.drop_of_length_le h]
    simp
theorem sIx_m1 (n : Nat) : HT.sIx n n (some (-1)) = n - 1 ∧ HT.sIx n 0 (some (-1)) = n - 1 := by
  constructor <;> (unfold HT.sIx; simp; omega)

@[simp] theorem slS_str {x : Str} {lo hi : Option Int} {K : PV → Prop} : (∃ z, slS (.str x) lo hi = ok z ∧ K z) ↔ x.length ≤ 1000000 ∧ K (.d (.str (L2.cutS x lo hi))) := by
  show (∃ z, (do guard (decide (x.length ≤ 1000000)); ok (PV.d (.str (L2.cutS x lo hi))) : Res PV) = ok z ∧ K z) ↔ _
  rw [bex, guard_ex, decide_eq_true_iff]
  simp only [oex]
@[simp] theorem ixN_last {n : Nat} : L2.ixN (n + 1) (-1) = some n := by
  unfold L2.ixN
  rw [if_neg (by omega), if_pos (by omega)]
  congr 1
  omega
@[simp] theorem set_last {α : Type} {xs : List α} {a b : α} : (xs ++ [a]).set xs.length b = xs ++ [b] := by
  rw [List.set_append_right _ _ (Nat.le_refl _)]
  simp
/-! ### texts by their signs -/
def tx (l : List Nat) : Str := ⟨l.toArray⟩
@[simp] theorem tx_len (l : List Nat) : (tx l).length = l.length := by simp [tx, Str.length]
@[simp] theorem tx_app (a b : List Nat) : tx a ++ tx b = tx (a ++ b) := by
  show Str.append (tx a) (tx b) = _
  simp [tx, Str.append]
theorem tx_inj {a b : List Nat} (h : tx a = tx b) : a = b := by
  have := congrArg (fun s => s.cps.toList) h
  simpa [tx] using this
@[simp] theorem tx_eq {a b : List Nat} : (tx a = tx b) ↔ a = b := ⟨tx_inj, fun h => by rw [h]⟩
theorem tx_cut (l : List Nat) (lo hi : Option Int) : L2.cutS (tx l) lo hi = tx (cut l lo hi) := by
  simp [L2.cutS, tx, cut, Str.length]
@[simp] theorem ixD_tx {l : List Nat} {i : Int} (h : l.length ≤ 1000000) : ixD (PyData.str (tx l)) (PyData.int i) = (match L2.atI l i with | some c => ok (PyData.str (tx [c])) | none => bad) := by
  show (match L2.atI (tx l).cps.toList i with | some c => do guard (decide ((tx l).length ≤ 1000000)); ok (PyData.str ⟨#[c]⟩) | none => bad) = _
  rw [tx_len, decide_eq_true h]
  simp [tx]
def bd (b : Bool) : Nat := if b then 49 else 48
theorem bd_inj : ∀ {a b : Bool}, bd a = bd b → a = b := by decide
def wS (w : List Bool) : Str := tx (w.map bd)
theorem map_bd_inj {a b : List Bool} (h : a.map bd = b.map bd) : a = b := (List.map_inj_right fun _ _ => bd_inj).mp h
@[simp] theorem strOk_wS (w : List Bool) : PyData.strOk (wS w) = true := by
  simp only [PyData.strOk, wS, tx, Array.all_eq_true]
  intro i hi
  simp
  unfold bd
  split <;> decide
@[simp] theorem wS_eq {a b : List Bool} : wS a = wS b ↔ a = b := ⟨fun h => map_bd_inj (tx_inj h), fun h => by rw [h]⟩
@[simp] theorem wS_len (w : List Bool) : (wS w).length = w.length := by simp [wS]
@[simp] theorem wS_app (a b : List Bool) : wS a ++ wS b = wS (a ++ b) := by simp [wS]
theorem wS_nil : ("" : Str) = wS [] := by decide +kernel
theorem wS_0 : ("0" : Str) = wS [false] := by decide +kernel
theorem wS_1 : ("1" : Str) = wS [true] := by decide +kernel
theorem wS_01 : ("01" : Str) = wS [false, true] := by decide +kernel
theorem wS_init (w : List Bool) : L2.cutS (wS w) none (some (-1)) = wS w.dropLast := by
  rw [wS, tx_cut, wS]
  congr 1
  unfold cut
  rw [HT.sIx_none, (sIx_m1 _).1, List.drop_zero, Nat.sub_zero, ← List.dropLast_eq_take, List.map_dropLast]
theorem wS_last (w : List Bool) : L2.cutS (wS w) (some (-1)) none = wS (w.drop (w.length - 1)) := by
  rw [wS, tx_cut, wS]
  congr 1
  unfold cut
  rw [HT.sIx_none, (sIx_m1 _).2, List.map_drop, List.length_map]
  exact List.take_of_length_le (by simp)
theorem wS_tail (w : List Bool) : L2.cutS (wS w) (some 1) none = wS w.tail := by
  rw [wS, tx_cut, wS]
  congr 1
  rw [show (1 : Int) = ((1 : Nat) : Int) from rfl, cut_from]
  simp
theorem wS_head (b : Bool) (w : List Bool) (h : w.length < 1000000) : ixD (PyData.str (wS (b :: w))) (PyData.int 0) = ok (PyData.str (wS [b])) := by
  rw [wS, ixD_tx (by simp; omega)]
  simp [wS]
@[simp] theorem eqv_wS {a b : List Bool} : PyData.eqv (.str (wS a)) (.str (wS b)) = decide (a = b) := by rw [eqv_str]; simp
@[simp] theorem lay_str {x : Str} : (PyData.str x).canLay0 = PyData.strOk x := by rw [PyData.canLay0]
@[simp] theorem eqOk_str {x : Str} {u : PyData} : eqOk u (.str x) = (u.canLay0 && PyData.strOk x) := by
  unfold eqOk
  rw [show (PyData.str x).canLay0 = PyData.strOk x by rw [PyData.canLay0], show (PyData.str x).depth = 0 by rw [PyData.depth]]
  simp

def wsD (ws : List (List Bool)) : List PyData := ws.map fun w => .str (wS w)
@[simp] theorem lay_wsD : ∀ ws : List (List Bool), PyData.canLayAll0 (wsD ws) = true
  | [] => by simp [wsD]
  | w :: ws => by
    have := lay_wsD ws
    unfold wsD at this ⊢
    simp [this]
theorem eqva_wsD : ∀ a b : List (List Bool), PyData.eqvAll (wsD a) (wsD b) = decide (a = b)
  | [], [] => by simp [wsD]
  | [], b :: bs => by simp [wsD, PyData.eqvAll]
  | a :: as, [] => by simp [wsD, PyData.eqvAll]
  | a :: as, b :: bs => by
    have := eqva_wsD as bs
    unfold wsD at this ⊢
    simp [this]
@[simp] theorem eqOk_l1 {x : Str} {u : PyData} : eqOk u (.list [.str x]) = (u.canLay0 && PyData.strOk x) := by
  unfold eqOk
  rw [show (PyData.list [.str x]).depth = 1 by simp [PyData.depth, PyData.depthAll], lay_lst, lay_cons, lay_str, lay_nil]
  simp
  intros
  omega
theorem zip2_map {α β : Type} (f : α → PyData) (g : β → PyData) : ∀ (as : List α) (bs : List β), zip2 (as.map f) (bs.map g) = (as.zip bs).map fun x => .tuple [f x.1, g x.2]
  | [], _ => by simp [zip2]
  | _ :: _, [] => by simp [zip2]
  | a :: as, b :: bs => by simp [zip2, zip2_map f g as bs]
/-! ### trees -/
def enc : Tr → PyData
  | .leaf => .tuple []
  | .node l r => .tuple [enc l, enc r]
@[simp] theorem lay_enc : ∀ t : Tr, (enc t).canLay0 = true
  | .leaf => by simp [enc]
  | .node l r => by simp [enc, lay_enc l, lay_enc r]
@[simp] theorem eqOk_unit {u : PyData} : eqOk u (.tuple []) = u.canLay0 := by
  unfold eqOk
  rw [show (PyData.tuple []).depth = 1 by simp [PyData.depth, PyData.depthAll]]
  simp
  intro _
  omega
@[simp] theorem eqOk_uu {u : PyData} : eqOk u (.tuple [.tuple [], .tuple []]) = u.canLay0 := by
  unfold eqOk
  rw [show (PyData.tuple [.tuple [], .tuple []]).depth = 2 by simp [PyData.depth, PyData.depthAll]]
  simp
  intro _
  omega
theorem dep_enc : ∀ t : Tr, (enc t).depth ≤ hg t + 1
  | .leaf => by simp [enc, hg, PyData.depth, PyData.depthAll]
  | .node l r => by
    have h1 := dep_enc l
    have h2 := dep_enc r
    simp only [enc, hg, PyData.depth, PyData.depthAll]
    omega
theorem eqT (t u : Tr) (h : hg t ≤ 140) : eqOk (enc t) (enc u) = true := by
  have := dep_enc t
  unfold eqOk
  simp
  omega
theorem eqv_enc : ∀ t u : Tr, PyData.eqv (enc t) (enc u) = decide (t = u)
  | .leaf, .leaf => by simp [enc]
  | .leaf, .node l r => by simp [enc, PyData.eqvAll]
  | .node l r, .leaf => by simp [enc, PyData.eqvAll]
  | .node l r, .node l' r' => by simp [enc, eqv_enc l l', eqv_enc r r']
theorem eqv_unit (t : Tr) : PyData.eqv (enc t) (.tuple []) = decide (t = .leaf) := eqv_enc t .leaf
theorem eqv_uu (t : Tr) : PyData.eqv (enc t) (.tuple [.tuple [], .tuple []]) = decide (t = .node .leaf .leaf) := eqv_enc t (.node .leaf .leaf)
/-- a map -/
def mp (M : Mp) : PyData := .tuple [enc M.1, enc M.2]
theorem mp_lay (M : Mp) : (mp M).canLay0 = true := by simp [mp]
theorem mp_eq (M N : Mp) : PyData.eqv (mp M) (mp N) = decide (M = N) := by
  simp only [mp, eqv_tup, eqva_cons, eqva_nil, eqv_enc, Bool.and_true]
  obtain ⟨a, b⟩ := M
  obtain ⟨c, d⟩ := N
  simp
theorem mp_ok (M N : Mp) (h : hg M.1 ≤ 140) (h2 : hg M.2 ≤ 140) : eqOk (mp M) (mp N) = true := by
  have h1 := dep_enc M.1
  have h3 := dep_enc M.2
  unfold eqOk
  simp [mp_lay]
  simp only [mp, PyData.depth, PyData.depthAll]
  omega

/-! ### points -/
def pt (z : Int × Nat) : PyData := .tuple [.int z.1, .int z.2]
theorem pt_eq (p q : Int × Nat) : PyData.eqv (pt p) (pt q) = decide (p = q) := by
  obtain ⟨a, b⟩ := p
  obtain ⟨c, d⟩ := q
  have : decide ((b : Int) = d) = decide (b = d) := by congr 1; exact propext Int.ofNat_inj
  simp [pt, this]
def m1i (ρ : Ro) : Nat := match getRo ρ 1 with
  | some (.d (.int d)) => d.toNat
  | _ => 0
def intsD (xs : List Int) : PyData := .list (xs.map .int)
/-! the deal: a dict of a seed, a number under way, numbers left -/
structure Deal where
  s : Int
  n : Int
  l : List Int
def Deal.d (D : Deal) : List (Str × CV) := [("seed", .d (.int D.s)), ("number", .d (.int D.n)), ("left", .L (D.l.map .int))]
structure Deal.Ok (D : Deal) : Prop where
  s0 : 0 ≤ D.s
  s1 : D.s < 2 ^ 31
  n0 : 0 ≤ D.n
  n1 : bits D.n ≤ 1048576
  l0 : ∀ x ∈ D.l, 0 ≤ x ∧ bits x ≤ 1048576
  l1 : D.l.length ≤ 63
def Deal.m (ρ : Ro) : Nat := match getRo ρ 0 with
  | some (.M kvs) => (match kvGet "left" kvs with | some (.L xs) => xs.length | _ => 0)
  | _ => 0
@[simp] theorem kg_seed (D : Deal) : kvGet "seed" D.d = some (.d (.int D.s)) := by
  simp only [Deal.d, kvGet]
  rw [if_pos trivial]
@[simp] theorem kg_number (D : Deal) : kvGet "number" D.d = some (.d (.int D.n)) := by
  simp only [Deal.d, kvGet]
  rw [if_neg (by decide +kernel), if_pos trivial]
@[simp] theorem kg_left (D : Deal) : kvGet "left" D.d = some (.L (D.l.map .int)) := by
  simp only [Deal.d, kvGet]
  rw [if_neg (by decide +kernel), if_neg (by decide +kernel), if_pos trivial]
@[simp] theorem ks_seed (D : Deal) (x : Int) : kvSet "seed" (.d (.int x)) D.d = ({ D with s := x } : Deal).d := by
  simp only [Deal.d, kvSet]
  rw [if_pos trivial]
@[simp] theorem ks_number (D : Deal) (x : Int) : kvSet "number" (.d (.int x)) D.d = ({ D with n := x } : Deal).d := by
  simp only [Deal.d, kvSet]
  rw [if_neg (by decide +kernel), if_pos trivial]
@[simp] theorem ks_left (D : Deal) (x : List Int) : kvSet "left" (.L (x.map .int)) D.d = ({ D with l := x } : Deal).d := by
  simp only [Deal.d, kvSet]
  rw [if_neg (by decide +kernel), if_neg (by decide +kernel), if_pos trivial]
@[simp] theorem d_len (D : Deal) : D.d.length = 3 := rfl
/-- a list comprehension over typed items, whose turns leave all else as it is -/
theorem lc_okT {α : Type} {T : Tab} {G : Gls} {g : Tg} {c e : E} {vs : List Nat} (f : α → PyData) (h : α → Option PyData) : ∀ (xs : List α) (ρ0 : Ro), (∀ x ∈ xs, LBw T G g c e vs (f x) ρ0 fun o ρ' => o = h x ∧ ρ' = ρ0) → lcF (LB T G g c e vs) (xs.map f) ρ0 = ok (xs.filterMap h, ρ0)
  | [], ρ0, _ => rfl
  | x :: xs, ρ0, hb => by
    have h1 := LB_of (hb x List.mem_cons_self)
    have h2 := lc_okT f h xs ρ0 fun y hy => hb y (List.mem_cons_of_mem _ hy)
    show (do let (o, ρ1) ← LB T G g c e vs (f x) ρ0; let (ys, ρ2) ← lcF (LB T G g c e vs) (xs.map f) ρ1; ok (oCons o ys, ρ2)) = _
    rw [h1]
    show (do let (ys, ρ2) ← lcF (LB T G g c e vs) (xs.map f) ρ0; ok (oCons (h x) ys, ρ2)) = _
    rw [h2]
    cases hh : h x with
    | none => rw [List.filterMap_cons_none hh]; rfl
    | some y => rw [List.filterMap_cons_some hh]; rfl
theorem D_lcT {α : Type} {T : Tab} {G : Gls} {ρ : Ro} {Q : PV → Ro → Prop} {g : Tg} {it c e : E} {vs : List Nat} (f : α → PyData) (h : α → Option PyData)
    (hw : DI T G it ρ fun xs ρ1 => ∃ as : List α, xs = as.map f ∧ wipeOk ρ1 vs = true ∧ (∀ a ∈ as, LBw T G g c e vs (f a) (wipeR ρ1 vs) fun o ρ' => o = h a ∧ ρ' = wipeR ρ1 vs) ∧ as.length ≤ 1000000 ∧ Q (.L (as.filterMap h)) (wipeBack ρ1 (wipeR ρ1 vs) vs)) : D T G (.lc g it c e vs) ρ Q := by
  refine D_lc.mpr ?_
  obtain ⟨xs, ρ1, e1, as, rfl, h1, h2, h3, h4⟩ := hw
  exact ⟨_, ρ1, e1, h1, _, _, lc_okT f h as _ h2, Nat.le_trans (List.length_filterMap_le _ _) h3, h4⟩
/-- .. each item kept, changed -/
theorem D_lcMap {α : Type} {T : Tab} {G : Gls} {ρ : Ro} {Q : PV → Ro → Prop} {g : Tg} {it c e : E} {vs : List Nat} (f : α → PyData) (h : α → PyData)
    (hw : DI T G it ρ fun xs ρ1 => ∃ as : List α, xs = as.map f ∧ wipeOk ρ1 vs = true ∧ (∀ a ∈ as, LBw T G g c e vs (f a) (wipeR ρ1 vs) fun o ρ' => o = some (h a) ∧ ρ' = wipeR ρ1 vs) ∧ as.length ≤ 1000000 ∧ Q (.L (as.map h)) (wipeBack ρ1 (wipeR ρ1 vs) vs)) : D T G (.lc g it c e vs) ρ Q := by
  refine D_lcT f (fun a => some (h a)) ?_
  obtain ⟨xs, ρ1, e1, as, h0, h1, h2, h3, h4⟩ := hw
  refine ⟨xs, ρ1, e1, as, h0, h1, h2, h3, ?_⟩
  rw [show as.filterMap (fun a => some (h a)) = as.map h by rw [← List.filterMap_eq_map]; rfl]
  exact h4
/-- a for over typed items -/
theorem for_typed {α : Type} {T : Tab} {G : Gls} {Q : Fl → Ro → Prop} {g : Tg} {b : S} (f : α → PyData) (P : List α → Ro → Prop) (hn : ∀ ρ, P [] ρ → Q .nx ρ) (hc : ∀ x xs ρ, P (x :: xs) ρ → ∃ ρ2, stTg g (f x) ρ = ok ρ2 ∧ W T G b ρ2 (Tu (P xs) Q)) :
    ∀ (xs : List α) (ρ : Ro), P xs ρ → ∃ f' ρ', forF (fun x ρ => do let ρ2 ← stTg g x ρ; denS T G b ρ2) (xs.map f) ρ = ok (f', ρ') ∧ Q f' ρ' := fun xs ρ h =>
  for_ok (fun items ρ => ∃ xs : List α, items = xs.map f ∧ P xs ρ) (fun ρ ⟨ys, e, p⟩ => by
    cases ys with
    | nil => exact hn ρ p
    | cons _ _ => cases e) (fun x items ρ ⟨ys, e, p⟩ => by
    cases ys with
    | nil => cases e
    | cons y ys =>
      cases e
      obtain ⟨ρ2, h1, f', ρ', h2, h3⟩ := hc y ys ρ p
      refine ⟨ρ2, h1, f', ρ', h2, ?_⟩
      cases f' with
      | nx => exact ⟨ys, rfl, h3⟩
      | ct => exact ⟨ys, rfl, h3⟩
      | bk => exact h3
      | rt x => exact h3) _ _ ⟨xs, rfl, h⟩
/-- a for of so many turns that need not know which -/
theorem for_rng {T : Tab} {G : Gls} {Q : Fl → Ro → Prop} {i : Nat} {b : S} (P : Nat → Ro → Prop) (lo : Int) (n : Nat) (hn : ∀ ρ, P n ρ → Q .nx ρ) (hc : ∀ k ρ, k < n → P k ρ → W T G b (ρ.set i (some (.d (.int (lo + k))))) (Tu (P (k + 1)) Q)) (ρ : Ro) (h : P 0 ρ) :
    ∃ f' ρ', forF (fun x ρ => do let ρ2 ← stTg (.n i) x ρ; denS T G b ρ2) (rngI lo n) ρ = ok (f', ρ') ∧ Q f' ρ' :=
  for_ok (fun items ρ => ∃ k, k ≤ n ∧ items = rngI (lo + k) (n - k) ∧ P k ρ) (fun ρ ⟨k, hk, e, p⟩ => by
    have := rng_nil e.symm
    have : k = n := by omega
    subst this
    exact hn ρ p) (fun x items ρ ⟨k, hk, e, p⟩ => by
    obtain ⟨m, e1, rfl, rfl⟩ := rng_cons e.symm
    refine ⟨_, rfl, ?_⟩
    have := hc k ρ (by omega) p
    obtain ⟨f', ρ', h2, h3⟩ := this
    refine ⟨f', ρ', h2, ?_⟩
    have hx : ∀ ρ, P (k + 1) ρ → ∃ k', k' ≤ n ∧ rngI (lo + k + 1) m = rngI (lo + k') (n - k') ∧ P k' ρ := fun ρ h => ⟨k + 1, by omega, by rw [show n - (k + 1) = m by omega, show lo + ((k + 1 : Nat) : Int) = lo + k + 1 by omega], h⟩
    cases f' with
    | nx => exact hx _ h3
    | ct => exact hx _ h3
    | bk => exact h3
    | rt x => exact h3) _ _ ⟨0, Nat.zero_le _, by simp, h⟩
@[simp] theorem Iop_pt0 {P : Int × Nat} {M : PyData → Prop} : Iop (pt P) (.int 0) M ↔ M (.int P.1) := by simp [pt]
@[simp] theorem Iop_pt1 {P : Int × Nat} {M : PyData → Prop} : Iop (pt P) (.int 1) M ↔ M (.int (P.2 : Int)) := by simp [pt]
@[simp] theorem Iop_mp0 {N : Mp} {M : PyData → Prop} : Iop (mp N) (.int 0) M ↔ M (enc N.1) := by simp [mp]
@[simp] theorem Iop_mp1 {N : Mp} {M : PyData → Prop} : Iop (mp N) (.int 1) M ↔ M (enc N.2) := by simp [mp]
@[simp] theorem lay_pt {P : Int × Nat} : (pt P).canLay0 = true := by simp [pt]
@[simp] theorem lay_mp {N : Mp} : (mp N).canLay0 = true := by simp [mp]
@[simp] theorem eqOk_pt {P : Int × Nat} {u : PyData} : eqOk u (pt P) = u.canLay0 := by unfold pt; exact eqOk_pair
end Rf
namespace Nd
open Th Pn
def jn (x y : W × W) : Bool := joins x.1 y.1 && joins x.2 y.2
def quiet : List (W × W) → Prop
  | x :: y :: r => jn x y = false ∧ quiet (y :: r)
  | _ => True
theorem rpush_le : ∀ (st : List (W × W)) (w v : W), (rpush st w v).length ≤ st.length + 1
  | [], w, v => by simp [rpush]
  | (a, b) :: r, w, v => by
    rw [rpush]
    split
    · have := rpush_le r w.dropLast v.dropLast
      simp only [List.length_cons]
      omega
    · simp
theorem rparse_cons (st : List (W × W)) (x : W × W) (rs : List (W × W)) : rparse st (x :: rs) = rparse (rpush st x.1 x.2) rs := rfl
theorem rparse_le : ∀ (rs st : List (W × W)), (rparse st rs).length ≤ st.length + rs.length
  | [], st => by simp [rparse]
  | x :: rs, st => by
    rw [rparse_cons]
    have h1 := rparse_le rs (rpush st x.1 x.2)
    have h2 := rpush_le st x.1 x.2
    simp only [List.length_cons]
    omega
theorem rparse_full : ∀ (rs st : List (W × W)), (rparse st rs).length = st.length + rs.length → quiet (st.take 1 ++ rs)
  | [], [], _ => trivial
  | [], x :: st, _ => by simp [quiet]
  | x :: rs, [], h => by
    rw [rparse_cons] at h
    have := rparse_full rs [(x.1, x.2)] (by rw [show [(x.1, x.2)] = rpush [] x.1 x.2 from rfl, h]; simp [rpush]; omega)
    simpa using this
  | x :: rs, (a, b) :: st, h => by
    rw [rparse_cons] at h
    rw [rpush] at h
    split at h
    · have h1 := rparse_le rs (rpush st x.1.dropLast x.2.dropLast)
      have h2 := rpush_le st x.1.dropLast x.2.dropLast
      simp only [List.length_cons] at h
      omega
    · rename_i hn
      have := rparse_full rs ((x.1, x.2) :: (a, b) :: st) (by rw [h]; simp only [List.length_cons]; omega)
      simp at this
      exact ⟨by simpa [jn] using hn, this⟩
theorem rparse_quiet : ∀ (rs st : List (W × W)), quiet (st.take 1 ++ rs) → rparse st rs = rs.reverse ++ st
  | [], st, _ => rfl
  | x :: rs, [], h => by
    rw [rparse_cons, show rpush [] x.1 x.2 = [x] from rfl, rparse_quiet rs [x] (by simpa using h)]
    simp
  | x :: rs, (a, b) :: st, h => by
    obtain ⟨h1, h2⟩ := h
    have hn : ¬ (joins a x.1 && joins b x.2) = true := by rw [show (joins a x.1 && joins b x.2) = jn (a, b) x from rfl, h1]; decide
    rw [rparse_cons, rpush, if_neg hn, rparse_quiet rs _ (by simpa using h2)]
    simp
theorem quiet_iff : ∀ rs : List (W × W), quiet rs ↔ ∀ (k : Nat) (x y : W × W), rs[k]? = some x → rs[k + 1]? = some y → jn x y = false
  | [] => by simp [quiet]
  | [x] => by
    simp only [quiet, true_iff]
    intro k a b h1 h2
    simp at h2
  | x :: y :: r => by
    simp only [quiet]
    rw [quiet_iff (y :: r)]
    constructor
    · rintro ⟨h1, h2⟩ k a b ha hb
      cases k with
      | zero => simp at ha hb; subst ha; subst hb; exact h1
      | succ k => exact h2 k a b (by simpa using ha) (by simpa using hb)
    · intro h
      exact ⟨h 0 x y rfl rfl, fun k a b ha hb => h (k + 1) a b (by simpa using ha) (by simpa using hb)⟩
def rws (M : Mp) : List (W × W) := (pths M.1).zip (pths M.2)
theorem rws_len {M : Mp} (h : okM M) : (rws M).length = lv M.1 := by
  have h' : lv M.1 = lv M.2 := h
  simp [rws, ← h']
theorem rws_inj {M N : Mp} (hM : okM M) (hN : okM N) (h : rws M = rws N) : M = N := by
  have hM' : lv M.1 = lv M.2 := hM
  have hN' : lv N.1 = lv N.2 := hN
  have e1 := congrArg (List.map Prod.fst) h
  have e2 := congrArg (List.map Prod.snd) h
  unfold rws at e1 e2
  rw [List.map_fst_zip (by simp; omega), List.map_fst_zip (by simp; omega)] at e1
  rw [List.map_snd_zip (by simp; omega), List.map_snd_zip (by simp; omega)] at e2
  exact Prod.ext (pths_inj e1) (pths_inj e2)
theorem quiet_trm {M : Mp} (hM : okM M) : quiet (rws M) ↔ trm M = M := by
  have e : rparse [] (rws M) = (rws (trm M)).reverse := trm_rows hM
  constructor
  · intro h
    rw [rparse_quiet _ [] (by simpa using h)] at e
    refine rws_inj (ok_trm hM) hM ?_
    have := congrArg List.reverse e
    simpa using this.symm
  · intro h
    rw [h] at e
    have := rparse_full (rws M) [] (by rw [e]; simp)
    simpa using this
def nd (M : Mp) (k : Nat) : Bool := joins ((pths M.1).getD k []) ((pths M.1).getD (k + 1) []) && joins ((pths M.2).getD k []) ((pths M.2).getD (k + 1) [])
def ndl (M : Mp) : List Nat := (List.range (lv M.1 - 1)).filter (nd M)
theorem rws_at {M : Mp} (hM : okM M) {k : Nat} (h : k < lv M.1) : (rws M)[k]? = some ((pths M.1).getD k [], (pths M.2).getD k []) := by
  have hM' : lv M.1 = lv M.2 := hM
  have h1 : (pths M.1)[k]? = some ((pths M.1)[k]'(by simpa using h)) := List.getElem?_eq_getElem _
  have h2 : (pths M.2)[k]? = some ((pths M.2)[k]'(by simp; omega)) := List.getElem?_eq_getElem _
  unfold rws
  exact List.getElem?_zip_eq_some.mpr ⟨by simp [List.getD, h1], by simp [List.getD, h2]⟩
theorem ndl_nil {M : Mp} (hM : okM M) : ndl M = [] ↔ trm M = M := by
  rw [← quiet_trm hM, quiet_iff]
  unfold ndl
  rw [List.filter_eq_nil_iff]
  constructor
  · intro h k x y hx hy
    have hk : k + 1 < lv M.1 := by rw [← rws_len hM]; exact (List.getElem?_eq_some_iff.mp hy).1
    rw [rws_at hM (by omega)] at hx
    rw [rws_at hM hk] at hy
    cases hx
    cases hy
    have := h k (by simp; omega)
    simpa [nd, jn] using this
  · intro h k hk
    simp at hk
    have := h k _ _ (rws_at hM (by omega)) (rws_at hM (by omega))
    rw [show nd M k = jn ((pths M.1).getD k [], (pths M.2).getD k []) ((pths M.1).getD (k + 1) [], (pths M.2).getD (k + 1) []) from rfl, this]
    decide
/-- two leaves told by their numbers are halves of one -/
theorem half_iff (w v : W) : ((bin w : Int) % 2 = 0 ∧ (bin v : Int) = bin w + 1 ∧ (v.length : Int) = w.length) ↔ joins w v = true := by
  have ap : ∀ (u : W) (b : Bool), bin (u ++ [b]) = bin u * 2 + (if b then 1 else 0) := fun u b => by rw [bin_app]; cases b <;> simp [bin]
  constructor
  · rintro ⟨h1, h2, h3⟩
    rcases List.eq_nil_or_concat w with rfl | ⟨u, x, rfl⟩
    · cases v with
      | nil => simp [bin] at h2
      | cons _ _ => simp at h3; omega
    · rcases List.eq_nil_or_concat v with rfl | ⟨u', y, rfl⟩
      · simp at h3; omega
      · simp only [List.concat_eq_append] at *
        rw [ap] at h1
        rw [ap, ap] at h2
        have hl : u'.length = u.length := by simp at h3; omega
        cases x <;> cases y <;> simp at h1 h2 <;> first | omega | exact joins_iff.mpr ⟨u, rfl, by rw [bin_inj hl (by omega)]⟩
  · intro h
    obtain ⟨u, rfl, rfl⟩ := joins_iff.mp h
    rw [ap, ap]
    simp
def foldT : Tr → Nat → Tr
  | .leaf, _ => .leaf
  | .node l r, k => if l = .leaf ∧ r = .leaf then .leaf else if k + 1 < lv l then .node (foldT l k) r else .node l (foldT r (k - lv l))
def fok : Tr → Nat → Prop
  | .leaf, _ => False
  | .node l r, k => if l = .leaf ∧ r = .leaf then k = 0 else if k + 1 < lv l then fok l k else lv l ≤ k ∧ fok r (k - lv l)
theorem fok_of : ∀ (t : Tr) (k : Nat) (w v : W), (pths t)[k]? = some w → (pths t)[k + 1]? = some v → joins w v = true → fok t k
  | .leaf, k, w, v, h1, h2, h => by simp [pths] at h2
  | .node l r, k, w, v, h1, h2, h => by
    rw [fok]
    have hk : k + 1 < lv (.node l r) := by rw [← pths_len]; exact (List.getElem?_eq_some_iff.mp h2).1
    simp only [lv] at hk
    split
    · rename_i hl
      rw [hl.1, hl.2] at hk
      simp [lv] at hk
      omega
    · rename_i hl
      obtain ⟨u, rfl, rfl⟩ := joins_iff.mp h
      simp only [pths] at h1 h2
      split
      · rename_i h3
        rw [List.getElem?_append_left (by simp; omega), List.getElem?_map] at h1 h2
        obtain ⟨a, ha, e1⟩ := Option.map_eq_some_iff.mp h1
        obtain ⟨b, hb, e2⟩ := Option.map_eq_some_iff.mp h2
        cases u with
        | nil => simp at e2
        | cons x u =>
          simp at e1 e2
          exact fok_of l k a b ha hb (joins_iff.mpr ⟨u, e1.2, e2.2⟩)
      · rename_i h3
        have hb : (((pths l).map (false :: ·)) ++ (pths r).map (true :: ·))[k + 1]? = ((pths r).map (true :: ·))[k + 1 - lv l]? := by
          rw [List.getElem?_append_right (by simp; omega)]; simp
        rw [hb, List.getElem?_map] at h2
        obtain ⟨b, hb, e2⟩ := Option.map_eq_some_iff.mp h2
        by_cases h4 : lv l ≤ k
        · refine ⟨h4, ?_⟩
          have ha : (((pths l).map (false :: ·)) ++ (pths r).map (true :: ·))[k]? = ((pths r).map (true :: ·))[k - lv l]? := by
            rw [List.getElem?_append_right (by simp; omega)]; simp
          rw [ha, List.getElem?_map] at h1
          obtain ⟨a, ha, e1⟩ := Option.map_eq_some_iff.mp h1
          cases u with
          | nil => simp at e1
          | cons x u =>
            simp at e1 e2
            exact fok_of r (k - lv l) a b ha (by rw [← hb]; congr 1; omega) (joins_iff.mpr ⟨u, e1.2, e2.2⟩)
        · exfalso
          rw [List.getElem?_append_left (by simp; omega), List.getElem?_map] at h1
          obtain ⟨a, ha, e1⟩ := Option.map_eq_some_iff.mp h1
          cases u with
          | nil =>
            simp at e1 e2
            subst e1; subst e2
            exact hl ⟨pths_nil (List.mem_of_getElem? ha), pths_nil (List.mem_of_getElem? hb)⟩
          | cons x u =>
            simp at e1 e2
            have z1 := e1.1
            have z2 := e2.1
            subst z1
            cases z2
theorem fold_put : ∀ (t : Tr) (k : Nat), fok t k → k < lv (foldT t k) ∧ put (foldT t k) k (.node .leaf .leaf) = t
  | .leaf, k, h => h.elim
  | .node l r, k, h => by
    rw [fok] at h
    rw [foldT]
    split at h
    · rename_i hl
      rw [if_pos hl]
      subst h
      rw [hl.1, hl.2]
      exact ⟨by decide, rfl⟩
    · rename_i hl
      rw [if_neg hl]
      split at h
      · rename_i h3
        rw [if_pos h3]
        obtain ⟨h4, h5⟩ := fold_put l k h
        refine ⟨by simp only [lv]; omega, ?_⟩
        rw [put, if_pos h4, h5]
      · rename_i h3
        rw [if_neg h3]
        obtain ⟨h4, h5⟩ := fold_put r (k - lv l) h.2
        refine ⟨by simp only [lv]; omega, ?_⟩
        rw [put, if_neg (by omega), h5]
theorem graft_leaves : ∀ t : Tr, graft t (List.replicate (lv t) .leaf) = t
  | .leaf => rfl
  | .node l r => by
    simp only [graft, lv]
    rw [List.take_replicate, List.drop_replicate, show min (lv l) (lv l + lv r) = lv l by omega, show lv l + lv r - lv l = lv r by omega, graft_leaves l, graft_leaves r]
theorem put_graft : ∀ (t : Tr) (k : Nat) (u : Tr), k < lv t → put t k u = graft t ((List.replicate (lv t) .leaf).set k u)
  | .leaf, k, u, h => by
    simp [lv] at h
    subst h
    rfl
  | .node l r, k, u, h => by
    simp only [lv] at h
    have ea : List.replicate (lv l + lv r) Tr.leaf = List.replicate (lv l) Tr.leaf ++ List.replicate (lv r) Tr.leaf := by simp
    rw [put]
    simp only [graft, lv]
    rw [ea]
    split
    · rename_i hk
      rw [List.set_append_left _ _ (by simpa using hk), List.take_append_of_le_length (by simp), List.drop_append_of_le_length (by simp), List.take_of_length_le (by simp), List.drop_eq_nil_of_le (by simp), List.nil_append, graft_leaves, ← put_graft l k u hk]
    · rename_i hk
      rw [List.set_append_right _ _ (by simp; omega), List.take_append_of_le_length (by simp), List.drop_append_of_le_length (by simp), List.take_of_length_le (by simp), List.drop_eq_nil_of_le (by simp), List.nil_append, graft_leaves]
      simp only [List.length_replicate]
      rw [← put_graft r (k - lv l) u (by omega)]
theorem act_put {M : Mp} (hM : okM M) {k : Nat} (u : Tr) (hk : k < lv M.1) : actM (put M.1 k u, put M.2 k u) = actM M := by
  have hM' : lv M.1 = lv M.2 := hM
  rw [put_graft M.1 k u hk, put_graft M.2 k u (by omega), ← hM']
  exact act_graft hM (by simp)
theorem fold_ok {M : Mp} (hM : okM M) {k : Nat} (hk : k ∈ ndl M) : fok M.1 k ∧ fok M.2 k ∧ okM (foldT M.1 k, foldT M.2 k) ∧ lv (foldT M.1 k) + 1 = lv M.1 ∧ actM (foldT M.1 k, foldT M.2 k) = actM M := by
  have hM' : lv M.1 = lv M.2 := hM
  unfold ndl at hk
  rw [List.mem_filter] at hk
  obtain ⟨h1, h2⟩ := hk
  simp at h1
  simp only [nd, Bool.and_eq_true] at h2
  have g : ∀ (ws : List W) (j : Nat), j < ws.length → ws[j]? = some (ws.getD j []) := fun ws j hj => by simp [List.getD, List.getElem?_eq_getElem hj]
  have f1 := fok_of M.1 k _ _ (g _ _ (by simp; omega)) (g _ _ (by simp; omega)) h2.1
  have f2 := fok_of M.2 k _ _ (g _ _ (by simp; omega)) (g _ _ (by simp; omega)) h2.2
  obtain ⟨p1, p2⟩ := fold_put _ _ f1
  obtain ⟨p3, p4⟩ := fold_put _ _ f2
  have l1 := lv_put _ _ (.node .leaf .leaf) p1
  have l2 := lv_put _ _ (.node .leaf .leaf) p3
  rw [p2] at l1
  rw [p4] at l2
  simp only [lv] at l1 l2
  have ok : okM (foldT M.1 k, foldT M.2 k) := show lv (foldT M.1 k) = lv (foldT M.2 k) by omega
  refine ⟨f1, f2, ok, by omega, ?_⟩
  have := act_put ok (.node .leaf .leaf) p1
  simp only at this
  rw [p2, p4] at this
  exact this.symm
theorem lv_both : ∀ t u : Tr, lv (both t u) + 1 ≤ lv t + lv u
  | .leaf, u => by simp [both, lv]; omega
  | .node l r, .leaf => by simp [both, lv]
  | .node l r, .node l' r' => by
    have h1 := lv_both l l'
    have h2 := lv_both r r'
    simp only [both, lv]
    omega
end Nd
set_option maxRecDepth 100000
set_option maxHeartbeats 8000000
namespace K33
open PySem Rf
def f_is_name : Fn := ⟨"is_name", ["text", "sign"], 1, [], .seq (.ife (.or (.not (.chain .LtE .LtE (.int 1) (.bi .len (.cons (.nm 0) (.nil))) (.int 6))) (.cmp .In (.nm 0) (.gl "TAKEN"))) (.seq (.ret (.bl false)) (.nil)) (.nil)) (.seq (.ret (.bi .all (.cons (.lc (.n 1) (.itL (.nm 0)) (.bl true) (.cmp .In (.nm 1) (.gl "SMALL")) [1]) (.nil)))) (.nil))⟩
def f_is_number : Fn := ⟨"is_number", ["text", "sign"], 1, [], .seq (.ife (.or (.not (.chain .LtE .LtE (.int 1) (.bi .len (.cons (.nm 0) (.nil))) (.int 3))) (.and (.cmp .Eq (.ix (.nm 0) (.int 0)) (.str "0")) (.cmp .Gt (.bi .len (.cons (.nm 0) (.nil))) (.int 1)))) (.seq (.ret (.bl false)) (.nil)) (.nil)) (.seq (.ret (.bi .all (.cons (.lc (.n 1) (.itL (.nm 0)) (.bl true) (.cmp .In (.nm 1) (.gl "FIGURES")) [1]) (.nil)))) (.nil))⟩
def f_run_end_B1 : S := .seq (.asg 1 (.bin .Add (.nm 1) (.int 1))) (.nil)
def f_run_end_L1 : S := .whl (.and (.cmp .Lt (.nm 1) (.bi .len (.cons (.nm 0) (.nil)))) (.cmp .In (.ix (.nm 0) (.nm 1)) (.nm 2))) f_run_end_B1
def f_run_end_R1 : S := .seq (.ret (.nm 1)) (.nil)
def f_run_end : Fn := ⟨"run_end", ["text", "at", "signs"], 3, [], .seq (f_run_end_L1) (f_run_end_R1)⟩
def f_power_end_J1 : S := .seq (.asg 3 (.call 2 (.cons (.nm 0) (.cons (.nm 2) (.cons (.gl "FIGURES") (.nil)))))) (.seq (.ife (.or (.not (.call 1 (.cons (.frz (.sl (.nm 0) (.nm 2) (.nm 3))) (.nil)))) (.cmp .Eq (.sl (.nm 0) (.bin .Add (.nm 1) (.int 1)) (.nm 3)) (.str "-0"))) (.seq (.raise "" .non) (.nil)) (.nil)) (.seq (.ret (.nm 3)) (.nil)))
def f_power_end : Fn := ⟨"power_end", ["text", "at", "begin", "end"], 2, [], .seq (.asg 2 (.bin .Add (.nm 1) (.int 1))) (.seq (.ife (.cmp .Eq (.sl (.nm 0) (.nm 2) (.bin .Add (.nm 2) (.int 1))) (.str "-")) (.seq (.asg 2 (.bin .Add (.nm 2) (.int 1))) (.nil)) (.nil)) (f_power_end_J1))⟩
def f_pieces_of_J1 : S := .seq (.asg 2 (.nm 3)) (.nil)
def f_pieces_of_J2 : S := .seq (.ife (.cmp .NotEq (.ix (.nm 0) (.nm 2)) (.str " ")) (.seq (.ex (.mt .append (.s 1) (.cons (.sl (.nm 0) (.nm 2) (.nm 3)) (.nil)))) (.nil)) (.nil)) (f_pieces_of_J1)
def f_pieces_of_B1 : S := .seq (.asg 3 (.bin .Add (.nm 2) (.int 1))) (.seq (.ife (.cmp .Eq (.ix (.nm 0) (.nm 2)) (.str "^")) (.seq (.asg 3 (.call 3 (.cons (.nm 0) (.cons (.nm 2) (.nil))))) (.nil)) (.seq (.ife (.or (.cmp .In (.ix (.nm 0) (.nm 2)) (.gl "SMALL")) (.cmp .In (.ix (.nm 0) (.nm 2)) (.gl "FIGURES"))) (.seq (.asg 3 (.call 2 (.cons (.nm 0) (.cons (.nm 2) (.cons (.frz (.bin .Add (.gl "SMALL") (.gl "FIGURES"))) (.nil)))))) (.nil)) (.seq (.ife (.cmp .NotIn (.ix (.nm 0) (.nm 2)) (.str " (),~")) (.seq (.raise "" .non) (.nil)) (.nil)) (.nil))) (.nil))) (f_pieces_of_J2))
def f_pieces_of_L1 : S := .whl (.cmp .Lt (.nm 2) (.bi .len (.cons (.nm 0) (.nil)))) f_pieces_of_B1
def f_pieces_of_R1 : S := .seq (.ret (.fz 1)) (.nil)
def f_pieces_of : Fn := ⟨"pieces_of", ["text", "found", "at", "end"], 1, [], .seq (.asg 1 (.lst (.nil))) (.seq (.asg 2 (.int 0)) (.seq (f_pieces_of_L1) (f_pieces_of_R1)))⟩
def f_word_of : Fn := ⟨"word_of", ["piece"], 1, [], .seq (.ife (.cmp .Eq (.nm 0) (.str "one")) (.seq (.ret (.tup (.cons (.str "one") (.nil)))) (.nil)) (.nil)) (.seq (.ife (.call 0 (.cons (.nm 0) (.nil))) (.seq (.ret (.tup (.cons (.str "name") (.cons (.nm 0) (.nil))))) (.nil)) (.nil)) (.seq (.ife (.and (.cmp .Eq (.ix (.nm 0) (.int 0)) (.str "m")) (.call 1 (.cons (.frz (.sl (.nm 0) (.int 1) (.non))) (.nil)))) (.seq (.ret (.tup (.cons (.str "move") (.cons (.bi .int (.cons (.sl (.nm 0) (.int 1) (.non)) (.nil))) (.nil))))) (.nil)) (.nil)) (.seq (.raise "" .non) (.nil))))⟩
def f_past : Fn := ⟨"past", ["pieces", "at", "sign"], 3, [], .seq (.ife (.or (.cmp .Eq (.nm 1) (.bi .len (.cons (.nm 0) (.nil)))) (.cmp .NotEq (.ix (.nm 0) (.nm 1)) (.nm 2))) (.seq (.raise "" .non) (.nil)) (.nil)) (.seq (.ret (.bin .Add (.nm 1) (.int 1))) (.nil))⟩
def f_bracket_J1 : S := .seq (.ret (.tup (.cons (.nm 3) (.cons (.call 6 (.cons (.nm 0) (.cons (.nm 1) (.cons (.str ")") (.nil))))) (.nil))))) (.nil)
def f_bracket_J2 : S := .seq (.unp (.cons (.n 3) (.cons (.n 1) (.nil))) (.call 9 (.cons (.nm 0) (.cons (.call 6 (.cons (.nm 0) (.cons (.nm 1) (.cons (.str "(") (.nil))))) (.nil))))) (.seq (.ife (.cmp .In (.nm 2) (.tup (.cons (.str "as") (.cons (.str "com") (.nil))))) (.seq (.unp (.cons (.n 4) (.cons (.n 1) (.nil))) (.call 9 (.cons (.nm 0) (.cons (.call 6 (.cons (.nm 0) (.cons (.nm 1) (.cons (.str ",") (.nil))))) (.nil))))) (.seq (.ret (.tup (.cons (.tup (.cons (.nm 2) (.cons (.nm 3) (.cons (.nm 4) (.nil))))) (.cons (.call 6 (.cons (.nm 0) (.cons (.nm 1) (.cons (.str ")") (.nil))))) (.nil))))) (.nil))) (.nil)) (.seq (.ife (.cmp .NotEq (.nm 2) (.str "(")) (.seq (.asg 3 (.tup (.cons (.nm 2) (.cons (.nm 3) (.nil))))) (.nil)) (.nil)) (f_bracket_J1)))
def f_bracket : Fn := ⟨"bracket", ["pieces", "at", "word", "one", "other"], 2, [], .seq (.asg 2 (.ix (.nm 0) (.nm 1))) (.seq (.ife (.cmp .NotEq (.nm 2) (.str "(")) (.seq (.asg 1 (.bin .Add (.nm 1) (.int 1))) (.nil)) (.nil)) (f_bracket_J2))⟩
def f_part_J1 : S := .seq (.asg 1 (.bin .Add (.nm 1) (.int 1))) (.nil)
def f_part_B1 : S := .seq (.ife (.cmp .Eq (.ix (.nm 0) (.nm 1)) (.str "~")) (.seq (.asg 2 (.tup (.cons (.str "back") (.cons (.nm 2) (.nil))))) (.nil)) (.seq (.asg 2 (.tup (.cons (.str "power") (.cons (.nm 2) (.cons (.bi .int (.cons (.sl (.ix (.nm 0) (.nm 1)) (.int 1) (.non)) (.nil))) (.nil)))))) (.nil))) (f_part_J1)
def f_part_L1 : S := .whl (.and (.cmp .Lt (.nm 1) (.bi .len (.cons (.nm 0) (.nil)))) (.cmp .In (.ix (.ix (.nm 0) (.nm 1)) (.int 0)) (.str "~^"))) f_part_B1
def f_part_R1 : S := .seq (.ret (.tup (.cons (.nm 2) (.cons (.nm 1) (.nil))))) (.nil)
def f_part_J2 : S := .seq (f_part_L1) (f_part_R1)
def f_part : Fn := ⟨"part", ["pieces", "at", "expr"], 2, [], .seq (.ife (.cmp .Eq (.nm 1) (.bi .len (.cons (.nm 0) (.nil)))) (.seq (.raise "" .non) (.nil)) (.nil)) (.seq (.ife (.cmp .In (.ix (.nm 0) (.nm 1)) (.tup (.cons (.str "(") (.cons (.str "low") (.cons (.str "high") (.cons (.str "as") (.cons (.str "com") (.nil)))))))) (.seq (.unp (.cons (.n 2) (.cons (.n 1) (.nil))) (.call 7 (.cons (.nm 0) (.cons (.nm 1) (.nil))))) (.nil)) (.seq (.asg 2 (.call 5 (.cons (.ix (.nm 0) (.nm 1)) (.nil)))) (.seq (.asg 1 (.bin .Add (.nm 1) (.int 1))) (.nil)))) (f_part_J2))⟩
def f_chain_B1 : S := .seq (.unp (.cons (.n 3) (.cons (.n 1) (.nil))) (.call 8 (.cons (.nm 0) (.cons (.nm 1) (.nil))))) (.seq (.asg 2 (.tup (.cons (.str "then") (.cons (.nm 2) (.cons (.nm 3) (.nil)))))) (.nil))
def f_chain_L1 : S := .whl (.and (.cmp .Lt (.nm 1) (.bi .len (.cons (.nm 0) (.nil)))) (.cmp .NotIn (.ix (.nm 0) (.nm 1)) (.tup (.cons (.str ",") (.cons (.str ")") (.nil)))))) f_chain_B1
def f_chain_R1 : S := .seq (.ret (.tup (.cons (.nm 2) (.cons (.nm 1) (.nil))))) (.nil)
def f_chain : Fn := ⟨"chain", ["pieces", "at", "expr", "more"], 2, [], .seq (.unp (.cons (.n 2) (.cons (.n 1) (.nil))) (.call 8 (.cons (.nm 0) (.cons (.nm 1) (.nil))))) (.seq (f_chain_L1) (f_chain_R1))⟩
def f_read_expr : Fn := ⟨"read_expr", ["text", "pieces", "expr", "at"], 1, [], .seq (.asg 1 (.call 4 (.cons (.nm 0) (.nil)))) (.seq (.unp (.cons (.n 2) (.cons (.n 3) (.nil))) (.call 9 (.cons (.nm 1) (.cons (.int 0) (.nil))))) (.seq (.ife (.cmp .Lt (.nm 3) (.bi .len (.cons (.nm 1) (.nil)))) (.seq (.raise "" .non) (.nil)) (.nil)) (.seq (.ret (.nm 2)) (.nil))))⟩
def f_held : Fn := ⟨"held", ["expr"], 1, [], .seq (.ife (.cmp .Eq (.ix (.nm 0) (.int 0)) (.str "then")) (.seq (.ret (.bin .Add (.bin .Add (.str "(") (.call 13 (.cons (.nm 0) (.nil)))) (.str ")"))) (.nil)) (.nil)) (.seq (.ret (.call 13 (.cons (.nm 0) (.nil)))) (.nil))⟩
def f_power_text : Fn := ⟨"power_text", ["n"], 1, [], .seq (.ret (.bin .Add (.str "^") (.bi .str (.cons (.nm 0) (.nil))))) (.nil)⟩
def f_expr_text : Fn := ⟨"expr_text", ["expr", "kind"], 1, [], .seq (.asg 1 (.ix (.nm 0) (.int 0))) (.seq (.ife (.cmp .Eq (.nm 1) (.str "one")) (.seq (.ret (.str "one")) (.nil)) (.nil)) (.seq (.ife (.cmp .Eq (.nm 1) (.str "move")) (.seq (.ret (.bin .Add (.str "m") (.bi .str (.cons (.ix (.nm 0) (.int 1)) (.nil))))) (.nil)) (.nil)) (.seq (.ife (.cmp .Eq (.nm 1) (.str "name")) (.seq (.ret (.ix (.nm 0) (.int 1))) (.nil)) (.nil)) (.seq (.ife (.cmp .Eq (.nm 1) (.str "then")) (.seq (.ret (.bin .Add (.bin .Add (.call 13 (.cons (.ix (.nm 0) (.int 1)) (.nil))) (.str " ")) (.call 11 (.cons (.ix (.nm 0) (.int 2)) (.nil))))) (.nil)) (.nil)) (.seq (.ife (.cmp .Eq (.nm 1) (.str "back")) (.seq (.ret (.bin .Add (.call 11 (.cons (.ix (.nm 0) (.int 1)) (.nil))) (.str "~"))) (.nil)) (.nil)) (.seq (.ife (.cmp .Eq (.nm 1) (.str "power")) (.seq (.ret (.frz (.bin .Add (.call 11 (.cons (.ix (.nm 0) (.int 1)) (.nil))) (.call 12 (.cons (.ix (.nm 0) (.int 2)) (.nil)))))) (.nil)) (.nil)) (.seq (.ife (.cmp .In (.nm 1) (.tup (.cons (.str "low") (.cons (.str "high") (.nil))))) (.seq (.ret (.bin .Add (.bin .Add (.bin .Add (.nm 1) (.str "(")) (.call 13 (.cons (.ix (.nm 0) (.int 1)) (.nil)))) (.str ")"))) (.nil)) (.nil)) (.seq (.ret (.bin .Add (.bin .Add (.bin .Add (.bin .Add (.bin .Add (.nm 1) (.str "(")) (.call 13 (.cons (.ix (.nm 0) (.int 1)) (.nil)))) (.str ", ")) (.call 13 (.cons (.ix (.nm 0) (.int 2)) (.nil)))) (.str ")"))) (.nil)))))))))⟩
def f_law_draw_J1 : S := .seq (.asg 3 (.bin .Mod (.bin .Add (.bin .Add (.bin .Mult (.nm 2) (.int 48271)) (.bin .Mult (.int 7919) (.ixP (.s 0) (.int 2)))) (.int 5)) (.int 2147483647))) (.seq (.asg 3 (.bin .Mod (.bin .Add (.bin .Mult (.nm 3) (.nm 3)) (.bin .Mult (.int 104729) (.ixP (.s 0) (.int 2)))) (.int 2147483629))) (.seq (.asg 3 (.bin .Mod (.bin .Add (.bin .Mult (.nm 3) (.int 69621)) (.int 16807)) (.int 2147483587))) (.seq (.ret (.bin .Mod (.bin .Mod (.bin .Mult (.nm 3) (.nm 3)) (.int 2147483579)) (.nm 1))) (.nil))))
def f_law_draw : Fn := ⟨"_law_draw", ["_law_state", "_law_many", "_law_cell", "_law_number", "_law_found"], 2, [0], .seq (.setP (.s 0) (.int 2) (.bin .Add (.ixP (.s 0) (.int 2)) (.int 1))) (.seq (.ife (.cmp .Gt (.ixP (.s 0) (.int 1)) (.int 0)) (.seq (.asg 4 (.bin .Mod (.ixP (.s 0) (.int 1)) (.nm 1))) (.seq (.setP (.s 0) (.int 1) (.bin .FloorDiv (.ixP (.s 0) (.int 1)) (.nm 1))) (.seq (.ret (.nm 4)) (.nil)))) (.nil)) (.seq (.asg 2 (.int 7)) (.seq (.ife (.cmp .Lt (.ixP (.s 0) (.int 3)) (.bi .len (.cons (.ixP (.s 0) (.int 0)) (.nil)))) (.seq (.asg 2 (.ix (.ixP (.s 0) (.int 0)) (.ixP (.s 0) (.int 3)))) (.seq (.setP (.s 0) (.int 3) (.bin .Add (.ixP (.s 0) (.int 3)) (.int 1))) (.seq (.ife (.cmp .GtE (.nm 2) (.bin .Pow (.int 10) (.int 18))) (.seq (.setP (.s 0) (.int 1) (.bin .FloorDiv (.nm 2) (.nm 1))) (.seq (.ret (.bin .Mod (.nm 2) (.nm 1))) (.nil))) (.nil)) (.nil)))) (.seq (.ife (.cmp .Gt (.bi .len (.cons (.ixP (.s 0) (.int 0)) (.nil))) (.int 0)) (.seq (.asg 2 (.ix (.ixP (.s 0) (.int 0)) (.bin .Mod (.ixP (.s 0) (.int 2)) (.bi .len (.cons (.ixP (.s 0) (.int 0)) (.nil)))))) (.nil)) (.nil)) (.nil))) (f_law_draw_J1))))⟩
def f_law_name_B1 : S := .seq (.asg 4 (.frz (.bin .Add (.nm 4) (.ix (.str "abcdefghijklmnopqrstuvwxyz") (.call 14 (.cons (.io 0) (.cons (.int 26) (.nil)))))))) (.nil)
def f_law_name_L1 : S := .for_ (.n 5) (.itR1 (.bin .Add (.int 1) (.call 14 (.cons (.io 0) (.cons (.int 6) (.nil)))))) f_law_name_B1
def f_law_name_J1 : S := .seq (.ret (.nm 4)) (.nil)
def f_law_name_R1 : S := .seq (.ife (.cmp .In (.nm 4) (.nm 1)) (.seq (.asg 4 (.bin .Add (.nm 4) (.str "e"))) (.nil)) (.nil)) (f_law_name_J1)
def f_law_name : Fn := ⟨"_law_name", ["_law_state", "_law_taken", "_law_style", "_law_word", "_law_name_here", "_law_k"], 1, [0], .seq (.asg 1 (.frz (.lst (.cons (.str "one") (.cons (.str "low") (.cons (.str "high") (.cons (.str "as") (.cons (.str "com") (.nil))))))))) (.seq (.asg 2 (.call 14 (.cons (.io 0) (.cons (.int 6) (.nil))))) (.seq (.asg 3 (.ix (.nm 1) (.call 14 (.cons (.io 0) (.cons (.int 5) (.nil)))))) (.seq (.ife (.cmp .Eq (.nm 2) (.int 0)) (.seq (.ret (.frz (.bin .Add (.nm 3) (.ix (.str "abcdefghijklmnopqrstuvwxyz") (.call 14 (.cons (.io 0) (.cons (.int 26) (.nil)))))))) (.nil)) (.nil)) (.seq (.ife (.cmp .Eq (.nm 2) (.int 1)) (.seq (.ret (.ix (.lst (.cons (.str "m") (.cons (.str "mm") (.cons (.sl (.nm 3) (.non) (.int 1)) (.cons (.sl (.nm 3) (.int 1) (.non)) (.cons (.str "a") (.cons (.str "o") (.nil)))))))) (.call 14 (.cons (.io 0) (.cons (.int 6) (.nil)))))) (.nil)) (.nil)) (.seq (.asg 4 (.str "")) (.seq (f_law_name_L1) (f_law_name_R1)))))))⟩
def f_law_leaf : Fn := ⟨"_law_leaf", ["_law_state", "_law_kind"], 1, [0], .seq (.asg 1 (.call 14 (.cons (.io 0) (.cons (.int 5) (.nil))))) (.seq (.ife (.cmp .Eq (.nm 1) (.int 0)) (.seq (.ret (.tup (.cons (.str "one") (.nil)))) (.nil)) (.nil)) (.seq (.ife (.cmp .Lt (.nm 1) (.int 3)) (.seq (.ret (.tup (.cons (.str "move") (.cons (.call 14 (.cons (.io 0) (.cons (.ix (.lst (.cons (.int 31) (.cons (.int 1000) (.nil)))) (.call 14 (.cons (.io 0) (.cons (.int 2) (.nil))))) (.nil)))) (.nil))))) (.nil)) (.nil)) (.seq (.ret (.tup (.cons (.str "name") (.cons (.call 15 (.cons (.io 0) (.nil))) (.nil))))) (.nil))))⟩
def f_law_expr_J1 : S := .seq (.ret (.tup (.cons (.str "power") (.cons (.call 17 (.cons (.io 0) (.cons (.bin .Sub (.nm 1) (.int 1)) (.cons (.bin .Sub (.nm 2) (.int 1)) (.nil))))) (.cons (.bin .FloorDiv (.nm 7) (.int 2)) (.nil)))))) (.nil)
def f_law_expr : Fn := ⟨"_law_expr", ["_law_state", "_law_room", "_law_deep", "_law_kind", "_law_left", "_law_one", "_law_other", "_law_n"], 3, [0], .seq (.asg 3 (.call 14 (.cons (.io 0) (.cons (.int 20) (.nil))))) (.seq (.ife (.or (.cmp .Lt (.nm 3) (.int 5)) (.or (.cmp .Lt (.nm 1) (.int 2)) (.cmp .Lt (.nm 2) (.int 2)))) (.seq (.ret (.call 16 (.cons (.io 0) (.nil)))) (.nil)) (.nil)) (.seq (.ife (.cmp .Eq (.nm 3) (.int 5)) (.seq (.ret (.tup (.cons (.str "back") (.cons (.call 17 (.cons (.io 0) (.cons (.bin .Sub (.nm 1) (.int 1)) (.cons (.bin .Sub (.nm 2) (.int 1)) (.nil))))) (.nil))))) (.nil)) (.nil)) (.seq (.ife (.cmp .Lt (.nm 3) (.int 8)) (.seq (.asg 7 (.call 14 (.cons (.io 0) (.cons (.ix (.lst (.cons (.int 7) (.cons (.int 1999) (.nil)))) (.call 14 (.cons (.io 0) (.cons (.int 2) (.nil))))) (.nil))))) (.seq (.ife (.cmp .Eq (.bin .Mod (.nm 7) (.int 2)) (.int 1)) (.seq (.asg 7 (.bin .Sub (.bin .Sub (.int 0) (.nm 7)) (.int 1))) (.nil)) (.nil)) (f_law_expr_J1))) (.nil)) (.seq (.ife (.or (.cmp .Lt (.nm 3) (.int 10)) (.cmp .Lt (.nm 1) (.int 3))) (.seq (.ret (.tup (.cons (.ix (.lst (.cons (.str "low") (.cons (.str "high") (.nil)))) (.bin .Mod (.nm 3) (.int 2))) (.cons (.call 17 (.cons (.io 0) (.cons (.bin .Sub (.nm 1) (.int 1)) (.cons (.bin .Sub (.nm 2) (.int 1)) (.nil))))) (.nil))))) (.nil)) (.nil)) (.seq (.asg 4 (.bin .Add (.int 1) (.call 14 (.cons (.io 0) (.cons (.bin .Sub (.nm 1) (.int 2)) (.nil)))))) (.seq (.asg 5 (.call 17 (.cons (.io 0) (.cons (.nm 4) (.cons (.bin .Sub (.nm 2) (.int 1)) (.nil)))))) (.seq (.asg 6 (.call 17 (.cons (.io 0) (.cons (.bin .Sub (.bin .Sub (.nm 1) (.int 1)) (.nm 4)) (.cons (.bin .Sub (.nm 2) (.int 1)) (.nil)))))) (.seq (.ret (.tup (.cons (.ix (.lst (.cons (.str "then") (.cons (.str "as") (.cons (.str "com") (.cons (.str "then") (.cons (.str "then") (.nil))))))) (.bin .Mod (.nm 3) (.int 5))) (.cons (.nm 5) (.cons (.nm 6) (.nil)))))) (.nil)))))))))⟩
def f_law_alike : Fn := ⟨"_law_alike", ["_law_found", "_law_due", "_law_a", "_law_b"], 2, [], .seq (.ife (.isi (.nm 1) .tuple) (.seq (.ife (.or (.not (.isi (.nm 0) .tuple)) (.cmp .NotEq (.bi .len (.cons (.nm 0) (.nil))) (.bi .len (.cons (.nm 1) (.nil))))) (.seq (.ret (.bl false)) (.nil)) (.nil)) (.seq (.ret (.bi .all (.cons (.lc (.cons (.n 2) (.cons (.n 3) (.nil))) (.itZip (.nm 0) (.nm 1)) (.bl true) (.call 18 (.cons (.nm 2) (.cons (.nm 3) (.nil)))) [2, 3]) (.nil)))) (.nil))) (.nil)) (.seq (.ife (.isi (.nm 1) .str) (.seq (.ret (.and (.isi (.nm 0) .str) (.cmp .Eq (.nm 0) (.nm 1)))) (.nil)) (.nil)) (.seq (.ret (.and (.isi (.nm 0) .int) (.and (.not (.isi (.nm 0) .bool)) (.cmp .Eq (.nm 0) (.nm 1))))) (.nil)))⟩
def f_law_pieces_J1 : S := .seq (.asg 5 (.frz (.bin .Add (.nm 5) (.lst (.cons (.str ")") (.nil)))))) (.nil)
def f_law_pieces_J2 : S := .seq (.ret (.frz (.bin .Add (.bin .Add (.lc (.n 6) (.itR1 (.nm 4)) (.bl true) (.str "(") [6]) (.nm 5)) (.lc (.n 6) (.itR1 (.nm 4)) (.bl true) (.str ")") [6])))) (.nil)
def f_law_pieces_J3 : S := .seq (.asg 4 (.ix (.lst (.cons (.int 0) (.cons (.int 0) (.cons (.int 0) (.cons (.int 1) (.cons (.int 2) (.nil))))))) (.call 14 (.cons (.io 0) (.cons (.int 5) (.nil)))))) (.seq (.ife (.and (.cmp .Eq (.nm 3) (.str "then")) (.cmp .Lt (.nm 4) (.nm 2))) (.seq (.asg 4 (.nm 2)) (.nil)) (.nil)) (f_law_pieces_J2))
def f_law_pieces : Fn := ⟨"_law_pieces", ["_law_state", "_law_expr_here", "_law_least", "_law_kind", "_law_many", "_law_row", "_law_k"], 3, [0], .seq (.asg 3 (.ix (.nm 1) (.int 0))) (.seq (.ife (.cmp .Eq (.nm 3) (.str "one")) (.seq (.asg 5 (.frz (.lst (.cons (.str "one") (.nil))))) (.nil)) (.seq (.ife (.cmp .Eq (.nm 3) (.str "move")) (.seq (.asg 5 (.frz (.lst (.cons (.bin .Add (.str "m") (.bi .str (.cons (.ix (.nm 1) (.int 1)) (.nil)))) (.nil))))) (.nil)) (.seq (.ife (.cmp .Eq (.nm 3) (.str "name")) (.seq (.asg 5 (.frz (.lst (.cons (.ix (.nm 1) (.int 1)) (.nil))))) (.nil)) (.seq (.ife (.cmp .Eq (.nm 3) (.str "then")) (.seq (.asg 5 (.frz (.bin .Add (.call 19 (.cons (.io 0) (.cons (.ix (.nm 1) (.int 1)) (.cons (.int 0) (.nil))))) (.call 19 (.cons (.io 0) (.cons (.ix (.nm 1) (.int 2)) (.cons (.int 1) (.nil)))))))) (.nil)) (.seq (.ife (.cmp .Eq (.nm 3) (.str "back")) (.seq (.asg 5 (.frz (.bin .Add (.call 19 (.cons (.io 0) (.cons (.ix (.nm 1) (.int 1)) (.cons (.int 1) (.nil))))) (.lst (.cons (.str "~") (.nil)))))) (.nil)) (.seq (.ife (.cmp .Eq (.nm 3) (.str "power")) (.seq (.asg 5 (.frz (.bin .Add (.call 19 (.cons (.io 0) (.cons (.ix (.nm 1) (.int 1)) (.cons (.int 1) (.nil))))) (.lst (.cons (.bin .Add (.str "^") (.bi .str (.cons (.ix (.nm 1) (.int 2)) (.nil)))) (.nil)))))) (.nil)) (.seq (.asg 5 (.frz (.bin .Add (.lst (.cons (.nm 3) (.cons (.str "(") (.nil)))) (.call 19 (.cons (.io 0) (.cons (.ix (.nm 1) (.int 1)) (.cons (.int 0) (.nil)))))))) (.seq (.ife (.cmp .In (.nm 3) (.tup (.cons (.str "as") (.cons (.str "com") (.nil))))) (.seq (.asg 5 (.frz (.bin .Add (.bin .Add (.nm 5) (.lst (.cons (.str ",") (.nil)))) (.call 19 (.cons (.io 0) (.cons (.ix (.nm 1) (.int 2)) (.cons (.int 0) (.nil)))))))) (.nil)) (.nil)) (f_law_pieces_J1)))) (.nil))) (.nil))) (.nil))) (.nil))) (.nil))) (f_law_pieces_J3))⟩
def f_law_spaced_J1 : S := .seq (.asg 3 (.frz (.bin .Add (.bin .Add (.nm 3) (.nm 6)) (.nm 5)))) (.seq (.asg 4 (.nm 5)) (.nil))
def f_law_spaced_B1 : S := .seq (.asg 6 (.ix (.lst (.cons (.str "") (.cons (.str "") (.cons (.str " ") (.cons (.str "  ") (.nil)))))) (.call 14 (.cons (.io 0) (.cons (.int 4) (.nil)))))) (.seq (.ife (.and (.cmp .In (.sl (.nm 4) (.non) (.int 1)) (.nm 2)) (.and (.cmp .NotEq (.nm 4) (.str "")) (.and (.cmp .In (.ix (.nm 5) (.int 0)) (.nm 2)) (.cmp .Eq (.nm 6) (.str ""))))) (.seq (.asg 6 (.str " ")) (.nil)) (.nil)) (f_law_spaced_J1))
def f_law_spaced_L1 : S := .for_ (.n 5) (.itL (.nm 1)) f_law_spaced_B1
def f_law_spaced_R1 : S := .seq (.ret (.frz (.bin .Add (.nm 3) (.ix (.lst (.cons (.str "") (.cons (.str " ") (.cons (.str "  ") (.nil))))) (.call 14 (.cons (.io 0) (.cons (.int 3) (.nil)))))))) (.nil)
def f_law_spaced : Fn := ⟨"_law_spaced", ["_law_state", "_law_bits", "_law_letters", "_law_text", "_law_ahead", "_law_piece", "_law_blanks"], 2, [0], .seq (.asg 2 (.str "abcdefghijklmnopqrstuvwxyz")) (.seq (.asg 3 (.ix (.lst (.cons (.str "") (.cons (.str " ") (.cons (.str "  ") (.nil))))) (.call 14 (.cons (.io 0) (.cons (.int 3) (.nil)))))) (.seq (.asg 4 (.str "")) (.seq (f_law_spaced_L1) (f_law_spaced_R1))))⟩
def f_law_J1 : S := .seq (.ife (.not (.call 18 (.cons (.call 10 (.cons (.nm 4) (.nil))) (.cons (.nm 2) (.nil))))) (.seq (.ret (.bl false)) (.nil)) (.nil)) (.seq (.ife (.not (.call 18 (.cons (.call 10 (.cons (.call 20 (.cons (.io 1) (.cons (.call 19 (.cons (.io 1) (.cons (.nm 3) (.cons (.int 0) (.nil))))) (.nil)))) (.nil))) (.cons (.nm 3) (.nil))))) (.seq (.ret (.bl false)) (.nil)) (.nil)) (.seq (.ret (.and (.call 18 (.cons (.call 10 (.cons (.nm 4) (.nil))) (.cons (.nm 2) (.nil)))) (.call 18 (.cons (.call 10 (.cons (.call 13 (.cons (.nm 2) (.nil))) (.nil))) (.cons (.nm 2) (.nil)))))) (.nil)))
def f_law : Fn := ⟨"law", ["_law_script", "_law_state", "_law_one", "_law_other", "_law_text", "_law_many"], 1, [], .seq (.asg 1 (.lst (.cons (.bi .list (.cons (.nm 0) (.nil))) (.cons (.int 0) (.cons (.int 0) (.cons (.int 0) (.nil))))))) (.seq (.asg 2 (.call 17 (.cons (.io 1) (.cons (.int 30) (.cons (.int 10) (.nil)))))) (.seq (.asg 3 (.call 17 (.cons (.io 1) (.cons (.int 30) (.cons (.int 10) (.nil)))))) (.seq (.asg 4 (.call 20 (.cons (.io 1) (.cons (.call 19 (.cons (.io 1) (.cons (.nm 2) (.cons (.int 0) (.nil))))) (.nil))))) (.seq (.ife (.cmp .Eq (.call 14 (.cons (.io 1) (.cons (.int 8) (.nil)))) (.int 0)) (.seq (.asg 5 (.bin .Add (.int 1) (.call 14 (.cons (.io 1) (.cons (.int 10) (.nil)))))) (.seq (.asg 4 (.bin .Add (.bin .Add (.bin .Mult (.str "(") (.nm 5)) (.nm 4)) (.bin .Mult (.str ")") (.nm 5)))) (.nil))) (.nil)) (f_law_J1)))))⟩
def prg : Prg := [f_is_name, f_is_number, f_run_end, f_power_end, f_pieces_of, f_word_of, f_past, f_bracket, f_part, f_chain, f_read_expr, f_held, f_power_text, f_expr_text, f_law_draw, f_law_name, f_law_leaf, f_law_expr, f_law_alike, f_law_pieces, f_law_spaced, f_law]
def g_SMALL : PyData := .str "abcdefghijklmnopqrstuvwxyz"
def g_FIGURES : PyData := .str "0123456789"
def g_TAKEN : PyData := .tuple [.str "one", .str "low", .str "high", .str "as", .str "com"]
def G : Gls := fun x => if x = "SMALL" then some g_SMALL else if x = "FIGURES" then some g_FIGURES else if x = "TAKEN" then some g_TAKEN else none
@[simp] theorem G_SMALL : G "SMALL" = some g_SMALL := rfl
@[simp] theorem G_FIGURES : G "FIGURES" = some g_FIGURES := rfl
@[simp] theorem G_TAKEN : G "TAKEN" = some g_TAKEN := rfl
theorem glOk {K : PySem.W.Frag} {w : World} {mg : Str → Option Value} (h : GlK K w mg "SMALL" g_SMALL ∧ GlK K w mg "FIGURES" g_FIGURES ∧ GlK K w mg "TAKEN" g_TAKEN) : ∀ x d, G x = some d → ∃ u v, mg x = some u ∧ L2.RelV v u ∧ GOk K w v d := by
  intro x d e
  unfold G at e
  obtain ⟨h0, h1, h2⟩ := h
  split at e
  · rename_i hx; cases e; rw [hx]; exact h0
  split at e
  · rename_i hx; cases e; rw [hx]; exact h1
  split at e
  · rename_i hx; cases e; rw [hx]; exact h2
  cases e
def topS (i : Nat) : Stmt := PySem.Challenge.pw_halvewright_k33_read_with_more.main.body.getD i (.Pass ⟨0, 0, 0, 0⟩)
theorem c_is_name : chkF prg f_is_name (topS 7) = true := by decide +kernel
theorem c_is_number : chkF prg f_is_number (topS 8) = true := by decide +kernel
theorem c_run_end : chkF prg f_run_end (topS 9) = true := by decide +kernel
theorem c_power_end : chkF prg f_power_end (topS 10) = true := by decide +kernel
theorem c_pieces_of : chkF prg f_pieces_of (topS 11) = true := by decide +kernel
theorem c_word_of : chkF prg f_word_of (topS 12) = true := by decide +kernel
theorem c_past : chkF prg f_past (topS 13) = true := by decide +kernel
theorem c_bracket : chkF prg f_bracket (topS 14) = true := by decide +kernel
theorem c_part : chkF prg f_part (topS 15) = true := by decide +kernel
theorem c_chain : chkF prg f_chain (topS 16) = true := by decide +kernel
theorem c_read_expr : chkF prg f_read_expr (topS 17) = true := by decide +kernel
theorem c_held : chkF prg f_held (topS 19) = true := by decide +kernel
theorem c_power_text : chkF prg f_power_text (topS 20) = true := by decide +kernel
theorem c_expr_text : chkF prg f_expr_text (topS 21) = true := by decide +kernel
theorem c_law_draw : chkF prg f_law_draw (topS 23) = true := by decide +kernel
theorem c_law_name : chkF prg f_law_name (topS 24) = true := by decide +kernel
theorem c_law_leaf : chkF prg f_law_leaf (topS 25) = true := by decide +kernel
theorem c_law_expr : chkF prg f_law_expr (topS 26) = true := by decide +kernel
theorem c_law_alike : chkF prg f_law_alike (topS 27) = true := by decide +kernel
theorem c_law_pieces : chkF prg f_law_pieces (topS 28) = true := by decide +kernel
theorem c_law_spaced : chkF prg f_law_spaced (topS 29) = true := by decide +kernel
theorem c_law : chkF prg f_law (topS 30) = true := by decide +kernel
section
variable {K : Frag} {mg : Str → Option Value}
theorem defs (D : DefOk prg K mg f_is_name ∧ DefOk prg K mg f_is_number ∧ DefOk prg K mg f_run_end ∧ DefOk prg K mg f_power_end ∧ DefOk prg K mg f_pieces_of ∧ DefOk prg K mg f_word_of ∧ DefOk prg K mg f_past ∧ DefOk prg K mg f_bracket ∧ DefOk prg K mg f_part ∧ DefOk prg K mg f_chain ∧ DefOk prg K mg f_read_expr ∧ DefOk prg K mg f_held ∧ DefOk prg K mg f_power_text ∧ DefOk prg K mg f_expr_text ∧ DefOk prg K mg f_law_draw ∧ DefOk prg K mg f_law_name ∧ DefOk prg K mg f_law_leaf ∧ DefOk prg K mg f_law_expr ∧ DefOk prg K mg f_law_alike ∧ DefOk prg K mg f_law_pieces ∧ DefOk prg K mg f_law_spaced ∧ DefOk prg K mg f_law) : ∀ (f : Nat) (d : Fn), prg[f]? = some d → DefOk prg K mg d := by
  obtain ⟨h0, h1, h2, h3, h4, h5, h6, h7, h8, h9, h10, h11, h12, h13, h14, h15, h16, h17, h18, h19, h20, h21⟩ := D
  intro f d h
  rcases f with _ | f
  · cases h; exact h0
  rcases f with _ | f
  · cases h; exact h1
  rcases f with _ | f
  · cases h; exact h2
  rcases f with _ | f
  · cases h; exact h3
  rcases f with _ | f
  · cases h; exact h4
  rcases f with _ | f
  · cases h; exact h5
  rcases f with _ | f
  · cases h; exact h6
  rcases f with _ | f
  · cases h; exact h7
  rcases f with _ | f
  · cases h; exact h8
  rcases f with _ | f
  · cases h; exact h9
  rcases f with _ | f
  · cases h; exact h10
  rcases f with _ | f
  · cases h; exact h11
  rcases f with _ | f
  · cases h; exact h12
  rcases f with _ | f
  · cases h; exact h13
  rcases f with _ | f
  · cases h; exact h14
  rcases f with _ | f
  · cases h; exact h15
  rcases f with _ | f
  · cases h; exact h16
  rcases f with _ | f
  · cases h; exact h17
  rcases f with _ | f
  · cases h; exact h18
  rcases f with _ | f
  · cases h; exact h19
  rcases f with _ | f
  · cases h; exact h20
  rcases f with _ | f
  · cases h; exact h21
  cases h
theorem blts (D : mg "len" = none ∧ mg "max" = none ∧ mg "min" = none ∧ mg "abs" = none ∧ mg "int" = none ∧ mg "str" = none ∧ mg "list" = none ∧ mg "tuple" = none ∧ mg "sum" = none ∧ mg "all" = none ∧ mg "any" = none ∧ mg "sorted" = none ∧ mg "reversed" = none ∧ mg "isinstance" = none ∧ mg "bool" = none ∧ mg "range" = none ∧ mg "enumerate" = none ∧ mg "zip" = none) : ∀ b ∈ builtinsUsed, mg b = none := by
  obtain ⟨h0, h1, h2, h3, h4, h5, h6, h7, h8, h9, h10, h11, h12, h13, h14, h15, h16, h17⟩ := D
  intro b hb
  simp only [builtinsUsed, List.mem_cons, List.not_mem_nil, or_false] at hb
  rcases hb with rfl | rfl | rfl | rfl | rfl | rfl | rfl | rfl | rfl | rfl | rfl | rfl | rfl | rfl | rfl | rfl | rfl | rfl
  all_goals assumption
end
end K33
set_option maxRecDepth 100000
set_option maxHeartbeats 8000000
namespace Nd
end Nd
namespace Pw
end Pw
namespace Sp
end Sp
namespace K33
open PySem Rf Res Th Pn Nd Pw Sp
/-! texts as lists of signs -/
def lc (c : Nat) : Prop := 97 ≤ c ∧ c ≤ 122
def dg (c : Nat) : Prop := 48 ≤ c ∧ c ≤ 57
instance (c : Nat) : Decidable (lc c) := inferInstanceAs (Decidable (_ ∧ _))
instance (c : Nat) : Decidable (dg c) := inferInstanceAs (Decidable (_ ∧ _))
def smallL : List Nat := (List.range 26).map (97 + ·)
def digL : List Nat := (List.range 10).map (48 + ·)
theorem small_tx : Str.ofString "abcdefghijklmnopqrstuvwxyz" = tx smallL := by decide +kernel
theorem dig_tx : Str.ofString "0123456789" = tx digL := by decide +kernel
theorem mem_small {c : Nat} : c ∈ smallL ↔ lc c := by
  simp only [smallL, List.mem_map, List.mem_range, lc]
  exact ⟨fun ⟨a, h, e⟩ => by omega, fun h => ⟨c - 97, by omega, by omega⟩⟩
theorem mem_dig {c : Nat} : c ∈ digL ↔ dg c := by
  simp only [digL, List.mem_map, List.mem_range, dg]
  exact ⟨fun ⟨a, h, e⟩ => by omega, fun h => ⟨c - 48, by omega, by omega⟩⟩
theorem in_tx {c : Nat} {l : List Nat} {L : Bool → Prop} : Cop .In (.str (tx [c])) (.str (tx l)) L ↔ L (decide (c ∈ l)) := by
  have e : cmpS .In (.str (tx [c])) (.str (tx l)) = ok (decide (c ∈ l)) := by
    simp only [cmpS, tx]
    rfl
  unfold Cop
  rw [e]
  exact oex
theorem nin_tx {c : Nat} {l : List Nat} {L : Bool → Prop} : Cop .NotIn (.str (tx [c])) (.str (tx l)) L ↔ L (!decide (c ∈ l)) := by
  have e : cmpS .NotIn (.str (tx [c])) (.str (tx l)) = ok (!decide (c ∈ l)) := by
    simp only [cmpS, tx]
    rfl
  unfold Cop
  rw [e]
  exact oex
theorem ix_tx {l : List Nat} {k : Nat} {c : Nat} (h : l[k]? = some c) (hl : l.length ≤ 1000000) {M : PyData → Prop} : Iop (.str (tx l)) (.int (k : Int)) M ↔ M (.str (tx [c])) := by
  unfold Iop
  rw [ixD_tx hl, L2.atI_nat h]
  exact oex
theorem Iop_tx0 {c : Nat} {l : List Nat} (hl : (c :: l).length ≤ 1000000) {M : PyData → Prop} : Iop (.str (tx (c :: l))) (.int 0) M ↔ M (.str (tx [c])) := ix_tx (k := 0) rfl hl
def okc (l : List Nat) : Prop := ∀ c ∈ l, c < 1114112
theorem strOk_tx {l : List Nat} (h : okc l) : PyData.strOk (tx l) = true := by
  simp only [PyData.strOk, tx, Array.all_eq_true]
  intro i hi
  have := h (l[i]'(by simpa using hi)) (List.getElem_mem _)
  simpa using this
@[simp] theorem Uop_lenS {x : Str} {K : PV → Prop} : Uop .len [.str x] K ↔ x.length ≤ 1000000 ∧ K (.d (.int x.length)) := by
  refine Bop_g.trans ?_
  rw [decide_eq_true_eq]
/-- from at on, as long as the signs are among these -/
theorem r_run_end (l pre w post : List Nat) (hl : l = pre ++ w ++ post) (h6 : l.length ≤ 100000) (S : List Nat) (hw : ∀ c ∈ w, c ∈ S) (hp : ∀ c, post.head? = some c → c ∉ S) (f : Nat) (h : 1 ≤ f) :
    run prg G f 2 [.d (.str (tx l)), .d (.int pre.length), .d (.str (tx S))] = ok (.d (.int (pre.length + w.length : Nat)), [none, none, none]) := by
  obtain ⟨k, rfl⟩ := Nat.exists_eq_add_of_le' h
  refine Cl_of (run_W (d := f_run_end) rfl rfl ?_)
  simp [f_run_end]
  have hlen : l.length = pre.length + w.length + post.length := by rw [hl]; simp; omega
  refine W_whl (fun ρ => ∃ n : Nat, pre.length ≤ n ∧ n ≤ pre.length + w.length ∧ ρ = [some (.d (.str (tx l))), some (.d (.int (n : Int))), some (.d (.str (tx S)))]) (fun ρ => match ρ with | [_, some (.d (.int i)), _] => l.length + 1 - i.toNat | _ => 0) ?_ _ ⟨pre.length, Nat.le_refl _, by omega, rfl⟩
  rintro ρ ⟨n, h1, h2, rfl⟩
  by_cases hw' : n < pre.length + w.length
  · have hat : l[n]? = some (w[n - pre.length]'(by omega)) := by
      rw [hl, List.append_assoc, List.getElem?_append_right (by omega), List.getElem?_append_left (by omega), List.getElem?_eq_getElem (by omega)]
    have hm := hw _ (List.getElem_mem (show n - pre.length < w.length by omega))
    have hn : n < l.length := by omega
    simp [f_run_end_B1, hn, ix_tx hat (by omega), in_tx, hm]
    exact ⟨by omega, ⟨n + 1, by omega, by omega, rfl⟩, by omega⟩
  · have e : n = pre.length + w.length := by omega
    subst e
    cases hpo : post with
    | nil =>
      have hn : ¬ pre.length + w.length < l.length := by rw [hlen, hpo]; simp
      have hn' : ¬ ((pre.length : Int) + w.length < l.length) := by omega
      simp [hn', f_run_end_R1]
      omega
    | cons c post =>
      have hat : l[pre.length + w.length]? = some c := by
        rw [hl, hpo, List.getElem?_append_right (by simp)]
        simp
      have hc := hp c (by rw [hpo]; rfl)
      have hn : ((pre.length : Int) + w.length < l.length) := by rw [hlen, hpo]; simp; omega
      have hi := fun M => ix_tx hat (by omega) (M := M)
      rw [Int.natCast_add] at hi
      simp [hn, hi, in_tx, hc, f_run_end_R1]
      omega

end K33
set_option maxRecDepth 100000
set_option maxHeartbeats 8000000
namespace Nd
end Nd
namespace Pw
end Pw
namespace Sp
end Sp
namespace K33
open PySem Rf Res Th Pn Nd Pw Sp
theorem D_gl {T : Tab} {G : Gls} {ρ : Ro} {x : Str} {d : PyData} (h : G x = some d) (hd : ∀ k, d ≠ .dict k) {Q : PV → Ro → Prop} : Rf.D T G (.gl x) ρ Q ↔ Q (.d d) ρ := by
  rw [D_def]
  have e : den T G (.gl x) ρ = ok (.d d, ρ) := by
    simp only [den, h]
    try (cases d <;> first | rfl | exact absurd rfl (hd _))
  rw [e]
  exact ⟨fun ⟨_, h, q⟩ => by cases h; exact q, fun q => ⟨_, rfl, q⟩⟩
@[simp] theorem D_SMALL {T : Tab} {ρ : Ro} {Q : PV → Ro → Prop} : Rf.D T G (.gl "SMALL") ρ Q ↔ Q (.d (.str (tx smallL))) ρ := by
  rw [D_gl G_SMALL (fun k h => by cases h), g_SMALL, small_tx]
@[simp] theorem D_FIGURES {T : Tab} {ρ : Ro} {Q : PV → Ro → Prop} : Rf.D T G (.gl "FIGURES") ρ Q ↔ Q (.d (.str (tx digL))) ρ := by
  rw [D_gl G_FIGURES (fun k h => by cases h), g_FIGURES, dig_tx]
@[simp] theorem D_TAKEN {T : Tab} {ρ : Ro} {Q : PV → Ro → Prop} : Rf.D T G (.gl "TAKEN") ρ Q ↔ Q (.d (.tuple [.str "one", .str "low", .str "high", .str "as", .str "com"])) ρ := D_gl G_TAKEN (fun k h => by cases h)
@[simp] theorem Uop_all {bs : List Bool} {K : PV → Prop} : Uop .all [.list (bs.map .bool)] K ↔ K (.d (.bool (bs.all id))) := by
  have e : ∀ bs : List Bool, boolsOf (bs.map .bool) = some bs := fun bs => by
    induction bs with
    | nil => rfl
    | cons b bs ih => simp [boolsOf, ih]
  show (∃ z, (match boolsOf (bs.map PyData.bool) with | some bs => (ok (.d (.bool (bs.all id))) : Res PV) | none => bad) = ok z ∧ K z) ↔ _
  rw [e]
  exact ⟨fun ⟨_, h, q⟩ => by cases h; exact q, fun q => ⟨_, rfl, q⟩⟩
theorem items_tx (w : List Nat) : itemsD (.str (tx w)) = ok (w.map fun c => .str (tx [c])) := by
  show ok ((tx w).cps.toList.map fun c => PyData.str ⟨#[c]⟩) = _
  try (simp only [tx])
  try rfl
def numOk (w : List Nat) : Prop := 1 ≤ w.length ∧ w.length ≤ 3 ∧ (∀ c ∈ w, dg c) ∧ (w.head? = some 48 → w.length = 1)
def takenL : List Str := ["one", "low", "high", "as", "com"]
def nameOk (w : List Nat) : Prop := 1 ≤ w.length ∧ w.length ≤ 6 ∧ (∀ c ∈ w, lc c) ∧ tx w ∉ takenL
theorem tx1_eq {c d : Nat} : tx [c] = tx [d] ↔ c = d := by rw [tx_eq]; simp
theorem s_zero : Str.ofString "0" = tx [48] := by decide +kernel
theorem D_allin {X : Str} {S : List Nat} {T : Tab} (hg : ∀ (ρ : Ro) (Q : PV → Ro → Prop), Rf.D T G (.gl X) ρ Q ↔ Q (.d (.str (tx S))) ρ) (w : List Nat) (hl : w.length ≤ 1000) {Q : PV → Ro → Prop} (q : Q (.L ((w.map fun c => decide (c ∈ S)).map .bool)) [some (.d (.str (tx w))), none]) :
    Rf.D T G (.lc (.n 1) (.itL (.nm 0)) (.bl true) (.cmp .In (.nm 1) (.gl X)) [1]) [some (.d (.str (tx w))), none] Q := by
  refine D_lcMap (fun c => PyData.str (tx [c])) (fun c => .bool (decide (c ∈ S))) ?_
  simp only [DI_itL, D_nm, getRo_zero, Option.some.injEq, PV.d.injEq, exists_eq_left', Fz_d, items_tx]
  refine ⟨_, rfl, w, rfl, rfl, fun c _ => ?_, by omega, ?_⟩
  · simp [LBw, wipeR, hg, in_tx]
  · rw [List.map_map] at q
    exact q
theorem r_is_number (w : List Nat) (hw : numOk w) (f : Nat) (h : 1 ≤ f) : run prg G f 1 [.d (.str (tx w))] = ok (.d (.bool true), [none]) := by
  obtain ⟨k, rfl⟩ := Nat.exists_eq_add_of_le' h
  obtain ⟨h1, h2, h3, h4⟩ := hw
  refine Cl_of (run_W (d := f_is_number) rfl rfl ?_)
  have o48 : PyData.strOk (tx [48]) = true := by decide +kernel
  cases w with
  | nil => simp at h1
  | cons c w =>
    have hc := h3 c (by simp)
    have oc : PyData.strOk (tx [c]) = true := strOk_tx (fun d hd => by simp at hd; rw [hd]; unfold dg at hc; omega)
    have hlen : (c :: w).length ≤ 1000000 := by omega
    have fin : Rf.D (run prg G k) G (.lc (.n 1) (.itL (.nm 0)) (.bl true) (.cmp .In (.nm 1) (.gl "FIGURES")) [1]) [some (.d (.str (tx (c :: w)))), none] fun x ρ1 => Fz x fun y => Uop .all [y] fun z => z = .d (.bool true) := by
      refine D_allin (S := digL) (fun ρ Q => D_FIGURES) _ (by omega) ?_
      rw [Fz_L, Uop_all]
      congr 2
      rw [List.all_eq_true]
      intro b hb
      obtain ⟨d, hd, rfl⟩ := List.mem_map.mp hb
      simpa using mem_dig.mpr (h3 d hd)
    simp only [List.length_cons] at h1 h2 h4
    have g1 : (1 : Int) ≤ (w.length : Int) + 1 := by omega
    have g2 : (w.length : Int) + 1 ≤ 3 := by omega
    have g3 : w.length ≤ 999999 := by omega
    simp [f_is_number, g1, g2, g3, Iop_tx0 hlen, s_zero, o48, oc, tx1_eq]
    split
    · rename_i h0
      have := h4 (by rw [h0]; rfl)
      exact ⟨by omega, fin⟩
    · exact fin
theorem strsT : strsOf [PyData.str (Str.ofString "one"), .str (Str.ofString "low"), .str (Str.ofString "high"), .str (Str.ofString "as"), .str (Str.ofString "com")] = some takenL := rfl
theorem in_taken {x : Str} {L : Bool → Prop} : Cop .In (.str x) (.tuple [.str (Str.ofString "one"), .str (Str.ofString "low"), .str (Str.ofString "high"), .str (Str.ofString "as"), .str (Str.ofString "com")]) L ↔ L (takenL.any fun z => z == x) := oex
theorem r_is_name (w : List Nat) (h1 : 1 ≤ w.length) (h6 : w.length ≤ 6) (ht : tx w ∉ takenL) (f : Nat) (h : 1 ≤ f) : run prg G f 0 [.d (.str (tx w))] = ok (.d (.bool (decide (∀ c ∈ w, lc c))), [none]) := by
  obtain ⟨k, rfl⟩ := Nat.exists_eq_add_of_le' h
  refine Cl_of (run_W (d := f_is_name) rfl rfl ?_)
  have fin : Rf.D (run prg G k) G (.lc (.n 1) (.itL (.nm 0)) (.bl true) (.cmp .In (.nm 1) (.gl "SMALL")) [1]) [some (.d (.str (tx w))), none] fun x ρ1 => Fz x fun y => Uop .all [y] fun z => z = .d (.bool (decide (∀ c ∈ w, lc c))) := by
    refine D_allin (S := smallL) (fun ρ Q => D_SMALL) _ (by omega) ?_
    rw [Fz_L, Uop_all]
    congr 2
    rw [Bool.eq_iff_iff, List.all_eq_true, decide_eq_true_eq]
    constructor
    · intro g c hc
      have := g (decide (c ∈ smallL)) (List.mem_map.mpr ⟨c, hc, rfl⟩)
      exact mem_small.mp (by simpa using this)
    · intro g b hb
      obtain ⟨d, hd, rfl⟩ := List.mem_map.mp hb
      simpa using mem_small.mpr (g d hd)
  have g1 : (1 : Int) ≤ (w.length : Int) := by omega
  have g2 : (w.length : Int) ≤ 6 := by omega
  have g3 : w.length ≤ 1000000 := by omega
  have ht' : (takenL.any fun z => z == tx w) = false := by
    rw [List.any_eq_false]
    intro z hz e
    exact ht (eq_of_beq e ▸ hz)
  simp [f_is_name, g1, g2, g3, in_taken, ht']
  simpa using fin

end K33
set_option maxRecDepth 100000
set_option maxHeartbeats 8000000
namespace Nd
end Nd
namespace Pw
end Pw
namespace Sp
end Sp
namespace K33
open PySem Rf Res Th Pn Nd Pw Sp
theorem tx_cps (s : Str) : tx s.cps.toList = s := by simp [tx]
def numT (n : Int) : Str := toString n
def numL (n : Int) : List Nat := (numT n).cps.toList
theorem tx_numL (n : Int) : tx (numL n) = numT n := tx_cps _
/-- the signs of a number from -999 to 999 -/
def sgn (n : Int) : List Nat := if n < 0 then [45] else []
def numB (n : Int) : Bool :=
  let ds := (numL n).drop (sgn n).length
  decide (numL n = sgn n ++ ds) && decide (1 ≤ ds.length) && decide (ds.length ≤ 3) && ds.all (fun c => decide (dg c)) && (decide (ds.head? ≠ some 48) || decide (ds.length = 1)) && decide (numL n ≠ [45, 48]) && decide (PySem.intText? (numT n) = some n)
theorem numB_all : ∀ k : Fin 1999, numB ((k.val : Int) - 999) = true := by decide +kernel
theorem num_facts {n : Int} (h1 : -999 ≤ n) (h2 : n ≤ 999) : ∃ ds, numL n = sgn n ++ ds ∧ numOk ds ∧ numL n ≠ [45, 48] ∧ PySem.intText? (numT n) = some n := by
  have h := numB_all ⟨(n + 999).toNat, by omega⟩
  rw [show (((n + 999).toNat : Nat) : Int) - 999 = n by omega] at h
  unfold numB at h
  simp only [Bool.and_eq_true, decide_eq_true_eq, Bool.or_eq_true, List.all_eq_true] at h
  obtain ⟨⟨⟨⟨⟨⟨h1, h2⟩, h3⟩, h4⟩, h5⟩, h6⟩, h7⟩ := h
  exact ⟨_, h1, ⟨h2, h3, h4, fun e => h5.elim (fun z => absurd e z) id⟩, h6, h7⟩

end K33
set_option maxRecDepth 100000
set_option maxHeartbeats 8000000
namespace Nd
end Nd
namespace Pw
end Pw
namespace Sp
end Sp
namespace K33
open PySem Rf Res Th Pn Nd Pw Sp
theorem cut_mid (pre w post : List Nat) : cut (pre ++ w ++ post) (some (pre.length : Int)) (some ((pre.length + w.length : Nat) : Int)) = w := by
  rw [cut_two, List.take_append_of_le_length (by simp), List.take_of_length_le (by simp), List.drop_left]
theorem sl_mid {l pre w post : List Nat} (hl : l = pre ++ w ++ post) : L2.cutS (tx l) (some (pre.length : Int)) (some ((pre.length + w.length : Nat) : Int)) = tx w := by
  rw [tx_cut, hl, cut_mid]
theorem r_power_end (l pre post : List Nat) (n : Int) (h1 : -999 ≤ n) (h2 : n ≤ 999) (hl : l = pre ++ (94 :: numL n) ++ post) (h6 : l.length ≤ 100000) (hp : ∀ c, post.head? = some c → ¬ dg c) (f : Nat) (h : 2 ≤ f) :
    run prg G f 3 [.d (.str (tx l)), .d (.int pre.length)] = ok (.d (.int (pre.length + (94 :: numL n).length : Nat)), [none, none]) := by
  obtain ⟨k, rfl⟩ := Nat.exists_eq_add_of_le' (show 1 ≤ f by omega)
  obtain ⟨ds, e1, e2, e3, _⟩ := num_facts h1 h2
  have hp' : ∀ c, post.head? = some c → c ∉ digL := fun c hc hm => hp c hc (mem_dig.mp hm)
  have hd : ∀ c ∈ ds, c ∈ digL := fun c hc => mem_dig.mpr (e2.2.2.1 c hc)
  have r1 := r_run_end l (pre ++ 94 :: sgn n) ds post (by rw [hl, e1]; simp) h6 digL hd hp' k (by omega)
  have r2 := r_is_number ds e2 k (by omega)
  have s1 := sl_mid (l := l) (pre := pre ++ 94 :: sgn n) (w := ds) (post := post) (by rw [hl, e1]; simp)
  have s2 := sl_mid (l := l) (pre := pre ++ [94]) (w := numL n) (post := post) (by rw [hl]; simp)
  have len : (94 :: numL n).length = 1 + (sgn n).length + ds.length := by rw [e1]; simp; omega
  have ds1 := e2.1
  have o1 : ∀ w : List Nat, okc w → PyData.strOk (tx w) = true := fun w hw => strOk_tx hw
  have okn : okc (numL n) := by
    rw [e1]
    intro c hc
    rcases List.mem_append.mp hc with h | h
    · unfold sgn at h; split at h
      · simp at h; omega
      · cases h
    · have := e2.2.2.1 c h; unfold dg at this; omega
  have sm : Str.ofString "-" = tx [45] := by decide +kernel
  have sm0 : Str.ofString "-0" = tx [45, 48] := by decide +kernel
  have o45 : PyData.strOk (tx [45]) = true := by decide +kernel
  have o4548 : PyData.strOk (tx [45, 48]) = true := by decide +kernel
  have ln : l.length = pre.length + (94 :: numL n).length + post.length := by rw [hl]; simp; omega
  have q2 : (tx l).length ≤ 1000000 := by rw [tx_len]; omega
  have tail : ∀ b : Nat, b = pre.length + 1 + (sgn n).length → Rf.W (run prg G k) G f_power_end_J1 [some (.d (.str (tx l))), some (.d (.int pre.length)), some (.d (.int b)), none] (Rt f_power_end.io f_power_end.np fun x ρ => x = .d (.int (pre.length + (94 :: numL n).length : Nat)) ∧ ρ = [none, none]) := fun b hb => by
    have lb : (pre ++ 94 :: sgn n).length = b := by simp; omega
    rw [lb] at r1 s1
    have lb2 : (pre ++ [94]).length = pre.length + 1 := by simp
    rw [lb2] at s2
    have eb : pre.length + 1 + (numL n).length = b + ds.length := by rw [e1, hb]; simp; omega
    rw [eb] at s2
    rw [show ((pre.length + 1 : Nat) : Int) = (pre.length : Int) + 1 from rfl] at s2
    simp only [Int.natCast_add] at s1 s2
    have ne2 : ¬ tx (numL n) = tx [45, 48] := fun e => e3 (tx_inj e)
    have hl6 : l.length ≤ 1000000 := by omega
    simp [f_power_end_J1, Cl_eq r1, s1, s2, Cl_eq r2, hl6, sm0, o4548, o1 _ okn, ne2, e3]
    simp only [List.length_cons] at len
    exact ⟨by omega, rfl⟩
  have s3 : ∀ c rest, numL n ++ post = c :: rest → L2.cutS (tx l) (some ((pre.length : Int) + 1)) (some ((pre.length : Int) + 1 + 1)) = tx [c] := fun c rest e => by
    have := sl_mid (l := l) (pre := pre ++ [94]) (w := [c]) (post := rest) (by rw [hl]; simp [e])
    simpa using this
  have hl6 : l.length ≤ 1000000 := by omega
  by_cases hn : n < 0
  · have es : sgn n = [45] := if_pos hn
    have s4 := s3 45 (ds ++ post) (by rw [e1, es]; simp)
    refine Cl_of (run_W (d := f_power_end) rfl rfl ?_)
    have t := tail (pre.length + 2) (by rw [es]; rfl)
    rw [show ((pre.length + 2 : Nat) : Int) = (pre.length : Int) + 1 + 1 by omega] at t
    simp [f_power_end] at t
    simp [f_power_end, s4, hl6, sm, o45]
    exact t
  · have es : sgn n = [] := if_neg hn
    obtain ⟨c, ds', ed⟩ : ∃ c ds', ds = c :: ds' := by
      cases ds with
      | nil => simp at ds1
      | cons c ds' => exact ⟨c, ds', rfl⟩
    have hc := e2.2.2.1 c (by rw [ed]; simp)
    have s4 := s3 c (ds' ++ post) (by rw [e1, es, ed]; simp)
    have nc : ¬ c = 45 := by unfold dg at hc; omega
    have oc : PyData.strOk (tx [c]) = true := o1 _ (fun d hd => by simp at hd; rw [hd]; unfold dg at hc; omega)
    refine Cl_of (run_W (d := f_power_end) rfl rfl ?_)
    have t := tail (pre.length + 1) (by rw [es]; rfl)
    rw [show ((pre.length + 1 : Nat) : Int) = (pre.length : Int) + 1 by omega] at t
    simp [f_power_end] at t
    simp [f_power_end, s4, hl6, sm, o45, nc, oc, tx1_eq]
    exact t

end K33
set_option maxRecDepth 100000
set_option maxHeartbeats 8000000
namespace Nd
end Nd
namespace Pw
end Pw
namespace Sp
end Sp
namespace K33
open PySem Rf Res Th Pn Nd Pw Sp
inductive Pc : List Nat → Prop
  | word (c : Nat) (w : List Nat) : lc c → (∀ d ∈ w, lc d ∨ dg d) → Pc (c :: w)
  | sg (c : Nat) : c = 40 ∨ c = 41 ∨ c = 44 ∨ c = 126 → Pc [c]
  | pow (n : Int) : -999 ≤ n → n ≤ 999 → Pc (94 :: numL n)
/-- what may stand behind a piece -/
def St (p rest : List Nat) : Prop := ∀ c, p.head? = some c → ∀ d, rest.head? = some d → (lc c → ¬ lc d ∧ ¬ dg d) ∧ (c = 94 → ¬ dg d)
inductive Tx : List (List Nat) → List Nat → Prop
  | nil (b : Nat) : Tx [] (List.replicate b 32)
  | cons (b : Nat) (p : List Nat) (ps : List (List Nat)) (rest : List Nat) : Pc p → St p rest → Tx ps rest → Tx (p :: ps) (List.replicate b 32 ++ p ++ rest)
theorem tx_cases {ps : List (List Nat)} {l : List Nat} (h : Tx ps l) : (l = [] ∧ ps = []) ∨ (∃ l', l = 32 :: l' ∧ Tx ps l') ∨ ∃ p ps' l', l = p ++ l' ∧ ps = p :: ps' ∧ Pc p ∧ St p l' ∧ Tx ps' l' := by
  cases h with
  | nil b =>
    cases b with
    | zero => exact .inl ⟨rfl, rfl⟩
    | succ b => exact .inr (.inl ⟨_, List.replicate_succ, .nil b⟩)
  | cons b p ps rest h1 h2 h3 =>
    cases b with
    | zero => exact .inr (.inr ⟨p, ps, rest, by simp, rfl, h1, h2, h3⟩)
    | succ b => exact .inr (.inl ⟨_, by rw [List.replicate_succ]; rfl, .cons b p ps rest h1 h2 h3⟩)
theorem pc_len {p : List Nat} (h : Pc p) : 1 ≤ p.length := by cases h <;> simp
theorem small_dig : tx smallL ++ tx digL = tx (smallL ++ digL) := tx_app _ _
theorem s_caret : Str.ofString "^" = tx [94] := by decide +kernel
theorem s_blank : Str.ofString " " = tx [32] := by decide +kernel
theorem s_signs : Str.ofString " (),~" = tx [32, 40, 41, 44, 126] := by decide +kernel
def pD (p : List Nat) : PyData := .str (tx p)
def Pin (l : List Nat) (ps : List (List Nat)) (ρ : Ro) : Prop := ∃ (pre rest : List Nat) (p0 p1 : List (List Nat)) (e : Option PV), l = pre ++ rest ∧ Tx p1 rest ∧ ps = p0 ++ p1 ∧ p0.length ≤ pre.length ∧ ρ = [some (.d (.str (tx l))), some (.L (p0.map pD)), some (.d (.int (pre.length : Nat))), e]
def Pm (l : List Nat) (ρ : Ro) : Nat := match ρ with | [_, _, some (.d (.int i)), _] => l.length + 1 - i.toNat | _ => 0
theorem r_pieces_of {l : List Nat} {ps : List (List Nat)} (h : Tx ps l) (h6 : l.length ≤ 100000) (f : Nat) (hf : 3 ≤ f) : run prg G f 4 [.d (.str (tx l))] = ok (.d (.list (ps.map pD)), [none]) := by
  obtain ⟨k, rfl⟩ := Nat.exists_eq_add_of_le' (show 1 ≤ f by omega)
  refine Cl_of (run_W (d := f_pieces_of) rfl rfl ?_)
  simp [f_pieces_of]
  refine W_whl (Pin l ps) (Pm l) ?_ _ ⟨[], l, [], ps, none, rfl, h, rfl, Nat.le_refl _, rfl⟩
  rintro ρ ⟨pre, rest, p0, p1, e, hl, ht, hps, hp0, rfl⟩
  have hlen : l.length = pre.length + rest.length := by rw [hl]; simp
  have hl6 : l.length ≤ 1000000 := by omega
  rcases tx_cases ht with ⟨rfl, rfl⟩ | ⟨rest', rfl, ht'⟩ | ⟨p, p2, rest', rfl, rfl, hp, hst, ht'⟩
  · have hn : ¬ pre.length < l.length := by rw [hlen]; simp
    simp [hl6, hn, f_pieces_of_R1, hps]
  · have hat : l[pre.length]? = some 32 := by rw [hl, List.getElem?_append_right (by omega)]; simp
    have hn : pre.length < l.length := by rw [hlen]; simp
    have hi := fun M => ix_tx hat hl6 (M := M)
    have o32 : PyData.strOk (tx [32]) = true := by decide +kernel
    have o94 : PyData.strOk (tx [94]) = true := by decide +kernel
    have m1 : ¬ 32 ∈ smallL := by decide
    have m2 : ¬ 32 ∈ digL := by decide
    simp [hl6, hn, f_pieces_of_B1, hi, s_caret, s_blank, s_signs, o32, o94, tx1_eq, in_tx, nin_tx, m1, m2, f_pieces_of_J2, f_pieces_of_J1]
    exact ⟨⟨pre ++ [32], rest', p0, p1, _, by rw [hl]; simp, ht', hps, by simp; omega, by simp; rfl⟩, by simp only [Pm]; omega⟩
  · have hp1 := pc_len hp
    have hn : pre.length < l.length := by rw [hlen]; simp; omega
    obtain ⟨c, w, ec⟩ : ∃ c w, p = c :: w := by
      cases p with
      | nil => simp at hp1
      | cons c w => exact ⟨c, w, rfl⟩
    have hat : l[pre.length]? = some c := by rw [hl, List.getElem?_append_right (by omega), ec]; simp
    have hi := fun M => ix_tx hat hl6 (M := M)
    have sl := sl_mid (l := l) (pre := pre) (w := p) (post := rest') (by rw [hl]; simp)
    have hln : l.length = pre.length + p.length + rest'.length := by rw [hlen]; simp; omega
    -- the end of the step
    have tail : ∀ en : Nat, en = pre.length + p.length → c ≠ 32 → okc [c] → Rf.W (run prg G k) G f_pieces_of_J2 [some (.d (.str (tx l))), some (.L (p0.map pD)), some (.d (.int (pre.length : Nat))), some (.d (.int (en : Nat)))] (Tu (fun ρ2 => Pin l ps ρ2 ∧ Pm l ρ2 < Pm l [some (.d (.str (tx l))), some (.L (p0.map pD)), some (.d (.int (pre.length : Nat))), e]) (Qs (run prg G k) G f_pieces_of_R1 (Rt [] 1 fun x ρ => x = .d (.list (ps.map pD)) ∧ ρ = [none]))) := fun en hen hc ho => by
      have o32 : PyData.strOk (tx [32]) = true := by decide +kernel
      have oc := strOk_tx ho
      subst hen
      rw [Int.natCast_add] at sl
      simp [f_pieces_of_J2, f_pieces_of_J1, hi, s_blank, o32, oc, tx1_eq, hc, hl6, sl]
      refine ⟨by omega, ⟨pre ++ p, rest', p0 ++ [p], p2, _, by rw [hl]; simp, ht', by rw [hps]; simp, by simp; omega, by simp [pD]; rfl⟩, by simp only [Pm]; omega⟩
    have o94 : PyData.strOk (tx [94]) = true := by decide +kernel
    have e1 : ((pre.length + p.length : Nat) : Int) = (pre.length : Int) + p.length := rfl
    cases hp with
    | word c' w' hc hw =>
      cases ec
      have r1 := r_run_end l pre (c :: w) rest' (by rw [hl]; simp) h6 (smallL ++ digL) (fun d hd => by
        rcases List.mem_cons.mp hd with rfl | hd
        · exact List.mem_append_left _ (mem_small.mpr hc)
        · rcases hw d hd with h | h
          · exact List.mem_append_left _ (mem_small.mpr h)
          · exact List.mem_append_right _ (mem_dig.mpr h)) (fun d hd hm => by
        have := (hst c rfl d hd).1 hc
        rcases List.mem_append.mp hm with h | h
        · exact this.1 (mem_small.mp h)
        · exact this.2 (mem_dig.mp h)) k (by omega)
      have n1 : ¬ c = 94 := by unfold lc at hc; omega
      have n2 : c ≠ 32 := by unfold lc at hc; omega
      have ho : okc [c] := fun d hd => by simp at hd; rw [hd]; unfold lc at hc; omega
      have t := tail _ rfl n2 ho
      have m1 : c ∈ smallL := mem_small.mpr hc
      have sl2 : smallL.length = 26 := rfl
      have dl2 : digL.length = 10 := rfl
      simp [hl6, hn, f_pieces_of_B1, hi, s_caret, strOk_tx ho, o94, tx1_eq, n1, in_tx, m1, sl2, dl2]
      rw [Cl_eq r1]
      exact t
    | sg c' hc =>
      cases ec
      have n1 : ¬ c = 94 := by omega
      have n2 : c ≠ 32 := by omega
      have ho : okc [c] := fun d hd => by simp at hd; rw [hd]; omega
      have m1 : ¬ c ∈ smallL := fun h => by have := mem_small.mp h; unfold lc at this; omega
      have m2 : ¬ c ∈ digL := fun h => by have := mem_dig.mp h; unfold dg at this; omega
      have m3 : c ∈ [32, 40, 41, 44, 126] := by simp; omega
      have t := tail _ rfl n2 ho
      simp [hl6, hn, f_pieces_of_B1, hi, s_caret, strOk_tx ho, o94, tx1_eq, n1, in_tx, m1, m2, s_signs, nin_tx]
      have m3' : c = 32 ∨ c = 40 ∨ c = 41 ∨ c = 44 ∨ c = 126 := by omega
      rw [if_neg (by omega)]
      exact t
    | pow n n1 n2 =>
      cases ec
      have r1 := r_power_end l pre rest' n n1 n2 (by rw [hl]; simp) h6 (fun d hd => (hst 94 rfl d hd).2 rfl) k (by omega)
      have t := tail _ rfl (by decide) (by intro d hd; simp at hd; omega)
      simp [hl6, hn, f_pieces_of_B1, hi, s_caret, o94, tx1_eq]
      rw [Cl_eq r1]
      exact t

end K33
set_option maxRecDepth 100000
set_option maxHeartbeats 8000000
namespace Nd
end Nd
namespace Pw
end Pw
namespace Sp
end Sp
namespace K33
open PySem Rf Res Th Pn Nd Pw Sp
def stt (ns : List Int) (a b : Int) (c : Nat) : PV := .L [.list (ns.map .int), .int a, .int b, .int c]
def Sok (ns : List Int) (a b : Int) (B : Nat) : Prop := ns.length ≤ 63 ∧ (∀ z ∈ ns, Builtin.Int.intBits z ≤ 1048576) ∧ 0 ≤ a ∧ bits a ≤ 1048576 ∧ 0 ≤ b ∧ b ≤ B
theorem w_sdraw {f : Nat} (h : 1 ≤ f) {ns : List Int} {a b : Int} {c B : Nat} (hs : Sok ns a b B) (hB : B < 2 ^ 30) {many : Int} (h1 : 1 ≤ many) (h2 : many < 2 ^ 64) {Q : PV → Ro → Prop} (q : ∀ (x a' b' : Int) (c' : Nat), Sok ns a' b' (B + 1) → 0 ≤ x → x < many → Q (.d (.int x)) [some (stt ns a' b' c'), none]) :
    Cl (run prg G f) 14 [stt ns a b c, .d (.int many)] Q := by
  obtain ⟨k, rfl⟩ := Nat.exists_eq_add_of_le' h
  obtain ⟨s1, s2, s3, s4, s5, s6⟩ := hs
  refine run_W (d := f_law_draw) rfl rfl ?_
  have hlog : many.natAbs.log2 < 9000 := by
    by_cases h0 : many.natAbs = 0
    · rw [h0]; decide
    · exact Nat.lt_trans ((Nat.log2_lt h0).mpr (show many.natAbs < 2 ^ 64 by omega)) (by decide)
  have fin : ∀ x : Int, 0 ≤ x % many ∧ x % many < many := fun x => ⟨Int.emod_nonneg x (by omega), Int.emod_lt_of_pos x (by omega)⟩
  have div_ok : ∀ x : Int, 0 ≤ x → bits x ≤ 1048576 → 0 ≤ x / many ∧ bits (x / many) ≤ 1048576 := fun x h1 h2 => ⟨Int.ediv_nonneg h1 (by omega), bits_abs h2 (by rw [Int.natAbs_ediv_of_nonneg h1]; exact Nat.div_le_self _ _)⟩
  have tail : ∀ (x : Int) (c' : Nat) (p r : Option PV), bits x ≤ 1048576 → Rf.W (run prg G k) G f_law_draw_J1 [some (stt ns a (b + 1) c'), some (.d (.int many)), some (.d (.int x)), p, r] (Rt f_law_draw.io f_law_draw.np Q) := by
    intro x c' p r hx
    have e1 : bits (b + 1) ≤ 31 := bits_rng (by omega) (by omega)
    have e2 : bits 48271 ≤ 16 := bits_le (by decide)
    have e3 : bits 7919 ≤ 16 := bits_le (by decide)
    have e4 : bits 104729 ≤ 17 := bits_le (by decide)
    have e5 : bits 69621 ≤ 17 := bits_le (by decide)
    simp [f_law_draw_J1, f_law_draw, stt]
    generalize hA : (x * 48271 + 7919 * (b + 1) + 5) % 2147483647 = A
    have a1 : bits A ≤ 31 := by rw [← hA]; exact bits_mod (by decide) (by decide)
    generalize hC : (A * A + 104729 * (b + 1)) % 2147483629 = C
    have c1 : bits C ≤ 31 := by rw [← hC]; exact bits_mod (by decide) (by decide)
    generalize hE : (C * 69621 + 16807) % 2147483587 = E
    have d1 : bits E ≤ 31 := by rw [← hE]; exact bits_mod (by decide) (by decide)
    refine ⟨by omega, by omega, by omega, by omega, by omega, by omega, by omega, ?_⟩
    exact q _ a (b + 1) c' ⟨s1, s2, s3, s4, by omega, by omega⟩ (fin _).1 (fin _).2
  have n1 : L2.ixN 4 1 = some 1 := rfl
  have n2 : L2.ixN 4 2 = some 2 := rfl
  have n3 : L2.ixN 4 3 = some 3 := rfl
  simp [f_law_draw, stt, n1, n2, n3]
  split
  · obtain ⟨v1, v2⟩ := div_ok a s3 s4
    exact ⟨by omega, ⟨by omega, hlog⟩, q (a % many) (a / many) (b + 1) c ⟨s1, s2, v1, v2, by omega, by omega⟩ (fin _).1 (fin _).2⟩
  · split
    · rename_i hc
      have hx := at_map (f := PyData.int) (List.getElem?_eq_getElem hc)
      have hb := s2 _ (List.getElem_mem hc)
      generalize ns[c] = x at hx hb
      simp [hx]
      rw [show (c : Int) + 1 = ((c + 1 : Nat) : Int) from rfl]
      split
      · obtain ⟨v1, v2⟩ := div_ok x (by omega) hb
        exact ⟨⟨by omega, hlog⟩, by omega, q (x % many) (x / many) (b + 1) (c + 1) ⟨s1, s2, v1, v2, by omega, by omega⟩ (fin _).1 (fin _).2⟩
      · exact tail x (c + 1) none none hb
    · split
      · rename_i hp
        have z1 := Int.emod_nonneg (b + 1) (by omega : (ns.length : Int) ≠ 0)
        have z2 := Int.emod_lt_of_pos (b + 1) (by omega : (0 : Int) < ns.length)
        obtain ⟨j, ej⟩ := Int.eq_ofNat_of_zero_le z1
        have hj : j < ns.length := by omega
        have hx := at_map (f := PyData.int) (List.getElem?_eq_getElem hj)
        rw [ej]
        exact ⟨hp, _, hx, tail _ c none none (s2 _ (List.getElem_mem hj))⟩
      · exact tail 7 c none none (Nat.le_trans (show bits 7 ≤ 3 from bits_le (by decide)) (by decide))

inductive Ex where
  | one
  | move (n : Int)
  | name (s : Str)
  | thn (a b : Ex)
  | back (a : Ex)
  | pow (a : Ex) (n : Int)
  | un (h : Bool) (a : Ex)
  | bi (c : Bool) (a b : Ex)
def unS (h : Bool) : Str := if h then "high" else "low"
def binS (c : Bool) : Str := if c then "com" else "as"
@[simp] theorem unS_t : unS true = "high" := rfl
@[simp] theorem unS_f : unS false = "low" := rfl
@[simp] theorem binS_t : binS true = "com" := rfl
@[simp] theorem binS_f : binS false = "as" := rfl
def encE : Ex → PyData
  | .one => .tuple [.str "one"]
  | .move n => .tuple [.str "move", .int n]
  | .name s => .tuple [.str "name", .str s]
  | .thn a b => .tuple [.str "then", encE a, encE b]
  | .back a => .tuple [.str "back", encE a]
  | .pow a n => .tuple [.str "power", encE a, .int n]
  | .un h a => .tuple [.str (unS h), encE a]
  | .bi c a b => .tuple [.str (binS c), encE a, encE b]
def brac (e : Ex) (x : Str) : Str := match e with
  | .thn _ _ => "(" ++ x ++ ")"
  | _ => x
def txt : Ex → Str
  | .one => "one"
  | .move n => "m" ++ numT n
  | .name s => s
  | .thn a b => txt a ++ " " ++ brac b (txt b)
  | .back a => brac a (txt a) ++ "~"
  | .pow a n => brac a (txt a) ++ ("^" ++ numT n)
  | .un h a => unS h ++ "(" ++ txt a ++ ")"
  | .bi c a b => binS c ++ "(" ++ txt a ++ ", " ++ txt b ++ ")"
def szE : Ex → Nat
  | .one => 1
  | .move _ => 1
  | .name _ => 1
  | .thn a b => 1 + szE a + szE b
  | .back a => 1 + szE a
  | .pow a _ => 1 + szE a
  | .un _ a => 1 + szE a
  | .bi _ a b => 1 + szE a + szE b
def dpE : Ex → Nat
  | .one => 0
  | .move _ => 0
  | .name _ => 0
  | .thn a b => 1 + max (dpE a) (dpE b)
  | .back a => 1 + dpE a
  | .pow a _ => 1 + dpE a
  | .un _ a => 1 + dpE a
  | .bi _ a b => 1 + max (dpE a) (dpE b)
def good : Ex → Prop
  | .one => True
  | .move n => 0 ≤ n ∧ n ≤ 999
  | .name s => ∃ w, s = tx w ∧ nameOk w
  | .thn a b => good a ∧ good b
  | .back a => good a
  | .pow a n => good a ∧ -999 ≤ n ∧ n ≤ 999
  | .un _ a => good a
  | .bi _ a b => good a ∧ good b
theorem num_ok {n : Int} (h1 : -1000 ≤ n) (h2 : n < 1000) (h3 : n ≠ -1000) : (numT n).length ≤ 5 ∧ PyData.strOk (numT n) = true := by
  obtain ⟨ds, e1, e2, _⟩ := num_facts (n := n) (by omega) (by omega)
  rw [← tx_numL n]
  have hs : (sgn n).length ≤ 1 := by unfold sgn; split <;> simp
  refine ⟨by rw [tx_len, e1]; have := e2.2.1; simp; omega, strOk_tx ?_⟩
  rw [e1]
  intro c hc
  rcases List.mem_append.mp hc with h | h
  · unfold sgn at h
    split at h
    · simp at h; omega
    · cases h
  · have := e2.2.2.1 c h; unfold dg at this; omega
theorem name_ok {s : Str} (h : ∃ w, s = tx w ∧ nameOk w) : s.length ≤ 8 ∧ PyData.strOk s = true := by
  obtain ⟨w, rfl, h1, h2, h3, _⟩ := h
  refine ⟨by rw [tx_len]; omega, strOk_tx fun c hc => ?_⟩
  have := h3 c hc
  unfold lc at this
  omega
theorem strOk_app (x y : Str) : PyData.strOk (x ++ y) = (PyData.strOk x && PyData.strOk y) := by
  show ((x.cps ++ y.cps).all _) = _
  rw [Array.all_append]
  rfl
theorem len_app (x y : Str) : (x ++ y).length = x.length + y.length := by
  show (x.cps ++ y.cps).size = _
  rw [Array.size_append]
  rfl
theorem brac_ok (e : Ex) (x : Str) : (brac e x).length ≤ x.length + 2 ∧ (PyData.strOk x = true → PyData.strOk (brac e x) = true) := by
  cases e <;> simp only [brac] <;> first | exact ⟨by omega, fun h => h⟩ | skip
  refine ⟨by rw [len_app, len_app, show ("(" : Str).length = 1 from rfl, show (")" : Str).length = 1 from rfl]; omega, fun h => ?_⟩
  rw [strOk_app, strOk_app, h]
  decide +kernel
theorem txt_ok : ∀ e : Ex, good e → (txt e).length ≤ 8 * szE e ∧ PyData.strOk (txt e) = true
  | .one, _ => by decide +kernel
  | .move n, h => by
    obtain ⟨h1, h2⟩ := num_ok (n := n) (by have := h.1; omega) (by have := h.2; omega) (by have := h.1; omega)
    simp only [txt, szE, len_app, strOk_app, h2, show ("m" : Str).length = 1 from rfl]
    exact ⟨by omega, by decide +kernel⟩
  | .name s, h => by simp only [txt, szE]; have := name_ok h; exact ⟨by omega, this.2⟩
  | .thn a b, h => by
    obtain ⟨a1, a2⟩ := txt_ok a h.1
    obtain ⟨b1, b2⟩ := txt_ok b h.2
    obtain ⟨c1, c2⟩ := brac_ok b (txt b)
    simp only [txt, szE, len_app, strOk_app, a2, c2 b2, show (" " : Str).length = 1 from rfl]
    exact ⟨by omega, by decide +kernel⟩
  | .back a, h => by
    obtain ⟨a1, a2⟩ := txt_ok a h
    obtain ⟨c1, c2⟩ := brac_ok a (txt a)
    simp only [txt, szE, len_app, strOk_app, c2 a2, show ("~" : Str).length = 1 from rfl]
    exact ⟨by omega, by decide +kernel⟩
  | .pow a n, h => by
    obtain ⟨a1, a2⟩ := txt_ok a h.1
    obtain ⟨h1, h2⟩ := num_ok (n := n) (by have := h.2.1; omega) (by have := h.2.2; omega) (by have := h.2.1; omega)
    obtain ⟨c1, c2⟩ := brac_ok a (txt a)
    simp only [txt, szE, len_app, strOk_app, c2 a2, h2, show ("^" : Str).length = 1 from rfl]
    exact ⟨by omega, by decide +kernel⟩
  | .un b a, h => by
    obtain ⟨a1, a2⟩ := txt_ok a h
    have u1 : (unS b).length ≤ 4 ∧ PyData.strOk (unS b) = true := by cases b <;> decide +kernel
    simp only [txt, szE, len_app, strOk_app, a2, u1.2, show ("(" : Str).length = 1 from rfl, show (")" : Str).length = 1 from rfl]
    exact ⟨by omega, by decide +kernel⟩
  | .bi b a c, h => by
    obtain ⟨a1, a2⟩ := txt_ok a h.1
    obtain ⟨b1, b2⟩ := txt_ok c h.2
    have u1 : (binS b).length ≤ 3 ∧ PyData.strOk (binS b) = true := by cases b <;> decide +kernel
    simp only [txt, szE, len_app, strOk_app, a2, b2, u1.2, show ("(" : Str).length = 1 from rfl, show (")" : Str).length = 1 from rfl, show (", " : Str).length = 2 from rfl]
    exact ⟨by omega, by decide +kernel⟩

end K33
set_option maxRecDepth 100000
set_option maxHeartbeats 8000000
namespace Nd
end Nd
namespace Pw
end Pw
namespace Sp
end Sp
namespace K33
open PySem Rf Res Th Pn Nd Pw Sp
def PL (all : List (List Nat)) : PV := .d (.list (all.map pD))
def wl (s : Str) : List Nat := s.cps.toList
inductive Gr : Bool → Ex → List (List Nat) → Nat → Prop
  | one (d : Nat) : Gr true .one [wl "one"] d
  | move (n : Int) (d : Nat) : 0 ≤ n → n ≤ 999 → Gr true (.move n) [109 :: numL n] d
  | name (w : List Nat) (d : Nat) : nameOk w → Gr true (.name (tx w)) [w] d
  | grp {e : Ex} {ps : List (List Nat)} {d : Nat} : Gr false e ps d → Gr true e ([40] :: (ps ++ [[41]])) (d + 1)
  | un (h : Bool) {e : Ex} {ps : List (List Nat)} {d : Nat} : Gr false e ps d → Gr true (.un h e) (wl (unS h) :: [40] :: (ps ++ [[41]])) (d + 1)
  | bi (c : Bool) {a b : Ex} {ps qs : List (List Nat)} {d : Nat} : Gr false a ps d → Gr false b qs d → Gr true (.bi c a b) (wl (binS c) :: [40] :: (ps ++ [44] :: (qs ++ [[41]]))) (d + 1)
  | back {e : Ex} {ps : List (List Nat)} {d : Nat} : Gr true e ps d → Gr true (.back e) (ps ++ [[126]]) d
  | pow {e : Ex} {ps : List (List Nat)} {d : Nat} (n : Int) : Gr true e ps d → -999 ≤ n → n ≤ 999 → Gr true (.pow e n) (ps ++ [94 :: numL n]) d
  | up {e : Ex} {ps : List (List Nat)} {d : Nat} : Gr true e ps d → Gr false e ps d
  | snoc {a b : Ex} {ps qs : List (List Nat)} {d : Nat} : Gr false a ps d → Gr true b qs d → Gr false (.thn a b) (ps ++ qs) d
theorem gr_mono {t : Bool} {e : Ex} {ps : List (List Nat)} {d : Nat} (h : Gr t e ps d) : ∀ {d' : Nat}, d ≤ d' → Gr t e ps d' := by
  induction h with
  | one d => intro d' _; exact .one d'
  | move n d h1 h2 => intro d' _; exact .move n d' h1 h2
  | name w d h => intro d' _; exact .name w d' h
  | grp _ ih => intro d' hd; obtain ⟨d', rfl⟩ := Nat.exists_eq_add_of_le' (show 1 ≤ d' by omega); exact .grp (ih (by omega))
  | un h _ ih => intro d' hd; obtain ⟨d', rfl⟩ := Nat.exists_eq_add_of_le' (show 1 ≤ d' by omega); exact .un h (ih (by omega))
  | bi c _ _ ih1 ih2 => intro d' hd; obtain ⟨d', rfl⟩ := Nat.exists_eq_add_of_le' (show 1 ≤ d' by omega); exact .bi c (ih1 (by omega)) (ih2 (by omega))
  | back _ ih => intro d' hd; exact .back (ih hd)
  | pow n _ h1 h2 ih => intro d' hd; exact .pow n (ih hd) h1 h2
  | up _ ih => intro d' hd; exact .up (ih hd)
  | snoc _ _ ih1 ih2 => intro d' hd; exact .snoc (ih1 hd) (ih2 hd)
/-- the first piece of a part -/
def Fst (p : List Nat) : Prop := p = [40] ∨ ∃ c w, p = c :: w ∧ lc c
theorem gr_first {t : Bool} {e : Ex} {ps : List (List Nat)} {d : Nat} (h : Gr t e ps d) : ∃ p r, ps = p :: r ∧ Fst p := by
  induction h with
  | one d => exact ⟨_, _, rfl, .inr ⟨111, [110, 101], rfl, by decide⟩⟩
  | move n d h1 h2 => exact ⟨_, _, rfl, .inr ⟨109, _, rfl, by decide⟩⟩
  | name w d h =>
    obtain ⟨h1, h2, h3, h4⟩ := h
    cases w with
    | nil => simp at h1
    | cons c w => exact ⟨_, _, rfl, .inr ⟨c, w, rfl, h3 c (by simp)⟩⟩
  | grp _ ih => exact ⟨_, _, rfl, .inl rfl⟩
  | un h _ ih => exact ⟨_, _, rfl, .inr (by cases h <;> exact ⟨_, _, rfl, by decide⟩)⟩
  | bi c _ _ ih1 ih2 => exact ⟨_, _, rfl, .inr (by cases c <;> exact ⟨_, _, rfl, by decide⟩)⟩
  | back _ ih => obtain ⟨p, r, rfl, hp⟩ := ih; exact ⟨p, _, rfl, hp⟩
  | pow n _ h1 h2 ih => obtain ⟨p, r, rfl, hp⟩ := ih; exact ⟨p, _, rfl, hp⟩
  | up _ ih => exact ih
  | snoc _ _ ih1 ih2 => obtain ⟨p, r, rfl, hp⟩ := ih1; exact ⟨p, _, rfl, hp⟩
def stop1 (post : List (List Nat)) : Prop := ∀ p, post.head? = some p → ∃ c w, p = c :: w ∧ c ≠ 126 ∧ c ≠ 94 ∧ p.length ≤ 100000
def stop2 (post : List (List Nat)) : Prop := ∀ p, post.head? = some p → p = [44] ∨ p = [41]
theorem stop21 {post : List (List Nat)} (h : stop2 post) : stop1 post := fun p hp => by
  rcases h p hp with rfl | rfl
  · exact ⟨44, [], rfl, by decide, by decide, by simp⟩
  · exact ⟨41, [], rfl, by decide, by decide, by simp⟩

end K33
set_option maxRecDepth 100000
set_option maxHeartbeats 8000000
namespace Nd
end Nd
namespace Pw
end Pw
namespace Sp
end Sp
namespace K33
open PySem Rf Res Th Pn Nd Pw Sp
theorem s_tilde : Str.ofString "~" = tx [126] := by decide +kernel
theorem s_open : Str.ofString "(" = tx [40] := by decide +kernel
theorem s_close : Str.ofString ")" = tx [41] := by decide +kernel
theorem s_comma : Str.ofString "," = tx [44] := by decide +kernel
theorem s_tc : Str.ofString "~^" = tx [126, 94] := by decide +kernel
theorem s_m : Str.ofString "m" = tx [109] := by decide +kernel
theorem nin_tup {x a b : Str} {L : Bool → Prop} : Cop .NotIn (.str x) (.tuple [.str a, .str b]) L ↔ L (!(([a, b] : List Str).any fun z => z == x)) := oex
theorem in_tup2 {x a b : Str} {L : Bool → Prop} : Cop .In (.str x) (.tuple [.str a, .str b]) L ↔ L (([a, b] : List Str).any fun z => z == x) := oex
theorem in_tup5 {x a b c d e : Str} {L : Bool → Prop} : Cop .In (.str x) (.tuple [.str a, .str b, .str c, .str d, .str e]) L ↔ L (([a, b, c, d, e] : List Str).any fun z => z == x) := oex
theorem at_all {all pre post : List (List Nat)} {p : List Nat} (h : all = pre ++ p :: post) : L2.atI (all.map pD) ((pre.length : Nat) : Int) = some (pD p) := by
  refine L2.atI_nat ?_
  rw [List.getElem?_map, h, List.getElem?_append_right (by omega)]
  simp
theorem r_past (all pre post : List (List Nat)) (p : List Nat) (h : all = pre ++ p :: post) (hp : okc p) (f : Nat) (hf : 1 ≤ f) : run prg G f 6 [PL all, .d (.int pre.length), .d (.str (tx p))] = ok (.d (.int ((pre.length : Int) + 1)), [none, none, none]) := by
  obtain ⟨k, rfl⟩ := Nat.exists_eq_add_of_le' hf
  refine Cl_of (run_W (d := f_past) rfl rfl ?_)
  have ne : ¬ pre.length = all.length := by rw [h]; simp
  have o := strOk_tx hp
  simp [f_past, PL, ne, at_all h, pD, o]
  exact fun z => absurd z (by omega)
theorem r_word_one (f : Nat) (hf : 1 ≤ f) : run prg G f 5 [.d (pD (wl "one"))] = ok (.d (encE .one), [none]) := by
  obtain ⟨k, rfl⟩ := Nat.exists_eq_add_of_le' hf
  have e : pD (wl "one") = .str (Str.ofString "one") := by unfold pD wl; rw [tx_cps]
  rw [e]
  have o : PyData.strOk (Str.ofString "one") = true := by decide +kernel
  refine Cl_of (run_W (d := f_word_of) rfl rfl ?_)
  simp [f_word_of, o, encE]
theorem one_taken : (Str.ofString "one") ∈ takenL := by decide
theorem r_word_name (w : List Nat) (h : nameOk w) (f : Nat) (hf : 2 ≤ f) : run prg G f 5 [.d (pD w)] = ok (.d (encE (.name (tx w))), [none]) := by
  obtain ⟨k, rfl⟩ := Nat.exists_eq_add_of_le' (show 1 ≤ f by omega)
  obtain ⟨h1, h2, h3, h4⟩ := h
  have o : PyData.strOk (Str.ofString "one") = true := by decide +kernel
  have ow := (name_ok ⟨w, rfl, h1, h2, h3, h4⟩).2
  have r1 := r_is_name w h1 h2 h4 k (by omega)
  have ne : ¬ tx w = Str.ofString "one" := fun e => h4 (e ▸ one_taken)
  have hd : decide (∀ c ∈ w, lc c) = true := decide_eq_true h3
  rw [hd] at r1
  refine Cl_of (run_W (d := f_word_of) rfl rfl ?_)
  simp [f_word_of, o, ow, encE, pD, ne, Cl_eq r1]
theorem r_word_move (n : Int) (h1 : 0 ≤ n) (h2 : n ≤ 999) (f : Nat) (hf : 2 ≤ f) : run prg G f 5 [.d (pD (109 :: numL n))] = ok (.d (encE (.move n)), [none]) := by
  obtain ⟨k, rfl⟩ := Nat.exists_eq_add_of_le' (show 1 ≤ f by omega)
  obtain ⟨ds, e1, e2, e3, e4⟩ := num_facts (n := n) (by omega) h2
  have es : sgn n = [] := if_neg (by omega)
  rw [es, List.nil_append] at e1
  have hb := e2.1
  obtain ⟨c, cs, ec⟩ : ∃ c cs, ds = c :: cs := by
    cases ds with
    | nil => simp at hb
    | cons c cs => exact ⟨c, cs, rfl⟩
  have hc := e2.2.2.1 c (by rw [ec]; simp)
  have ncl : ¬ lc c := by unfold dg at hc; unfold lc; omega
  have tk : tx (109 :: numL n) ∉ takenL := fun hm => by
    have key : ∀ z ∈ takenL, ∀ c ∈ z.cps.toList, lc c := by decide +kernel
    have := key _ hm c (by rw [e1, ec]; simp [tx])
    exact ncl this
  have l1 : (109 :: numL n).length = ds.length + 1 := by rw [e1]; simp
  have r1 := r_is_name (109 :: numL n) (by omega) (by have := e2.2.1; omega) tk k (by omega)
  have hd : decide (∀ c ∈ (109 :: numL n : List Nat), lc c) = false := decide_eq_false fun h => ncl (h c (by rw [e1, ec]; simp))
  rw [hd] at r1
  have r2 := r_is_number ds e2 k (by omega)
  have o : PyData.strOk (Str.ofString "one") = true := by decide +kernel
  have om : PyData.strOk (tx [109]) = true := by decide +kernel
  have okw : okc (109 :: numL n) := fun d hd => by
    rcases List.mem_cons.mp hd with rfl | hd
    · omega
    · rw [e1] at hd; have := e2.2.2.1 d hd; unfold dg at this; omega
  have ow := strOk_tx okw
  have ne : ¬ tx (109 :: numL n) = Str.ofString "one" := fun e => tk (e ▸ one_taken)
  have cu : L2.cutS (tx (109 :: numL n)) (some 1) none = tx ds := by
    rw [tx_cut, show (1 : Int) = ((1 : Nat) : Int) from rfl, cut_from, List.drop_succ_cons, List.drop_zero, e1]
  have hl3 := e2.2.1
  have hl6 : (109 :: numL n).length ≤ 1000000 := by omega
  have e5 : PySem.intText? (tx ds) = some n := by rw [← e1, tx_numL]; exact e4
  have hl7 : (numL n).length ≤ 999999 := by rw [e1]; omega
  refine Cl_of (run_W (d := f_word_of) rfl rfl ?_)
  simp [f_word_of, o, ow, encE, pD, ne, Cl_eq r1, Iop_tx0 hl6, s_m, om, cu, Cl_eq r2, Uop_intT e5, hl7]
  omega
/-- a part, read to its end -/
theorem part_ret {all pre post : List (List Nat)} {e : Ex} {ps : List (List Nat)} (h : all = pre ++ ps ++ post) (h6 : all.length ≤ 100000) (hs : stop1 post) (k : Nat)
    (hr : ∀ Q, Rf.W (run prg G k) G f_part_J2 [PL all, some (.d (.int ((pre.length : Int) + ps.length))), some (.d (encE e))] Q → Rf.W (run prg G k) G f_part.body [PL all, some (.d (.int (pre.length : Int))), none] Q) :
    run prg G (k + 1) 8 [PL all, .d (.int pre.length)] = ok (.d (.tuple [encE e, .int ((pre.length : Int) + ps.length)]), [none, none]) := by
  refine Cl_of (run_W (d := f_part) rfl rfl (hr _ ?_))
  have hlen : all.length = pre.length + ps.length + post.length := by rw [h]; simp; omega
  cases post with
  | nil =>
    have hn : ¬ ((pre.length : Int) + ps.length < all.length) := by simp at hlen; omega
    simp only [f_part_J2, f_part_L1, W_seq]
    refine W_turn ?_
    simp [PL, hn, f_part_R1]
    rfl
  | cons p post =>
    obtain ⟨c, w, ep, h1, h2, hl⟩ := hs p rfl
    subst ep
    have hn : ((pre.length : Int) + ps.length < all.length) := by simp at hlen; omega
    have hat := at_all (all := all) (pre := pre ++ ps) (p := c :: w) (post := post) (by rw [h])
    rw [List.length_append, Int.natCast_add] at hat
    have hl6 : (c :: w).length ≤ 1000000 := by omega
    have ni : ¬ c ∈ [126, 94] := by simp; omega
    simp only [f_part_J2, f_part_L1, W_seq]
    refine W_turn ?_
    simp [PL, hn, hat, pD, Iop_tx0 hl6, s_tc, in_tx, h1, h2, f_part_R1]
    rfl
/-- a chain, read to its end -/
theorem chain_ret {all pre post : List (List Nat)} {e : Ex} {ps : List (List Nat)} (h : all = pre ++ ps ++ post) (h6 : all.length ≤ 100000) (hs : stop2 post) (k : Nat)
    (hr : ∀ Q, (∀ m : Option PV, Rf.W (run prg G k) G (.seq f_chain_L1 f_chain_R1) [PL all, some (.d (.int ((pre.length : Int) + ps.length))), some (.d (encE e)), m] Q) → Rf.W (run prg G k) G f_chain.body [PL all, some (.d (.int (pre.length : Int))), none, none] Q) :
    run prg G (k + 1) 9 [PL all, .d (.int pre.length)] = ok (.d (.tuple [encE e, .int ((pre.length : Int) + ps.length)]), [none, none]) := by
  refine Cl_of (run_W (d := f_chain) rfl rfl (hr _ fun m => ?_))
  have hlen : all.length = pre.length + ps.length + post.length := by rw [h]; simp; omega
  have o44 : PyData.strOk (tx [44]) = true := by decide +kernel
  cases post with
  | nil =>
    have hn : ¬ ((pre.length : Int) + ps.length < all.length) := by simp at hlen; omega
    simp only [f_chain_L1, W_seq]
    refine W_turn ?_
    simp [PL, hn, f_chain_R1]
    rfl
  | cons p post =>
    have hp := hs p rfl
    have hn : ((pre.length : Int) + ps.length < all.length) := by simp at hlen; omega
    have hat := at_all (all := all) (pre := pre ++ ps) (p := p) (post := post) (by rw [h])
    rw [List.length_append, Int.natCast_add] at hat
    simp only [f_chain_L1, W_seq]
    refine W_turn ?_
    have hf : (([tx [44], tx [41]] : List Str).any fun z => z == tx p) = true := by rcases hp with rfl | rfl <;> decide +kernel
    simp [PL, hn, hat, pD, s_close, s_comma]
    rw [nin_tup, hf]
    simp [f_chain_R1]
    rfl
/-- a part that is one word -/
theorem word_reach {all pre post : List (List Nat)} {e : Ex} {p : List Nat} (h : all = pre ++ [p] ++ post) (h6 : all.length ≤ 100000) (k : Nat) (hw : run prg G k 5 [.d (pD p)] = ok (.d (encE e), [none])) (hn : (([Str.ofString "(", Str.ofString "low", Str.ofString "high", Str.ofString "as", Str.ofString "com"] : List Str).any fun z => z == tx p) = false) (Q : Fl → Ro → Prop)
    (q : Rf.W (run prg G k) G f_part_J2 [PL all, some (.d (.int ((pre.length : Int) + 1))), some (.d (encE e))] Q) : Rf.W (run prg G k) G f_part.body [PL all, some (.d (.int (pre.length : Int))), none] Q := by
  have hat := at_all (all := all) (pre := pre) (p := p) (post := post) (by rw [h]; simp)
  have ne : ¬ ((pre.length : Int) = all.length) := by rw [h]; simp; omega
  simp only [PL, pD] at *
  simp [f_part, ne, hat]
  rw [in_tup5, hn]
  simp [hat, Cl_eq hw]
  exact q

end K33
set_option maxRecDepth 100000
set_option maxHeartbeats 8000000
namespace Nd
end Nd
namespace Pw
end Pw
namespace Sp
end Sp
namespace K33
open PySem Rf Res Th Pn Nd Pw Sp
theorem o40 : PyData.strOk (tx [40]) = true := by decide +kernel
theorem ok40 : okc [40] := by intro c hc; simp at hc; omega
theorem ok41 : okc [41] := by intro c hc; simp at hc; omega
theorem ok44 : okc [44] := by intro c hc; simp at hc; omega
theorem br_grp {all pre post ps : List (List Nat)} {e : Ex} (h : all = pre ++ ([40] :: (ps ++ [[41]])) ++ post) (k : Nat) (hk : 1 ≤ k)
    (hc : run prg G k 9 [PL all, .d (.int ((pre.length : Int) + 1))] = ok (.d (.tuple [encE e, .int ((pre.length : Int) + 1 + ps.length)]), [none, none])) :
    run prg G (k + 1) 7 [PL all, .d (.int pre.length)] = ok (.d (.tuple [encE e, .int ((pre.length : Int) + ps.length + 2)]), [none, none]) := by
  have hat := at_all (all := all) (pre := pre) (p := [40]) (post := ps ++ [[41]] ++ post) (by rw [h]; simp)
  have p1 := r_past all pre (ps ++ [[41]] ++ post) [40] (by rw [h]; simp) ok40 k hk
  have p2 := r_past all (pre ++ [40] :: ps) post [41] (by rw [h]; simp) ok41 k hk
  have el : ((pre ++ [40] :: ps).length : Int) = (pre.length : Int) + 1 + ps.length := by simp; omega
  rw [el] at p2
  have t1 : ((["as", "com"] : List Str).any fun z => z == tx [40]) = false := by decide +kernel
  refine Cl_of (run_W (d := f_bracket) rfl rfl ?_)
  simp only [PL, pD] at *
  simp [f_bracket, f_bracket_J2, f_bracket_J1, hat, s_open, s_close, o40, Cl_eq p1, Cl_eq hc]
  rw [in_tup2, t1]
  simp [f_bracket_J1, s_close, o40, Cl_eq p2]
  omega
theorem br_un (hb : Bool) {all pre post ps : List (List Nat)} {e : Ex} (h : all = pre ++ (wl (unS hb) :: [40] :: (ps ++ [[41]])) ++ post) (k : Nat) (hk : 1 ≤ k)
    (hc : run prg G k 9 [PL all, .d (.int ((pre.length : Int) + 1 + 1))] = ok (.d (.tuple [encE e, .int ((pre.length : Int) + 1 + 1 + ps.length)]), [none, none])) :
    run prg G (k + 1) 7 [PL all, .d (.int pre.length)] = ok (.d (.tuple [encE (.un hb e), .int ((pre.length : Int) + ps.length + 3)]), [none, none]) := by
  have hat := at_all (all := all) (pre := pre) (p := wl (unS hb)) (post := [40] :: (ps ++ [[41]] ++ post)) (by rw [h]; simp)
  have p1 := r_past all (pre ++ [wl (unS hb)]) (ps ++ [[41]] ++ post) [40] (by rw [h]; simp) ok40 k hk
  have p2 := r_past all (pre ++ wl (unS hb) :: [40] :: ps) post [41] (by rw [h]; simp) ok41 k hk
  have e1 : ((pre ++ [wl (unS hb)]).length : Int) = (pre.length : Int) + 1 := by simp
  have el : ((pre ++ wl (unS hb) :: [40] :: ps).length : Int) = (pre.length : Int) + 1 + 1 + ps.length := by simp; omega
  rw [e1] at p1
  rw [el] at p2
  have et : tx (wl (unS hb)) = unS hb := tx_cps _
  have ou : PyData.strOk (unS hb) = true := by cases hb <;> decide +kernel
  have nu : ¬ unS hb = tx [40] := by cases hb <;> decide +kernel
  have t1 : ((["as", "com"] : List Str).any fun z => z == unS hb) = false := by cases hb <;> decide +kernel
  refine Cl_of (run_W (d := f_bracket) rfl rfl ?_)
  simp only [PL, pD, et] at *
  simp [f_bracket, f_bracket_J2, f_bracket_J1, hat, s_open, s_close, o40, ou, nu, Cl_eq p1, Cl_eq hc]
  rw [in_tup2, t1]
  simp [f_bracket_J1, s_close, o40, ou, nu, Cl_eq p2, encE]
  omega
theorem br_bi (cb : Bool) {all pre post ps qs : List (List Nat)} {a b : Ex} (h : all = pre ++ (wl (binS cb) :: [40] :: (ps ++ [44] :: (qs ++ [[41]]))) ++ post) (k : Nat) (hk : 1 ≤ k)
    (hc : run prg G k 9 [PL all, .d (.int ((pre.length : Int) + 1 + 1))] = ok (.d (.tuple [encE a, .int ((pre.length : Int) + 1 + 1 + ps.length)]), [none, none]))
    (hc2 : run prg G k 9 [PL all, .d (.int ((pre.length : Int) + 1 + 1 + ps.length + 1))] = ok (.d (.tuple [encE b, .int ((pre.length : Int) + 1 + 1 + ps.length + 1 + qs.length)]), [none, none])) :
    run prg G (k + 1) 7 [PL all, .d (.int pre.length)] = ok (.d (.tuple [encE (.bi cb a b), .int ((pre.length : Int) + ps.length + qs.length + 4)]), [none, none]) := by
  have hat := at_all (all := all) (pre := pre) (p := wl (binS cb)) (post := [40] :: (ps ++ [44] :: (qs ++ [[41]]) ++ post)) (by rw [h]; simp)
  have p1 := r_past all (pre ++ [wl (binS cb)]) (ps ++ [44] :: (qs ++ [[41]]) ++ post) [40] (by rw [h]; simp) ok40 k hk
  have p2 := r_past all (pre ++ wl (binS cb) :: [40] :: ps) (qs ++ [[41]] ++ post) [44] (by rw [h]; simp) ok44 k hk
  have p3 := r_past all (pre ++ wl (binS cb) :: [40] :: (ps ++ [44] :: qs)) post [41] (by rw [h]; simp) ok41 k hk
  have e1 : ((pre ++ [wl (binS cb)]).length : Int) = (pre.length : Int) + 1 := by simp
  have el : ((pre ++ wl (binS cb) :: [40] :: ps).length : Int) = (pre.length : Int) + 1 + 1 + ps.length := by simp; omega
  have el2 : ((pre ++ wl (binS cb) :: [40] :: (ps ++ [44] :: qs)).length : Int) = (pre.length : Int) + 1 + 1 + ps.length + 1 + qs.length := by simp; omega
  rw [e1] at p1
  rw [el] at p2
  rw [el2] at p3
  have et : tx (wl (binS cb)) = binS cb := tx_cps _
  have ou : PyData.strOk (binS cb) = true := by cases cb <;> decide +kernel
  have nu : ¬ binS cb = tx [40] := by cases cb <;> decide +kernel
  have t1 : ((["as", "com"] : List Str).any fun z => z == binS cb) = true := by cases cb <;> decide +kernel
  refine Cl_of (run_W (d := f_bracket) rfl rfl ?_)
  simp only [PL, pD, et] at *
  simp [f_bracket, f_bracket_J2, f_bracket_J1, hat, s_open, s_close, s_comma, o40, ou, nu, Cl_eq p1, Cl_eq hc]
  rw [in_tup2, t1]
  simp [f_bracket_J1, s_close, s_comma, o40, ou, nu, Cl_eq p2, Cl_eq p3, Cl_eq hc2, encE]
  omega
/-- a part that begins with a bracket -/
theorem br_reach {all pre post : List (List Nat)} {e : Ex} {p : List Nat} {n : Int} (h : all = pre ++ p :: post) (k : Nat) (hw : run prg G k 7 [PL all, .d (.int pre.length)] = ok (.d (.tuple [encE e, .int n]), [none, none])) (hn : (([Str.ofString "(", Str.ofString "low", Str.ofString "high", Str.ofString "as", Str.ofString "com"] : List Str).any fun z => z == tx p) = true) (Q : Fl → Ro → Prop)
    (q : Rf.W (run prg G k) G f_part_J2 [PL all, some (.d (.int n)), some (.d (encE e))] Q) : Rf.W (run prg G k) G f_part.body [PL all, some (.d (.int (pre.length : Int))), none] Q := by
  have hat := at_all (all := all) (pre := pre) (p := p) (post := post) h
  have ne : ¬ ((pre.length : Int) = all.length) := by rw [h]; simp; omega
  simp only [PL, pD] at *
  simp [f_part, ne, hat]
  rw [in_tup5, hn]
  simp [Cl_eq hw]
  exact q

end K33
set_option maxRecDepth 100000
set_option maxHeartbeats 8000000
namespace Nd
end Nd
namespace Pw
end Pw
namespace Sp
end Sp
namespace K33
open PySem Rf Res Th Pn Nd Pw Sp
theorem word_ntake {w : List Nat} (h : nameOk w) : (([Str.ofString "(", Str.ofString "low", Str.ofString "high", Str.ofString "as", Str.ofString "com"] : List Str).any fun z => z == tx w) = false := by
  rw [List.any_eq_false]
  intro z hz e
  have ez := eq_of_beq e
  obtain ⟨h1, h2, h3, h4⟩ := h
  rcases List.mem_cons.mp hz with rfl | hz
  · rw [s_open] at ez
    have := tx_inj ez
    have := h3 40 (by rw [← this]; simp)
    unfold lc at this
    omega
  · refine h4 (ez ▸ ?_)
    simp only [takenL]
    exact List.mem_cons_of_mem _ hz
theorem move_ntake {n : Int} (h1 : 0 ≤ n) (h2 : n ≤ 999) : (([Str.ofString "(", Str.ofString "low", Str.ofString "high", Str.ofString "as", Str.ofString "com"] : List Str).any fun z => z == tx (109 :: numL n)) = false := by
  rw [List.any_eq_false]
  intro z hz e
  have ez := eq_of_beq e
  have key : ∀ z ∈ ([Str.ofString "(", Str.ofString "low", Str.ofString "high", Str.ofString "as", Str.ofString "com"] : List Str), z.cps.toList.head? ≠ some 109 := by decide +kernel
  refine key z hz ?_
  rw [ez]
  simp [tx]
theorem gr_run (all : List (List Nat)) (h6 : all.length ≤ 100000) (hl : ∀ p ∈ all, p.length ≤ 100000) {t : Bool} {e : Ex} {ps : List (List Nat)} {d : Nat} (hg : Gr t e ps d) : ∀ (k : Nat) (pre post : List (List Nat)), all = pre ++ ps ++ post →
    (t = true → 3 * d + 3 ≤ k → ∀ Q, Rf.W (run prg G k) G f_part_J2 [PL all, some (.d (.int ((pre.length : Int) + ps.length))), some (.d (encE e))] Q → Rf.W (run prg G k) G f_part.body [PL all, some (.d (.int (pre.length : Int))), none] Q) ∧
    (t = false → 3 * d + 4 ≤ k → stop1 post → ∀ Q, (∀ m : Option PV, Rf.W (run prg G k) G (.seq f_chain_L1 f_chain_R1) [PL all, some (.d (.int ((pre.length : Int) + ps.length))), some (.d (encE e)), m] Q) → Rf.W (run prg G k) G f_chain.body [PL all, some (.d (.int (pre.length : Int))), none, none] Q) := by
  have cret : ∀ {e : Ex} {ps : List (List Nat)} {d : Nat}, (∀ (k : Nat) (pre post : List (List Nat)), all = pre ++ ps ++ post → (false = true → 3 * d + 3 ≤ k → ∀ Q, Rf.W (run prg G k) G f_part_J2 [PL all, some (.d (.int ((pre.length : Int) + ps.length))), some (.d (encE e))] Q → Rf.W (run prg G k) G f_part.body [PL all, some (.d (.int (pre.length : Int))), none] Q) ∧
      (false = false → 3 * d + 4 ≤ k → stop1 post → ∀ Q, (∀ m : Option PV, Rf.W (run prg G k) G (.seq f_chain_L1 f_chain_R1) [PL all, some (.d (.int ((pre.length : Int) + ps.length))), some (.d (encE e)), m] Q) → Rf.W (run prg G k) G f_chain.body [PL all, some (.d (.int (pre.length : Int))), none, none] Q)) →
      ∀ (k : Nat) (pre post : List (List Nat)), all = pre ++ ps ++ post → 3 * d + 5 ≤ k → stop2 post → run prg G k 9 [PL all, .d (.int pre.length)] = ok (.d (.tuple [encE e, .int ((pre.length : Int) + ps.length)]), [none, none]) := fun ih k pre post h hk hs => by
    obtain ⟨k, rfl⟩ := Nat.exists_eq_add_of_le' (show 1 ≤ k by omega)
    exact chain_ret h h6 hs k ((ih k pre post h).2 rfl (by omega) (stop21 hs))
  have s41 : ∀ post : List (List Nat), stop2 ([41] :: post) := fun post p hp => by simp at hp; exact .inr hp.symm
  have s44 : ∀ post : List (List Nat), stop2 ([44] :: post) := fun post p hp => by simp at hp; exact .inl hp.symm
  induction hg with
  | one d =>
    intro k pre post h
    refine ⟨fun _ hk Q q => ?_, fun z => by cases z⟩
    refine word_reach h h6 k (r_word_one k (by omega)) (by decide +kernel) Q ?_
    simpa using q
  | move n d h1 h2 =>
    intro k pre post h
    refine ⟨fun _ hk Q q => ?_, fun z => by cases z⟩
    refine word_reach h h6 k (r_word_move n h1 h2 k (by omega)) (move_ntake h1 h2) Q ?_
    simpa using q
  | name w d hw =>
    intro k pre post h
    refine ⟨fun _ hk Q q => ?_, fun z => by cases z⟩
    refine word_reach h h6 k (r_word_name w hw k (by omega)) (word_ntake hw) Q ?_
    simpa using q
  | @grp e ps d hg ih =>
    intro k pre post h
    refine ⟨fun _ hk Q q => ?_, fun z => by cases z⟩
    obtain ⟨k, rfl⟩ := Nat.exists_eq_add_of_le' (show 1 ≤ k by omega)
    have c1 := cret ih k (pre ++ [[40]]) ([41] :: post) (by rw [h]; simp) (by omega) (s41 _)
    have el : ((pre ++ [[40]] : List (List Nat)).length : Int) = (pre.length : Int) + 1 := by simp
    rw [el] at c1
    refine br_reach (p := [40]) (post := ps ++ [[41]] ++ post) (by rw [h]; simp) (k + 1) (br_grp (ps := ps) (post := post) h k (by omega) c1) (by decide +kernel) Q ?_
    have : ((([40] :: (ps ++ [[41]]) : List (List Nat)).length : Nat) : Int) = (ps.length : Int) + 2 := by simp; omega
    rw [this] at q
    rw [show (pre.length : Int) + ps.length + 2 = (pre.length : Int) + (ps.length + 2) by omega]
    exact q
  | @un hb e ps d hg ih =>
    intro k pre post h
    refine ⟨fun _ hk Q q => ?_, fun z => by cases z⟩
    obtain ⟨k, rfl⟩ := Nat.exists_eq_add_of_le' (show 1 ≤ k by omega)
    have c1 := cret ih k (pre ++ [wl (unS hb), [40]]) ([41] :: post) (by rw [h]; simp) (by omega) (s41 _)
    have el : ((pre ++ [wl (unS hb), [40]] : List (List Nat)).length : Int) = (pre.length : Int) + 1 + 1 := by simp; omega
    rw [el] at c1
    refine br_reach (p := wl (unS hb)) (post := [40] :: (ps ++ [[41]]) ++ post) (by rw [h]; simp) (k + 1) (br_un hb (ps := ps) (post := post) h k (by omega) c1) (by cases hb <;> decide +kernel) Q ?_
    have : (((wl (unS hb) :: [40] :: (ps ++ [[41]]) : List (List Nat)).length : Nat) : Int) = (ps.length : Int) + 3 := by simp; omega
    rw [this] at q
    rw [show (pre.length : Int) + ps.length + 3 = (pre.length : Int) + (ps.length + 3) by omega]
    exact q
  | @bi cb a b ps qs d hga hgb iha ihb =>
    intro k pre post h
    refine ⟨fun _ hk Q q => ?_, fun z => by cases z⟩
    obtain ⟨k, rfl⟩ := Nat.exists_eq_add_of_le' (show 1 ≤ k by omega)
    have c1 := cret iha k (pre ++ [wl (binS cb), [40]]) ([44] :: (qs ++ [[41]] ++ post)) (by rw [h]; simp) (by omega) (s44 _)
    have c2 := cret ihb k (pre ++ wl (binS cb) :: [40] :: (ps ++ [[44]])) ([41] :: post) (by rw [h]; simp) (by omega) (s41 _)
    have el : ((pre ++ [wl (binS cb), [40]] : List (List Nat)).length : Int) = (pre.length : Int) + 1 + 1 := by simp; omega
    have el2 : ((pre ++ wl (binS cb) :: [40] :: (ps ++ [[44]]) : List (List Nat)).length : Int) = (pre.length : Int) + 1 + 1 + ps.length + 1 := by simp; omega
    rw [el] at c1
    rw [el2] at c2
    refine br_reach (p := wl (binS cb)) (post := [40] :: (ps ++ [44] :: (qs ++ [[41]])) ++ post) (by rw [h]; simp) (k + 1) (br_bi cb (ps := ps) (qs := qs) (post := post) h k (by omega) c1 c2) (by cases cb <;> decide +kernel) Q ?_
    have : (((wl (binS cb) :: [40] :: (ps ++ [44] :: (qs ++ [[41]])) : List (List Nat)).length : Nat) : Int) = (ps.length : Int) + qs.length + 4 := by simp; omega
    rw [this] at q
    rw [show (pre.length : Int) + ps.length + qs.length + 4 = (pre.length : Int) + (ps.length + qs.length + 4) by omega]
    exact q
  | @back e ps d hg ih =>
    intro k pre post h
    refine ⟨fun _ hk Q q => ?_, fun z => by cases z⟩
    refine (ih k pre ([126] :: post) (by rw [h]; simp)).1 rfl hk Q ?_
    have hat := at_all (all := all) (pre := pre ++ ps) (p := [126]) (post := post) (by rw [h]; simp)
    rw [List.length_append, Int.natCast_add] at hat
    have hn : ((pre.length : Int) + ps.length < all.length) := by rw [h]; simp; omega
    have o126 : PyData.strOk (tx [126]) = true := by decide +kernel
    have en : (((ps ++ [[126]] : List (List Nat)).length : Nat) : Int) = (ps.length : Int) + 1 := by simp
    rw [en, ← Int.add_assoc] at q
    simp only [f_part_J2, f_part_L1, W_seq] at q ⊢
    refine W_turn ?_
    have i0 := fun M => Iop_tx0 (c := 126) (l := []) (by simp) (M := M)
    simp only [PL, pD] at *
    simp [hn, hat, i0, s_tc, in_tx, f_part_B1, f_part_J1, s_tilde, o126]
    exact q
  | @pow e ps d n hg h1 h2 ih =>
    intro k pre post h
    refine ⟨fun _ hk Q q => ?_, fun z => by cases z⟩
    refine (ih k pre ((94 :: numL n) :: post) (by rw [h]; simp)).1 rfl hk Q ?_
    have hat := at_all (all := all) (pre := pre ++ ps) (p := 94 :: numL n) (post := post) (by rw [h]; simp)
    rw [List.length_append, Int.natCast_add] at hat
    have hn : ((pre.length : Int) + ps.length < all.length) := by rw [h]; simp; omega
    have o126 : PyData.strOk (tx [126]) = true := by decide +kernel
    obtain ⟨ds, e1, e2, e3, e4⟩ := num_facts h1 h2
    have okn : PyData.strOk (tx (94 :: numL n)) = true := strOk_tx fun c hc => by
      rcases List.mem_cons.mp hc with rfl | hc
      · omega
      · rw [e1] at hc
        rcases List.mem_append.mp hc with h | h
        · unfold sgn at h
          split at h
          · simp at h; omega
          · cases h
        · have := e2.2.2.1 c h; unfold dg at this; omega
    have hlen := hl (94 :: numL n) (by rw [h]; simp)
    have ne : ¬ tx (94 :: numL n) = tx [126] := fun z => by have := tx_inj z; cases this
    have cu : L2.cutS (tx (94 :: numL n)) (some 1) none = tx (numL n) := by
      rw [tx_cut, show (1 : Int) = ((1 : Nat) : Int) from rfl, cut_from, List.drop_succ_cons, List.drop_zero]
    have e5 : PySem.intText? (tx (numL n)) = some n := by rw [tx_numL]; exact e4
    have ln : (numL n).length ≤ 640 := by
      have hs : (sgn n).length ≤ 1 := by unfold sgn; split <;> simp
      rw [e1]; have := e2.2.1; simp; omega
    have l9 : (numL n).length ≤ 999999 := by omega
    have en : (((ps ++ [94 :: numL n] : List (List Nat)).length : Nat) : Int) = (ps.length : Int) + 1 := by simp
    rw [en, ← Int.add_assoc] at q
    simp only [f_part_J2, f_part_L1, W_seq] at q ⊢
    refine W_turn ?_
    have i0 := fun M => Iop_tx0 (c := 94) (l := numL n) (by omega) (M := M)
    simp only [PL, pD] at *
    simp [hn, hat, i0, s_tc, in_tx, f_part_B1, f_part_J1, s_tilde, o126, okn, ne, cu, Uop_intT e5, ln, l9]
    exact q
  | @up e ps d hg ih =>
    intro k pre post h
    refine ⟨(fun z => by cases z), fun _ hk hs Q q => ?_⟩
    obtain ⟨k, rfl⟩ := Nat.exists_eq_add_of_le' (show 1 ≤ k by omega)
    have p1 := part_ret h h6 hs k ((ih k pre post h).1 rfl (by omega))
    have q0 := q none
    simp only [W_seq] at q0
    simp only [PL] at *
    simp [f_chain, Cl_eq p1]
    exact q0
  | @snoc a b ps qs d hga hgb iha ihb =>
    intro k pre post h
    refine ⟨(fun z => by cases z), fun _ hk hs Q q => ?_⟩
    obtain ⟨k, rfl⟩ := Nat.exists_eq_add_of_le' (show 1 ≤ k by omega)
    obtain ⟨p, r, er, hp⟩ := gr_first hgb
    have st : stop1 (qs ++ post) := fun p' hp' => by
      rw [er] at hp'
      simp at hp'
      subst hp'
      have hlp := hl p (by rw [h, er]; simp)
      rcases hp with rfl | ⟨c, w, rfl, hc⟩
      · exact ⟨40, [], rfl, by decide, by decide, hlp⟩
      · exact ⟨c, w, rfl, by unfold lc at hc; omega, by unfold lc at hc; omega, hlp⟩
    refine (iha (k + 1) pre (qs ++ post) (by rw [h]; simp)).2 rfl (by omega) st Q fun m => ?_
    have hb := part_ret (pre := pre ++ ps) (post := post) (ps := qs) (e := b) (by rw [h]; simp) h6 hs k ((ihb k (pre ++ ps) post (by rw [h]; simp)).1 rfl (by omega))
    rw [List.length_append, Int.natCast_add] at hb
    have hat := at_all (all := all) (pre := pre ++ ps) (p := p) (post := r ++ post) (by rw [h, er]; simp)
    rw [List.length_append, Int.natCast_add] at hat
    have hn : ((pre.length : Int) + ps.length < all.length) := by rw [h, er]; simp; omega
    have hf : (([tx [44], tx [41]] : List Str).any fun z => z == tx p) = false := by
      rw [List.any_eq_false]
      intro z hz ez
      have ez := eq_of_beq ez
      have key : p ≠ [44] ∧ p ≠ [41] := by
        rcases hp with rfl | ⟨c, w, rfl, hc⟩
        · exact ⟨by decide, by decide⟩
        · unfold lc at hc
          exact ⟨fun z => by cases z; omega, fun z => by cases z; omega⟩
      rcases List.mem_cons.mp hz with rfl | hz
      · exact key.1 (tx_inj ez).symm
      · rw [List.mem_singleton.mp hz] at ez
        exact key.2 (tx_inj ez).symm
    have q0 := q (some (.d (encE b)))
    have en : (((ps ++ qs : List (List Nat)).length : Nat) : Int) = (ps.length : Int) + qs.length := by simp
    rw [en, ← Int.add_assoc] at q0
    simp only [f_chain_L1, W_seq] at q0 ⊢
    refine W_turn ?_
    simp only [PL, pD] at *
    simp [hn, hat, s_close, s_comma]
    rw [nin_tup, hf]
    simp [f_chain_B1, Cl_eq hb]
    exact q0

end K33
set_option maxRecDepth 100000
set_option maxHeartbeats 8000000
namespace Nd
end Nd
namespace Pw
end Pw
namespace Sp
end Sp
namespace K33
open PySem Rf Res Th Pn Nd Pw Sp
theorem tx_sizes {ps : List (List Nat)} {l : List Nat} (h : Tx ps l) : ps.length ≤ l.length ∧ ∀ p ∈ ps, p.length ≤ l.length := by
  induction h with
  | nil b => simp
  | cons b p ps rest h1 h2 h3 ih =>
    have := pc_len h1
    refine ⟨by simp; omega, fun q hq => ?_⟩
    rcases List.mem_cons.mp hq with rfl | hq
    · simp; omega
    · have := ih.2 q hq
      simp; omega
theorem r_read {l : List Nat} {ps : List (List Nat)} {e : Ex} {d : Nat} (hT : Tx ps l) (hg : Gr false e ps d) (h6 : l.length ≤ 100000) (f : Nat) (hf : 3 * d + 8 ≤ f) : run prg G f 10 [.d (.str (tx l))] = ok (.d (encE e), [none]) := by
  obtain ⟨k, rfl⟩ := Nat.exists_eq_add_of_le' (show 2 ≤ f by omega)
  obtain ⟨s1, s2⟩ := tx_sizes hT
  have r1 := r_pieces_of hT h6 (k + 1) (by omega)
  have r2 := chain_ret (all := ps) (pre := []) (ps := ps) (post := []) (by simp) (by omega) (fun p hp => by cases hp) k ((gr_run ps (by omega) (fun p hp => by have := s2 p hp; omega) hg k [] [] (by simp)).2 rfl (by omega) (fun p hp => by cases hp))
  simp only [List.length_nil] at r2
  simp only [PL] at r2
  refine Cl_of (run_W (n := k + 1) (d := f_read_expr) rfl rfl ?_)
  simp at r2
  simp [f_read_expr, Cl_eq r1, Cl_eq r2]
theorem alike_tup (k : Nat) (xs : List PyData) (hl : xs.length ≤ 1000) (h : ∀ x ∈ xs, run prg G k 18 [.d x, .d x] = ok (.d (.bool true), [none, none])) : run prg G (k + 1) 18 [.d (.tuple xs), .d (.tuple xs)] = ok (.d (.bool true), [none, none]) := by
  refine Cl_of (run_W (d := f_law_alike) rfl rfl ?_)
  have ez : zip2 xs xs = xs.map fun x => .tuple [x, x] := by
    have : ∀ ys : List PyData, zip2 ys ys = ys.map fun x => .tuple [x, x] := fun ys => by
      induction ys with
      | nil => rfl
      | cons y ys ih => rw [zip2, List.map_cons, ih]
    exact this xs
  simp [f_law_alike, isS]
  refine D_lcMap (fun x : PyData => .tuple [x, x]) (fun _ => .bool true) ?_
  simp [ez]
  refine ⟨xs, rfl, rfl, fun x hx => ?_, by omega, ?_⟩
  · simp [LBw, wipeR, Cl_eq (h x hx)]
  · have e : xs.map (fun _ => PyData.bool true) = (xs.map fun _ => true).map .bool := by rw [List.map_map]; rfl
    rw [e]
    simp only [Fzs_cons, Fz_L, Fzs_nil, Uop_all]
    simp [wipeR, wipeBack]
theorem alike_str (k : Nat) (x : Str) (h : PyData.strOk x = true) (hk : 1 ≤ k) : run prg G k 18 [.d (.str x), .d (.str x)] = ok (.d (.bool true), [none, none]) := by
  obtain ⟨k, rfl⟩ := Nat.exists_eq_add_of_le' hk
  refine Cl_of (run_W (d := f_law_alike) rfl rfl ?_)
  simp [f_law_alike, isS, h]
theorem alike_int (k : Nat) (x : Int) (hk : 1 ≤ k) : run prg G k 18 [.d (.int x), .d (.int x)] = ok (.d (.bool true), [none, none]) := by
  obtain ⟨k, rfl⟩ := Nat.exists_eq_add_of_le' hk
  refine Cl_of (run_W (d := f_law_alike) rfl rfl ?_)
  simp [f_law_alike, isS]
theorem r_alike : ∀ (e : Ex) (f : Nat), good e → dpE e + 2 ≤ f → run prg G f 18 [.d (encE e), .d (encE e)] = ok (.d (.bool true), [none, none])
  | .one, f, h, hf => by
    obtain ⟨k, rfl⟩ := Nat.exists_eq_add_of_le' (show 1 ≤ f by omega)
    refine alike_tup k _ (by simp) fun x hx => ?_
    simp at hx
    subst hx
    exact alike_str k _ (by decide +kernel) (by simp only [dpE] at hf; omega)
  | .move n, f, h, hf => by
    obtain ⟨k, rfl⟩ := Nat.exists_eq_add_of_le' (show 1 ≤ f by omega)
    refine alike_tup k _ (by simp) fun x hx => ?_
    simp at hx
    rcases hx with rfl | rfl
    · exact alike_str k _ (by decide +kernel) (by simp only [dpE] at hf; omega)
    · exact alike_int k _ (by simp only [dpE] at hf; omega)
  | .name s, f, h, hf => by
    obtain ⟨k, rfl⟩ := Nat.exists_eq_add_of_le' (show 1 ≤ f by omega)
    refine alike_tup k _ (by simp) fun x hx => ?_
    simp at hx
    rcases hx with rfl | rfl
    · exact alike_str k _ (by decide +kernel) (by simp only [dpE] at hf; omega)
    · exact alike_str k _ (name_ok h).2 (by simp only [dpE] at hf; omega)
  | .thn a b, f, h, hf => by
    obtain ⟨k, rfl⟩ := Nat.exists_eq_add_of_le' (show 1 ≤ f by omega)
    simp only [dpE] at hf
    refine alike_tup k _ (by simp) fun x hx => ?_
    simp at hx
    rcases hx with rfl | rfl | rfl
    · exact alike_str k _ (by decide +kernel) (by omega)
    · exact r_alike a k h.1 (by omega)
    · exact r_alike b k h.2 (by omega)
  | .back a, f, h, hf => by
    obtain ⟨k, rfl⟩ := Nat.exists_eq_add_of_le' (show 1 ≤ f by omega)
    simp only [dpE] at hf
    refine alike_tup k _ (by simp) fun x hx => ?_
    simp at hx
    rcases hx with rfl | rfl
    · exact alike_str k _ (by decide +kernel) (by omega)
    · exact r_alike a k h (by omega)
  | .pow a n, f, h, hf => by
    obtain ⟨k, rfl⟩ := Nat.exists_eq_add_of_le' (show 1 ≤ f by omega)
    simp only [dpE] at hf
    refine alike_tup k _ (by simp) fun x hx => ?_
    simp at hx
    rcases hx with rfl | rfl | rfl
    · exact alike_str k _ (by decide +kernel) (by omega)
    · exact r_alike a k h.1 (by omega)
    · exact alike_int k _ (by omega)
  | .un b a, f, h, hf => by
    obtain ⟨k, rfl⟩ := Nat.exists_eq_add_of_le' (show 1 ≤ f by omega)
    simp only [dpE] at hf
    refine alike_tup k _ (by simp) fun x hx => ?_
    simp at hx
    rcases hx with rfl | rfl
    · exact alike_str k _ (by cases b <;> decide +kernel) (by omega)
    · exact r_alike a k h (by omega)
  | .bi c a b, f, h, hf => by
    obtain ⟨k, rfl⟩ := Nat.exists_eq_add_of_le' (show 1 ≤ f by omega)
    simp only [dpE] at hf
    refine alike_tup k _ (by simp) fun x hx => ?_
    simp at hx
    rcases hx with rfl | rfl | rfl
    · exact alike_str k _ (by cases c <;> decide +kernel) (by omega)
    · exact r_alike a k h.1 (by omega)
    · exact r_alike b k h.2 (by omega)

end K33
set_option maxRecDepth 100000
set_option maxHeartbeats 8000000
namespace Nd
end Nd
namespace Pw
end Pw
namespace Sp
end Sp
namespace K33
open PySem Rf Res Th Pn Nd Pw Sp
@[simp] theorem ne_one_move : (Str.ofString "one" = Str.ofString "move") = False := eq_false (by decide +kernel)
@[simp] theorem ne_one_name : (Str.ofString "one" = Str.ofString "name") = False := eq_false (by decide +kernel)
@[simp] theorem ne_one_then : (Str.ofString "one" = Str.ofString "then") = False := eq_false (by decide +kernel)
@[simp] theorem ne_one_back : (Str.ofString "one" = Str.ofString "back") = False := eq_false (by decide +kernel)
@[simp] theorem ne_one_power : (Str.ofString "one" = Str.ofString "power") = False := eq_false (by decide +kernel)
@[simp] theorem ne_one_low : (Str.ofString "one" = Str.ofString "low") = False := eq_false (by decide +kernel)
@[simp] theorem ne_one_high : (Str.ofString "one" = Str.ofString "high") = False := eq_false (by decide +kernel)
@[simp] theorem ne_one_as : (Str.ofString "one" = Str.ofString "as") = False := eq_false (by decide +kernel)
@[simp] theorem ne_one_com : (Str.ofString "one" = Str.ofString "com") = False := eq_false (by decide +kernel)
@[simp] theorem ne_move_one : (Str.ofString "move" = Str.ofString "one") = False := eq_false (by decide +kernel)
@[simp] theorem ne_move_name : (Str.ofString "move" = Str.ofString "name") = False := eq_false (by decide +kernel)
@[simp] theorem ne_move_then : (Str.ofString "move" = Str.ofString "then") = False := eq_false (by decide +kernel)
@[simp] theorem ne_move_back : (Str.ofString "move" = Str.ofString "back") = False := eq_false (by decide +kernel)
@[simp] theorem ne_move_power : (Str.ofString "move" = Str.ofString "power") = False := eq_false (by decide +kernel)
@[simp] theorem ne_move_low : (Str.ofString "move" = Str.ofString "low") = False := eq_false (by decide +kernel)
@[simp] theorem ne_move_high : (Str.ofString "move" = Str.ofString "high") = False := eq_false (by decide +kernel)
@[simp] theorem ne_move_as : (Str.ofString "move" = Str.ofString "as") = False := eq_false (by decide +kernel)
@[simp] theorem ne_move_com : (Str.ofString "move" = Str.ofString "com") = False := eq_false (by decide +kernel)
@[simp] theorem ne_name_one : (Str.ofString "name" = Str.ofString "one") = False := eq_false (by decide +kernel)
@[simp] theorem ne_name_move : (Str.ofString "name" = Str.ofString "move") = False := eq_false (by decide +kernel)
@[simp] theorem ne_name_then : (Str.ofString "name" = Str.ofString "then") = False := eq_false (by decide +kernel)
@[simp] theorem ne_name_back : (Str.ofString "name" = Str.ofString "back") = False := eq_false (by decide +kernel)
@[simp] theorem ne_name_power : (Str.ofString "name" = Str.ofString "power") = False := eq_false (by decide +kernel)
@[simp] theorem ne_name_low : (Str.ofString "name" = Str.ofString "low") = False := eq_false (by decide +kernel)
@[simp] theorem ne_name_high : (Str.ofString "name" = Str.ofString "high") = False := eq_false (by decide +kernel)
@[simp] theorem ne_name_as : (Str.ofString "name" = Str.ofString "as") = False := eq_false (by decide +kernel)
@[simp] theorem ne_name_com : (Str.ofString "name" = Str.ofString "com") = False := eq_false (by decide +kernel)
@[simp] theorem ne_then_one : (Str.ofString "then" = Str.ofString "one") = False := eq_false (by decide +kernel)
@[simp] theorem ne_then_move : (Str.ofString "then" = Str.ofString "move") = False := eq_false (by decide +kernel)
@[simp] theorem ne_then_name : (Str.ofString "then" = Str.ofString "name") = False := eq_false (by decide +kernel)
@[simp] theorem ne_then_back : (Str.ofString "then" = Str.ofString "back") = False := eq_false (by decide +kernel)
@[simp] theorem ne_then_power : (Str.ofString "then" = Str.ofString "power") = False := eq_false (by decide +kernel)
@[simp] theorem ne_then_low : (Str.ofString "then" = Str.ofString "low") = False := eq_false (by decide +kernel)
@[simp] theorem ne_then_high : (Str.ofString "then" = Str.ofString "high") = False := eq_false (by decide +kernel)
@[simp] theorem ne_then_as : (Str.ofString "then" = Str.ofString "as") = False := eq_false (by decide +kernel)
@[simp] theorem ne_then_com : (Str.ofString "then" = Str.ofString "com") = False := eq_false (by decide +kernel)
@[simp] theorem ne_back_one : (Str.ofString "back" = Str.ofString "one") = False := eq_false (by decide +kernel)
@[simp] theorem ne_back_move : (Str.ofString "back" = Str.ofString "move") = False := eq_false (by decide +kernel)
@[simp] theorem ne_back_name : (Str.ofString "back" = Str.ofString "name") = False := eq_false (by decide +kernel)
@[simp] theorem ne_back_then : (Str.ofString "back" = Str.ofString "then") = False := eq_false (by decide +kernel)
@[simp] theorem ne_back_power : (Str.ofString "back" = Str.ofString "power") = False := eq_false (by decide +kernel)
@[simp] theorem ne_back_low : (Str.ofString "back" = Str.ofString "low") = False := eq_false (by decide +kernel)
@[simp] theorem ne_back_high : (Str.ofString "back" = Str.ofString "high") = False := eq_false (by decide +kernel)
@[simp] theorem ne_back_as : (Str.ofString "back" = Str.ofString "as") = False := eq_false (by decide +kernel)
@[simp] theorem ne_back_com : (Str.ofString "back" = Str.ofString "com") = False := eq_false (by decide +kernel)
@[simp] theorem ne_power_one : (Str.ofString "power" = Str.ofString "one") = False := eq_false (by decide +kernel)
@[simp] theorem ne_power_move : (Str.ofString "power" = Str.ofString "move") = False := eq_false (by decide +kernel)
@[simp] theorem ne_power_name : (Str.ofString "power" = Str.ofString "name") = False := eq_false (by decide +kernel)
@[simp] theorem ne_power_then : (Str.ofString "power" = Str.ofString "then") = False := eq_false (by decide +kernel)
@[simp] theorem ne_power_back : (Str.ofString "power" = Str.ofString "back") = False := eq_false (by decide +kernel)
@[simp] theorem ne_power_low : (Str.ofString "power" = Str.ofString "low") = False := eq_false (by decide +kernel)
@[simp] theorem ne_power_high : (Str.ofString "power" = Str.ofString "high") = False := eq_false (by decide +kernel)
@[simp] theorem ne_power_as : (Str.ofString "power" = Str.ofString "as") = False := eq_false (by decide +kernel)
@[simp] theorem ne_power_com : (Str.ofString "power" = Str.ofString "com") = False := eq_false (by decide +kernel)
@[simp] theorem ne_low_one : (Str.ofString "low" = Str.ofString "one") = False := eq_false (by decide +kernel)
@[simp] theorem ne_low_move : (Str.ofString "low" = Str.ofString "move") = False := eq_false (by decide +kernel)
@[simp] theorem ne_low_name : (Str.ofString "low" = Str.ofString "name") = False := eq_false (by decide +kernel)
@[simp] theorem ne_low_then : (Str.ofString "low" = Str.ofString "then") = False := eq_false (by decide +kernel)
@[simp] theorem ne_low_back : (Str.ofString "low" = Str.ofString "back") = False := eq_false (by decide +kernel)
@[simp] theorem ne_low_power : (Str.ofString "low" = Str.ofString "power") = False := eq_false (by decide +kernel)
@[simp] theorem ne_low_high : (Str.ofString "low" = Str.ofString "high") = False := eq_false (by decide +kernel)
@[simp] theorem ne_low_as : (Str.ofString "low" = Str.ofString "as") = False := eq_false (by decide +kernel)
@[simp] theorem ne_low_com : (Str.ofString "low" = Str.ofString "com") = False := eq_false (by decide +kernel)
@[simp] theorem ne_high_one : (Str.ofString "high" = Str.ofString "one") = False := eq_false (by decide +kernel)
@[simp] theorem ne_high_move : (Str.ofString "high" = Str.ofString "move") = False := eq_false (by decide +kernel)
@[simp] theorem ne_high_name : (Str.ofString "high" = Str.ofString "name") = False := eq_false (by decide +kernel)
@[simp] theorem ne_high_then : (Str.ofString "high" = Str.ofString "then") = False := eq_false (by decide +kernel)
@[simp] theorem ne_high_back : (Str.ofString "high" = Str.ofString "back") = False := eq_false (by decide +kernel)
@[simp] theorem ne_high_power : (Str.ofString "high" = Str.ofString "power") = False := eq_false (by decide +kernel)
@[simp] theorem ne_high_low : (Str.ofString "high" = Str.ofString "low") = False := eq_false (by decide +kernel)
@[simp] theorem ne_high_as : (Str.ofString "high" = Str.ofString "as") = False := eq_false (by decide +kernel)
@[simp] theorem ne_high_com : (Str.ofString "high" = Str.ofString "com") = False := eq_false (by decide +kernel)
@[simp] theorem ne_as_one : (Str.ofString "as" = Str.ofString "one") = False := eq_false (by decide +kernel)
@[simp] theorem ne_as_move : (Str.ofString "as" = Str.ofString "move") = False := eq_false (by decide +kernel)
@[simp] theorem ne_as_name : (Str.ofString "as" = Str.ofString "name") = False := eq_false (by decide +kernel)
@[simp] theorem ne_as_then : (Str.ofString "as" = Str.ofString "then") = False := eq_false (by decide +kernel)
@[simp] theorem ne_as_back : (Str.ofString "as" = Str.ofString "back") = False := eq_false (by decide +kernel)
@[simp] theorem ne_as_power : (Str.ofString "as" = Str.ofString "power") = False := eq_false (by decide +kernel)
@[simp] theorem ne_as_low : (Str.ofString "as" = Str.ofString "low") = False := eq_false (by decide +kernel)
@[simp] theorem ne_as_high : (Str.ofString "as" = Str.ofString "high") = False := eq_false (by decide +kernel)
@[simp] theorem ne_as_com : (Str.ofString "as" = Str.ofString "com") = False := eq_false (by decide +kernel)
@[simp] theorem ne_com_one : (Str.ofString "com" = Str.ofString "one") = False := eq_false (by decide +kernel)
@[simp] theorem ne_com_move : (Str.ofString "com" = Str.ofString "move") = False := eq_false (by decide +kernel)
@[simp] theorem ne_com_name : (Str.ofString "com" = Str.ofString "name") = False := eq_false (by decide +kernel)
@[simp] theorem ne_com_then : (Str.ofString "com" = Str.ofString "then") = False := eq_false (by decide +kernel)
@[simp] theorem ne_com_back : (Str.ofString "com" = Str.ofString "back") = False := eq_false (by decide +kernel)
@[simp] theorem ne_com_power : (Str.ofString "com" = Str.ofString "power") = False := eq_false (by decide +kernel)
@[simp] theorem ne_com_low : (Str.ofString "com" = Str.ofString "low") = False := eq_false (by decide +kernel)
@[simp] theorem ne_com_high : (Str.ofString "com" = Str.ofString "high") = False := eq_false (by decide +kernel)
@[simp] theorem ne_com_as : (Str.ofString "com" = Str.ofString "as") = False := eq_false (by decide +kernel)
@[simp] theorem okl0 : PyData.strOk (Str.ofString "one") = true := by decide +kernel
@[simp] theorem lnl0 : (Str.ofString "one").length = 3 := by decide +kernel
@[simp] theorem okl1 : PyData.strOk (Str.ofString "move") = true := by decide +kernel
@[simp] theorem lnl1 : (Str.ofString "move").length = 4 := by decide +kernel
@[simp] theorem okl2 : PyData.strOk (Str.ofString "name") = true := by decide +kernel
@[simp] theorem lnl2 : (Str.ofString "name").length = 4 := by decide +kernel
@[simp] theorem okl3 : PyData.strOk (Str.ofString "then") = true := by decide +kernel
@[simp] theorem lnl3 : (Str.ofString "then").length = 4 := by decide +kernel
@[simp] theorem okl4 : PyData.strOk (Str.ofString "back") = true := by decide +kernel
@[simp] theorem lnl4 : (Str.ofString "back").length = 4 := by decide +kernel
@[simp] theorem okl5 : PyData.strOk (Str.ofString "power") = true := by decide +kernel
@[simp] theorem lnl5 : (Str.ofString "power").length = 5 := by decide +kernel
@[simp] theorem okl6 : PyData.strOk (Str.ofString "low") = true := by decide +kernel
@[simp] theorem lnl6 : (Str.ofString "low").length = 3 := by decide +kernel
@[simp] theorem okl7 : PyData.strOk (Str.ofString "high") = true := by decide +kernel
@[simp] theorem lnl7 : (Str.ofString "high").length = 4 := by decide +kernel
@[simp] theorem okl8 : PyData.strOk (Str.ofString "as") = true := by decide +kernel
@[simp] theorem lnl8 : (Str.ofString "as").length = 2 := by decide +kernel
@[simp] theorem okl9 : PyData.strOk (Str.ofString "com") = true := by decide +kernel
@[simp] theorem lnl9 : (Str.ofString "com").length = 3 := by decide +kernel
@[simp] theorem okl10 : PyData.strOk (Str.ofString "(") = true := by decide +kernel
@[simp] theorem lnl10 : (Str.ofString "(").length = 1 := by decide +kernel
@[simp] theorem okl11 : PyData.strOk (Str.ofString ")") = true := by decide +kernel
@[simp] theorem lnl11 : (Str.ofString ")").length = 1 := by decide +kernel
@[simp] theorem okl12 : PyData.strOk (Str.ofString " ") = true := by decide +kernel
@[simp] theorem lnl12 : (Str.ofString " ").length = 1 := by decide +kernel
@[simp] theorem okl13 : PyData.strOk (Str.ofString "~") = true := by decide +kernel
@[simp] theorem lnl13 : (Str.ofString "~").length = 1 := by decide +kernel
@[simp] theorem okl14 : PyData.strOk (Str.ofString "^") = true := by decide +kernel
@[simp] theorem lnl14 : (Str.ofString "^").length = 1 := by decide +kernel
@[simp] theorem okl15 : PyData.strOk (Str.ofString ", ") = true := by decide +kernel
@[simp] theorem lnl15 : (Str.ofString ", ").length = 2 := by decide +kernel
@[simp] theorem okl16 : PyData.strOk (Str.ofString "m") = true := by decide +kernel
@[simp] theorem lnl16 : (Str.ofString "m").length = 1 := by decide +kernel
@[simp] theorem okl17 : PyData.strOk (Str.ofString "") = true := by decide +kernel
@[simp] theorem lnl17 : (Str.ofString "").length = 0 := by decide +kernel
@[simp] theorem okl18 : PyData.strOk (Str.ofString "e") = true := by decide +kernel
@[simp] theorem lnl18 : (Str.ofString "e").length = 1 := by decide +kernel
@[simp] theorem len_app' (x y : Str) : (x ++ y).length = x.length + y.length := len_app x y
@[simp] theorem strOk_app' (x y : Str) : PyData.strOk (x ++ y) = (PyData.strOk x && PyData.strOk y) := strOk_app x y
theorem app_assoc3 (x y z : Str) : x ++ y ++ z = x ++ (y ++ z) := by
  show Str.mk (x.cps ++ y.cps ++ z.cps) = Str.mk (x.cps ++ (y.cps ++ z.cps))
  rw [Array.append_assoc]
theorem Uop_num {n : Int} (h1 : -1000 ≤ n) (h2 : n < 1000) {K : PV → Prop} : Uop .str [.int n] K ↔ K (.d (.str (numT n))) := by
  have hg : decide (n.natAbs.log2 < 1920) = true := by
    refine decide_eq_true ?_
    by_cases h0 : n.natAbs = 0
    · rw [h0]; decide
    · exact Nat.lt_trans ((Nat.log2_lt h0).mpr (show n.natAbs < 2 ^ 64 by omega)) (by decide)
  have e : Rf.biS .str [.int n] = ok (.d (.str (numT n))) := by
    show (do guard (decide (n.natAbs.log2 < 1920)); ok (PV.d (.str (toString n : String))) : Res PV) = _
    rw [hg]
    rfl
  unfold Uop
  rw [e]
  exact ⟨fun ⟨_, e, q⟩ => by cases e; exact q, fun q => ⟨_, rfl, q⟩⟩
@[simp] theorem cin_low_low {L : Bool → Prop} : Cop .In (.str (Str.ofString "low")) (.tuple [.str (Str.ofString "low"), .str (Str.ofString "high")]) L ↔ L true := by
  have e : cmpS .In (.str (Str.ofString "low")) (.tuple [.str (Str.ofString "low"), .str (Str.ofString "high")]) = ok true := by
    show ok (List.any [Str.ofString "low", Str.ofString "high"] fun z => z == Str.ofString "low") = _
    rw [show (List.any [Str.ofString "low", Str.ofString "high"] fun z => z == Str.ofString "low") = true by decide +kernel]
  unfold Cop
  rw [e]
  exact ⟨fun ⟨_, e, q⟩ => by cases e; exact q, fun q => ⟨_, rfl, q⟩⟩
@[simp] theorem cin_low_high {L : Bool → Prop} : Cop .In (.str (Str.ofString "high")) (.tuple [.str (Str.ofString "low"), .str (Str.ofString "high")]) L ↔ L true := by
  have e : cmpS .In (.str (Str.ofString "high")) (.tuple [.str (Str.ofString "low"), .str (Str.ofString "high")]) = ok true := by
    show ok (List.any [Str.ofString "low", Str.ofString "high"] fun z => z == Str.ofString "high") = _
    rw [show (List.any [Str.ofString "low", Str.ofString "high"] fun z => z == Str.ofString "high") = true by decide +kernel]
  unfold Cop
  rw [e]
  exact ⟨fun ⟨_, e, q⟩ => by cases e; exact q, fun q => ⟨_, rfl, q⟩⟩
@[simp] theorem cin_low_as {L : Bool → Prop} : Cop .In (.str (Str.ofString "as")) (.tuple [.str (Str.ofString "low"), .str (Str.ofString "high")]) L ↔ L false := by
  have e : cmpS .In (.str (Str.ofString "as")) (.tuple [.str (Str.ofString "low"), .str (Str.ofString "high")]) = ok false := by
    show ok (List.any [Str.ofString "low", Str.ofString "high"] fun z => z == Str.ofString "as") = _
    rw [show (List.any [Str.ofString "low", Str.ofString "high"] fun z => z == Str.ofString "as") = false by decide +kernel]
  unfold Cop
  rw [e]
  exact ⟨fun ⟨_, e, q⟩ => by cases e; exact q, fun q => ⟨_, rfl, q⟩⟩
@[simp] theorem cin_low_com {L : Bool → Prop} : Cop .In (.str (Str.ofString "com")) (.tuple [.str (Str.ofString "low"), .str (Str.ofString "high")]) L ↔ L false := by
  have e : cmpS .In (.str (Str.ofString "com")) (.tuple [.str (Str.ofString "low"), .str (Str.ofString "high")]) = ok false := by
    show ok (List.any [Str.ofString "low", Str.ofString "high"] fun z => z == Str.ofString "com") = _
    rw [show (List.any [Str.ofString "low", Str.ofString "high"] fun z => z == Str.ofString "com") = false by decide +kernel]
  unfold Cop
  rw [e]
  exact ⟨fun ⟨_, e, q⟩ => by cases e; exact q, fun q => ⟨_, rfl, q⟩⟩
@[simp] theorem cin_as_low {L : Bool → Prop} : Cop .In (.str (Str.ofString "low")) (.tuple [.str (Str.ofString "as"), .str (Str.ofString "com")]) L ↔ L false := by
  have e : cmpS .In (.str (Str.ofString "low")) (.tuple [.str (Str.ofString "as"), .str (Str.ofString "com")]) = ok false := by
    show ok (List.any [Str.ofString "as", Str.ofString "com"] fun z => z == Str.ofString "low") = _
    rw [show (List.any [Str.ofString "as", Str.ofString "com"] fun z => z == Str.ofString "low") = false by decide +kernel]
  unfold Cop
  rw [e]
  exact ⟨fun ⟨_, e, q⟩ => by cases e; exact q, fun q => ⟨_, rfl, q⟩⟩
@[simp] theorem cin_as_high {L : Bool → Prop} : Cop .In (.str (Str.ofString "high")) (.tuple [.str (Str.ofString "as"), .str (Str.ofString "com")]) L ↔ L false := by
  have e : cmpS .In (.str (Str.ofString "high")) (.tuple [.str (Str.ofString "as"), .str (Str.ofString "com")]) = ok false := by
    show ok (List.any [Str.ofString "as", Str.ofString "com"] fun z => z == Str.ofString "high") = _
    rw [show (List.any [Str.ofString "as", Str.ofString "com"] fun z => z == Str.ofString "high") = false by decide +kernel]
  unfold Cop
  rw [e]
  exact ⟨fun ⟨_, e, q⟩ => by cases e; exact q, fun q => ⟨_, rfl, q⟩⟩
@[simp] theorem cin_as_as {L : Bool → Prop} : Cop .In (.str (Str.ofString "as")) (.tuple [.str (Str.ofString "as"), .str (Str.ofString "com")]) L ↔ L true := by
  have e : cmpS .In (.str (Str.ofString "as")) (.tuple [.str (Str.ofString "as"), .str (Str.ofString "com")]) = ok true := by
    show ok (List.any [Str.ofString "as", Str.ofString "com"] fun z => z == Str.ofString "as") = _
    rw [show (List.any [Str.ofString "as", Str.ofString "com"] fun z => z == Str.ofString "as") = true by decide +kernel]
  unfold Cop
  rw [e]
  exact ⟨fun ⟨_, e, q⟩ => by cases e; exact q, fun q => ⟨_, rfl, q⟩⟩
@[simp] theorem cin_as_com {L : Bool → Prop} : Cop .In (.str (Str.ofString "com")) (.tuple [.str (Str.ofString "as"), .str (Str.ofString "com")]) L ↔ L true := by
  have e : cmpS .In (.str (Str.ofString "com")) (.tuple [.str (Str.ofString "as"), .str (Str.ofString "com")]) = ok true := by
    show ok (List.any [Str.ofString "as", Str.ofString "com"] fun z => z == Str.ofString "com") = _
    rw [show (List.any [Str.ofString "as", Str.ofString "com"] fun z => z == Str.ofString "com") = true by decide +kernel]
  unfold Cop
  rw [e]
  exact ⟨fun ⟨_, e, q⟩ => by cases e; exact q, fun q => ⟨_, rfl, q⟩⟩
theorem r_held (e : Ex) (f : Nat) (h : run prg G f 13 [.d (encE e)] = ok (.d (.str (txt e)), [none])) (hl : (txt e).length ≤ 900000) : run prg G (f + 1) 11 [.d (encE e)] = ok (.d (.str (brac e (txt e))), [none]) := by
  refine Cl_of (run_W (d := f_held) rfl rfl ?_)
  cases e with
  | un b a => cases b <;> simp only [encE, unS_t, unS_f] at h <;> simp [f_held, encE, Cl_eq h, brac]
  | bi b a c => cases b <;> simp only [encE, binS_t, binS_f] at h <;> simp [f_held, encE, Cl_eq h, brac]
  | thn a b =>
    simp only [encE] at h
    simp [f_held, encE, Cl_eq h, brac]
    omega
  | _ => (simp only [encE] at h; simp [f_held, encE, Cl_eq h, brac])
theorem r_text : ∀ (e : Ex) (f : Nat), good e → szE e ≤ 10000 → 2 * dpE e + 2 ≤ f → run prg G f 13 [.d (encE e)] = ok (.d (.str (txt e)), [none])
  | .one, f, h, hs, hf => by
    obtain ⟨k, rfl⟩ := Nat.exists_eq_add_of_le' (show 1 ≤ f by omega)
    refine Cl_of (run_W (d := f_expr_text) rfl rfl ?_)
    simp [f_expr_text, encE, txt]
  | .move n, f, h, hs, hf => by
    obtain ⟨k, rfl⟩ := Nat.exists_eq_add_of_le' (show 1 ≤ f by omega)
    obtain ⟨h1, h2⟩ := num_ok (n := n) (by have := h.1; omega) (by have := h.2; omega) (by have := h.1; omega)
    refine Cl_of (run_W (d := f_expr_text) rfl rfl ?_)
    simp [f_expr_text, encE, txt, Uop_num (n := n) (by have := h.1; omega) (by have := h.2; omega)]
    omega
  | .name s, f, h, hs, hf => by
    obtain ⟨k, rfl⟩ := Nat.exists_eq_add_of_le' (show 1 ≤ f by omega)
    refine Cl_of (run_W (d := f_expr_text) rfl rfl ?_)
    simp [f_expr_text, encE, txt]
  | .thn a b, f, h, hs, hf => by
    simp only [dpE] at hf
    simp only [szE] at hs
    obtain ⟨k, rfl⟩ := Nat.exists_eq_add_of_le' (show 2 ≤ f by omega)
    have e1 := r_text a (k + 1) h.1 (by omega) (by omega)
    have t1 := txt_ok a h.1
    have t2 := txt_ok b h.2
    have c2 := brac_ok b (txt b)
    have e2 := r_held b k (r_text b k h.2 (by omega) (by omega)) (by omega)
    refine Cl_of (run_W (n := k + 1) (d := f_expr_text) rfl rfl ?_)
    simp [f_expr_text, encE, txt, Cl_eq e1, Cl_eq e2]
    omega
  | .back a, f, h, hs, hf => by
    simp only [dpE] at hf
    simp only [szE] at hs
    obtain ⟨k, rfl⟩ := Nat.exists_eq_add_of_le' (show 2 ≤ f by omega)
    have t1 := txt_ok a h
    have c1 := brac_ok a (txt a)
    have e2 := r_held a k (r_text a k h (by omega) (by omega)) (by omega)
    refine Cl_of (run_W (n := k + 1) (d := f_expr_text) rfl rfl ?_)
    simp [f_expr_text, encE, txt, Cl_eq e2]
    omega
  | .pow a n, f, h, hs, hf => by
    simp only [dpE] at hf
    simp only [szE] at hs
    obtain ⟨k, rfl⟩ := Nat.exists_eq_add_of_le' (show 2 ≤ f by omega)
    have t1 := txt_ok a h.1
    have c1 := brac_ok a (txt a)
    obtain ⟨h1, h2⟩ := num_ok (n := n) (by have := h.2.1; omega) (by have := h.2.2; omega) (by have := h.2.1; omega)
    have e2 := r_held a k (r_text a k h.1 (by omega) (by omega)) (by omega)
    have e3 : run prg G (k + 1) 12 [.d (.int n)] = ok (.d (.str ("^" ++ numT n)), [none]) := by
      refine Cl_of (run_W (d := f_power_text) rfl rfl ?_)
      simp [f_power_text, Uop_num (n := n) (by have := h.2.1; omega) (by have := h.2.2; omega)]
      omega
    refine Cl_of (run_W (n := k + 1) (d := f_expr_text) rfl rfl ?_)
    simp [f_expr_text, encE, txt, Cl_eq e2, Cl_eq e3]
    omega
  | .un b a, f, h, hs, hf => by
    simp only [dpE] at hf
    simp only [szE] at hs
    obtain ⟨k, rfl⟩ := Nat.exists_eq_add_of_le' (show 2 ≤ f by omega)
    have t1 := txt_ok a h
    have e1 := r_text a (k + 1) h (by omega) (by omega)
    refine Cl_of (run_W (n := k + 1) (d := f_expr_text) rfl rfl ?_)
    cases b <;> simp [f_expr_text, encE, txt, Cl_eq e1]
    all_goals omega
  | .bi b a c, f, h, hs, hf => by
    simp only [dpE] at hf
    simp only [szE] at hs
    obtain ⟨k, rfl⟩ := Nat.exists_eq_add_of_le' (show 2 ≤ f by omega)
    have t1 := txt_ok a h.1
    have t2 := txt_ok c h.2
    have e1 := r_text a (k + 1) h.1 (by omega) (by omega)
    have e2 := r_text c (k + 1) h.2 (by omega) (by omega)
    refine Cl_of (run_W (n := k + 1) (d := f_expr_text) rfl rfl ?_)
    cases b <;> simp [f_expr_text, encE, txt, Cl_eq e1, Cl_eq e2]
    all_goals omega

end K33
set_option maxRecDepth 100000
set_option maxHeartbeats 8000000
namespace Nd
end Nd
namespace Pw
end Pw
namespace Sp
end Sp
namespace K33
open PySem Rf Res Th Pn Nd Pw Sp
theorem St_free {p rest : List Nat} (h : ∀ d, rest.head? = some d → ¬ lc d ∧ ¬ dg d) : St p rest := fun c _ d hd => ⟨fun _ => h d hd, fun _ => (h d hd).2⟩
theorem St_sg {c : Nat} {rest : List Nat} (h : c = 40 ∨ c = 41 ∨ c = 44 ∨ c = 126) : St [c] rest := fun c' hc d hd => by
  simp at hc
  subst hc
  exact ⟨fun hl => by unfold lc at hl; omega, fun h94 => by omega⟩
theorem tx_blank {ps : List (List Nat)} {l : List Nat} (h : Tx ps l) : Tx ps (32 :: l) := by
  cases h with
  | nil b => exact .nil (b + 1)
  | cons b p ps rest h1 h2 h3 => exact .cons (b + 1) p ps rest h1 h2 h3
theorem tx_cons' {p : List Nat} {ps : List (List Nat)} {l : List Nat} (h1 : Pc p) (h2 : St p l) (h3 : Tx ps l) : Tx (p :: ps) (p ++ l) := by
  have := Tx.cons 0 p ps l h1 h2 h3
  simpa using this
theorem tx_one {p : List Nat} (h1 : Pc p) : Tx [p] p := by
  have := tx_cons' (l := []) h1 (fun c _ d hd => by cases hd) (.nil 0)
  simpa using this
theorem tx_append {ps qs : List (List Nat)} {l m : List Nat} (h : Tx ps l) (hm : Tx qs m) (hb : ∀ p, ps.getLast? = some p → St p m) : Tx (ps ++ qs) (l ++ m) := by
  induction h with
  | nil b =>
    induction b with
    | zero => simpa using hm
    | succ b ih => rw [List.replicate_succ]; exact tx_blank ih
  | cons b p ps rest h1 h2 h3 ih =>
    have hr : St p (rest ++ m) := by
      cases rest with
      | cons c rest => exact h2
      | nil =>
        have : ps = [] := by
          rcases tx_cases h3 with ⟨_, h⟩ | ⟨l', h, _⟩ | ⟨p, ps', l', h, _, hp, _⟩
          · exact h
          · cases h
          · have := pc_len hp
            have := congrArg List.length h
            simp at this
            omega
        subst this
        exact hb p rfl
    have := Tx.cons b p (ps ++ qs) (rest ++ m) h1 hr (ih fun p' hp' => hb p' (by
      cases ps with
      | nil => cases hp'
      | cons x xs => rw [List.getLast?_cons_cons]; exact hp'))
    simpa using this
theorem tx_snoc {ps : List (List Nat)} {l p : List Nat} (h : Tx ps l) (hp : Pc p) (hf : ∀ d, p.head? = some d → ¬ lc d ∧ ¬ dg d) : Tx (ps ++ [p]) (l ++ p) := tx_append h (tx_one hp) fun q _ => St_free hf
theorem nd126 : ¬ lc 126 ∧ ¬ dg 126 := by decide
theorem wl_pc {s : Str} (h : ∃ c w, wl s = c :: w ∧ lc c ∧ ∀ d ∈ w, lc d) : Pc (wl s) := by
  obtain ⟨c, w, e, h1, h2⟩ := h
  rw [e]
  exact .word c w h1 fun d hd => .inl (h2 d hd)
theorem unS_pc (h : Bool) : Pc (wl (unS h)) := wl_pc (by cases h <;> exact ⟨_, _, rfl, by decide, by decide⟩)
theorem binS_pc (h : Bool) : Pc (wl (binS h)) := wl_pc (by cases h <;> exact ⟨_, _, rfl, by decide, by decide⟩)
theorem name_pc {w : List Nat} (h : nameOk w) : Pc w := by
  obtain ⟨h1, h2, h3, h4⟩ := h
  cases w with
  | nil => simp at h1
  | cons c w => exact .word c w (h3 c (by simp)) fun d hd => .inl (h3 d (List.mem_cons_of_mem _ hd))
theorem move_pc {n : Int} (h1 : 0 ≤ n) (h2 : n ≤ 999) : Pc (109 :: numL n) := by
  obtain ⟨ds, e1, e2, _⟩ := num_facts (n := n) (by omega) h2
  rw [show sgn n = [] from if_neg (by omega), List.nil_append] at e1
  rw [e1]
  exact .word 109 ds (by decide) fun d hd => .inr (e2.2.2.1 d hd)
theorem tx_group {ps : List (List Nat)} {l : List Nat} (h : Tx ps l) : Tx ([40] :: (ps ++ [[41]])) (40 :: (l ++ [41])) := by
  have h1 := tx_snoc h (Pc.sg 41 (by simp)) (by intro d hd; simp at hd; subst hd; decide)
  exact tx_cons' (Pc.sg 40 (by simp)) (St_sg (by simp)) h1
def Lex (t : Bool) (s : Str) (e : Ex) (d : Nat) : Prop := ∃ ps l, s = tx l ∧ Tx ps l ∧ Gr t e ps d
theorem lex_group {s : Str} {e : Ex} {d : Nat} (h : Lex false s e d) : Lex true ("(" ++ s ++ ")") e (d + 1) := by
  obtain ⟨ps, l, rfl, h1, h2⟩ := h
  refine ⟨_, 40 :: (l ++ [41]), ?_, tx_group h1, .grp h2⟩
  show Str.ofString "(" ++ tx l ++ Str.ofString ")" = _
  rw [s_open, s_close]
  simp
theorem lex_up {s : Str} {e : Ex} {d d' : Nat} (h : Lex true s e d) (hd : d ≤ d') : Lex false s e d' := by
  obtain ⟨ps, l, rfl, h1, h2⟩ := h
  exact ⟨ps, l, rfl, h1, .up (gr_mono h2 hd)⟩
theorem lex_mono {t : Bool} {s : Str} {e : Ex} {d d' : Nat} (h : Lex t s e d) (hd : d ≤ d') : Lex t s e d' := by
  obtain ⟨ps, l, rfl, h1, h2⟩ := h
  exact ⟨ps, l, rfl, h1, gr_mono h2 hd⟩
def isThn : Ex → Bool
  | .thn _ _ => true
  | _ => false
theorem lex_brac {e : Ex} {d : Nat} (h : Lex (!isThn e) (txt e) e d) : Lex true (brac e (txt e)) e (d + 1) := by
  cases e with
  | thn a b => exact lex_group h
  | _ => exact lex_mono h (by omega)
theorem lex_any {e : Ex} {d : Nat} (h : Lex (!isThn e) (txt e) e d) : Lex false (txt e) e d := by
  cases e with
  | thn a b => exact h
  | _ => exact lex_up h (Nat.le_refl _)
theorem numHead {n : Int} : ∀ d, (94 :: numL n).head? = some d → ¬ lc d ∧ ¬ dg d := fun d hd => by simp at hd; subst hd; decide
theorem lex_txt : ∀ e : Ex, good e → Lex (!isThn e) (txt e) e (2 * dpE e)
  | .one, _ => ⟨[wl "one"], wl "one", (tx_cps _).symm, tx_one (wl_pc ⟨_, _, rfl, by decide, by decide⟩), .one _⟩
  | .move n, h => by
    refine ⟨[109 :: numL n], 109 :: numL n, ?_, tx_one (move_pc h.1 h.2), .move n _ h.1 h.2⟩
    show Str.ofString "m" ++ numT n = _
    rw [s_m, ← tx_numL]
    simp
  | .name s, h => by
    obtain ⟨w, rfl, hw⟩ := h
    exact ⟨[w], w, rfl, tx_one (name_pc hw), .name w _ hw⟩
  | .thn a b, h => by
    obtain ⟨ps, l, e1, t1, g1⟩ := lex_mono (lex_any (lex_txt a h.1)) (show 2 * dpE a ≤ 2 * dpE (.thn a b) by simp only [dpE]; omega)
    obtain ⟨qs, m, e2, t2, g2⟩ := lex_mono (lex_brac (lex_txt b h.2)) (show 2 * dpE b + 1 ≤ 2 * dpE (.thn a b) by simp only [dpE]; omega)
    refine ⟨ps ++ qs, l ++ 32 :: m, ?_, tx_append t1 (tx_blank t2) fun p _ => St_free (by intro d hd; simp at hd; subst hd; decide), .snoc g1 g2⟩
    show txt a ++ Str.ofString " " ++ brac b (txt b) = _
    rw [e1, e2, s_blank]
    simp
  | .back a, h => by
    obtain ⟨qs, m, e2, t2, g2⟩ := lex_mono (lex_brac (lex_txt a h)) (show 2 * dpE a + 1 ≤ 2 * dpE (.back a) by simp only [dpE]; omega)
    refine ⟨qs ++ [[126]], m ++ [126], ?_, tx_snoc t2 (Pc.sg 126 (by simp)) (by intro d hd; simp at hd; subst hd; decide), .back g2⟩
    show brac a (txt a) ++ Str.ofString "~" = _
    rw [e2, s_tilde]
    simp
  | .pow a n, h => by
    obtain ⟨qs, m, e2, t2, g2⟩ := lex_mono (lex_brac (lex_txt a h.1)) (show 2 * dpE a + 1 ≤ 2 * dpE (.pow a n) by simp only [dpE]; omega)
    refine ⟨qs ++ [94 :: numL n], m ++ 94 :: numL n, ?_, tx_snoc t2 (Pc.pow n h.2.1 h.2.2) numHead, .pow n g2 h.2.1 h.2.2⟩
    show brac a (txt a) ++ (Str.ofString "^" ++ numT n) = _
    rw [e2, s_caret, ← tx_numL]
    simp
  | .un hb a, h => by
    obtain ⟨qs, m, e2, t2, g2⟩ := lex_any (lex_txt a h)
    have e : 2 * dpE (.un hb a) = 2 * dpE a + 1 + 1 := by simp only [dpE]; omega
    rw [e]
    refine ⟨wl (unS hb) :: [40] :: (qs ++ [[41]]), wl (unS hb) ++ 40 :: (m ++ [41]), ?_, tx_cons' (unS_pc hb) (St_free (by intro d hd; simp at hd; subst hd; decide)) (tx_group t2), gr_mono (.un hb g2) (by omega)⟩
    show unS hb ++ Str.ofString "(" ++ txt a ++ Str.ofString ")" = _
    rw [e2, s_open, s_close, ← tx_cps (unS hb)]
    simp [wl]
    rw [tx_cps]
  | .bi cb a b, h => by
    obtain ⟨ps, l, e1, t1, g1⟩ := lex_mono (lex_any (lex_txt a h.1)) (show 2 * dpE a ≤ 2 * max (dpE a) (dpE b) by omega)
    obtain ⟨qs, m, e2, t2, g2⟩ := lex_mono (lex_any (lex_txt b h.2)) (show 2 * dpE b ≤ 2 * max (dpE a) (dpE b) by omega)
    have e : 2 * dpE (.bi cb a b) = 2 * max (dpE a) (dpE b) + 1 + 1 := by simp only [dpE]; omega
    rw [e]
    have t3 : Tx (ps ++ [44] :: (qs ++ [[41]])) (l ++ 44 :: 32 :: (m ++ [41])) := tx_append t1 (tx_cons' (Pc.sg 44 (by simp)) (St_sg (by simp)) (tx_blank (tx_snoc t2 (Pc.sg 41 (by simp)) (by intro d hd; simp at hd; subst hd; decide)))) fun p _ => St_free (by intro d hd; simp at hd; subst hd; decide)
    refine ⟨wl (binS cb) :: [40] :: (ps ++ [44] :: (qs ++ [[41]])), wl (binS cb) ++ 40 :: (l ++ 44 :: 32 :: (m ++ [41])), ?_, tx_cons' (binS_pc cb) (St_free (by intro d hd; simp at hd; subst hd; decide)) (tx_cons' (Pc.sg 40 (by simp)) (St_sg (by simp)) t3), gr_mono (.bi cb g1 g2) (by omega)⟩
    show binS cb ++ Str.ofString "(" ++ txt a ++ Str.ofString ", " ++ txt b ++ Str.ofString ")" = _
    rw [e1, e2, s_open, s_close, ← tx_cps (binS cb), show Str.ofString ", " = tx [44, 32] by decide +kernel]
    simp [wl]
    rw [tx_cps]

end K33
set_option maxRecDepth 100000
set_option maxHeartbeats 8000000
namespace Nd
end Nd
namespace Pw
end Pw
namespace Sp
end Sp
namespace K33
open PySem Rf Res Th Pn Nd Pw Sp
theorem letter {z : Int} (z0 : 0 ≤ z) (z1 : z < 26) : ∃ c : Nat, lc c ∧ ∀ M : PyData → Prop, Iop (.str (Str.ofString "abcdefghijklmnopqrstuvwxyz")) (.int z) M ↔ M (.str (tx [c])) := by
  obtain ⟨j, rfl⟩ := Int.eq_ofNat_of_zero_le z0
  have hj : j < smallL.length := by show j < 26; omega
  refine ⟨smallL[j], mem_small.mp (List.getElem_mem hj), fun M => ?_⟩
  rw [small_tx]
  exact ix_tx (List.getElem?_eq_getElem hj) (by decide)
def takenD : PyData := .list [.str (Str.ofString "one"), .str (Str.ofString "low"), .str (Str.ofString "high"), .str (Str.ofString "as"), .str (Str.ofString "com")]
theorem inTaken {x : Str} (h : PyData.strOk x = true) {L : Bool → Prop} : Cop .In (.str x) takenD L ↔ L (decide (x ∈ takenL)) := by
  have e : takenD = .list (takenL.map .str) := rfl
  rw [e, Cop_in]
  have hk : inOk (.str x) (takenL.map PyData.str) = true := by
    unfold inOk
    rw [Bool.and_eq_true]
    refine ⟨?_, by decide +kernel⟩
    unfold SeqAt.shaped
    rw [lay_str, h]
    simp [PyData.depth]
  have ha : ((takenL.map PyData.str).any fun z => PyData.eqv z (.str x)) = decide (x ∈ takenL) := by
    have : ∀ xs : List Str, ((xs.map PyData.str).any fun z => PyData.eqv z (.str x)) = decide (x ∈ xs) := fun xs => by
      induction xs with
      | nil => simp
      | cons y ys ih =>
        rw [List.map_cons, List.any_cons, ih, eqv_str]
        by_cases h : y = x
        · simp [h]
        · have h' : ¬ x = y := fun e => h e.symm
          simp [h, h']
    exact this _
  rw [ha]
  simp [hk]
def nameB (s : Str) : Bool := decide (1 ≤ s.cps.toList.length) && decide (s.cps.toList.length ≤ 6) && s.cps.toList.all (fun c => decide (lc c)) && !(takenL.any fun z => z == s)
theorem nameB_ok {s : Str} (h : nameB s = true) : ∃ w, s = tx w ∧ nameOk w := by
  unfold nameB at h
  simp only [Bool.and_eq_true, decide_eq_true_eq, List.all_eq_true, Bool.not_eq_true'] at h
  obtain ⟨⟨⟨h1, h2⟩, h3⟩, h4⟩ := h
  refine ⟨s.cps.toList, (tx_cps s).symm, h1, h2, h3, fun hm => ?_⟩
  rw [tx_cps] at hm
  rw [List.any_eq_false] at h4
  exact h4 s hm (by simp)
theorem taken_plus : ∀ w ∈ takenL, ∀ c ∈ smallL, nameB (w ++ tx [c]) = true := by decide +kernel
theorem taken_e : ∀ w ∈ takenL, nameB (w ++ Str.ofString "e") = true := by decide +kernel
theorem w_name {f : Nat} (h : 2 ≤ f) {ns : List Int} {a b : Int} {c B : Nat} (hs : Sok ns a b B) (hB : B + 20 < 2 ^ 30) {Q : PV → Ro → Prop} (q : ∀ (w : List Nat) (a' b' : Int) (c' : Nat), Sok ns a' b' (B + 20) → nameOk w → Q (.d (.str (tx w))) [some (stt ns a' b' c')]) :
    Cl (run prg G f) 15 [stt ns a b c] Q := by
  obtain ⟨k, rfl⟩ := Nat.exists_eq_add_of_le' (show 1 ≤ f by omega)
  refine run_W (d := f_law_name) rfl rfl ?_
  simp [f_law_name]
  refine w_sdraw (f := k) (by omega) hs (by omega) (many := 6) (by omega) (by omega) fun x a1 b1 c1 s1 x0 x1 => ?_
  simp
  refine w_sdraw (f := k) (by omega) s1 (by omega) (many := 5) (by omega) (by omega) fun y a2 b2 c2 s2 y0 y1 => ?_
  obtain ⟨wd, ew, wm, w1, w5, w6⟩ : ∃ w : Str, L2.atI [PyData.str (Str.ofString "one"), .str (Str.ofString "low"), .str (Str.ofString "high"), .str (Str.ofString "as"), .str (Str.ofString "com")] y = some (.str w) ∧ w ∈ takenL ∧ w.length ≤ 4 ∧ nameB (L2.cutS w none (some 1)) = true ∧ nameB (L2.cutS w (some 1) none) = true := by
    rcases (show y = 0 ∨ y = 1 ∨ y = 2 ∨ y = 3 ∨ y = 4 by omega) with rfl | rfl | rfl | rfl | rfl
    · exact ⟨_, rfl, by decide +kernel, by decide +kernel, by decide +kernel, by decide +kernel⟩
    · exact ⟨_, rfl, by decide +kernel, by decide +kernel, by decide +kernel, by decide +kernel⟩
    · exact ⟨_, rfl, by decide +kernel, by decide +kernel, by decide +kernel, by decide +kernel⟩
    · exact ⟨_, rfl, by decide +kernel, by decide +kernel, by decide +kernel, by decide +kernel⟩
    · exact ⟨_, rfl, by decide +kernel, by decide +kernel, by decide +kernel, by decide +kernel⟩
  simp [ew]
  have up : ∀ {a b : Int} {B' : Nat}, Sok ns a b B' → B' ≤ B + 20 → Sok ns a b (B + 20) := fun h hb => ⟨h.1, h.2.1, h.2.2.1, h.2.2.2.1, h.2.2.2.2.1, by have := h.2.2.2.2.2; omega⟩
  have qB : ∀ (s : Str) (a' b' : Int) (c' : Nat), Sok ns a' b' (B + 20) → nameB s = true → Q (.d (.str s)) [some (stt ns a' b' c')] := fun s a' b' c' hs hn => by
    obtain ⟨w, rfl, hw⟩ := nameB_ok hn
    exact q w a' b' c' hs hw
  split
  · refine w_sdraw (f := k) (by omega) s2 (by omega) (many := 26) (by omega) (by omega) fun z a3 b3 c3 s3 z0 z1 => ?_
    simp
    obtain ⟨u, u1, u3⟩ := letter z0 z1
    rw [u3]
    simp
    exact ⟨by omega, qB _ a3 b3 c3 (up s3 (by omega)) (taken_plus wd wm u (mem_small.mpr u1))⟩
  · split
    · refine ⟨by omega, ?_⟩
      refine w_sdraw (f := k) (by omega) s2 (by omega) (many := 6) (by omega) (by omega) fun z a3 b3 c3 s3 z0 z1 => ?_
      simp
      rcases (show z = 0 ∨ z = 1 ∨ z = 2 ∨ z = 3 ∨ z = 4 ∨ z = 5 by omega) with rfl | rfl | rfl | rfl | rfl | rfl
      · exact ⟨_, rfl, qB _ a3 b3 c3 (up s3 (by omega)) (by decide +kernel)⟩
      · exact ⟨_, rfl, qB _ a3 b3 c3 (up s3 (by omega)) (by decide +kernel)⟩
      · exact ⟨_, rfl, qB _ a3 b3 c3 (up s3 (by omega)) w5⟩
      · exact ⟨_, rfl, qB _ a3 b3 c3 (up s3 (by omega)) w6⟩
      · exact ⟨_, rfl, qB _ a3 b3 c3 (up s3 (by omega)) (by decide +kernel)⟩
      · exact ⟨_, rfl, qB _ a3 b3 c3 (up s3 (by omega)) (by decide +kernel)⟩
    · refine W_for.mpr ?_
      simp
      refine w_sdraw (f := k) (by omega) s2 (by omega) (many := 6) (by omega) (by omega) fun z a3 b3 c3 s3 z0 z1 => ?_
      obtain ⟨z, rfl⟩ := Int.eq_ofNat_of_zero_le z0
      simp
      refine ⟨by omega, ?_⟩
      rw [show ((1 : Int) + z).toNat = 1 + z by omega]
      refine for_rng (fun i ρ => ∃ (nm : List Nat) (a b : Int) (c : Nat) (p : Option PV), Sok ns a b (B + 3 + i) ∧ nm.length = i ∧ (∀ c ∈ nm, lc c) ∧ ρ = [some (stt ns a b c), some (.d takenD), some (.d (.int x)), some (.d (.str wd)), some (.d (.str (tx nm))), p]) 0 (1 + z) ?_ ?_ _ ⟨[], a3, b3, c3, none, s3, rfl, by simp, rfl⟩
      · rintro ρ ⟨nm, a, b, c, p, hs, hn, ho, rfl⟩
        have ok : okc nm := fun c hc => by have := ho c hc; unfold lc at this; omega
        simp [f_law_name_R1]
        rw [inTaken (strOk_tx ok)]
        by_cases ht : tx nm ∈ takenL
        · simp [f_law_name_J1, ht]
          exact ⟨by omega, qB _ a b c (up hs (by omega)) (taken_e _ ht)⟩
        · simp [f_law_name_J1, ht]
          exact q nm a b c (up hs (by omega)) ⟨by omega, by omega, ho, ht⟩
      · rintro i ρ hi ⟨nm, a, b, c, p, hs, hn, ho, rfl⟩
        simp [f_law_name_B1]
        refine w_sdraw (f := k) (by omega) hs (by omega) (many := 26) (by omega) (by omega) fun y a4 b4 c4 s4 y0 y1 => ?_
        obtain ⟨u, u1, u3⟩ := letter y0 y1
        simp
        rw [u3]
        simp
        refine ⟨by omega, nm ++ [u], a4, b4, s4, by simp [hn], fun c hc => ?_, ⟨c4, rfl⟩, rfl⟩
        rcases List.mem_append.mp hc with h | h
        · exact ho c h
        · rw [List.mem_singleton.mp h]; exact u1
theorem w_leaf {f : Nat} (h : 3 ≤ f) {ns : List Int} {a b : Int} {c B : Nat} (hs : Sok ns a b B) (hB : B + 30 < 2 ^ 30) {Q : PV → Ro → Prop} (q : ∀ (x : Ex) (a' b' : Int) (c' : Nat), Sok ns a' b' (B + 30) → good x → szE x = 1 → dpE x = 0 → Q (.d (encE x)) [some (stt ns a' b' c')]) :
    Cl (run prg G f) 16 [stt ns a b c] Q := by
  obtain ⟨k, rfl⟩ := Nat.exists_eq_add_of_le' (show 1 ≤ f by omega)
  have up : ∀ {a b : Int} {B' : Nat}, Sok ns a b B' → B' ≤ B + 30 → Sok ns a b (B + 30) := fun h hb => ⟨h.1, h.2.1, h.2.2.1, h.2.2.2.1, h.2.2.2.2.1, by have := h.2.2.2.2.2; omega⟩
  refine run_W (d := f_law_leaf) rfl rfl ?_
  simp [f_law_leaf]
  refine w_sdraw (f := k) (by omega) hs (by omega) (many := 5) (by omega) (by omega) fun x a1 b1 c1 s1 x0 x1 => ?_
  simp
  split
  · exact q .one a1 b1 c1 (up s1 (by omega)) trivial rfl rfl
  · split
    · refine w_sdraw (f := k) (by omega) s1 (by omega) (many := 2) (by omega) (by omega) fun y a2 b2 c2 s2 y0 y1 => ?_
      obtain ⟨v, ev, v1, v2⟩ : ∃ v : Int, L2.atI [PyData.int 31, .int 1000] y = some (.int v) ∧ 1 ≤ v ∧ v ≤ 1000 := by
        rcases (show y = 0 ∨ y = 1 by omega) with rfl | rfl
        · exact ⟨31, rfl, by decide, by decide⟩
        · exact ⟨1000, rfl, by decide, by decide⟩
      simp [ev]
      refine w_sdraw (f := k) (by omega) s2 (by omega) (many := v) (by omega) (by omega) fun z a3 b3 c3 s3 z0 z1 => ?_
      simp
      exact q (.move z) a3 b3 c3 (up s3 (by omega)) ⟨by omega, by omega⟩ rfl rfl
    · refine w_name (f := k) (by omega) s1 (by omega) fun w a2 b2 c2 s2 hw => ?_
      simp
      exact q (.name (tx w)) a2 b2 c2 (up s2 (by omega)) ⟨w, rfl, hw⟩ rfl rfl

end K33
set_option maxRecDepth 100000
set_option maxHeartbeats 8000000
namespace Nd
end Nd
namespace Pw
end Pw
namespace Sp
end Sp
namespace K33
open PySem Rf Res Th Pn Nd Pw Sp
theorem w_expr : ∀ (deep room : Nat) {f : Nat}, 2 * deep + room + 4 ≤ f → 1 ≤ room → room ≤ 30 → ∀ {ns : List Int} {a b : Int} {c B : Nat}, Sok ns a b B → B + 100 * room < 2 ^ 30 → ∀ {Q : PV → Ro → Prop}, (∀ (x : Ex) (a' b' : Int) (c' : Nat), Sok ns a' b' (B + 100 * room) → good x → szE x ≤ room → dpE x ≤ deep → Q (.d (encE x)) [some (stt ns a' b' c'), none, none]) →
    Cl (run prg G f) 17 [stt ns a b c, .d (.int room), .d (.int deep)] Q := by
  intro deep
  induction deep with
  | zero =>
    intro room f h h1 h2 ns a b c B hs hB Q q
    obtain ⟨k, rfl⟩ := Nat.exists_eq_add_of_le' (show 1 ≤ f by omega)
    have up : ∀ {a b : Int} {B' : Nat}, Sok ns a b B' → B' ≤ B + 100 * room → Sok ns a b (B + 100 * room) := fun h hb => ⟨h.1, h.2.1, h.2.2.1, h.2.2.2.1, h.2.2.2.2.1, by have := h.2.2.2.2.2; omega⟩
    refine run_W (d := f_law_expr) rfl rfl ?_
    simp [f_law_expr]
    refine w_sdraw (f := k) (by omega) hs (by omega) (many := 20) (by omega) (by omega) fun x a1 b1 c1 s1 x0 x1 => ?_
    have leaf : ∀ {Q' : PV → Ro → Prop}, (∀ (x : Ex) (a' b' : Int) (c' : Nat), Sok ns a' b' (B + 100 * room) → good x → szE x = 1 → dpE x = 0 → Q' (.d (encE x)) [some (stt ns a' b' c')]) → Cl (run prg G k) 16 [stt ns a1 b1 c1] Q' := fun {Q'} q' => w_leaf (f := k) (by omega) s1 (by omega) fun x a2 b2 c2 s2 g1 g2 g3 => q' x a2 b2 c2 (up s2 (by omega)) g1 g2 g3
    simp
    exact leaf fun x a2 b2 c2 s2 g1 g2 g3 => q x a2 b2 c2 s2 g1 (by omega) (by omega)
  | succ deep ih =>
    intro room f h h1 h2 ns a b c B hs hB Q q
    obtain ⟨k, rfl⟩ := Nat.exists_eq_add_of_le' (show 1 ≤ f by omega)
    have up : ∀ {a b : Int} {B' : Nat}, Sok ns a b B' → B' ≤ B + 100 * room → Sok ns a b (B + 100 * room) := fun h hb => ⟨h.1, h.2.1, h.2.2.1, h.2.2.2.1, h.2.2.2.2.1, by have := h.2.2.2.2.2; omega⟩
    refine run_W (d := f_law_expr) rfl rfl ?_
    simp [f_law_expr]
    refine w_sdraw (f := k) (by omega) hs (by omega) (many := 20) (by omega) (by omega) fun x a1 b1 c1 s1 x0 x1 => ?_
    simp
    by_cases x5 : x < 5
    · rw [if_pos x5]
      refine w_leaf (f := k) (by omega) s1 (by omega) fun x a2 b2 c2 s2 g1 g2 g3 => ?_
      exact q x a2 b2 c2 (up s2 (by omega)) g1 (by omega) (by omega)
    rw [if_neg x5]
    by_cases hr : (room : Int) < 2
    · rw [if_pos hr]
      refine w_leaf (f := k) (by omega) s1 (by omega) fun x a2 b2 c2 s2 g1 g2 g3 => ?_
      exact q x a2 b2 c2 (up s2 (by omega)) g1 (by omega) (by omega)
    rw [if_neg hr]
    by_cases hd : (deep : Int) + 1 < 2
    · rw [if_pos hd]
      refine w_leaf (f := k) (by omega) s1 (by omega) fun x a2 b2 c2 s2 g1 g2 g3 => ?_
      exact q x a2 b2 c2 (up s2 (by omega)) g1 (by omega) (by omega)
    rw [if_neg hd]
    have er : (room : Int) - 1 = ((room - 1 : Nat) : Int) := by omega
    by_cases x6 : x = 5
    · rw [if_pos x6, er]
      refine ih (room - 1) (by omega) (by omega) (by omega) s1 (by omega) fun y a2 b2 c2 s2 g1 g2 g3 => ?_
      simp
      exact q (.back y) a2 b2 c2 (up s2 (by omega)) g1 (by simp only [szE]; omega) (by simp only [dpE]; omega)
    rw [if_neg x6]
    by_cases x8 : x < 8
    · rw [if_pos x8]
      refine w_sdraw (f := k) (by omega) s1 (by omega) (many := 2) (by omega) (by omega) fun y a2 b2 c2 s2 y0 y1 => ?_
      obtain ⟨v, ev, v1, v2⟩ : ∃ v : Int, L2.atI [PyData.int 7, .int 1999] y = some (.int v) ∧ 1 ≤ v ∧ v ≤ 1999 := by
        rcases (show y = 0 ∨ y = 1 by omega) with rfl | rfl
        · exact ⟨7, rfl, by decide, by decide⟩
        · exact ⟨1999, rfl, by decide, by decide⟩
      simp [ev]
      refine w_sdraw (f := k) (by omega) s2 (by omega) (many := v) (by omega) (by omega) fun z a3 b3 c3 s3 z0 z1 => ?_
      simp
      have pw : ∀ (m : Int) (Z : S), -1998 ≤ m → m ≤ 1999 → Rf.W (run prg G k) G f_law_expr_J1 [some (stt ns a3 b3 c3), some (.d (.int room)), some (.d (.int (deep + 1))), some (.d (.int x)), none, none, none, some (.d (.int m))] (Qs (run prg G k) G Z (Rt [0] 3 Q)) := by
        intro m Z m1 m2
        simp [f_law_expr_J1]
        rw [er]
        refine ih (room - 1) (by omega) (by omega) (by omega) s3 (by omega) fun e a4 b4 c4 s4 g1 g2 g3 => ?_
        simp
        exact ⟨by decide, q (.pow e (m / 2)) a4 b4 c4 (up s4 (by omega)) ⟨g1, by omega, by omega⟩ (by simp only [szE]; omega) (by simp only [dpE]; omega)⟩
      by_cases zz : z % 2 = 1
      · rw [if_pos zz]
        exact pw _ _ (by omega) (by omega)
      · rw [if_neg zz]
        exact pw _ _ (by omega) (by omega)
    rw [if_neg x8]
    have e2 : ∀ t : Int, 0 ≤ t → t < 2 → ∃ b : Bool, L2.atI [PyData.str (Str.ofString "low"), .str (Str.ofString "high")] t = some (.str (unS b)) := fun t t0 t1 => by
      rcases (show t = 0 ∨ t = 1 by omega) with rfl | rfl
      · exact ⟨false, rfl⟩
      · exact ⟨true, rfl⟩
    obtain ⟨bb, eb⟩ := e2 (x % 2) (by omega) (by omega)
    by_cases x10 : x < 10
    · rw [if_pos x10]
      refine ⟨_, eb, ?_⟩
      rw [er]
      refine ih (room - 1) (by omega) (by omega) (by omega) s1 (by omega) fun e a4 b4 c4 s4 g1 g2 g3 => ?_
      simp
      exact q (.un bb e) a4 b4 c4 (up s4 (by omega)) g1 (by simp only [szE]; omega) (by simp only [dpE]; omega)
    rw [if_neg x10]
    by_cases r3 : (room : Int) < 3
    · rw [if_pos r3]
      refine ⟨_, eb, ?_⟩
      rw [er]
      refine ih (room - 1) (by omega) (by omega) (by omega) s1 (by omega) fun e a4 b4 c4 s4 g1 g2 g3 => ?_
      simp
      exact q (.un bb e) a4 b4 c4 (up s4 (by omega)) g1 (by simp only [szE]; omega) (by simp only [dpE]; omega)
    rw [if_neg r3]
    refine w_sdraw (f := k) (by omega) s1 (by omega) (many := room - 2) (by omega) (by omega) fun y a2 b2 c2 s2 y0 y1 => ?_
    simp
    obtain ⟨l, el⟩ := Int.eq_ofNat_of_zero_le (show (0 : Int) ≤ 1 + y by omega)
    rw [el]
    refine ih l (by omega) (by omega) (by omega) s2 (by omega) fun e a3 b3 c3 s3 g1 g2 g3 => ?_
    simp
    rw [show (room : Int) - 1 - l = ((room - 1 - l : Nat) : Int) by omega]
    refine ih (room - 1 - l) (by omega) (by omega) (by omega) s3 (by omega) fun e' a4 b4 c4 s4 g1' g2' g3' => ?_
    simp
    have s5 := up s4 (by omega)
    rcases (show x % 5 = 0 ∨ x % 5 = 1 ∨ x % 5 = 2 ∨ x % 5 = 3 ∨ x % 5 = 4 by omega) with h5 | h5 | h5 | h5 | h5
    · rw [h5]
      exact ⟨_, rfl, q (.thn e e') a4 b4 c4 s5 ⟨g1, g1'⟩ (by simp only [szE]; omega) (by simp only [dpE]; omega)⟩
    · rw [h5]
      exact ⟨_, rfl, q (.bi false e e') a4 b4 c4 s5 ⟨g1, g1'⟩ (by simp only [szE]; omega) (by simp only [dpE]; omega)⟩
    · rw [h5]
      exact ⟨_, rfl, q (.bi true e e') a4 b4 c4 s5 ⟨g1, g1'⟩ (by simp only [szE]; omega) (by simp only [dpE]; omega)⟩
    · rw [h5]
      exact ⟨_, rfl, q (.thn e e') a4 b4 c4 s5 ⟨g1, g1'⟩ (by simp only [szE]; omega) (by simp only [dpE]; omega)⟩
    · rw [h5]
      exact ⟨_, rfl, q (.thn e e') a4 b4 c4 s5 ⟨g1, g1'⟩ (by simp only [szE]; omega) (by simp only [dpE]; omega)⟩

end K33
set_option maxRecDepth 100000
set_option maxHeartbeats 8000000
namespace Nd
end Nd
namespace Pw
end Pw
namespace Sp
end Sp
namespace K33
open PySem Rf Res Th Pn Nd Pw Sp
theorem rng_map : ∀ (n : Nat) (lo : Int), rngI lo n = (List.range n).map fun k : Nat => PyData.int (lo + k)
  | 0, _ => rfl
  | n + 1, lo => by
    rw [rngI, rng_map n (lo + 1), List.range_succ_eq_map, List.map_cons, List.map_map]
    congr 1
    · simp
    · refine List.map_congr_left fun k _ => ?_
      simp [Function.comp]
      omega
def wrap (m : Nat) (ps : List (List Nat)) : List (List Nat) := List.replicate m [40] ++ ps ++ List.replicate m [41]
theorem wrap_succ (m : Nat) (ps : List (List Nat)) : wrap (m + 1) ps = [40] :: (wrap m ps ++ [[41]]) := by
  unfold wrap
  rw [List.replicate_succ, List.replicate_succ']
  simp
theorem gr_wrapT {e : Ex} {ps : List (List Nat)} {d : Nat} (h : Gr true e ps d) : ∀ m : Nat, Gr true e (wrap m ps) (d + m)
  | 0 => by simpa [wrap] using h
  | m + 1 => by rw [wrap_succ]; exact .grp (.up (gr_wrapT h m))
theorem gr_wrapF {e : Ex} {ps : List (List Nat)} {d : Nat} (h : Gr false e ps d) : ∀ m : Nat, 1 ≤ m → Gr true e (wrap m ps) (d + m)
  | 0, hm => by omega
  | 1, _ => by rw [wrap_succ]; simpa [wrap] using Gr.grp h
  | m + 2, _ => by rw [wrap_succ]; exact .grp (.up (gr_wrapF h (m + 1) (by omega)))
theorem gr_wrap {e : Ex} {ps : List (List Nat)} {d : Nat} (h : Gr false e ps d) (m : Nat) : Gr false e (wrap m ps) (d + m) := by
  cases m with
  | zero => simpa [wrap] using h
  | succ m => exact .up (gr_wrapF h (m + 1) (by omega))
theorem gr_pc {t : Bool} {e : Ex} {ps : List (List Nat)} {d : Nat} (h : Gr t e ps d) : ∀ p ∈ ps, Pc p := by
  have p40 : Pc [40] := Pc.sg 40 (by simp)
  have p41 : Pc [41] := Pc.sg 41 (by simp)
  have p44 : Pc [44] := Pc.sg 44 (by simp)
  induction h with
  | one d => intro p hp; simp at hp; subst hp; exact wl_pc ⟨_, _, rfl, by decide, by decide⟩
  | move n d h1 h2 => intro p hp; simp at hp; subst hp; exact move_pc h1 h2
  | name w d h => intro p hp; simp at hp; subst hp; exact name_pc h
  | grp _ ih =>
    intro p hp
    simp at hp
    rcases hp with rfl | hp | rfl
    · exact p40
    · exact ih p hp
    · exact p41
  | un h _ ih =>
    intro p hp
    simp at hp
    rcases hp with rfl | rfl | hp | rfl
    · exact unS_pc h
    · exact p40
    · exact ih p hp
    · exact p41
  | bi c _ _ ih1 ih2 =>
    intro p hp
    simp at hp
    rcases hp with rfl | rfl | hp | rfl | hp | rfl
    · exact binS_pc c
    · exact p40
    · exact ih1 p hp
    · exact p44
    · exact ih2 p hp
    · exact p41
  | back _ ih =>
    intro p hp
    simp at hp
    rcases hp with hp | rfl
    · exact ih p hp
    · exact Pc.sg 126 (by simp)
  | pow n _ h1 h2 ih =>
    intro p hp
    simp at hp
    rcases hp with hp | rfl
    · exact ih p hp
    · exact Pc.pow n h1 h2
  | up _ ih => exact ih
  | snoc _ _ ih1 ih2 =>
    intro p hp
    rcases List.mem_append.mp hp with h | h
    · exact ih1 p h
    · exact ih2 p h
def wD (e : Ex) : Nat := 3 * dpE e + 2
/-- what the row of an expression is -/
def RowOk (e : Ex) (least : Nat) (ps : List (List Nat)) : Prop := Gr (decide (least = 1)) e ps (wD e) ∧ ps.length ≤ 8 * szE e
theorem pD_s (s : Str) : PyData.str s = pD (wl s) := by unfold pD wl; rw [tx_cps]
theorem D_reps {T : Tab} (m : Nat) (hm : m ≤ 1000) (s : Str) {ρ : Ro} {Q : PV → Ro → Prop} (h4 : getRo ρ 4 = some (.d (.int (m : Int)))) (hw : wipeOk ρ [6] = true) (hn : getRo ρ 6 = none) (hl : 6 < ρ.length) (q : Q (.L (List.replicate m (.str s))) ρ) :
    Rf.D T G (.lc (.n 6) (.itR1 (.nm 4)) (.bl true) (.str s) [6]) ρ Q := by
  have hρ : ρ.set 6 none = ρ := by
    refine List.ext_getElem? fun i => ?_
    by_cases hi : i = 6
    · subst hi
      rw [List.getElem?_set_self hl]
      have : (ρ[6]?).join = none := hn
      rw [List.getElem?_eq_getElem hl] at this ⊢
      simp at this
      rw [this]
    · rw [List.getElem?_set_ne (by omega)]
  refine D_lcMap (fun k : Nat => PyData.int k) (fun _ => .str s) ?_
  simp only [DI_itR1, D_nm, h4, Option.some.injEq, PV.d.injEq, exists_eq_left', PyData.int.injEq]
  refine ⟨⟨by omega, by omega⟩, List.range m, by rw [rng_map]; simp, hw, fun k _ => ?_, by simp; omega, ?_⟩
  · simp [LBw, wipeR, hρ]
  · rw [show (List.range m).map (fun _ => PyData.str s) = List.replicate m (.str s) by rw [List.map_const']; simp]
    simpa [wipeR, wipeBack, hn, hρ] using q
/-- the end of a row: brackets round it -/
theorem row_end {k : Nat} (hk : 1 ≤ k) {ns : List Int} {a b : Int} {c B : Nat} (hs : Sok ns a b B) (hB : B + 1 < 2 ^ 30) (e : Ex) (he : good e) (least : Nat) (hle : least ≤ 1) (row : List (List Nat)) (hr : row.length ≤ 1000) {p1 : Option PV} (p6 : Option PV) (h6 : p6 = none) {Q : PV → Ro → Prop}
    (kd : Str) (ekd : (kd = "then") = (isThn e = true)) (okd : PyData.strOk kd = true) {p4 : Option PV}
    (q : ∀ (m : Nat) (a' b' : Int) (c' : Nat), m ≤ 2 → (isThn e = true → least ≤ m) → Sok ns a' b' (B + 1) → Q (.d (.list ((wrap m row).map pD))) [some (stt ns a' b' c'), none, none]) :
    Rf.W (run prg G k) G f_law_pieces_J3 [some (stt ns a b c), p1, some (.d (.int (least : Int))), some (.d (.str kd)), p4, some (.d (.list (row.map pD))), none] (Rt [0] 3 Q) := by
  have fin : ∀ (m : Nat) (a' b' : Int) (c' : Nat), m ≤ 2 → (isThn e = true → least ≤ m) → Sok ns a' b' (B + 1) → Rf.W (run prg G k) G f_law_pieces_J2 [some (stt ns a' b' c'), p1, some (.d (.int (least : Int))), some (.d (.str kd)), some (.d (.int (m : Int))), some (.d (.list (row.map pD))), none] (Rt [0] 3 Q) := fun m a' b' c' hm ht hs => by
    simp [f_law_pieces_J2]
    refine D_reps m (by omega) _ rfl rfl rfl (by simp) ?_
    simp
    refine ⟨by omega, ?_⟩
    refine D_reps m (by omega) _ rfl rfl rfl (by simp) ?_
    simp
    refine ⟨by omega, ?_⟩
    have := q m a' b' c' hm ht hs
    rw [wrap] at this
    simpa [pD, s_open, s_close] using this
  have ot : PyData.strOk (Str.ofString "then") = true := by decide +kernel
  simp [f_law_pieces_J3]
  refine w_sdraw (f := k) hk hs (by omega) (many := 5) (by omega) (by omega) fun y a1 b1 c1 s1 y0 y1 => ?_
  obtain ⟨v, ev, v2⟩ : ∃ v : Nat, L2.atI [PyData.int 0, .int 0, .int 0, .int 1, .int 2] y = some (.int (v : Int)) ∧ v ≤ 2 := by
    rcases (show y = 0 ∨ y = 1 ∨ y = 2 ∨ y = 3 ∨ y = 4 by omega) with rfl | rfl | rfl | rfl | rfl
    · exact ⟨0, rfl, by decide⟩
    · exact ⟨0, rfl, by decide⟩
    · exact ⟨0, rfl, by decide⟩
    · exact ⟨1, rfl, by decide⟩
    · exact ⟨2, rfl, by decide⟩
  simp [ev, okd, ot]
  by_cases ht : kd = Str.ofString "then"
  · have ht' : isThn e = true := by rw [← ekd]; exact ht
    simp [ht]
    by_cases hv : v < least
    · simp [hv]
      have := fin least a1 b1 c1 (by omega) (fun _ => Nat.le_refl _) s1
      rw [ht] at this
      exact this
    · simp [hv]
      have := fin v a1 b1 c1 (by omega) (fun _ => by omega) s1
      rw [ht] at this
      exact this
  · have ht' : ¬ isThn e = true := by rw [← ekd]; exact ht
    simp [ht]
    exact fin v a1 b1 c1 (by omega) (fun z => absurd z ht') s1

end K33
set_option maxRecDepth 100000
set_option maxHeartbeats 8000000
namespace Nd
end Nd
namespace Pw
end Pw
namespace Sp
end Sp
namespace K33
open PySem Rf Res Th Pn Nd Pw Sp
theorem row_fin {e : Ex} {row : List (List Nat)} (h1 : isThn e = true → Gr false e row (3 * dpE e)) (h2 : isThn e = false → Gr true e row (3 * dpE e)) {m least : Nat} (hm : m ≤ 2) (ht : isThn e = true → least ≤ m) (hl : least ≤ 1) (hr : row.length + 4 ≤ 8 * szE e) : RowOk e least (wrap m row) := by
  have hw : (wrap m row).length ≤ 8 * szE e := by simp only [wrap, List.length_append, List.length_replicate]; omega
  refine ⟨?_, hw⟩
  rcases (show least = 0 ∨ least = 1 by omega) with rfl | rfl
  · cases hi : isThn e with
    | true => exact gr_mono (gr_wrap (h1 hi) m) (by unfold wD; omega)
    | false => exact gr_mono (.up (gr_wrapT (h2 hi) m)) (by unfold wD; omega)
  · cases hi : isThn e with
    | true => exact gr_mono (gr_wrapF (h1 hi) m (ht hi)) (by unfold wD; omega)
    | false => exact gr_mono (gr_wrapT (h2 hi) m) (by unfold wD; omega)
theorem row_done {k : Nat} (hk : 1 ≤ k) {ns : List Int} {a b : Int} {c B B' : Nat} (hs : Sok ns a b B) (hB : B + 1 ≤ B') (hB' : B' < 2 ^ 30) (e : Ex) (he : good e) (least : Nat) (hle : least ≤ 1) (row : List (List Nat)) (hr : row.length + 4 ≤ 8 * szE e) (hz : szE e ≤ 100) (h1 : isThn e = true → Gr false e row (3 * dpE e)) (h2 : isThn e = false → Gr true e row (3 * dpE e)) {p1 p4 : Option PV} {Q : PV → Ro → Prop}
    (kd : Str) (ekd : (kd = "then") = (isThn e = true)) (okd : PyData.strOk kd = true)
    (q : ∀ (ps : List (List Nat)) (a' b' : Int) (c' : Nat), Sok ns a' b' B' → RowOk e least ps → Q (.d (.list (ps.map pD))) [some (stt ns a' b' c'), none, none]) :
    Rf.W (run prg G k) G f_law_pieces_J3 [some (stt ns a b c), p1, some (.d (.int (least : Int))), some (.d (.str kd)), p4, some (.d (.list (row.map pD))), none] (Rt [0] 3 Q) :=
  row_end hk hs (by omega) e he least hle row (by omega) none rfl kd ekd okd fun m a' b' c' hm ht s => q _ a' b' c' ⟨s.1, s.2.1, s.2.2.1, s.2.2.2.1, s.2.2.2.2.1, by have := s.2.2.2.2.2; omega⟩ (row_fin h1 h2 hm ht hle hr)
theorem pD_m {n : Int} : PyData.str (Str.ofString "m" ++ numT n) = pD (109 :: numL n) := by
  rw [s_m, ← tx_numL]; simp [pD]
theorem pD_caret {n : Int} : PyData.str (Str.ofString "^" ++ numT n) = pD (94 :: numL n) := by
  rw [s_caret, ← tx_numL]; simp [pD]
theorem pD_open : PyData.str (Str.ofString "(") = pD [40] := by rw [s_open]; rfl
theorem pD_close : PyData.str (Str.ofString ")") = pD [41] := by rw [s_close]; rfl
theorem pD_comma : PyData.str (Str.ofString ",") = pD [44] := by rw [s_comma]; rfl
theorem pD_tilde : PyData.str (Str.ofString "~") = pD [126] := by rw [s_tilde]; rfl
theorem le1 {e : Ex} : 1 ≤ szE e := by cases e <;> simp only [szE] <;> omega
theorem w_pieces : ∀ (e : Ex) {f : Nat}, dpE e + 2 ≤ f → good e → szE e ≤ 100 → ∀ (least : Nat), least ≤ 1 → ∀ {ns : List Int} {a b : Int} {c B : Nat}, Sok ns a b B → B + szE e < 2 ^ 30 → ∀ {Q : PV → Ro → Prop}, (∀ (ps : List (List Nat)) (a' b' : Int) (c' : Nat), Sok ns a' b' (B + szE e) → RowOk e least ps → Q (.d (.list (ps.map pD))) [some (stt ns a' b' c'), none, none]) →
    Cl (run prg G f) 19 [stt ns a b c, .d (encE e), .d (.int (least : Int))] Q := by
  intro e
  induction e with
  | one =>
    intro f hf he hz least hl ns a b c B hs hB Q q
    obtain ⟨k, rfl⟩ := Nat.exists_eq_add_of_le' (show 1 ≤ f by omega)
    simp only [szE, dpE, good] at hf hz hB q he
    refine run_W (d := f_law_pieces) rfl rfl ?_
    simp [f_law_pieces, encE]
    have r := row_done (k := k) (c := c) (p1 := some (.d (encE .one))) (p4 := none) (by omega) hs (by omega) (by omega) .one he least hl [wl "one"] (by simp [szE] <;> omega) (by simp only [szE]; omega) (fun z => by cases z) (fun _ => .one _) "one" (propext ⟨fun h => absurd h (by decide +kernel), fun h => by cases h⟩) (by decide +kernel) q
    repeat (refine ⟨by omega, ?_⟩)
    simpa [encE, ← pD_s] using r
  | move n =>
    intro f hf he hz least hl ns a b c B hs hB Q q
    obtain ⟨k, rfl⟩ := Nat.exists_eq_add_of_le' (show 1 ≤ f by omega)
    simp only [szE, dpE, good] at hf hz hB q he
    refine run_W (d := f_law_pieces) rfl rfl ?_
    have nl := (num_ok (n := n) (by omega) (by omega) (by omega)).1
    simp [f_law_pieces, encE, Uop_num (n := n) (by omega) (by omega), pD_m]
    have r := row_done (k := k) (c := c) (p1 := some (.d (encE (.move n)))) (p4 := none) (by omega) hs (by omega) (by omega) (.move n) he least hl [109 :: numL n] (by simp [szE] <;> omega) (by simp only [szE]; omega) (fun z => by cases z) (fun _ => .move n _ he.1 he.2) "move" (propext ⟨fun h => absurd h (by decide +kernel), fun h => by cases h⟩) (by decide +kernel) q
    repeat (refine ⟨by omega, ?_⟩)
    simpa [encE] using r
  | name s =>
    intro f hf he hz least hl ns a b c B hs hB Q q
    obtain ⟨k, rfl⟩ := Nat.exists_eq_add_of_le' (show 1 ≤ f by omega)
    simp only [szE, dpE, good] at hf hz hB q he
    refine run_W (d := f_law_pieces) rfl rfl ?_
    obtain ⟨w, rfl, hw⟩ := he
    simp [f_law_pieces, encE]
    have r := row_done (k := k) (c := c) (p1 := some (.d (encE (.name (tx w))))) (p4 := none) (by omega) hs (by omega) (by omega) (.name (tx w)) ⟨w, rfl, hw⟩ least hl [w] (by simp [szE] <;> omega) (by simp only [szE]; omega) (fun z => by cases z) (fun _ => .name w _ hw) "name" (propext ⟨fun h => absurd h (by decide +kernel), fun h => by cases h⟩) (by decide +kernel) q
    repeat (refine ⟨by omega, ?_⟩)
    simpa [encE, pD] using r
  | thn x y ihx ihy =>
    intro f hf he hz least hl ns a b c B hs hB Q q
    obtain ⟨k, rfl⟩ := Nat.exists_eq_add_of_le' (show 1 ≤ f by omega)
    simp only [szE, dpE, good] at hf hz hB q he
    refine run_W (d := f_law_pieces) rfl rfl ?_
    simp [f_law_pieces, encE]
    refine ihx (by omega) he.1 (by omega) 0 (by omega) hs (by omega) fun ps a1 b1 c1 s1 r1 => ?_
    simp
    repeat (refine ⟨by omega, ?_⟩)
    refine ihy (by omega) he.2 (by omega) 1 (by omega) s1 (by omega) fun qs a2 b2 c2 s2 r2 => ?_
    simp
    have l1 := r1.2
    have l2 := r2.2
    have r := row_done (k := k) (c := c2) (p1 := some (.d (encE (.thn x y)))) (p4 := none) (by omega) s2 (B' := B + (1 + szE x + szE y)) (by omega) (by omega) (.thn x y) he least hl (ps ++ qs) (by simp [szE]; omega) (by simp only [szE]; omega) (fun _ => .snoc (gr_mono r1.1 (by simp only [wD, dpE]; omega)) (gr_mono r2.1 (by simp only [wD, dpE]; omega))) (fun z => by cases z) "then" (propext ⟨fun _ => rfl, fun _ => rfl⟩) (by decide +kernel) q
    repeat (refine ⟨by omega, ?_⟩)
    simpa [encE] using r
  | back x ih =>
    intro f hf he hz least hl ns a b c B hs hB Q q
    obtain ⟨k, rfl⟩ := Nat.exists_eq_add_of_le' (show 1 ≤ f by omega)
    simp only [szE, dpE, good] at hf hz hB q he
    refine run_W (d := f_law_pieces) rfl rfl ?_
    simp [f_law_pieces, encE, pD_tilde]
    refine ih (by omega) he (by omega) 1 (by omega) hs (by omega) fun ps a1 b1 c1 s1 r1 => ?_
    have l1 := r1.2
    simp
    have r := row_done (k := k) (c := c1) (p1 := some (.d (encE (.back x)))) (p4 := none) (by omega) s1 (B' := B + (1 + szE x)) (by omega) (by omega) (.back x) he least hl (ps ++ [[126]]) (by simp [szE]; omega) (by simp only [szE]; omega) (fun z => by cases z) (fun _ => .back (gr_mono r1.1 (by simp only [wD, dpE]; omega))) "back" (propext ⟨fun h => absurd h (by decide +kernel), fun h => by cases h⟩) (by decide +kernel) q
    repeat (refine ⟨by omega, ?_⟩)
    simpa [encE] using r
  | pow x n ih =>
    intro f hf he hz least hl ns a b c B hs hB Q q
    obtain ⟨k, rfl⟩ := Nat.exists_eq_add_of_le' (show 1 ≤ f by omega)
    simp only [szE, dpE, good] at hf hz hB q he
    refine run_W (d := f_law_pieces) rfl rfl ?_
    simp [f_law_pieces, encE]
    refine ih (by omega) he.1 (by omega) 1 (by omega) hs (by omega) fun ps a1 b1 c1 s1 r1 => ?_
    have l1 := r1.2
    have nl := (num_ok (n := n) (by omega) (by omega) (by omega)).1
    simp [Uop_num (n := n) (by omega) (by omega), pD_caret]
    have r := row_done (k := k) (c := c1) (p1 := some (.d (encE (.pow x n)))) (p4 := none) (by omega) s1 (B' := B + (1 + szE x)) (by omega) (by omega) (.pow x n) he least hl (ps ++ [94 :: numL n]) (by simp [szE]; omega) (by simp only [szE]; omega) (fun z => by cases z) (fun _ => .pow n (gr_mono r1.1 (by simp only [wD, dpE]; omega)) he.2.1 he.2.2) "power" (propext ⟨fun h => absurd h (by decide +kernel), fun h => by cases h⟩) (by decide +kernel) q
    repeat (refine ⟨by omega, ?_⟩)
    simpa [encE] using r
  | un h x ih =>
    intro f hf he hz least hl ns a b c B hs hB Q q
    obtain ⟨k, rfl⟩ := Nat.exists_eq_add_of_le' (show 1 ≤ f by omega)
    simp only [szE, dpE, good] at hf hz hB q he
    refine run_W (d := f_law_pieces) rfl rfl ?_
    cases h
    · simp [f_law_pieces, encE]
      refine ih (by omega) he (by omega) 0 (by omega) hs (by omega) fun ps a1 b1 c1 s1 r1 => ?_
      have l1 := r1.2
      simp [f_law_pieces_J1, pD_open, pD_close]
      have r := row_done (k := k) (c := c1) (p1 := some (.d (encE (.un false x)))) (p4 := none) (by omega) s1 (B' := B + (1 + szE x)) (by omega) (by omega) (.un false x) he least hl (wl (unS false) :: [40] :: (ps ++ [[41]])) (by simp [szE]; omega) (by simp only [szE]; omega) (fun z => by cases z) (fun _ => gr_mono (.un false r1.1) (by simp only [wD, dpE]; omega)) "low" (propext ⟨fun h => absurd h (by decide +kernel), fun h => by cases h⟩) (by decide +kernel) q
      repeat (refine ⟨by omega, ?_⟩)
      simpa [encE, ← pD_s] using r
    · simp [f_law_pieces, encE]
      refine ih (by omega) he (by omega) 0 (by omega) hs (by omega) fun ps a1 b1 c1 s1 r1 => ?_
      have l1 := r1.2
      simp [f_law_pieces_J1, pD_open, pD_close]
      have r := row_done (k := k) (c := c1) (p1 := some (.d (encE (.un true x)))) (p4 := none) (by omega) s1 (B' := B + (1 + szE x)) (by omega) (by omega) (.un true x) he least hl (wl (unS true) :: [40] :: (ps ++ [[41]])) (by simp [szE]; omega) (by simp only [szE]; omega) (fun z => by cases z) (fun _ => gr_mono (.un true r1.1) (by simp only [wD, dpE]; omega)) "high" (propext ⟨fun h => absurd h (by decide +kernel), fun h => by cases h⟩) (by decide +kernel) q
      repeat (refine ⟨by omega, ?_⟩)
      simpa [encE, ← pD_s] using r
  | bi h x y ihx ihy =>
    intro f hf he hz least hl ns a b c B hs hB Q q
    obtain ⟨k, rfl⟩ := Nat.exists_eq_add_of_le' (show 1 ≤ f by omega)
    simp only [szE, dpE, good] at hf hz hB q he
    refine run_W (d := f_law_pieces) rfl rfl ?_
    cases h
    · simp [f_law_pieces, encE]
      refine ihx (by omega) he.1 (by omega) 0 (by omega) hs (by omega) fun ps a1 b1 c1 s1 r1 => ?_
      have l1 := r1.2
      simp
      repeat (refine ⟨by omega, ?_⟩)
      refine ihy (by omega) he.2 (by omega) 0 (by omega) s1 (by omega) fun qs a2 b2 c2 s2 r2 => ?_
      have l2 := r2.2
      simp [f_law_pieces_J1, pD_open, pD_close, pD_comma]
      have r := row_done (k := k) (c := c2) (p1 := some (.d (encE (.bi false x y)))) (p4 := none) (by omega) s2 (B' := B + (1 + szE x + szE y)) (by omega) (by omega) (.bi false x y) he least hl (wl (binS false) :: [40] :: (ps ++ [44] :: (qs ++ [[41]]))) (by simp [szE]; omega) (by simp only [szE]; omega) (fun z => by cases z) (fun _ => gr_mono (.bi false (gr_mono (d' := max (wD x) (wD y)) r1.1 (by omega)) (gr_mono (d' := max (wD x) (wD y)) r2.1 (by omega))) (by simp only [wD, dpE]; omega)) "as" (propext ⟨fun h => absurd h (by decide +kernel), fun h => by cases h⟩) (by decide +kernel) q
      repeat (refine ⟨by omega, ?_⟩)
      simpa [encE, ← pD_s] using r
    · simp [f_law_pieces, encE]
      refine ihx (by omega) he.1 (by omega) 0 (by omega) hs (by omega) fun ps a1 b1 c1 s1 r1 => ?_
      have l1 := r1.2
      simp
      repeat (refine ⟨by omega, ?_⟩)
      refine ihy (by omega) he.2 (by omega) 0 (by omega) s1 (by omega) fun qs a2 b2 c2 s2 r2 => ?_
      have l2 := r2.2
      simp [f_law_pieces_J1, pD_open, pD_close, pD_comma]
      have r := row_done (k := k) (c := c2) (p1 := some (.d (encE (.bi true x y)))) (p4 := none) (by omega) s2 (B' := B + (1 + szE x + szE y)) (by omega) (by omega) (.bi true x y) he least hl (wl (binS true) :: [40] :: (ps ++ [44] :: (qs ++ [[41]]))) (by simp [szE]; omega) (by simp only [szE]; omega) (fun z => by cases z) (fun _ => gr_mono (.bi true (gr_mono (d' := max (wD x) (wD y)) r1.1 (by omega)) (gr_mono (d' := max (wD x) (wD y)) r2.1 (by omega))) (by simp only [wD, dpE]; omega)) "com" (propext ⟨fun h => absurd h (by decide +kernel), fun h => by cases h⟩) (by decide +kernel) q
      repeat (refine ⟨by omega, ?_⟩)
      simpa [encE, ← pD_s] using r

end K33
set_option maxRecDepth 100000
set_option maxHeartbeats 8000000
namespace Nd
end Nd
namespace Pw
end Pw
namespace Sp
end Sp
namespace K33
open PySem Rf Res Th Pn Nd Pw Sp
theorem tx_nil : Str.ofString "" = tx [] := by decide +kernel
theorem blk3 {y : Int} (h0 : 0 ≤ y) (h1 : y < 3) : ∃ n : Nat, n ≤ 2 ∧ L2.atI [PyData.str (Str.ofString ""), .str (Str.ofString " "), .str (Str.ofString "  ")] y = some (.str (tx (List.replicate n 32))) := by
  rcases (show y = 0 ∨ y = 1 ∨ y = 2 by omega) with rfl | rfl | rfl
  · exact ⟨0, by decide, by rw [show tx (List.replicate 0 32) = Str.ofString "" by decide +kernel]; rfl⟩
  · exact ⟨1, by decide, by rw [show tx (List.replicate 1 32) = Str.ofString " " by decide +kernel]; rfl⟩
  · exact ⟨2, by decide, by rw [show tx (List.replicate 2 32) = Str.ofString "  " by decide +kernel]; rfl⟩
theorem blk4 {y : Int} (h0 : 0 ≤ y) (h1 : y < 4) : ∃ n : Nat, n ≤ 2 ∧ L2.atI [PyData.str (Str.ofString ""), .str (Str.ofString ""), .str (Str.ofString " "), .str (Str.ofString "  ")] y = some (.str (tx (List.replicate n 32))) := by
  rcases (show y = 0 ∨ y = 1 ∨ y = 2 ∨ y = 3 by omega) with rfl | rfl | rfl | rfl
  · exact ⟨0, by decide, by rw [show tx (List.replicate 0 32) = Str.ofString "" by decide +kernel]; rfl⟩
  · exact ⟨0, by decide, by rw [show tx (List.replicate 0 32) = Str.ofString "" by decide +kernel]; rfl⟩
  · exact ⟨1, by decide, by rw [show tx (List.replicate 1 32) = Str.ofString " " by decide +kernel]; rfl⟩
  · exact ⟨2, by decide, by rw [show tx (List.replicate 2 32) = Str.ofString "  " by decide +kernel]; rfl⟩
def Spi (ps : List (List Nat)) (ns : List Int) (B : Nat) (qs : List (List Nat)) (ρ : Ro) : Prop := ∃ (p0 : List (List Nat)) (l ah : List Nat) (a b : Int) (c : Nat) (u v : Option PV), ps = p0 ++ qs ∧ Tx p0 l ∧ l.length ≤ 2 + 10 * p0.length ∧ (p0 = [] ∧ ah = [] ∨ p0.getLast? = some ah) ∧ Sok ns a b (B + 1 + p0.length) ∧ ρ = [some (stt ns a b c), some (.d (.list (ps.map pD))), some (.d (.str (tx smallL))), some (.d (.str (tx l))), some (.d (.str (tx ah))), u, v]
theorem pc_head {p : List Nat} (h : Pc p) : ∃ c w, p = c :: w ∧ ¬ dg c ∧ okc p := by
  cases h with
  | word c w h1 h2 =>
    refine ⟨c, w, rfl, by unfold lc dg at *; omega, fun d hd => ?_⟩
    rcases List.mem_cons.mp hd with rfl | hd
    · unfold lc at h1; omega
    · have := h2 d hd
      unfold lc dg at this; omega
  | sg c h => exact ⟨c, [], rfl, by unfold dg; omega, fun d hd => by simp at hd; omega⟩
  | pow n h1 h2 =>
    obtain ⟨ds, e1, e2, _⟩ := num_facts (n := n) h1 h2
    refine ⟨94, _, rfl, by decide, fun d hd => ?_⟩
    rcases List.mem_cons.mp hd with rfl | hd
    · omega
    · rw [e1] at hd
      rcases List.mem_append.mp hd with h | h
      · unfold sgn at h; split at h <;> simp at h; omega
      · have := e2.2.2.1 d h
        unfold dg at this; omega
theorem st_32 {q : List Nat} {m : Nat} {p : List Nat} (h : 1 ≤ m) : St q (List.replicate m 32 ++ p) := by
  obtain ⟨m, rfl⟩ := Nat.exists_eq_add_of_le' h
  exact St_free (by intro d hd; rw [List.replicate_succ] at hd; simp at hd; subst hd; decide)
theorem tx_blanks {ps : List (List Nat)} {l : List Nat} (h : Tx ps l) : ∀ m : Nat, Tx ps (List.replicate m 32 ++ l)
  | 0 => by simpa using h
  | m + 1 => by rw [List.replicate_succ]; exact tx_blank (tx_blanks h m)
theorem cut1_tx (c : Nat) (w : List Nat) : L2.cutS (tx (c :: w)) none (some 1) = tx [c] := by
  have := sl_mid (l := c :: w) (pre := []) (w := [c]) (post := w) rfl
  exact this
theorem cut1_nil : L2.cutS (tx []) none (some 1) = tx [] := by decide +kernel
theorem in_nil {l : List Nat} {L : Bool → Prop} (h : cmpS .In (.str (tx [])) (.str (tx l)) = ok true) : Cop .In (.str (tx [])) (.str (tx l)) L ↔ L true := by
  unfold Cop
  rw [h]
  exact oex
theorem in_nil_small : cmpS .In (.str (tx [])) (.str (tx smallL)) = ok true := by
  show ok (!(Builtin.Str.occurrences (tx smallL) (tx []) 0 (tx smallL).length 1).isEmpty) = ok true
  rw [show (!(Builtin.Str.occurrences (tx smallL) (tx []) 0 (tx smallL).length 1).isEmpty) = true by decide +kernel]
theorem w_spaced {ps : List (List Nat)} (hp : ∀ p ∈ ps, Pc p ∧ p.length ≤ 8) (hl : ps.length ≤ 1000) {f : Nat} (hf : 2 ≤ f) {ns : List Int} {a b : Int} {c B : Nat} (hs : Sok ns a b B) (hB : B + 2 + ps.length < 2 ^ 30) {Q : PV → Ro → Prop}
    (q : ∀ (l : List Nat) (a' b' : Int) (c' : Nat), Sok ns a' b' (B + 2 + ps.length) → Tx ps l → l.length ≤ 4 + 10 * ps.length → Q (.d (.str (tx l))) [some (stt ns a' b' c'), none]) :
    Cl (run prg G f) 20 [stt ns a b c, .d (.list (ps.map pD))] Q := by
  obtain ⟨k, rfl⟩ := Nat.exists_eq_add_of_le' (show 1 ≤ f by omega)
  refine run_W (d := f_law_spaced) rfl rfl ?_
  simp [f_law_spaced]
  refine w_sdraw (f := k) (by omega) hs (by omega) (many := 3) (by omega) (by omega) fun y a1 b1 c1 s1 y0 y1 => ?_
  obtain ⟨n, hn, en⟩ := blk3 y0 y1
  simp [en]
  refine W_for.mpr ?_
  simp [small_tx, tx_nil]
  refine for_typed pD (Spi ps ns B) ?_ ?_ _ _ ⟨[], List.replicate n 32, [], a1, b1, c1, none, none, rfl, .nil n, by simp; omega, .inl ⟨rfl, rfl⟩, s1, rfl⟩
  · rintro ρ ⟨p0, l, ah, a2, b2, c2, u, v, h1, h2, h3, h4, s2, rfl⟩
    simp at h1
    subst h1
    simp [f_law_spaced_R1]
    refine w_sdraw (f := k) (by omega) s2 (by omega) (many := 3) (by omega) (by omega) fun z a3 b3 c3 s3 z0 z1 => ?_
    obtain ⟨m, hm, em⟩ := blk3 z0 z1
    simp [em]
    refine ⟨by omega, ?_⟩
    refine q _ a3 b3 c3 ⟨s3.1, s3.2.1, s3.2.2.1, s3.2.2.2.1, s3.2.2.2.2.1, by have := s3.2.2.2.2.2; omega⟩ ?_ (by simp; omega)
    have := tx_append h2 (.nil m) fun q _ => by
      cases m with
      | zero => exact fun c _ d hd => by cases hd
      | succ m => simpa using st_32 (q := q) (m := m + 1) (p := []) (by omega)
    simpa using this
  · rintro p qs ρ ⟨p0, l, ah, a2, b2, c2, u, v, h1, h2, h3, h4, s2, rfl⟩
    refine ⟨_, rfl, ?_⟩
    simp [f_law_spaced_B1]
    refine w_sdraw (f := k) (by omega) s2 (by rw [h1] at hB; simp at hB; omega) (many := 4) (by omega) (by omega) fun z a3 b3 c3 s3 z0 z1 => ?_
    obtain ⟨m, hm, em⟩ := blk4 z0 z1
    obtain ⟨pc, p8⟩ := hp p (by rw [h1]; simp)
    have hlen : ps.length = p0.length + 1 + qs.length := by rw [h1]; simp; omega
    have fin : ∀ m' : Nat, m' ≤ 2 → (∀ q, p0.getLast? = some q → St q (List.replicate m' 32 ++ p)) → Rf.W (run prg G k) G f_law_spaced_J1 [some (stt ns a3 b3 c3), some (.d (.list (ps.map pD))), some (.d (.str (tx smallL))), some (.d (.str (tx l))), some (.d (.str (tx ah))), some (.d (pD p)), some (.d (.str (tx (List.replicate m' 32))))] (Tu (Spi ps ns B qs) (Qs (run prg G k) G f_law_spaced_R1 (Rt [0] 2 Q))) := fun m' hm' hb => by
      have e : Tx (p0 ++ [p]) (l ++ (List.replicate m' 32 ++ p)) := tx_append h2 (tx_blanks (tx_one pc) m') hb
      simp [f_law_spaced_J1, pD]
      refine ⟨by omega, by omega, p0 ++ [p], l ++ (List.replicate m' 32 ++ p), p, a3, b3, c3, _, _, by rw [h1]; simp, e, by simp; omega, .inr (by simp), ⟨s3.1, s3.2.1, s3.2.2.1, s3.2.2.2.1, s3.2.2.2.2.1, by have := s3.2.2.2.2.2; simp; omega⟩, by simp; exact ⟨rfl, rfl⟩⟩
    simp [em]
    rcases h4 with ⟨rfl, rfl⟩ | h4
    · rw [cut1_nil]
      simp [in_nil in_nil_small, tx_nil, show PyData.strOk (tx []) = true by decide +kernel]
      exact fin m hm fun q hq => by cases hq
    · have hm0 : ah ∈ ps := by rw [h1]; exact List.mem_append_left _ (List.mem_of_getLast? h4)
      obtain ⟨pa, pa8⟩ := hp ah hm0
      obtain ⟨c, w, rfl, nc, ok1⟩ := pc_head pa
      obtain ⟨d, v', rfl, nd, ok2⟩ := pc_head pc
      have okb : okc (List.replicate m 32) := fun x hx => by have := List.eq_of_mem_replicate hx; omega
      have hi := fun M => Iop_tx0 (c := d) (l := v') (by omega) (M := M)
      refine ⟨by omega, ?_⟩
      rw [cut1_tx, in_tx]
      by_cases c1 : c ∈ smallL
      · rw [if_pos (by simpa using c1)]
        refine ⟨strOk_tx ok1, ?_⟩
        rw [if_neg (by rw [tx_nil, tx_eq]; simp)]
        unfold pD
        rw [hi, in_tx]
        by_cases d1 : d ∈ smallL
        · rw [if_pos (by simpa using d1)]
          refine ⟨strOk_tx okb, ?_⟩
          by_cases m0 : m = 0
          · subst m0
            rw [if_pos (by rw [tx_nil]; rfl)]
            have := fin 1 (by omega) fun q _ => st_32 (by omega)
            rw [show Str.ofString " " = tx (List.replicate 1 32) by decide +kernel]
            exact this
          · rw [if_neg (by rw [tx_nil, tx_eq]; simp; exact m0)]
            exact fin m hm fun q _ => st_32 (by omega)
        · rw [if_neg (by simpa using d1)]
          refine fin m hm fun q hq => ?_
          rw [h4] at hq
          cases hq
          by_cases m0 : m = 0
          · subst m0
            exact St_free (by intro x hx; simp at hx; subst hx; exact ⟨fun h => d1 (mem_small.mpr h), nd⟩)
          · exact st_32 (by omega)
      · rw [if_neg (by simpa using c1)]
        refine fin m hm fun q hq => ?_
        rw [h4] at hq
        cases hq
        by_cases m0 : m = 0
        · subst m0
          intro x hx y hy
          simp at hx hy
          subst hx hy
          exact ⟨fun h => absurd (mem_small.mpr h) c1, fun _ => nd⟩
        · exact st_32 (by omega)

end K33
set_option maxRecDepth 100000
set_option maxHeartbeats 8000000
namespace Nd
end Nd
namespace Pw
end Pw
namespace Sp
end Sp
namespace K33
open PySem Rf Res Th Pn Nd Pw Sp
theorem gr_short {t : Bool} {e : Ex} {ps : List (List Nat)} {d : Nat} (h : Gr t e ps d) : ∀ p ∈ ps, p.length ≤ 8 := by
  have hn : ∀ n : Int, -999 ≤ n → n ≤ 999 → (numL n).length ≤ 5 := fun n h1 h2 => (num_ok (n := n) (by omega) (by omega) (by omega)).1
  have hu : ∀ b, (wl (unS b)).length ≤ 8 := fun b => by cases b <;> decide
  have hb : ∀ b, (wl (binS b)).length ≤ 8 := fun b => by cases b <;> decide
  induction h with
  | one d => intro p hp; simp at hp; subst hp; decide
  | move n d h1 h2 =>
    intro p hp; simp at hp; subst hp
    have := hn n (by omega) h2
    simp only [List.length_cons]; omega
  | name w d h =>
    intro p hp; simp at hp; subst hp
    have := h.2.1
    omega
  | grp _ ih =>
    intro p hp
    simp at hp
    rcases hp with rfl | hp | rfl
    · simp
    · exact ih p hp
    · simp
  | un h _ ih =>
    intro p hp
    simp at hp
    rcases hp with rfl | rfl | hp | rfl
    · exact hu h
    · simp
    · exact ih p hp
    · simp
  | bi c _ _ ih1 ih2 =>
    intro p hp
    simp at hp
    rcases hp with rfl | rfl | hp | rfl | hp | rfl
    · exact hb c
    · simp
    · exact ih1 p hp
    · simp
    · exact ih2 p hp
    · simp
  | back _ ih =>
    intro p hp
    simp at hp
    rcases hp with hp | rfl
    · exact ih p hp
    · simp
  | pow n _ h1 h2 ih =>
    intro p hp
    simp at hp
    rcases hp with hp | rfl
    · exact ih p hp
    · have := hn n h1 h2
      simp only [List.length_cons]; omega
  | up _ ih => exact ih
  | snoc _ _ ih1 ih2 =>
    intro p hp
    rcases List.mem_append.mp hp with h | h
    · exact ih1 p h
    · exact ih2 p h
theorem tx_wrap {ps : List (List Nat)} {l : List Nat} (h : Tx ps l) : ∀ m : Nat, Tx (wrap m ps) (List.replicate m 40 ++ l ++ List.replicate m 41)
  | 0 => by simpa [wrap] using h
  | m + 1 => by
    have := tx_group (tx_wrap h m)
    rw [wrap_succ, List.replicate_succ, List.replicate_succ']
    simpa using this
theorem repT_tx (n c : Nat) : repT n (tx [c]) = tx (List.replicate n c) := by
  have : ∀ (n : Nat) (acc : Array Nat), (List.replicate n (#[c] : Array Nat)).foldl (· ++ ·) acc = acc ++ (List.replicate n c).toArray := fun n => by
    induction n with
    | zero => intro acc; simp
    | succ n ih =>
      intro acc
      rw [List.replicate_succ, List.foldl_cons, ih, List.replicate_succ]
      apply Array.ext'
      simp
  show Str.mk _ = Str.mk _
  congr 1
  have := this n #[]
  rw [show (tx [c]).cps = #[c] from rfl, this]
  simp
def fuel : Nat := 200
theorem law_ok (ns : List Int) (hl : ns.length ≤ 63) (hb : ∀ z ∈ ns, Builtin.Int.intBits z ≤ 1048576) : ∃ os, run prg G fuel 21 [.d (scriptD ns)] = ok (.d (.bool true), os) := by
  suffices h : Cl (run prg G 200) 21 [.d (scriptD ns)] fun r os => r = .d (.bool true) by
    obtain ⟨r, os, e, rfl⟩ := h
    exact ⟨os, e⟩
  refine run_W (n := 199) (d := f_law) rfl rfl ?_
  have es : scriptD ns = .list (ns.map .int) := rfl
  rw [es]
  simp [f_law]
  have hs : Sok ns 0 0 0 := ⟨hl, hb, by decide, by decide +kernel, by decide, by decide⟩
  refine w_expr 10 30 (f := 199) (by decide) (by decide) (by decide) hs (by decide) fun x a b c s1 g1 g2 g3 => ?_
  simp
  refine w_expr 10 30 (f := 199) (by decide) (by decide) (by decide) s1 (by decide) fun y a' b' c' s2 g1' g2' g3' => ?_
  simp
  refine w_pieces x (f := 199) (by omega) g1 (by omega) 0 (by decide) s2 (by omega) fun ps a3 b3 c3 s3 r3 => ?_
  simp
  have l3 := r3.2
  refine w_spaced (f := 199) (fun p hp => ⟨gr_pc r3.1 p hp, gr_short r3.1 p hp⟩) (by omega) (by decide) s3 (by omega) fun l a4 b4 c4 s4 t4 h4 => ?_
  simp
  have fin : ∀ (ps : List (List Nat)) (l : List Nat) (d : Nat) (p : Option PV) (a b : Int) (c B : Nat), Tx ps l → Gr false x ps d → d ≤ 42 → l.length ≤ 100000 → Sok ns a b B → B ≤ 2 ^ 20 → Rf.W (run prg G 199) G f_law_J1 [some (.d (.list (ns.map .int))), some (stt ns a b c), some (.d (encE x)), some (.d (encE y)), some (.d (.str (tx l))), p] (Rt [] 1 fun r os => r = .d (.bool true)) := by
    intro ps l d p a b c B ht hg hd hlen hs hB
    have e1 := r_read ht hg hlen 199 (by omega)
    have e2 := r_alike x 199 g1 (by omega)
    have e3 := r_alike y 199 g1' (by omega)
    have e4 := r_text x 199 g1 (by omega) (by omega)
    obtain ⟨qs, m, eq, tq, gq⟩ := lex_any (lex_txt x g1)
    have hm : m.length ≤ 100000 := by
      have := (txt_ok x g1).1
      rw [eq] at this
      have e : (tx m).length = m.length := by simp [tx, Str.length]
      omega
    have e5 := r_read tq gq hm 199 (by omega)
    rw [eq] at e4
    simp [f_law_J1, Cl_eq e1, Cl_eq e2]
    refine w_pieces y (f := 199) (by omega) g1' (by omega) 0 (by decide) hs (by omega) fun ps a3 b3 c3 s3 r3 => ?_
    simp
    have l3 := r3.2
    refine w_spaced (f := 199) (fun p hp => ⟨gr_pc r3.1 p hp, gr_short r3.1 p hp⟩) (by omega) (by decide) s3 (by omega) fun l a4 b4 c4 s4 t4 h4 => ?_
    simp
    have e6 := r_read t4 r3.1 (by omega) 199 (by unfold wD; omega)
    simp [Cl_eq e6, Cl_eq e3, Cl_eq e1, Cl_eq e2, Cl_eq e4, Cl_eq e5]
  refine w_sdraw (f := 199) (by omega) s4 (by omega) (many := 8) (by omega) (by omega) fun z a5 b5 c5 s5 z0 z1 => ?_
  by_cases hz : z = 0
  · simp [hz]
    refine w_sdraw (f := 199) (by omega) s5 (by omega) (many := 10) (by omega) (by omega) fun v a6 b6 c6 s6 v0 v1 => ?_
    obtain ⟨m, rfl⟩ := Int.eq_ofNat_of_zero_le v0
    simp [s_open, s_close]
    rw [show ((1 : Int) + m).toNat = m + 1 by omega, repT_tx, repT_tx]
    simp
    refine ⟨⟨by omega, by omega⟩, by omega, ⟨by omega, by omega⟩, by omega, ?_⟩
    have := fin (wrap (m + 1) ps) _ (wD x + (m + 1)) (some (.d (.int (1 + m)))) a6 b6 c6 _ (tx_wrap t4 (m + 1)) (gr_wrap r3.1 (m + 1)) (by unfold wD; omega) (by simp; omega) s6 (by omega)
    simpa using this
  · simp [hz]
    exact fin ps l _ _ _ _ _ _ t4 r3.1 (by unfold wD; omega) (by omega) s5 (by omega)

end K33
open PySem PySem.W PyProof.Rows
set_option maxHeartbeats 0 in
theorem PySem.Challenge.cw_halvewright_k33_read_with_more_holds : PySem.Challenge.rw_halvewright_k33_read_with_more.Holds := by
  w_on; o_law; k_head; (case hw => w_witness2)
  k_fill
  refine Rf.walkR (l := PySem.Challenge.rw_halvewright_k33_read_with_more) (m := 63) (k := K33.fuel) (f := 21) (x := "_law_script") (T := Rf.run K33.prg K33.G K33.fuel) rfl (by decide) rfl ⟨by decide, by decide, by decide⟩ (fun w h Y => PySem.W.kIn_of Y) ?F K33.law_ok
  case F =>
    intro w mg fa h KX GN hmg
    refine Rf.law_mk (d := K33.f_law) (h := h) (K33.defs ⟨?d0, ?d1, ?d2, ?d3, ?d4, ?d5, ?d6, ?d7, ?d8, ?d9, ?d10, ?d11, ?d12, ?d13, ?d14, ?d15, ?d16, ?d17, ?d18, ?d19, ?d20, ?d21⟩) (K33.blts ⟨PySem.W.mg_none_of KX GN ?b0, PySem.W.mg_none_of KX GN ?b1, PySem.W.mg_none_of KX GN ?b2, PySem.W.mg_none_of KX GN ?b3, PySem.W.mg_none_of KX GN ?b4, PySem.W.mg_none_of KX GN ?b5, PySem.W.mg_none_of KX GN ?b6, PySem.W.mg_none_of KX GN ?b7, PySem.W.mg_none_of KX GN ?b8, PySem.W.mg_none_of KX GN ?b9, PySem.W.mg_none_of KX GN ?b10, PySem.W.mg_none_of KX GN ?b11, PySem.W.mg_none_of KX GN ?b12, PySem.W.mg_none_of KX GN ?b13, PySem.W.mg_none_of KX GN ?b14, PySem.W.mg_none_of KX GN ?b15, PySem.W.mg_none_of KX GN ?b16, PySem.W.mg_none_of KX GN ?b17⟩) (K33.glOk ⟨?zq0, ?zq1, ?zq2⟩) rfl hmg rfl rfl rfl
    (case zq0 => refine' Rf.gl_str KX GN (x := "SMALL") ?wq0; (case wq0 => k_is))
    (case zq1 => refine' Rf.gl_str KX GN (x := "FIGURES") ?wq0; (case wq0 => k_is))
    (case zq2 => refine' Rf.gl_tup KX GN (x := "TAKEN") ?wq0 ?vt0; (case wq0 => k_is); (case vt0 => refine' Rf.v_tup ?wl ?wz ?wh; (case wl => k_is); (case wz => decide); (case wh => refine' ⟨Rf.v_str, Rf.v_str, Rf.v_str, Rf.v_str, Rf.v_str, True.intro⟩)))
    (case d0 => refine' Rf.def_mk KX GN (x := "is_name") (st := K33.topS 7) (ps := ["text"]) ?a ?l ?c ?k rfl rfl (fun _ _ _ _ _ _ us hl => match us, hl with | [_], _ => rfl) K33.c_is_name; (case a => k_is); (case l => k_is); (case c => k_is); (case k => k_is))
    (case d1 => refine' Rf.def_mk KX GN (x := "is_number") (st := K33.topS 8) (ps := ["text"]) ?a ?l ?c ?k rfl rfl (fun _ _ _ _ _ _ us hl => match us, hl with | [_], _ => rfl) K33.c_is_number; (case a => k_is); (case l => k_is); (case c => k_is); (case k => k_is))
    (case d2 => refine' Rf.def_mk KX GN (x := "run_end") (st := K33.topS 9) (ps := ["text", "at", "signs"]) ?a ?l ?c ?k rfl rfl (fun _ _ _ _ _ _ us hl => match us, hl with | [_, _, _], _ => rfl) K33.c_run_end; (case a => k_is); (case l => k_is); (case c => k_is); (case k => k_is))
    (case d3 => refine' Rf.def_mk KX GN (x := "power_end") (st := K33.topS 10) (ps := ["text", "at"]) ?a ?l ?c ?k rfl rfl (fun _ _ _ _ _ _ us hl => match us, hl with | [_, _], _ => rfl) K33.c_power_end; (case a => k_is); (case l => k_is); (case c => k_is); (case k => k_is))
    (case d4 => refine' Rf.def_mk KX GN (x := "pieces_of") (st := K33.topS 11) (ps := ["text"]) ?a ?l ?c ?k rfl rfl (fun _ _ _ _ _ _ us hl => match us, hl with | [_], _ => rfl) K33.c_pieces_of; (case a => k_is); (case l => k_is); (case c => k_is); (case k => k_is))
    (case d5 => refine' Rf.def_mk KX GN (x := "word_of") (st := K33.topS 12) (ps := ["piece"]) ?a ?l ?c ?k rfl rfl (fun _ _ _ _ _ _ us hl => match us, hl with | [_], _ => rfl) K33.c_word_of; (case a => k_is); (case l => k_is); (case c => k_is); (case k => k_is))
    (case d6 => refine' Rf.def_mk KX GN (x := "past") (st := K33.topS 13) (ps := ["pieces", "at", "sign"]) ?a ?l ?c ?k rfl rfl (fun _ _ _ _ _ _ us hl => match us, hl with | [_, _, _], _ => rfl) K33.c_past; (case a => k_is); (case l => k_is); (case c => k_is); (case k => k_is))
    (case d7 => refine' Rf.def_mk KX GN (x := "bracket") (st := K33.topS 14) (ps := ["pieces", "at"]) ?a ?l ?c ?k rfl rfl (fun _ _ _ _ _ _ us hl => match us, hl with | [_, _], _ => rfl) K33.c_bracket; (case a => k_is); (case l => k_is); (case c => k_is); (case k => k_is))
    (case d8 => refine' Rf.def_mk KX GN (x := "part") (st := K33.topS 15) (ps := ["pieces", "at"]) ?a ?l ?c ?k rfl rfl (fun _ _ _ _ _ _ us hl => match us, hl with | [_, _], _ => rfl) K33.c_part; (case a => k_is); (case l => k_is); (case c => k_is); (case k => k_is))
    (case d9 => refine' Rf.def_mk KX GN (x := "chain") (st := K33.topS 16) (ps := ["pieces", "at"]) ?a ?l ?c ?k rfl rfl (fun _ _ _ _ _ _ us hl => match us, hl with | [_, _], _ => rfl) K33.c_chain; (case a => k_is); (case l => k_is); (case c => k_is); (case k => k_is))
    (case d10 => refine' Rf.def_mk KX GN (x := "read_expr") (st := K33.topS 17) (ps := ["text"]) ?a ?l ?c ?k rfl rfl (fun _ _ _ _ _ _ us hl => match us, hl with | [_], _ => rfl) K33.c_read_expr; (case a => k_is); (case l => k_is); (case c => k_is); (case k => k_is))
    (case d11 => refine' Rf.def_mk KX GN (x := "held") (st := K33.topS 19) (ps := ["expr"]) ?a ?l ?c ?k rfl rfl (fun _ _ _ _ _ _ us hl => match us, hl with | [_], _ => rfl) K33.c_held; (case a => k_is); (case l => k_is); (case c => k_is); (case k => k_is))
    (case d12 => refine' Rf.def_mk KX GN (x := "power_text") (st := K33.topS 20) (ps := ["n"]) ?a ?l ?c ?k rfl rfl (fun _ _ _ _ _ _ us hl => match us, hl with | [_], _ => rfl) K33.c_power_text; (case a => k_is); (case l => k_is); (case c => k_is); (case k => k_is))
    (case d13 => refine' Rf.def_mk KX GN (x := "expr_text") (st := K33.topS 21) (ps := ["expr"]) ?a ?l ?c ?k rfl rfl (fun _ _ _ _ _ _ us hl => match us, hl with | [_], _ => rfl) K33.c_expr_text; (case a => k_is); (case l => k_is); (case c => k_is); (case k => k_is))
    (case d14 => refine' Rf.def_mk KX GN (x := "_law_draw") (st := K33.topS 23) (ps := ["_law_state", "_law_many"]) ?a ?l ?c ?k rfl rfl (fun _ _ _ _ _ _ us hl => match us, hl with | [_, _], _ => rfl) K33.c_law_draw; (case a => k_is); (case l => k_is); (case c => k_is); (case k => k_is))
    (case d15 => refine' Rf.def_mk KX GN (x := "_law_name") (st := K33.topS 24) (ps := ["_law_state"]) ?a ?l ?c ?k rfl rfl (fun _ _ _ _ _ _ us hl => match us, hl with | [_], _ => rfl) K33.c_law_name; (case a => k_is); (case l => k_is); (case c => k_is); (case k => k_is))
    (case d16 => refine' Rf.def_mk KX GN (x := "_law_leaf") (st := K33.topS 25) (ps := ["_law_state"]) ?a ?l ?c ?k rfl rfl (fun _ _ _ _ _ _ us hl => match us, hl with | [_], _ => rfl) K33.c_law_leaf; (case a => k_is); (case l => k_is); (case c => k_is); (case k => k_is))
    (case d17 => refine' Rf.def_mk KX GN (x := "_law_expr") (st := K33.topS 26) (ps := ["_law_state", "_law_room", "_law_deep"]) ?a ?l ?c ?k rfl rfl (fun _ _ _ _ _ _ us hl => match us, hl with | [_, _, _], _ => rfl) K33.c_law_expr; (case a => k_is); (case l => k_is); (case c => k_is); (case k => k_is))
    (case d18 => refine' Rf.def_mk KX GN (x := "_law_alike") (st := K33.topS 27) (ps := ["_law_found", "_law_due"]) ?a ?l ?c ?k rfl rfl (fun _ _ _ _ _ _ us hl => match us, hl with | [_, _], _ => rfl) K33.c_law_alike; (case a => k_is); (case l => k_is); (case c => k_is); (case k => k_is))
    (case d19 => refine' Rf.def_mk KX GN (x := "_law_pieces") (st := K33.topS 28) (ps := ["_law_state", "_law_expr_here", "_law_least"]) ?a ?l ?c ?k rfl rfl (fun _ _ _ _ _ _ us hl => match us, hl with | [_, _, _], _ => rfl) K33.c_law_pieces; (case a => k_is); (case l => k_is); (case c => k_is); (case k => k_is))
    (case d20 => refine' Rf.def_mk KX GN (x := "_law_spaced") (st := K33.topS 29) (ps := ["_law_state", "_law_bits"]) ?a ?l ?c ?k rfl rfl (fun _ _ _ _ _ _ us hl => match us, hl with | [_, _], _ => rfl) K33.c_law_spaced; (case a => k_is); (case l => k_is); (case c => k_is); (case k => k_is))
    (case d21 => refine' Rf.def_mk KX GN (x := "law") (st := K33.topS 30) (ps := ["_law_script"]) ?a ?l ?c ?k rfl rfl (fun _ _ _ _ _ _ us hl => match us, hl with | [_], _ => rfl) K33.c_law; (case a => k_is); (case l => k_is); (case c => k_is); (case k => k_is))
    (case b0 => k_is)
    (case b1 => k_is)
    (case b2 => k_is)
    (case b3 => k_is)
    (case b4 => k_is)
    (case b5 => k_is)
    (case b6 => k_is)
    (case b7 => k_is)
    (case b8 => k_is)
    (case b9 => k_is)
    (case b10 => k_is)
    (case b11 => k_is)
    (case b12 => k_is)
    (case b13 => k_is)
    (case b14 => k_is)
    (case b15 => k_is)
    (case b16 => k_is)
    (case b17 => k_is)
