import PyProof.Rows.All
import Wide.All
import OpenK.AllK
import Wide.FinOn
import HandS.ForMost
import HandS.RevTup
import HandS.Rev
import HandS.Zip
import KE.KDictZip
import KE.KDictList
import KE.GoesMore
import PyProof.EnumMake
import KE.GoesZip
import KE.KSortTupG
import KE.SortLaws
import HandS.Sort
import HandS.SortInts
import HandS.Style
import HandS.Evl
import HandS.Exc
import HandS.ExcOwn
import HandS.TryOnly
import HandS.IsInst
import HandS.ExcIs
import HandS.WordsExc
import KE.KExcIs
import HandS.Deep
import HandS.WideBits
import HandS.Wide
import HandS.TupAny
import HandS.Flt
import HandS.StrMore
import HandS.NoneIn
import HandS.Replace
import HandS.ReplaceLit
import HandS.More
import HandS.Conv
import PyProof.Rows.StrRev
import HandS.EndBits
import KE.IntBitsLaws
import PySem.Challenge.RW_halvewright_k40_whole_where_a_map_rests
set_option Elab.async false
set_option linter.all false
set_option maxRecDepth 100000
set_option maxHeartbeats 2000000
namespace RX
open PySem PySem.Spec PyProof.Rows L2 RT
section
variable {prog : Program} {w : World} {A : Around} {E : Value → Shared → Prop} {s : Shared}
theorem extend_rev {it l : Addr} {items : Array Value} {R : Result → Shared → Prop} (hh : A.handled = none) (hit : s.heap.IsRevIter it l ((items.size : Int) - 1)) (hl : s.heap.IsList l items) (hne : l ≠ it) (hn : items.size ≤ sizeLine)
    (S : Addr) (hSi : S ≠ it) (hSl : S ≠ l) (res : Value) (c₀ : Nat) (hS : s.heap.get? S = some { cls := .type "list", data := .seq #[] c₀ })
    (hR : ∀ h' tk acc' c', (∀ b o, b ≠ S → b ≠ it → s.heap.get? b = some o → h'.get? b = some o) → h'.get? S = some { cls := .type "list", dict := none, data := .seq acc' c', slots := #[] } → ItemsOf (fun i v => items[items.size - 1 - i]? = some v) acc' items.size → R (.ok (.ret res)) { s with heap := h', toks := tk }) :
    wpAny (model prog w) A.in1 (Builtin.List.listExtendWith (.ref S) (.ref it) res)
      (fun fin s' => match fin with | .done f => R (.ok f) s' | .again c' => c'.quiet = true ∧ codeAny (model prog w) A c' R s') (fun e s' => R (.error e) s') s := by
  have W := (Walks.listRev (prog := prog) (w := w) (A := A.in1) hh it l hne items).toS
  have hSf : S ∉ [it, l] := by simp only [List.mem_cons, List.not_mem_nil, or_false, not_or]; exact ⟨hSi, hSl⟩
  have hT : s.TypeIs (.ref it) "list_reverseiterator" := hit.typeIs
  have h1 : Builtin.List.listSameRef (.ref S) (.ref it) = false := by simp [Builtin.List.listSameRef, hSi]
  unfold Builtin.List.listExtendWith
  refine wpAny_bind (wpAny_typeOf hT ?_)
  rw [if_neg (by rw [h1]; decide)]
  refine wpAny_bind (wpAny_pyIter_revIter hit ?_)
  refine wpAny_bind (wpAny_holding ?_)
  unfold Builtin.List.listLengthHint
  refine wpAny_bind (wpAny_specialOf hT nolen_lri ?_)
  show wpAny _ A.in1 (specialOf (Value.ref it) (Str.ofString "__length_hint__") >>= _) _ _ _
  refine wpAny_bind (wpAny_specialOf hT hint_lri ?_)
  generalize hid : ("list_reverseiterator.__length_hint__" : String) = id0
  wp_delta
  rw [show splitId id0 = some ("list_reverseiterator", "__length_hint__") from by subst hid; decide +kernel]
  subst hid
  refine wpAny_bind (wpAny_isInstance (b := true) hT (by rw [isSubtype_type]; kernel_rfl) ?_)
  refine wpAny_pure ?_
  rw [if_neg (by decide)]
  have e0 : ((items.size : Nat) : Int) - 1 - ((0 : Nat) : Int) = (items.size : Int) - 1 := by omega
  refine wpAny_pure ⟨plainId_quiet F.plain_extend_loop _, codeAny_extend_loopS W hn _ hSf _ items.size 0 _ _ _ rfl (Nat.zero_le _) ⟨Nat.zero_le _, by rw [e0]; exact hit, hl⟩ hS (ItemsOf.nil _) fun s' acc' c' hm hS' hacc => ?_⟩
  rw [Moved.eq_with hm]
  refine hR s'.heap s'.toks acc' c' (fun b o hb hb2 e => hm.heap b o (fun hmem => ?_) e) hS' hacc
  rcases List.mem_cons.mp hmem with e' | hmem
  · exact hb e'
  · exact hb2 (List.mem_singleton.mp hmem)
theorem init_rev {it l : Addr} {items : Array Value} {R : Result → Shared → Prop} (hh : A.handled = none) (hit : s.heap.IsRevIter it l ((items.size : Int) - 1)) (hl : s.heap.IsList l items) (hne : l ≠ it) (hn : items.size ≤ sizeLine)
    (S : Addr) (hSi : S ≠ it) (hSl : S ≠ l) (hS : s.heap.get? S = some { cls := .type "list", data := .seq #[] })
    (hR : ∀ h' tk acc' c', (∀ b o, b ≠ S → b ≠ it → s.heap.get? b = some o → h'.get? b = some o) → h'.get? S = some { cls := .type "list", dict := none, data := .seq acc' c', slots := #[] } → ItemsOf (fun i v => items[items.size - 1 - i]? = some v) acc' items.size → R (.ok (.ret .none)) { s with heap := h', toks := tk }) :
    wpAny (model prog w) A.in1 (Builtin.«list.__init__» ⟨[.ref S, .ref it], []⟩)
      (fun fin s' => match fin with | .done f => R (.ok f) s' | .again c' => c'.quiet = true ∧ codeAny (model prog w) A c' R s') (fun e s' => R (.error e) s') s := by
  show wpAny _ _ (do let old ← Builtin.List.listItems (.ref S); Builtin.List.listUpdate (.ref S) (fun _ => #[]); letGo old.toList.reverse; Builtin.List.listExtendWith (.ref S) (.ref it) .none) _ _ s
  refine wpAny_bind ?_
  unfold Builtin.List.listItems
  refine wpAny_bind (wpAny_seqItems hS rfl (wpAny_pure ?_))
  show wpAny _ _ (updateSeq S (fun _ => #[]) >>= fun _ => letGo (#[] : Array Value).toList.reverse >>= fun _ => Builtin.List.listExtendWith (.ref S) (.ref it) .none) _ _ s
  refine wpAny_bind (wpAny_updateSeq hS rfl ?_)
  have hS₂ := Heap.get?_update_self (Obj.mapSeq (fun _ => (#[] : Array Value))) hS rfl
  have oth : ∀ b o, b ≠ S → s.heap.get? b = some o → (s.heap.update S (Obj.mapSeq (fun _ => (#[] : Array Value)))).get? b = some o :=
    fun b o hb e => (Heap.get?_update_other _ _ (Ne.symm hb)).trans e
  refine wpAny_bind (wpAny_letGo ?_)
  have hit2 : (s.heap.update S (Obj.mapSeq (fun _ => (#[] : Array Value)))).IsRevIter it l ((items.size : Int) - 1) := hit.at fun o e => oth it o hSi.symm e
  have hl2 : (s.heap.update S (Obj.mapSeq (fun _ => (#[] : Array Value)))).IsList l items := by
    obtain ⟨o, ho, r⟩ := hl
    exact ⟨o, oth l o hSl.symm ho, r⟩
  exact extend_rev hh hit2 hl2 hne hn S hSi hSl .none _ hS₂ fun h' tk acc' c' hk hS' hacc => hR h' tk acc' c' (fun b o hb hb2 e => hk b o hb hb2 (oth b o hb e)) hS' hacc
theorem call_list_rev {it l : Addr} {items : Array Value} {Q : Value → Shared → Prop} (hh : A.handled = none) (hit : s.heap.IsRevIter it l ((items.size : Int) - 1)) (hl : s.heap.IsList l items) (hne : l ≠ it) (hn : items.size ≤ sizeLine)
    (hQ : ∀ h' tk acc' c', (∀ b o, b ≠ it → s.heap.get? b = some o → h'.get? b = some o) → h'.get? s.heap.objs.size = some { cls := .type "list", dict := none, data := .seq acc' c', slots := #[] } → ItemsOf (fun i v => items[items.size - 1 - i]? = some v) acc' items.size → Q (.ref s.heap.objs.size) { s with heap := h', toks := tk }) :
    wpAny (model prog w) A (call (.type "list") [.ref it]) Q E s := by
  refine callType_codes (Q₁ := fun obj s₁ => obj = .ref s.heap.objs.size ∧ s₁ = { s with heap := s.heap.push { cls := .type "list", data := .seq #[] } }) PySem.F.called_list (PySem.F.typeCall_list_1 _) PySem.F.entry_list_init
    (code_list_new _ ⟨rfl, rfl⟩) fun obj s₁ h₁ => ?_
  obtain ⟨rfl, rfl⟩ := h₁
  have hS : (s.heap.push { cls := .type "list", data := .seq #[] }).get? s.heap.objs.size = some { cls := .type "list", data := .seq #[] } := Heap.get?_push_size _ rfl
  obtain ⟨oi, hoi, _⟩ := id hit
  obtain ⟨ol, hol, _⟩ := id hl
  refine ⟨⟨_, hS, rfl⟩, PySem.F.args_list_init_2 _ _, init_rev (A := A.in1) hh (hit.at fun o e => Heap.get?_push_of_some _ e) (hl.push _) hne hn _ (Nat.ne_of_gt (Heap.lt_size hoi)) (Nat.ne_of_gt (Heap.lt_size hol)) hS fun h' tk acc' c' hk hS' hacc => ?_⟩
  exact ⟨rfl, hQ h' tk acc' c' (fun b o hb e => hk b o (Nat.ne_of_lt (Heap.lt_size e)) hb (Heap.get?_push_of_some _ e)) hS' hacc⟩
end
/-- list(reversed(x)), x a list -/
def tListRev (K : PySem.W.Frag) (te : TE) : TE := fun σ H Q => te σ H fun v H1 => ∃ (a : Addr) (xs : List V), v = .ref a ∧ SqL K H1 a xs ∧ ∀ q, H1 q = none → Q (.ref q) (upd H1 q (.lst xs.reverse))
section
variable {X : Cx}
theorem pe_listRev {e : Expr} {te : TE} {p p2 pos pos2 : Pos} (hc : X.calm = true) (hg : Gl X "list") (hm : X.mg "list" = none) (hg2 : Gl X "reversed") (hm2 : X.mg "reversed" = none) (he : PE X e te)
    (hs : starEach [e] X.env = (false, eval e X.env) :: starEach [] X.env := by rfl)
    (hs2 : starEach [.Call (.Name "reversed" p2) [e] [] pos2] X.env = (false, eval (.Call (.Name "reversed" p2) [e] [] pos2) X.env) :: starEach [] X.env := by rfl) :
    PE X (.Call (.Name "list" p) [.Call (.Name "reversed" p2) [e] [] pos2] [] pos) (tListRev X.K te) := by
  refine ⟨fun pins s σ H Q I h => ?_⟩
  refine Call_ (ld_blt I hg hm boot_list (PyProof.Rows.callWith_type1 (args_cons (Call_ (ld_blt I hg2 hm2 PyProof.Rows.boot_reversed (PyProof.Rows.callWith_type1 (args_cons (thn (he.run pins s σ H _ I h) fun u s1 ⟨v, H1, I1, r1, q1⟩ => args_nil ?_) hs) hs rfl))) hs2) hs2 rfl))
  obtain ⟨a, xs, ev, hq, q⟩ := q1
  subst ev
  obtain rfl : u = Value.ref a := r1
  obtain ⟨its, rv, p', hz⟩ := I1.list hq
  refine call_reversed_list p'.isList (args_nil ?_)
  have k0 : ∀ b o, s1.heap.get? b = some o → (s1.heap.push (revObj a ((its.toArray.size : Int) - 1))).get? b = some o := fun b o e => Heap.get?_push_of_some _ e
  have I2 : Inv X pins σ H1 { s1 with heap := s1.heap.push (revObj a ((its.toArray.size : Int) - 1)) } := I1.kept (t' := s1.toks) k0
  obtain ⟨f0, f1, f2, f3, f4, f5⟩ := I1.fpOk (H' := H1) (b := s1.heap.objs.size) (Nat.le_refl _) (I1.hok.fresh (Nat.le_refl _))
  have hl := p'.isList
  obtain ⟨ol, hol, _⟩ := id hl
  have hne : a ≠ s1.heap.objs.size := Nat.ne_of_lt (Heap.lt_size hol)
  have hn : its.toArray.size ≤ sizeLine := by rw [List.size_toArray, ← rv.length]; exact hz
  refine call_list_rev (s := { s1 with heap := s1.heap.push (revObj a ((its.toArray.size : Int) - 1)) }) (I1.ok.hd hc) ⟨_, Heap.get?_push_size _ rfl, rfl, rfl⟩ (hl.push _) hne hn fun h' tk acc c' hk hS hi => ?_
  have fresh2 : H1 ((s1.heap.push (revObj a ((its.toArray.size : Int) - 1))).objs.size) = none := I2.hok.fresh (Nat.le_refl _)
  refine ⟨.ref (s1.heap.push (revObj a ((its.toArray.size : Int) - 1))).objs.size, upd H1 (s1.heap.push (revObj a ((its.toArray.size : Int) - 1))).objs.size (.lst xs.reverse), ?_, rfl, q _ fresh2⟩
  have hob : ObjOk X.prog X.w (upd H1 (s1.heap.push (revObj a ((its.toArray.size : Int) - 1))).objs.size (.lst xs.reverse)) h' (s1.heap.push (revObj a ((its.toArray.size : Int) - 1))).objs.size (.lst xs.reverse) :=
    ⟨by rw [List.length_reverse]; exact hz, acc.toList, c', vals_rev rv hi, by rw [Array.toArray_toList]; exact hS⟩
  have hf : ∀ b ∈ [s1.heap.objs.size], FpOk X pins H1 b := fun b hb => by
    have e : b = s1.heap.objs.size := by simpa using hb
    subst e
    exact I1.fpOk (Nat.le_refl _) (I1.hok.fresh (Nat.le_refl _))
  exact I2.turnedNew (t' := tk) (ch := [s1.heap.objs.size]) (fun c o hb e => hk c o (by simpa using hb) e) hf (Nat.le_refl _) hob
end
abbrev Zst (h : Heap) (z TI TO : Addr) (x : Value) (f : Bool) : Prop :=
  h.get? z = some { cls := .type "zip", dict := none, data := .fields #[x, .bool f, .bool false, .ref TI, .ref TO], slots := #[] }
def ZFree (h : Heap) (x : Value) : Prop := x = .none ∨ ∃ T : Addr, x = rawInt T ∧ h.get? T = none
section
variable {prog : Program} {w : World} {A : Around} {E : Value → Shared → Prop} {s : Shared}
theorem look_dead {a : Addr} {Q : Option Obj → Shared → Prop} (ho : s.heap.get? a = none) (h : Q none s) : wpAny (model prog w) A (loadIfAlive a) Q E s := by
  have h' : Q (s.heap.get? a) s := ho ▸ h
  exact fun _ _ _ => h'
theorem own_free {z TI TO : Addr} {x : Value} {f : Bool} {Q : Bool → Shared → Prop} (hz : Zst s.heap z TI TO x f) (hx : ZFree s.heap x) (h : Q true s) : wpAny (model prog w) A (Builtin.SmallTypes.ownedTupleIsFree (.ref z)) Q E s := by
  unfold Builtin.SmallTypes.ownedTupleIsFree
  rcases hx with rfl | ⟨T, rfl, hT⟩
  · exact wpAny_bind (wpAny_field hz rfl (x := .none) rfl (wpAny_pure h))
  · refine wpAny_bind (wpAny_field hz rfl (x := rawInt T) rfl ?_)
    show wpAny _ _ (loadIfAlive ((T : Int).toNat) >>= _) _ _ _
    rw [Int.toNat_natCast]
    exact wpAny_bind (look_dead hT (wpAny_pure h))
theorem zfree_item {z TI TO p q l m : Addr} {x0 : Value} {f : Bool} {i j : Nat} {xs ys : Array Value} {x y a b : Value} {Q : Value → Shared → Prop} (D : ZipApart z TI TO p q l m) (hz : Zst s.heap z TI TO x0 f) (hf : ZFree s.heap x0)
    (hTI : IsPair s.heap TI (.ref p) (.ref q)) (hTO : IsPair s.heap TO a b) (hp : s.heap.IsListIter p l i) (hq : s.heap.IsListIter q m j) (hl : s.heap.IsList l xs) (hm : s.heap.IsList m ys) (hx : xs[i]? = some x) (hy : ys[j]? = some y)
    (hQ : ∀ h', Zst h' z TI TO (rawInt s.heap.objs.size) false → IsPair h' TO x y → h'.IsListIter p l (i + 1) → h'.IsListIter q m (j + 1) → IsPair h' s.heap.objs.size x y → h'.objs.size = s.heap.objs.size + 1 →
      (∀ c o, c ≠ z → c ≠ TO → c ≠ p → c ≠ q → s.heap.get? c = some o → h'.get? c = some o) → Q (.ref s.heap.objs.size) { s with heap := h' }) :
    wpAny (model prog w) A (Builtin.«zip.__next__» ⟨[.ref z], []⟩) (fun fin s' => ∃ v, fin = .done (.ret v) ∧ Q v s') E s := by
  show wpAny _ _ (field (.ref z) 2 >>= _) _ _ _
  refine wpAny_bind (wpAny_field hz rfl (x := .bool false) rfl ?_)
  show wpAny _ _ (field (.ref z) 3 >>= _) _ _ _
  refine wpAny_bind (wpAny_field hz rfl (x := .ref TI) rfl (wpAny_bind (wpAny_seqItems hTI rfl ?_)))
  show wpAny _ _ (Builtin.SmallTypes.ownedTupleIsFree (.ref z) >>= _) _ _ _
  refine wpAny_bind (own_free hz hf ?_)
  simp only [if_true]
  refine wpAny_bind (wpAny_rule (wpAny_bind (wpAny_field hz rfl (x := .ref TO) rfl (wpAny_bind (wpAny_setField_rec hz (by simp) fun g1 z1 s1 => ?_)))))
  replace z1 : Zst g1 z TI TO .ellipsis f := z1
  refine wpAny_bind ?_
  simp only [List.zipIdx_cons, List.zipIdx_nil, List.forIn_cons, List.forIn_nil]
  refine wpAny_bind (wpAny_bind (wpAny_onRaise ?_))
  show wpAny _ _ (Builtin.SmallTypes.nextOf (.ref p) >>= _) _ _ _
  refine wpAny_bind (wpAny_nextOf_list_item (hp.extBut s1.extBut D.i1z) (hl.extBut s1.extBut D.l1z) hx fun g2 p2 s2 => wpAny_pure ?_)
  have o2 : IsPair g2 TO a b := s2.extBut _ _ D.TOi1 (s1.extBut _ _ D.TOz hTO)
  refine wpAny_bind (wpAny_seqItems o2 rfl (wpAny_bind (wpAny_updateSeq_pair o2 fun g3 o3 s3 => ?_)))
  replace o3 : IsPair g3 TO x b := o3
  refine wpAny_bind (wpAny_letGo (wpAny_pure (wpAny_bind (wpAny_bind (wpAny_onRaise ?_)))))
  show wpAny _ _ (Builtin.SmallTypes.nextOf (.ref q) >>= _) _ _ _
  refine wpAny_bind (wpAny_nextOf_list_item (((hq.extBut s1.extBut D.i2z).extBut s2.extBut D.i12.symm).extBut s3.extBut D.TOi2.symm) (((hm.extBut s1.extBut D.l2z).extBut s2.extBut D.l2i1).extBut s3.extBut D.l2TO) hy fun g4 q4 s4 => wpAny_pure ?_)
  have o4 : IsPair g4 TO x b := s4.extBut _ _ D.TOi2 o3
  refine wpAny_bind (wpAny_seqItems o4 rfl (wpAny_bind (wpAny_updateSeq_pair o4 fun g5 o5 s5 => ?_)))
  replace o5 : IsPair g5 TO x y := o5
  refine wpAny_bind (wpAny_letGo (wpAny_pure (wpAny_pure (wpAny_bind (wpAny_seqItems o5 rfl (wpAny_bind (wpAny_newTuple ?_)))))))
  have e5 : g5.objs.size = s.heap.objs.size := by rw [s5.1, s4.1, s3.1, s2.1, s1.1]
  have z5 : Zst g5 z TI TO .ellipsis f := s5.extBut _ _ D.TOz.symm (s4.extBut _ _ D.i2z.symm (s3.extBut _ _ D.TOz.symm (s2.extBut _ _ D.i1z.symm z1)))
  have k5 : ∀ c o, c ≠ z → c ≠ TO → c ≠ p → c ≠ q → s.heap.get? c = some o → g5.get? c = some o := fun c o n1 n2 n3 n4 e => s5.extBut _ _ n2 (s4.extBut _ _ n4 (s3.extBut _ _ n2 (s2.extBut _ _ n3 (s1.extBut _ _ n1 e))))
  have p5 : g5.IsListIter p l (i + 1) := ((p2.extBut s3.extBut D.TOi1.symm).extBut s4.extBut D.i12).extBut s5.extBut D.TOi1.symm
  have q5 : g5.IsListIter q m (j + 1) := q4.extBut s5.extBut D.TOi2.symm
  have zl : z < g5.objs.size := Heap.lt_size z5
  show wpAny _ _ (Builtin.SmallTypes.ownedTupleHandOut (.ref z) (.ref g5.objs.size) >>= _) _ _ _
  refine wpAny_bind ?_
  unfold Builtin.SmallTypes.ownedTupleHandOut
  have z6 : Zst (g5.push { cls := .type "tuple", data := .seq #[x, y] }) z TI TO .ellipsis f := Heap.get?_push_of_some _ z5
  refine wpAny_bind (wpAny_setField_rec z6 (by simp) fun g7 z7 s7 => ?_)
  replace z7 : Zst g7 z TI TO (rawInt g5.objs.size) f := z7
  refine wpAny_setField_rec z7 (by simp) fun g8 z8 s8 => ?_
  replace z8 : Zst g8 z TI TO (rawInt g5.objs.size) false := z8
  have up : ∀ c o, c ≠ z → g5.get? c = some o → g8.get? c = some o := fun c o n1 e => s8.extBut _ _ n1 (s7.extBut _ _ n1 (Heap.get?_push_of_some _ e))
  have t8 : IsPair g8 g5.objs.size x y := s8.extBut _ _ (Nat.ne_of_gt zl) (s7.extBut _ _ (Nat.ne_of_gt zl) (Heap.get?_push_size _ rfl))
  have e8 : g8.objs.size = g5.objs.size + 1 := by rw [s8.1, s7.1, Heap.size_push]
  rw [e5] at z8 t8 e8
  refine wpAny_pure ⟨_, rfl, ?_⟩
  show Q (.ref g5.objs.size) _
  rw [e5]
  exact hQ g8 z8 (up _ _ D.TOz o5) (p5.at fun o e => up _ o D.i1z e) (q5.at fun o e => up _ o D.i2z e) t8 e8 fun c o n1 n2 n3 n4 e => up c o n1 (k5 c o n1 n2 n3 n4 e)
theorem zfree_end {z TI TO p q l m : Addr} {x0 : Value} {f : Bool} {i j : Nat} {xs ys : Array Value} {a b : Value} {Q : Fin → Shared → Prop} (hh : A.handled = none) (D : ZipApart z TI TO p q l m) (hz : Zst s.heap z TI TO x0 f) (hf : ZFree s.heap x0)
    (hTI : IsPair s.heap TI (.ref p) (.ref q)) (hTO : IsPair s.heap TO a b) (hp : s.heap.IsListIter p l i) (hq : s.heap.IsListIter q m j) (hl : s.heap.IsList l xs) (hm : s.heap.IsList m ys) (hend : xs[i]? = none ∨ ys[j]? = none)
    (hE : ∀ h' e, (∀ c o, c ≠ z → c ≠ TO → c ≠ p → c ≠ q → s.heap.get? c = some o → h'.get? c = some o) → (∃ o, h'.get? e = some o ∧ o.cls = .type "StopIteration") → E (.ref e) { s with heap := h' }) :
    wpAny (model prog w) A (Builtin.«zip.__next__» ⟨[.ref z], []⟩) Q E s := by
  show wpAny _ _ (field (.ref z) 2 >>= _) _ _ _
  refine wpAny_bind (wpAny_field hz rfl (x := .bool false) rfl ?_)
  show wpAny _ _ (field (.ref z) 3 >>= _) _ _ _
  refine wpAny_bind (wpAny_field hz rfl (x := .ref TI) rfl (wpAny_bind (wpAny_seqItems hTI rfl ?_)))
  show wpAny _ _ (Builtin.SmallTypes.ownedTupleIsFree (.ref z) >>= _) _ _ _
  refine wpAny_bind (own_free hz hf ?_)
  simp only [if_true]
  refine wpAny_bind (wpAny_rule (wpAny_bind (wpAny_field hz rfl (x := .ref TO) rfl (wpAny_bind (wpAny_setField_rec hz (by simp) fun g1 z1 s1 => ?_)))))
  replace z1 : Zst g1 z TI TO .ellipsis f := z1
  refine wpAny_bind ?_
  simp only [List.zipIdx_cons, List.zipIdx_nil, List.forIn_cons, List.forIn_nil]
  refine wpAny_bind (wpAny_bind (wpAny_onRaise ?_))
  show wpAny _ _ (Builtin.SmallTypes.nextOf (.ref p) >>= _) _ _ _
  cases hx : xs[i]? with
  | none =>
    refine wpAny_bind (wpAny_nextOf_list_end hh (hp.extBut s1.extBut D.i1z) (hl.extBut s1.extBut D.l1z) hx fun g2 e s2 he => ?_)
    obtain ⟨oe, h1, h2⟩ := he
    have z2 : Zst g2 z TI TO .ellipsis f := s2 _ _ D.i1z.symm z1
    have hez : e ≠ z := fun x => by subst x; rw [z2] at h1; cases h1; simp at h2
    exact wpAny_setField_rec z2 (by simp) fun g3 _ s3 => hE g3 e (fun c o n1 _ n3 _ x => s3.extBut _ _ n1 (s2 _ _ n3 (s1.extBut _ _ n1 x))) ⟨oe, s3.extBut _ _ hez h1, h2⟩
  | some x =>
    have hy : ys[j]? = none := by rcases hend with h | h; rw [hx] at h; cases h; exact h
    refine wpAny_bind (wpAny_nextOf_list_item (hp.extBut s1.extBut D.i1z) (hl.extBut s1.extBut D.l1z) hx fun g2 p2 s2 => wpAny_pure ?_)
    have o2 : IsPair g2 TO a b := s2.extBut _ _ D.TOi1 (s1.extBut _ _ D.TOz hTO)
    refine wpAny_bind (wpAny_seqItems o2 rfl (wpAny_bind (wpAny_updateSeq_pair o2 fun g3 o3 s3 => ?_)))
    refine wpAny_bind (wpAny_letGo (wpAny_pure (wpAny_bind (wpAny_bind (wpAny_onRaise ?_)))))
    show wpAny _ _ (Builtin.SmallTypes.nextOf (.ref q) >>= _) _ _ _
    refine wpAny_bind (wpAny_nextOf_list_end hh (((hq.extBut s1.extBut D.i2z).extBut s2.extBut D.i12.symm).extBut s3.extBut D.TOi2.symm) (((hm.extBut s1.extBut D.l2z).extBut s2.extBut D.l2i1).extBut s3.extBut D.l2TO) hy fun g4 e s4 he => ?_)
    obtain ⟨oe, h1, h2⟩ := he
    have z4 : Zst g4 z TI TO .ellipsis f := s4 _ _ D.i2z.symm (s3.extBut _ _ D.TOz.symm (s2.extBut _ _ D.i1z.symm z1))
    have hez : e ≠ z := fun x => by subst x; rw [z4] at h1; cases h1; simp at h2
    exact wpAny_setField_rec z4 (by simp) fun g5 _ s5 => hE g5 e (fun c o n1 n2 n3 n4 x => s5.extBut _ _ n1 (s4 _ _ n4 (s3.extBut _ _ n2 (s2.extBut _ _ n3 (s1.extBut _ _ n1 x))))) ⟨oe, s5.extBut _ _ hez h1, h2⟩
theorem pyNext_zfree_item {z TI TO p q l m : Addr} {x0 : Value} {f : Bool} {i j : Nat} {xs ys : Array Value} {x y a b : Value} {Q : Option Value → Shared → Prop} (D : ZipApart z TI TO p q l m) (hz : Zst s.heap z TI TO x0 f) (hf : ZFree s.heap x0)
    (hTI : IsPair s.heap TI (.ref p) (.ref q)) (hTO : IsPair s.heap TO a b) (hp : s.heap.IsListIter p l i) (hq : s.heap.IsListIter q m j) (hl : s.heap.IsList l xs) (hm : s.heap.IsList m ys) (hx : xs[i]? = some x) (hy : ys[j]? = some y)
    (hQ : ∀ h', Zst h' z TI TO (rawInt s.heap.objs.size) false → IsPair h' TO x y → h'.IsListIter p l (i + 1) → h'.IsListIter q m (j + 1) → IsPair h' s.heap.objs.size x y → h'.objs.size = s.heap.objs.size + 1 →
      (∀ c o, c ≠ z → c ≠ TO → c ≠ p → c ≠ q → s.heap.get? c = some o → h'.get? c = some o) → Q (some (.ref s.heap.objs.size)) { s with heap := h' }) :
    wpAny (model prog w) A (pyNext (.ref z)) Q E s := by
  have hT : s.TypeIs (.ref z) "zip" := ⟨_, hz, rfl⟩
  unfold pyNext
  exact wpAny_bind (wpAny_attempt (wpAny_callSpecial?_slot (name := Str.ofString "__next__") hT F.slot_zip_next
    (wpAny_call_entry F.slot_zip_next hT F.entry_zip_next (zfree_item D hz hf hTI hTO hp hq hl hm hx hy fun h' a1 a2 a3 a4 a5 a6 a7 => wpAny_pure (hQ h' a1 a2 a3 a4 a5 a6 a7)) (F.args_zip_next_1 _))))
theorem pyNext_zfree_end {z TI TO p q l m : Addr} {x0 : Value} {f : Bool} {i j : Nat} {xs ys : Array Value} {a b : Value} {Q : Option Value → Shared → Prop} (hh : A.handled = none) (D : ZipApart z TI TO p q l m) (hz : Zst s.heap z TI TO x0 f) (hf : ZFree s.heap x0)
    (hTI : IsPair s.heap TI (.ref p) (.ref q)) (hTO : IsPair s.heap TO a b) (hp : s.heap.IsListIter p l i) (hq : s.heap.IsListIter q m j) (hl : s.heap.IsList l xs) (hm : s.heap.IsList m ys) (hend : xs[i]? = none ∨ ys[j]? = none)
    (hQ : ∀ h', (∀ c o, c ≠ z → c ≠ TO → c ≠ p → c ≠ q → s.heap.get? c = some o → h'.get? c = some o) → Q none { s with heap := h' }) : wpAny (model prog w) A (pyNext (.ref z)) Q E s := by
  have hT : s.TypeIs (.ref z) "zip" := ⟨_, hz, rfl⟩
  unfold pyNext
  refine wpAny_bind (wpAny_attempt (wpAny_callSpecial?_slot (name := Str.ofString "__next__") hT F.slot_zip_next
    (wpAny_call_entry F.slot_zip_next hT F.entry_zip_next (zfree_end hh D hz hf hTI hTO hp hq hl hm hend fun h' e hk he => ?_) (F.args_zip_next_1 _))))
  obtain ⟨o, ho, hc⟩ := he
  exact wpAny_bind (wpAny_isInstance (T := "StopIteration") (b := true) ⟨o, ho, hc⟩ isSubtype_stop (wpAny_pure (hQ _ hk)))
end
def zipSt (z TI TO i1 i2 a b : Addr) (i : Nat) (h : Heap) : Prop := (∃ x f, Zst h z TI TO x f ∧ (x = .none ∨ ∃ T : Addr, x = rawInt T)) ∧ IsPair h TI (.ref i1) (.ref i2) ∧ (∃ x y, IsPair h TO x y) ∧ h.IsListIter i1 a i ∧ h.IsListIter i2 b i
theorem turn_zipN {P : Program} {w : World} {K : PySem.W.Frag} {n : Str} {tpos : Pos} {a b z TI TO i1 i2 : Addr} (D : ZipApart z TI TO i1 i2 a b) :
    Turn P w K (.Name n tpos) (Itz K a b) [z, TI, TO, i1, i2] z (zipSt z TI TO i1 i2 a b) where
  mem := by simp
  obj := fun i h st c hc => by
    obtain ⟨⟨x, f, hz, _⟩, hTI, ⟨x', y, hTO⟩, ⟨o1, e1, _, d1⟩, ⟨o2, e2, _, d2⟩⟩ := st
    have e' : c = z ∨ c = TI ∨ c = TO ∨ c = i1 ∨ c = i2 := by simpa using hc
    rcases e' with rfl | rfl | rfl | rfl | rfl
    · exact ⟨_, hz, fun v q => nomatch q⟩
    · exact ⟨_, hTI, fun v q => nomatch q⟩
    · exact ⟨_, hTO, fun v q => nomatch q⟩
    · exact ⟨o1, e1, fun v q => by rw [d1] at q; cases q⟩
    · exact ⟨o2, e2, fun v q => by rw [d2] at q; cases q⟩
  keep := fun i h h' st k => by
    obtain ⟨⟨x, f, hz, hx⟩, hTI, ⟨x', y, hTO⟩, h1, h2⟩ := st
    exact ⟨⟨x, f, k z (by simp) _ hz, hx⟩, k TI (by simp) _ hTI, ⟨x', y, k TO (by simp) _ hTO⟩, h1.at fun o q => k i1 (by simp) o q, h2.at fun o q => k i2 (by simp) o q⟩
  item := by
    intro X hP hw hK hc i pins s σ H E I hf st hg
    subst hP hw hK
    obtain ⟨⟨x0, f, hz, hx0⟩, hTI, ⟨xx, yy, hTO⟩, h1, h2⟩ := st
    obtain ⟨xs, ys, x, y, hqx, hqy, hx, hy⟩ := hg
    obtain ⟨its, rv, p, _⟩ := I.list hqx
    obtain ⟨its2, rv2, p2, _⟩ := I.list hqy
    obtain ⟨u, hu, ru⟩ := rv.get hx
    obtain ⟨u2, hu2, ru2⟩ := rv2.get hy
    have lts : ∀ c ∈ [z, TI, TO, i1, i2], c < s.heap.objs.size := fun c hcm => by
      have e' : c = z ∨ c = TI ∨ c = TO ∨ c = i1 ∨ c = i2 := by simpa using hcm
      rcases e' with rfl | rfl | rfl | rfl | rfl
      · exact Heap.lt_size hz
      · exact Heap.lt_size hTI
      · exact Heap.lt_size hTO
      · obtain ⟨_, e1, _⟩ := h1; exact Heap.lt_size e1
      · obtain ⟨_, e2, _⟩ := h2; exact Heap.lt_size e2
    -- what is alike in all ways
    have fin : ∀ (h' : Heap), zipSt z TI TO i1 i2 a b (i + 1) h' → IsPair h' s.heap.objs.size u u2 → (∀ c o, c ≠ z → c ≠ TO → c ≠ i1 → c ≠ i2 → s.heap.get? c = some o → h'.get? c = some o) →
        ∃ u0, some (Value.ref s.heap.objs.size) = some u0 ∧ wpAny (model X.prog X.w) X.A (letOwnedTupleGo (.Name n tpos) (.ref z) u0) (fun _ s2 => ∃ x H', Inv X pins σ H' s2 ∧ RelV x u0 ∧ (Itz X.K a b).yld i H x H' ∧ zipSt z TI TO i1 i2 a b (i + 1) s2.heap ∧ ∀ b ∈ [z, TI, TO, i1, i2], H' b = none) E { s with heap := h' } := by
      intro h' st' hT hk
      refine ⟨_, rfl, wpAny_pure ?_⟩
      have new : ObjOk X.prog X.w (upd H s.heap.objs.size (.tup [x, y])) h' s.heap.objs.size (.tup [x, y]) := ⟨by show 2 ≤ sizeLine; decide, [u, u2], .cons ru (.cons ru2 .nil), ⟨_, hT, rfl, _, rfl⟩⟩
      have I1 : Inv X pins σ (upd H s.heap.objs.size (.tup [x, y])) { s with heap := h' } :=
        I.turnedNew (t' := s.toks) (ch := [z, TI, TO, i1, i2]) (fun c o hb q => hk c o (fun q' => hb (by simp [q'])) (fun q' => hb (by simp [q'])) (fun q' => hb (by simp [q'])) (fun q' => hb (by simp [q'])) q) hf (Nat.le_refl _) new
      refine ⟨.ref s.heap.objs.size, _, I1, rfl, ⟨_, x, y, rfl, I.hok.fresh (Nat.le_refl _), rfl, fun l hl => by rw [I.list_inj hl hqx]; exact hx, fun l hl => by rw [I.list_inj hl hqy]; exact hy⟩, st', fun c hcm => ?_⟩
      rw [upd_ne (Nat.ne_of_lt (lts c hcm))]
      exact (hf c hcm).1
    have go : ZFree s.heap x0 → wpAny (model X.prog X.w) X.A (pyNext (.ref z)) (fun r s1 => ∃ u, r = some u ∧ wpAny (model X.prog X.w) X.A (letOwnedTupleGo (.Name n tpos) (.ref z) u) (fun _ s2 => ∃ x H', Inv X pins σ H' s2 ∧ RelV x u ∧ (Itz X.K a b).yld i H x H' ∧ zipSt z TI TO i1 i2 a b (i + 1) s2.heap ∧ ∀ b ∈ [z, TI, TO, i1, i2], H' b = none) E s1) E s := fun hfr =>
      pyNext_zfree_item D hz hfr hTI hTO h1 h2 p.isList p2.isList (x := u) (y := u2) (by simpa using hu) (by simpa using hu2) fun h' z' TO' h1' h2' hT hsz hk =>
        fin h' ⟨⟨_, _, z', .inr ⟨_, rfl⟩⟩, hk _ _ D.TIz D.TITO D.TIi1 D.TIi2 hTI, ⟨u, u2, TO'⟩, h1', h2'⟩ hT hk
    rcases hx0 with rfl | ⟨T, rfl⟩
    · exact go (.inl rfl)
    · cases hT : s.heap.get? T with
      | none => exact go (.inr ⟨T, rfl, hT⟩)
      | some oT =>
        exact wpAny_pyNext_zip_item_held D hz hT hTI h1 h2 p.isList p2.isList (x := u) (y := u2) (by simpa using hu) (by simpa using hu2) fun h' z' h1' h2' hT' hsz hk =>
          fin h' ⟨⟨_, _, z', .inr ⟨_, rfl⟩⟩, hk _ _ D.TIz D.TIi1 D.TIi2 hTI, ⟨xx, yy, hk _ _ D.TOz D.TOi1 D.TOi2 hTO⟩, h1', h2'⟩ hT' fun c o n1 _ n3 n4 e => hk c o n1 n3 n4 e
  done := by
    intro X hP hw hK hc i pins s σ H E I hf st hg
    subst hP hw hK
    obtain ⟨⟨x0, f, hz, hx0⟩, hTI, ⟨xx, yy, hTO⟩, h1, h2⟩ := st
    obtain ⟨xs, ys, hqx, hqy, hend⟩ := hg
    obtain ⟨its, rv, p, _⟩ := I.list hqx
    obtain ⟨its2, rv2, p2, _⟩ := I.list hqy
    have l1 := rv.length
    have l2 := rv2.length
    have he : its.toArray[i]? = none ∨ its2.toArray[i]? = none := by
      rcases hend with q | q
      · exact .inl (by simp; omega)
      · exact .inr (by simp; omega)
    have fin : ∀ h' : Heap, (∀ c o, c ≠ z → c ≠ TO → c ≠ i1 → c ≠ i2 → s.heap.get? c = some o → h'.get? c = some o) → (none : Option Value) = none ∧ Inv X pins σ H { s with heap := h' } := fun h' hk =>
      ⟨rfl, I.turnedL (t' := s.toks) (ch := [z, TI, TO, i1, i2]) (fun c o hb q => hk c o (fun q' => hb (by simp [q'])) (fun q' => hb (by simp [q'])) (fun q' => hb (by simp [q'])) (fun q' => hb (by simp [q'])) q) hf⟩
    have go : ZFree s.heap x0 → wpAny (model X.prog X.w) X.A (pyNext (.ref z)) (fun r s1 => r = none ∧ Inv X pins σ H s1) E s := fun hfr => pyNext_zfree_end (I.ok.hd hc) D hz hfr hTI hTO h1 h2 p.isList p2.isList he fin
    rcases hx0 with rfl | ⟨T, rfl⟩
    · exact go (.inl rfl)
    · cases hT : s.heap.get? T with
      | none => exact go (.inr ⟨T, rfl, hT⟩)
      | some oT => exact wpAny_pyNext_zip_end_held (I.ok.hd hc) D hz hT hTI h1 h2 p.isList p2.isList he fun h' hk => fin h' fun c o n1 _ n3 n4 e => hk c o n1 n3 n4 e
  self := fun A i s Q E st h => by
    obtain ⟨⟨x0, f, hz, _⟩, _⟩ := st
    have hT : s.TypeIs (.ref z) "zip" := ⟨_, hz, rfl⟩
    refine wpAny_pyIter_slot hT F.slot_zip_iter (wpAny_call_entry F.slot_zip_iter hT F.entry_zip_iter ?_ (F.args_zip_iter_1 _))
    show wpAny _ _ (ret (.ref z)) _ _ s
    exact wpAny_pure ⟨_, rfl, "zip", _, hT, F.slot_zip_next.lookup, h⟩
theorem pi_zipN {X : Cx} {e e2 : Expr} {ta : TA} {p pos tpos : Pos} {n : Str} (hg : Gl X "zip") (hm : X.mg "zip" = none) (ha : PA X [e, e2] ta)
    (hs : starEach [e, e2] X.env = (false, eval e X.env) :: starEach [e2] X.env := by rfl) (hpl : (backTo pos (starEach [e2] X.env)).any (·.1) = false := by rfl) :
    PI X (.Name n tpos) (.Call (.Name "zip" p) [e, e2] [] pos) (iZip X.K ta) := by
  refine ⟨fun pins s σ H R I h => ?_⟩
  refine Call_ (ld_blt I hg hm PyProof.Rows.boot_zip (PyProof.Rows.callWith_type1 (thn (ha.run pos pins s σ H _ I h) fun us s1 ⟨vs, H1, I1, r1, q1⟩ => ?_) hs hpl))
  obtain ⟨a, b, xs, ys, ex, hqx, hqy, q⟩ := q1
  subst ex
  cases r1 with
  | cons r rr =>
    cases rr with
    | cons r' rr =>
      cases rr
      cases r
      cases r'
      have fresh5 : ∀ c, c ∈ [s1.heap.objs.size + 4, s1.heap.objs.size + 2, s1.heap.objs.size + 3, s1.heap.objs.size, s1.heap.objs.size + 1] → FpOk X pins H1 c := fun c hcm => by
        have e' : c = s1.heap.objs.size + 4 ∨ c = s1.heap.objs.size + 2 ∨ c = s1.heap.objs.size + 3 ∨ c = s1.heap.objs.size ∨ c = s1.heap.objs.size + 1 := by simpa using hcm
        have hle : s1.heap.objs.size ≤ c := by rcases e' with z | z | z | z | z <;> rw [z] <;> first | exact Nat.le_add_right _ _ | exact Nat.le_refl _
        exact I1.fpOk hle (I1.hok.fresh hle)
      obtain ⟨its, rv, p1, _⟩ := I1.list hqx
      obtain ⟨its2, rv2, p2, _⟩ := I1.list hqy
      refine call_zip_2 p1.isList p2.isList fun h' hz hTI hTO h1 h2 hsz hk => wpAny_pyIter_zip hz ?_
      have I2 : Inv X pins σ H1 { s1 with heap := h' } := I1.kept (t' := s1.toks) hk
      exact ⟨s1.heap.objs.size + 4, [s1.heap.objs.size + 4, s1.heap.objs.size + 2, s1.heap.objs.size + 3, s1.heap.objs.size, s1.heap.objs.size + 1], _, _, H1, rfl, I2, turn_zipN (PySem.W.ktu_apart s1.heap.objs.size a b p1.lt p2.lt), ⟨⟨_, _, hz, .inl rfl⟩, hTI, ⟨_, _, hTO⟩, h1, h2⟩, fresh5, q⟩
end RX
namespace RE
open PySem PySem.Spec PyProof.Rows L2
section
variable {prog : Program} {w : World} {A : Around} {E : Value → Shared → Prop} {s : Shared}
theorem enumS_end {e it : Addr} {i : Int} {j : Nat} {x : Str} {t : Tok} {ty : String} {old : Value} {Q : Option Value → Shared → Prop} (hty : ty = "str_ascii_iterator" ∨ ty = "str_iterator") (hh : A.in1.handled = none) (he : IsEnum s.heap e it i old) (hit : s.heap.IsStrIter it ty x t j) (hx : x.cps[j]? = none)
    (hQ : ∀ h', Heap.ExtBut it s.heap h' → Q none { s with heap := h' }) : wpAny (model prog w) A (pyNext (.ref e)) Q E s := by
  have hT : s.TypeIs (.ref e) "enumerate" := ⟨_, he, rfl⟩
  unfold pyNext
  refine wpAny_bind (wpAny_attempt (wpAny_callSpecial?_slot (name := Str.ofString "__next__") hT F.slot_enumerate_next
    (wpAny_call_entry F.slot_enumerate_next hT F.entry_enumerate_next ?_ (F.args_enumerate_next_1 _))))
  show wpAny _ _ (field (.ref e) 2 >>= _) _ _ _
  refine wpAny_bind (wpAny_field he rfl (x := .ref it) rfl ?_)
  rcases hty with q | q
  · rw [q] at hit
    refine wpAny_bind (wpAny_nextOf_ascii_end hh hit hx fun h' x' he' hx' => ?_)
    obtain ⟨o, ho, hc⟩ := hx'
    refine wpAny_bind (wpAny_isInstance (T := "StopIteration") (b := true) ⟨o, ho, hc⟩ isSubtype_stop ?_)
    exact wpAny_pure (hQ _ he')
  · rw [q] at hit
    refine wpAny_bind (wpAny_nextOf_wide_end hh hit hx fun h' x' he' hx' => ?_)
    obtain ⟨o, ho, hc⟩ := hx'
    refine wpAny_bind (wpAny_isInstance (T := "StopIteration") (b := true) ⟨o, ho, hc⟩ isSubtype_stop ?_)
    exact wpAny_pure (hQ _ he')
end
/-- enumerate over a text -/
def ItsE (x : Str) : It := ⟨fun i _ => i < x.cps.size, fun i H v H' => ∃ T c, v = .ref T ∧ H T = none ∧ x.cps[i]? = some c ∧ H' = upd H T (.tup [.int (i : Nat), .str ⟨#[c]⟩]), fun i _ => x.cps.size ≤ i⟩
theorem turn_enumS {P : Program} {w : World} {K : PySem.W.Frag} {elts : List Expr} {kk : Nat} {tpos : Pos} (x : Str) (t : Tok) (ty : String) (hty : ty = "str_ascii_iterator" ∨ ty = "str_iterator") (e it : Addr) :
    Turn P w K (.Tuple elts kk tpos) (ItsE x) [e, it] e (fun i h => (∃ old, IsEnum h e it ((i : Nat) : Int) old) ∧ h.IsStrIter it ty x t i ∧ e ≠ it) where
  mem := by simp
  obj := fun i h st b hb => by
    obtain ⟨⟨old, he⟩, ⟨o, ho, hc, hd⟩, _⟩ := st
    have e' : b = e ∨ b = it := by simpa using hb
    rcases e' with z | z
    · rw [z]; exact ⟨_, he, fun v q => nomatch q⟩
    · rw [z]; exact ⟨o, ho, fun v q => by rw [hd] at q; cases q⟩
  keep := fun i h h' st k => let ⟨⟨old, he⟩, hi, hne⟩ := st; ⟨⟨old, k e (by simp) _ he⟩, let ⟨o, ho, r⟩ := hi; ⟨o, k it (by simp) o ho, r⟩, hne⟩
  item := by
    intro X hP hw hK hc i pins s σ H E I hf st hg
    subst hP hw hK
    obtain ⟨⟨old, he⟩, hit, hne⟩ := st
    have hel : e < s.heap.objs.size := Heap.lt_size he
    have hil : it < s.heap.objs.size := by obtain ⟨_, q, _⟩ := hit; exact Heap.lt_size q
    have hh : X.A.in1.handled = none := I.ok.hd hc
    have D : Draws X.prog X.w X.A.in1 it [it] x.cps.size (fun i v => ∃ c u, x.cps[i]? = some c ∧ v = .str ⟨#[c]⟩ u) (fun i h => h.IsStrIter it ty x t i) := by
      rcases hty with q | q
      · rw [q]; exact Draws.strAscii hh it x t
      · rw [q]; exact Draws.strWide hh it x t
    refine wpAny_pyNext_enum_itemD D he hit hg hne (by simpa using hne) fun v h' tk hv ho hit' hT hsz hk => ?_
    obtain ⟨c, u, hcx, rfl⟩ := hv
    refine ⟨_, rfl, wpAny_letOwnedTupleGo_enum (s := { s with heap := h', toks := tk + 1 }) ho fun h'' he' sb => ?_⟩
    have hT2 : h''.get? s.heap.objs.size = some { cls := .type "tuple", data := .seq #[.int i tk, .str ⟨#[c]⟩ u] } := (sb.2 _ (Nat.ne_of_gt hel)).trans hT
    have new : ObjOk X.prog X.w (upd H s.heap.objs.size (.tup [.int (i : Nat), .str ⟨#[c]⟩])) h'' s.heap.objs.size (.tup [.int (i : Nat), .str ⟨#[c]⟩]) :=
      ⟨by show 2 ≤ sizeLine; decide, [.int i tk, .str ⟨#[c]⟩ u], .cons ⟨_, rfl⟩ (.cons ⟨u, rfl⟩ .nil), ⟨_, hT2, rfl, _, rfl⟩⟩
    have I1 : Inv X pins σ (upd H s.heap.objs.size (.tup [.int (i : Nat), .str ⟨#[c]⟩])) { s with heap := h'', toks := tk + 1 } :=
      I.turnedNew (ch := [e, it]) (fun b ob hb q => (sb.2 b (fun z => hb (by simp [z]))).trans (hk b ob (fun z => hb (by simp [z])) (fun z => hb (by simp [z])) q)) hf (Nat.le_refl _) new
    refine ⟨.ref s.heap.objs.size, _, I1, rfl, ⟨_, c, rfl, I.hok.fresh (Nat.le_refl _), hcx, rfl⟩, ⟨⟨.str ⟨#[c]⟩ u, ?_⟩, ?_, hne⟩, fun b hb => ?_⟩
    · have e1 : ((i + 1 : Nat) : Int) = (i : Int) + 1 := by omega
      rw [e1]; exact he'
    · obtain ⟨o, ho2, r⟩ := hit'
      exact ⟨o, (sb.2 it (Ne.symm hne)).trans ho2, r⟩
    · have hb' : b < s.heap.objs.size := by
        have e' : b = e ∨ b = it := by simpa using hb
        rcases e' with z | z
        · rw [z]; exact hel
        · rw [z]; exact hil
      rw [upd_ne (Nat.ne_of_lt hb')]
      exact (hf b hb).1
  done := by
    intro X hP hw hK hc i pins s σ H E I hf st hg
    subst hP hw hK
    obtain ⟨⟨old, he⟩, hit, hne⟩ := st
    obtain ⟨f0, f1, f2, f3, f4, f5⟩ := hf it (by simp)
    exact enumS_end hty (I.ok.hd hc) he hit (Array.getElem?_eq_none hg) fun h' eb => ⟨rfl, I.turned (t' := s.toks) (fun b o hb q => eb b o hb q) f0 f1 f3 f4 f5⟩
  self := fun A i s Q E st h => let ⟨⟨_, he⟩, _⟩ := st; wpAny_pyIter_enum he h
def iEnumS (ta : TA) : TI := fun σ H R => ta σ H fun vs H1 => ∃ x, vs = [.str x] ∧ R (ItsE x) H1
theorem pi_enumS {X : Cx} {e : Expr} {ta : TA} {p pos tpos : Pos} {elts : List Expr} {kk : Nat} (hg : Gl X "enumerate") (hm : X.mg "enumerate" = none) (ha : PA X [e] ta) (hs : starEach [e] X.env = [(false, eval e X.env)] := by rfl) :
    PI X (.Tuple elts kk tpos) (.Call (.Name "enumerate" p) [e] [] pos) (iEnumS ta) := by
  refine ⟨fun pins s σ H R I h => ?_⟩
  refine Call_ (ld_blt I hg hm boot_enumerate (PyProof.Rows.callWith_type1 (thn (ha.run pos pins s σ H _ I h) fun us s1 ⟨vs, H1, I1, r1, q1⟩ => ?_) hs rfl))
  obtain ⟨x, ex, q⟩ := q1
  subst ex
  cases r1 with
  | cons r rr =>
    cases rr
    obtain ⟨t, rfl⟩ := r
    have hty : strIterType x = "str_ascii_iterator" ∨ strIterType x = "str_iterator" := by
      unfold strIterType
      split
      · exact .inl rfl
      · exact .inr rfl
    refine call_enumerate_str fun h' he hit hsz hk => wpAny_pyIter_enum he ?_
    have I2 : Inv X pins σ H1 { s1 with heap := h' } := I1.kept (t' := s1.toks) hk
    refine ⟨s1.heap.objs.size + 1, [s1.heap.objs.size + 1, s1.heap.objs.size], _, _, H1, rfl, I2, turn_enumS x t _ hty (s1.heap.objs.size + 1) s1.heap.objs.size, ⟨⟨.none, he⟩, hit, Nat.succ_ne_self _⟩, fun b hb => ?_, q⟩
    have e' : b = s1.heap.objs.size + 1 ∨ b = s1.heap.objs.size := by simpa using hb
    have hle : s1.heap.objs.size ≤ b := by
      rcases e' with z | z
      · rw [z]; exact Nat.le_add_right _ _
      · rw [z]; exact Nat.le_refl _
    exact I1.fpOk hle (I1.hok.fresh hle)
end RE
set_option maxRecDepth 100000
set_option maxHeartbeats 2000000
namespace RET
open PySem PySem.Spec PyProof.Rows L2
open AutoSeq1 (wpAny_loadPart')
theorem meets_enumerate_newT (l : Addr) (items : Array Value) (n : Nat) (dct : Option Addr) (sl : Array (Option Value)) :
    Meets (Builtin.«enumerate.__new__» ⟨[.type "enumerate", .ref l], []⟩) (fun _ R s => s.heap.get? l = some { cls := .type "tuple", dict := dct, data := .seq items n, slots := sl } ∧
      R (.ok (.ret (.ref (s.heap.push { cls := .type "tuple_iterator", data := .fields #[.ref l, .int 0 0] }).objs.size)))
        { s with heap := (s.heap.push { cls := .type "tuple_iterator", data := .fields #[.ref l, .int 0 0] }).push { cls := .type "enumerate", data := .fields #[.none, .bool false, .ref s.heap.objs.size, rawInt 0, .none, .none] } }) :=
  .of_wp fun prog w A R s h => by
    obtain ⟨hp, g, d, tk, os⟩ := s; obtain ⟨hl, h⟩ := h
    have hsub := sub_enumerate
    have hL : Heap.IsTuple (Shared.heap ⟨hp, g, d, tk, os⟩) l items := ⟨_, hl, rfl, n, rfl⟩
    wp_walk using wpAny_loadPart' hl
    refine wpAny_stack_any fun st => wpAny_pure ?_
    split
    · rename_i c _ _ _ _ _
      cases (c == Value.type "enumerate")
      · wp_walk using wpAny_loadPart' hl, wpAny_pyIter_tuple hL
        exact ⟨_, rfl, h⟩
      · wp_walk using wpAny_loadPart' hl, wpAny_pyIter_tuple hL
        exact ⟨_, rfl, h⟩
    · wp_walk using wpAny_loadPart' hl, wpAny_pyIter_tuple hL
      exact ⟨_, rfl, h⟩
section
variable {prog : Program} {w : World} {A : Around} {E : Value → Shared → Prop} {s : Shared}
theorem call_enumerate_tuple {l : Addr} {items : Array Value} {Q : Value → Shared → Prop} (hL : s.heap.IsTuple l items)
    (h : ∀ h', IsEnum h' (s.heap.objs.size + 1) s.heap.objs.size 0 .none → h'.IsTupleIter s.heap.objs.size l 0 → h'.objs.size = s.heap.objs.size + 2 →
      (∀ b o, s.heap.get? b = some o → h'.get? b = some o) → Q (.ref (s.heap.objs.size + 1)) { s with heap := h' }) :
    wpAny (model prog w) A (call (.type "enumerate") [.ref l]) Q E s := by
  obtain ⟨⟨c, dct, dt, sl⟩, hl, hc, n, hd⟩ := hL
  replace hc : c = .type "tuple" := hc
  replace hd : dt = .seq items n := hd
  subst hc hd
  refine callType_new F.called_enumerate (by decide) (F.typeCall_enumerate_1 _) (F.newCall_enumerate_1 _) (fun obj => F.args_object_init_2 obj _) F.entry_enumerate_new
    (meets_enumerate_newT l items n dct sl) ⟨hl, ?_⟩
  have hz : (s.heap.push { cls := .type "tuple_iterator", data := .fields #[.ref l, .int 0 0] }).objs.size = s.heap.objs.size + 1 := Heap.size_push ..
  show _ ∧ _
  rw [hz]
  have he : IsEnum ((s.heap.push { cls := .type "tuple_iterator", data := .fields #[.ref l, .int 0 0] }).push
      { cls := .type "enumerate", data := .fields #[.none, .bool false, .ref s.heap.objs.size, rawInt 0, .none, .none] }) (s.heap.objs.size + 1) s.heap.objs.size 0 .none := by
    have := Heap.get?_push_size (s.heap.push { cls := .type "tuple_iterator", data := .fields #[.ref l, .int 0 0] })
      (o := { cls := .type "enumerate", data := .fields #[.none, .bool false, .ref s.heap.objs.size, rawInt 0, .none, .none] }) rfl
    rw [hz] at this; exact this
  refine ⟨⟨_, he, rfl⟩, h _ he ⟨_, Heap.get?_push_of_some _ (Heap.get?_push_size _ rfl), rfl, rfl⟩ (by rw [Heap.size_push, hz]) fun b o x => Heap.get?_push_of_some _ (Heap.get?_push_of_some _ x)⟩
theorem enumT_end {e it l : Addr} {i : Int} {j : Nat} {items : Array Value} {old : Value} {Q : Option Value → Shared → Prop} (hh : A.in1.handled = none) (he : IsEnum s.heap e it i old) (hit : s.heap.IsTupleIter it l j) (hl : s.heap.IsTuple l items) (hx : items[j]? = none)
    (hQ : ∀ h', Heap.ExtBut it s.heap h' → Q none { s with heap := h' }) : wpAny (model prog w) A (pyNext (.ref e)) Q E s := by
  have hT : s.TypeIs (.ref e) "enumerate" := ⟨_, he, rfl⟩
  unfold pyNext
  refine wpAny_bind (wpAny_attempt (wpAny_callSpecial?_slot (name := Str.ofString "__next__") hT F.slot_enumerate_next
    (wpAny_call_entry F.slot_enumerate_next hT F.entry_enumerate_next ?_ (F.args_enumerate_next_1 _))))
  show wpAny _ _ (field (.ref e) 2 >>= _) _ _ _
  refine wpAny_bind (wpAny_field he rfl (x := .ref it) rfl ?_)
  refine wpAny_bind (RZ.nextOf_tuple_end hh hit hl hx fun h' x' he' hx' => ?_)
  obtain ⟨o, ho, hc⟩ := hx'
  refine wpAny_bind (wpAny_isInstance (T := "StopIteration") (b := true) ⟨o, ho, hc⟩ isSubtype_stop ?_)
  exact wpAny_pure (hQ _ he')
end
/-- the tuple at a, each item in a new pair -/
def ItT (K : PySem.W.Frag) (a : Addr) : It :=
  ⟨fun i H => ∃ (xs : List V) (x : V), SqT K H a xs ∧ xs[i]? = some x, fun i H v H' => ∃ T x, v = .ref T ∧ H T = none ∧ H' = upd H T (.tup [.int (i : Nat), x]) ∧ ∀ xs, SqT K H a xs → xs[i]? = some x, fun i H => ∃ xs : List V, SqT K H a xs ∧ xs.length ≤ i⟩
theorem turn_enumT {P : Program} {w : World} {K : PySem.W.Frag} {elts : List Expr} {kk : Nat} {tpos : Pos} (a e it : Addr) :
    Turn P w K (.Tuple elts kk tpos) (ItT K a) [e, it] e (fun i h => (∃ old, IsEnum h e it ((i : Nat) : Int) old) ∧ h.IsTupleIter it a i ∧ e ≠ it) where
  mem := by simp
  obj := fun i h st b hb => by
    obtain ⟨⟨old, he⟩, ⟨o, ho, hc, hd⟩, _⟩ := st
    have e' : b = e ∨ b = it := by simpa using hb
    rcases e' with z | z
    · rw [z]; exact ⟨_, he, fun v q => nomatch q⟩
    · rw [z]; exact ⟨o, ho, fun v q => by rw [hd] at q; cases q⟩
  keep := fun i h h' st k => let ⟨⟨old, he⟩, hi, hne⟩ := st; ⟨⟨old, k e (by simp) _ he⟩, hi.at fun o q => k it (by simp) o q, hne⟩
  item := by
    intro X hP hw hK hc i pins s σ H E I hf st hg
    subst hP hw hK
    obtain ⟨⟨old, he⟩, hit, hne⟩ := st
    obtain ⟨xs, x, hq, hx⟩ := hg
    obtain ⟨its, rv, p, hz⟩ := I.tuple hq
    obtain ⟨u, hu, ru⟩ := rv.get hx
    have hel : e < s.heap.objs.size := Heap.lt_size he
    have hil : it < s.heap.objs.size := by obtain ⟨_, q, _⟩ := hit; exact Heap.lt_size q
    have hh : X.A.in1.handled = none := I.ok.hd hc
    have p' : s.heap.IsTuple a its.toArray := p
    have ai : a ≠ it := fun z => by
      subst z
      obtain ⟨o, ho, hc1, _⟩ := hit
      obtain ⟨o', ho', hc2, _⟩ := p'
      rw [ho] at ho'
      cases ho'
      rw [hc1] at hc2
      exact absurd hc2 (by decide)
    have ae : e ≠ a := fun z => by
      subst z
      obtain ⟨o', ho', hc2, _⟩ := p'
      have he' : s.heap.get? e = some _ := he
      rw [he'] at ho'
      cases ho'
      have hc3 : Value.type "enumerate" = .type "tuple" := hc2
      exact absurd hc3 (by decide)
    have D := Draws.tuple (prog := X.prog) (w := X.w) hh it a ai its.toArray
    have hlt : i < its.toArray.size := by
      have := (List.getElem?_eq_some_iff.mp hu).1
      simpa using this
    refine wpAny_pyNext_enum_itemD D he ⟨hit, p'⟩ hlt hne (by simp [hne, ae]) fun v h' tk hv ho hit' hT hsz hk => ?_
    have ev : v = u := by
      have : its.toArray[i]? = some u := by simpa using hu
      rw [this] at hv
      exact (Option.some.inj hv).symm
    subst ev
    refine ⟨_, rfl, wpAny_letOwnedTupleGo_enum (s := { s with heap := h', toks := tk + 1 }) ho fun h'' he' sb => ?_⟩
    have hT2 : h''.get? s.heap.objs.size = some { cls := .type "tuple", data := .seq #[.int i tk, v] } := (sb.2 _ (Nat.ne_of_gt hel)).trans hT
    have new : ObjOk X.prog X.w (upd H s.heap.objs.size (.tup [.int (i : Nat), x])) h'' s.heap.objs.size (.tup [.int (i : Nat), x]) :=
      ⟨by show 2 ≤ sizeLine; decide, [.int i tk, v], .cons ⟨_, rfl⟩ (.cons ru .nil), ⟨_, hT2, rfl, _, rfl⟩⟩
    have I1 : Inv X pins σ (upd H s.heap.objs.size (.tup [.int (i : Nat), x])) { s with heap := h'', toks := tk + 1 } :=
      I.turnedNew (ch := [e, it]) (fun b ob hb q => (sb.2 b (fun z => hb (by simp [z]))).trans (hk b ob (fun z => hb (by simp [z])) (fun z => hb (by simp [z])) q)) hf (Nat.le_refl _) new
    refine ⟨.ref s.heap.objs.size, _, I1, rfl, ⟨_, x, rfl, I.hok.fresh (Nat.le_refl _), rfl, fun ys hy => by rw [I.tuple_inj hy hq]; exact hx⟩, ⟨⟨v, ?_⟩, hit'.1.at fun o q => (sb.2 it (Ne.symm hne)).trans q, hne⟩, fun b hb => ?_⟩
    · have e1 : ((i + 1 : Nat) : Int) = (i : Int) + 1 := by omega
      rw [e1]; exact he'
    · have hb' : b < s.heap.objs.size := by
        have e' : b = e ∨ b = it := by simpa using hb
        rcases e' with z | z
        · rw [z]; exact hel
        · rw [z]; exact hil
      rw [upd_ne (Nat.ne_of_lt hb')]
      exact (hf b hb).1
  done := by
    intro X hP hw hK hc i pins s σ H E I hf st hg
    subst hP hw hK
    obtain ⟨⟨old, he⟩, hit, hne⟩ := st
    obtain ⟨xs, hq, hx⟩ := hg
    obtain ⟨its, rv, p, hz⟩ := I.tuple hq
    obtain ⟨f0, f1, f2, f3, f4, f5⟩ := hf it (by simp)
    have hl := rv.length
    have hh : X.A.in1.handled = none := I.ok.hd hc
    have p' : s.heap.IsTuple a its.toArray := p
    refine enumT_end hh he hit p' (by simp; omega) fun h' eb => ⟨rfl, I.turned (t' := s.toks) (fun b o hb q => eb b o hb q) f0 f1 f3 f4 f5⟩
  self := fun A i s Q E st h => let ⟨⟨_, he⟩, _⟩ := st; wpAny_pyIter_enum he h
def iEnumT (K : PySem.W.Frag) (ta : TA) : TI := fun σ H R => ta σ H fun vs H1 => ∃ a xs, vs = [.ref a] ∧ SqT K H1 a xs ∧ R (ItT K a) H1
theorem pi_enumT {X : Cx} {e : Expr} {ta : TA} {p pos tpos : Pos} {elts : List Expr} {kk : Nat} (hg : Gl X "enumerate") (hm : X.mg "enumerate" = none) (ha : PA X [e] ta) (hs : starEach [e] X.env = [(false, eval e X.env)] := by rfl) :
    PI X (.Tuple elts kk tpos) (.Call (.Name "enumerate" p) [e] [] pos) (iEnumT X.K ta) := by
  refine ⟨fun pins s σ H R I h => ?_⟩
  refine Call_ (ld_blt I hg hm boot_enumerate (PyProof.Rows.callWith_type1 (thn (ha.run pos pins s σ H _ I h) fun us s1 ⟨vs, H1, I1, r1, q1⟩ => ?_) hs rfl))
  obtain ⟨a, xs, ex, hq, q⟩ := q1
  subst ex
  cases r1 with
  | cons r rr =>
    cases rr
    cases r
    obtain ⟨its, rv, p', hz⟩ := I1.tuple hq
    refine call_enumerate_tuple (l := a) (items := its.toArray) p' fun h' he hit hsz hk => wpAny_pyIter_enum he ?_
    have I2 : Inv X pins σ H1 { s1 with heap := h' } := I1.kept (t' := s1.toks) hk
    refine ⟨s1.heap.objs.size + 1, [s1.heap.objs.size + 1, s1.heap.objs.size], _, _, H1, rfl, I2, turn_enumT a (s1.heap.objs.size + 1) s1.heap.objs.size, ⟨⟨.none, he⟩, hit, Nat.succ_ne_self _⟩, fun b hb => ?_, q⟩
    have e' : b = s1.heap.objs.size + 1 ∨ b = s1.heap.objs.size := by simpa using hb
    have hle : s1.heap.objs.size ≤ b := by
      rcases e' with z | z
      · rw [z]; exact Nat.le_add_right _ _
      · rw [z]; exact Nat.le_refl _
    exact I1.fpOk hle (I1.hok.fresh hle)
end RET
set_option maxRecDepth 100000
set_option maxHeartbeats 2000000
namespace RX
open PySem PySem.Spec PyProof.Rows L2 RT
/-- the pairs of a zip so far -/
def Prs (H0 H : Hp) (xs ys ts : List V) (n : Nat) : Prop := ts.length = n ∧ ∀ (j : Nat) (t : V), ts[j]? = some t → ∃ (T : Addr) (x y : V), t = V.ref T ∧ xs[j]? = some x ∧ ys[j]? = some y ∧ H T = some (.tup [x, y]) ∧ H0 T = none
section
variable {X : Cx} {pins : List (Addr × Obj)} {s : Shared} {σ : L2.St} {H : Hp} {z TI TO i1 i2 a b : Addr}
theorem fp_up {c : Addr} {H' : Hp} (h : FpOk X pins H c) (n : H' c = none) : FpOk X pins H' c := ⟨n, h.2⟩
theorem zip_step {A : Around} {E : Value → Shared → Prop} {i : Nat} {x y : V} {xs ys : List V} {Q : Option Value → Shared → Prop} (D : ZipApart z TI TO i1 i2 a b) (I : Inv X pins σ H s) (hf : ∀ c ∈ [z, TI, TO, i1, i2], FpOk X pins H c) (st : zipSt z TI TO i1 i2 a b i s.heap)
    (hqx : SqL X.K H a xs) (hqy : SqL X.K H b ys) (hx : xs[i]? = some x) (hy : ys[i]? = some y)
    (hQ : ∀ h', Inv X pins σ (upd H s.heap.objs.size (.tup [x, y])) { s with heap := h' } → zipSt z TI TO i1 i2 a b (i + 1) h' → (∀ c ∈ [z, TI, TO, i1, i2], (upd H s.heap.objs.size (.tup [x, y])) c = none) → Q (some (.ref s.heap.objs.size)) { s with heap := h' }) :
    wpAny (model X.prog X.w) A (pyNext (.ref z)) Q E s := by
  obtain ⟨⟨x0, f, hz, hx0⟩, hTI, ⟨xx, yy, hTO⟩, h1, h2⟩ := st
  obtain ⟨its, rv, p, _⟩ := I.list hqx
  obtain ⟨its2, rv2, p2, _⟩ := I.list hqy
  obtain ⟨u, hu, ru⟩ := rv.get hx
  obtain ⟨u2, hu2, ru2⟩ := rv2.get hy
  have lts : ∀ c ∈ [z, TI, TO, i1, i2], c < s.heap.objs.size := fun c hcm => by
    have e' : c = z ∨ c = TI ∨ c = TO ∨ c = i1 ∨ c = i2 := by simpa using hcm
    rcases e' with rfl | rfl | rfl | rfl | rfl
    · exact Heap.lt_size hz
    · exact Heap.lt_size hTI
    · exact Heap.lt_size hTO
    · obtain ⟨_, e1, _⟩ := h1; exact Heap.lt_size e1
    · obtain ⟨_, e2, _⟩ := h2; exact Heap.lt_size e2
  have fin : ∀ (h' : Heap), zipSt z TI TO i1 i2 a b (i + 1) h' → IsPair h' s.heap.objs.size u u2 → (∀ c o, c ≠ z → c ≠ TO → c ≠ i1 → c ≠ i2 → s.heap.get? c = some o → h'.get? c = some o) → Q (some (.ref s.heap.objs.size)) { s with heap := h' } := by
    intro h' st' hT hk
    have new : ObjOk X.prog X.w (upd H s.heap.objs.size (.tup [x, y])) h' s.heap.objs.size (.tup [x, y]) := ⟨by show 2 ≤ sizeLine; decide, [u, u2], .cons ru (.cons ru2 .nil), ⟨_, hT, rfl, _, rfl⟩⟩
    have I1 : Inv X pins σ (upd H s.heap.objs.size (.tup [x, y])) { s with heap := h' } :=
      I.turnedNew (t' := s.toks) (ch := [z, TI, TO, i1, i2]) (fun c o hb q => hk c o (fun q' => hb (by simp [q'])) (fun q' => hb (by simp [q'])) (fun q' => hb (by simp [q'])) (fun q' => hb (by simp [q'])) q) hf (Nat.le_refl _) new
    refine hQ h' I1 st' fun c hcm => ?_
    rw [upd_ne (Nat.ne_of_lt (lts c hcm))]
    exact (hf c hcm).1
  have go : ZFree s.heap x0 → wpAny (model X.prog X.w) A (pyNext (.ref z)) Q E s := fun hfr =>
    pyNext_zfree_item D hz hfr hTI hTO h1 h2 p.isList p2.isList (x := u) (y := u2) (by simpa using hu) (by simpa using hu2) fun h' z' TO' h1' h2' hT hsz hk =>
      fin h' ⟨⟨_, _, z', .inr ⟨_, rfl⟩⟩, hk _ _ D.TIz D.TITO D.TIi1 D.TIi2 hTI, ⟨u, u2, TO'⟩, h1', h2'⟩ hT hk
  rcases hx0 with rfl | ⟨T, rfl⟩
  · exact go (.inl rfl)
  · cases hT : s.heap.get? T with
    | none => exact go (.inr ⟨T, rfl, hT⟩)
    | some oT =>
      exact wpAny_pyNext_zip_item_held D hz hT hTI h1 h2 p.isList p2.isList (x := u) (y := u2) (by simpa using hu) (by simpa using hu2) fun h' z' h1' h2' hT' hsz hk =>
        fin h' ⟨⟨_, _, z', .inr ⟨_, rfl⟩⟩, hk _ _ D.TIz D.TIi1 D.TIi2 hTI, ⟨xx, yy, hk _ _ D.TOz D.TOi1 D.TOi2 hTO⟩, h1', h2'⟩ hT' fun c o n1 _ n3 n4 e => hk c o n1 n3 n4 e
theorem zip_stop {A : Around} {E : Value → Shared → Prop} {i : Nat} {xs ys : List V} {Q : Option Value → Shared → Prop} (hh : A.handled = none) (D : ZipApart z TI TO i1 i2 a b) (I : Inv X pins σ H s) (hf : ∀ c ∈ [z, TI, TO, i1, i2], FpOk X pins H c) (st : zipSt z TI TO i1 i2 a b i s.heap)
    (hqx : SqL X.K H a xs) (hqy : SqL X.K H b ys) (hend : xs.length ≤ i ∨ ys.length ≤ i) (hQ : ∀ h', Inv X pins σ H { s with heap := h' } → Q none { s with heap := h' }) :
    wpAny (model X.prog X.w) A (pyNext (.ref z)) Q E s := by
  obtain ⟨⟨x0, f, hz, hx0⟩, hTI, ⟨xx, yy, hTO⟩, h1, h2⟩ := st
  obtain ⟨its, rv, p, _⟩ := I.list hqx
  obtain ⟨its2, rv2, p2, _⟩ := I.list hqy
  have l1 := rv.length
  have l2 := rv2.length
  have he : its.toArray[i]? = none ∨ its2.toArray[i]? = none := by
    rcases hend with q | q
    · exact .inl (by simp; omega)
    · exact .inr (by simp; omega)
  have fin : ∀ h' : Heap, (∀ c o, c ≠ z → c ≠ TO → c ≠ i1 → c ≠ i2 → s.heap.get? c = some o → h'.get? c = some o) → Q none { s with heap := h' } := fun h' hk =>
    hQ h' (I.turnedL (t' := s.toks) (ch := [z, TI, TO, i1, i2]) (fun c o hb q => hk c o (fun q' => hb (by simp [q'])) (fun q' => hb (by simp [q'])) (fun q' => hb (by simp [q'])) (fun q' => hb (by simp [q'])) q) hf)
  have go : ZFree s.heap x0 → wpAny (model X.prog X.w) A (pyNext (.ref z)) Q E s := fun hfr => pyNext_zfree_end hh D hz hfr hTI hTO h1 h2 p.isList p2.isList he fin
  rcases hx0 with rfl | ⟨T, rfl⟩
  · exact go (.inl rfl)
  · cases hT : s.heap.get? T with
    | none => exact go (.inr ⟨T, rfl, hT⟩)
    | some oT => exact wpAny_pyNext_zip_end_held hh D hz hT hTI h1 h2 p.isList p2.isList he fun h' hk => fin h' fun c o n1 _ n3 n4 e => hk c o n1 n3 n4 e
theorem zip_keep {i : Nat} {h h' : Heap} (st : zipSt z TI TO i1 i2 a b i h) (k : ∀ c ∈ [z, TI, TO, i1, i2], ∀ o, h.get? c = some o → h'.get? c = some o) : zipSt z TI TO i1 i2 a b i h' := by
  obtain ⟨⟨x, f, hz, hx⟩, hTI, ⟨x', y, hTO⟩, h1, h2⟩ := st
  exact ⟨⟨x, f, k z (by simp) _ hz, hx⟩, k TI (by simp) _ hTI, ⟨x', y, k TO (by simp) _ hTO⟩, h1.at fun o q => k i1 (by simp) o q, h2.at fun o q => k i2 (by simp) o q⟩
theorem sql_at {K : PySem.W.Frag} {F G : Hp} {p : Addr} {xs : List V} (h : SqL K F p xs) (k : ∀ u, F p = some u → G p = some u) : SqL K G p xs := by
  rcases h with (h | ⟨o, h⟩) | h
  · exact .inl (.inl (k _ h))
  · exact .inl (.inr ⟨o, k _ h⟩)
  · exact .inr h
theorem zip_loop {A : Around} {H0 : Hp} {R : Result → Shared → Prop} {S : Addr} {xs ys : List V} {res : Value} (hh : A.handled = none) (D : ZipApart z TI TO i1 i2 a b) (hSa : S ≠ a) (hSb : S ≠ b) (hn : min xs.length ys.length ≤ 1000000) :
    ∀ (k i : Nat) (s : Shared) (H : Hp) (ts : List V), min xs.length ys.length - i = k → i ≤ min xs.length ys.length → Inv X pins σ H s → (∀ c ∈ [z, TI, TO, i1, i2], FpOk X pins H c) → zipSt z TI TO i1 i2 a b i s.heap → SqL X.K H a xs → SqL X.K H b ys →
      H S = some (.lst ts) → Prs H0 H xs ys ts i → (∀ c, c ≠ S → H c = none → H0 c = none) →
    (∀ s' H' ts', Inv X pins σ H' s' → (∀ c u, c ≠ S → H c = some u → H' c = some u) → H' S = some (.lst ts') → Prs H0 H' xs ys ts' (min xs.length ys.length) → R (.ok (.ret res)) s') →
    codeAny (model X.prog X.w) A (.builtin "list.extend.loop" ⟨[.ref S, .ref z, res], []⟩) R s := by
  intro k
  induction k with
  | zero =>
    intro i s H ts hk hi I hf st hqx hqy hS hp k0 hR
    refine codeAny_builtin F.entry_extend_loop ?_
    rw [Around.under_plainId F.plain_extend_loop _]
    show wpAny _ A.in1 (pyNext (.ref z) >>= _) _ _ s
    refine wpAny_bind (zip_stop hh D I hf st hqx hqy (by omega) fun h' I' => ?_)
    have : i = min xs.length ys.length := by omega
    subst this
    exact wpAny_pure (hR _ H ts I' (fun _ _ _ e => e) hS hp)
  | succ k ih =>
    intro i s H ts hk hi I hf st hqx hqy hS hp k0 hR
    have hlt : i < xs.length ∧ i < ys.length := by omega
    have hx : xs[i]? = some xs[i] := List.getElem?_eq_getElem hlt.1
    have hy : ys[i]? = some ys[i] := List.getElem?_eq_getElem hlt.2
    refine codeAny_builtin F.entry_extend_loop ?_
    rw [Around.under_plainId F.plain_extend_loop _]
    show wpAny _ A.in1 (pyNext (.ref z) >>= _) _ _ s
    refine wpAny_bind (zip_step D I hf st hqx hqy hx hy fun h' I' st' hn' => ?_)
    have hfresh : H s.heap.objs.size = none := I.hok.fresh (Nat.le_refl _)
    have hSne : S ≠ s.heap.objs.size := fun e => by rw [e, hfresh] at hS; cases hS
    have up1 : ∀ c u, H c = some u → upd H s.heap.objs.size (.tup [xs[i], ys[i]]) c = some u := fun c u e => by
      rw [upd_ne (ne_of_none e hfresh)]; exact e
    have hS' : upd H s.heap.objs.size (.tup [xs[i], ys[i]]) S = some (.lst ts) := up1 _ _ hS
    obtain ⟨_, its, n, r, hl, e⟩ := I'.lstM hS'
    have hlen : ts.length = i := hp.1
    show wpAny _ A.in1 (updateSeq S (·.push (Value.ref s.heap.objs.size)) >>= _) _ _ _
    refine wpAny_bind ?_
    have hsz : sizeLine = 1152921504606846975 ∨ 1000001 ≤ sizeLine := .inr (by decide)
    have hsz' : 1000001 ≤ sizeLine := by decide
    refine wpAny_updateSeq e rfl (wpAny_pure ⟨plainId_quiet F.plain_extend_loop _, ?_⟩) (by rw [List.size_toArray]; omega) (by rw [Array.size_push, List.size_toArray]; omega)
    have I2 := I'.lset (f := (·.push (Value.ref s.heap.objs.size))) (its' := its ++ [Value.ref s.heap.objs.size]) (ys := ts ++ [V.ref s.heap.objs.size]) (t' := s.toks) hS' e (by simp) (r.append (.cons (show RelV (V.ref s.heap.objs.size) (Value.ref s.heap.objs.size) from rfl) .nil)) (by rw [List.length_append, List.length_singleton]; omega)
    have Sfp : ∀ c ∈ [z, TI, TO, i1, i2], c ≠ S := fun c hcm q => by
      have := (hf c hcm).1
      rw [q, hS] at this
      cases this
    refine ih (i + 1) _ _ (ts ++ [.ref s.heap.objs.size]) (by omega) (by omega) I2 (fun c hcm => fp_up (hf c hcm) ?_) (zip_keep st' fun c hcm o q => (Heap.get?_update_other _ _ (Ne.symm (Sfp c hcm))).trans q) ?_ ?_ upd_same ?_ ?_ fun s'' H'' ts'' I'' k'' hS'' hp'' => ?_
    · rw [upd_ne (Sfp c hcm)]
      exact hn' c hcm
    · exact sql_at hqx fun u q => by rw [upd_ne (Ne.symm hSa)]; exact up1 _ _ q
    · exact sql_at hqy fun u q => by rw [upd_ne (Ne.symm hSb)]; exact up1 _ _ q
    · refine ⟨by rw [List.length_append, List.length_singleton, hlen], fun j t hj => ?_⟩
      have upT : ∀ (T : Addr) (x y : V), upd H s.heap.objs.size (.tup [xs[i], ys[i]]) T = some (.tup [x, y]) → upd (upd H s.heap.objs.size (.tup [xs[i], ys[i]])) S (.lst (ts ++ [.ref s.heap.objs.size])) T = some (.tup [x, y]) := fun T x y q => by
        rw [upd_ne]
        · exact q
        · rintro rfl
          rw [hS'] at q
          cases q
      by_cases hji : j < i
      · rw [List.getElem?_append_left (by omega)] at hj
        obtain ⟨T, x, y, e1, e2, e3, e4, e5⟩ := hp.2 j t hj
        exact ⟨T, x, y, e1, e2, e3, upT T x y (up1 _ _ e4), e5⟩
      · rw [List.getElem?_append_right (by omega)] at hj
        have hj0 : j - ts.length = 0 := by
          rcases Nat.eq_zero_or_pos (j - ts.length) with q | q
          · exact q
          · rw [List.getElem?_eq_none (by simp; omega)] at hj; cases hj
        rw [hj0] at hj
        have hje : j = i := by omega
        subst hje
        cases hj
        exact ⟨_, _, _, rfl, hx, hy, upT _ _ _ upd_same, k0 _ (Ne.symm hSne) hfresh⟩
    · intro c hcS q
      rw [upd_ne hcS] at q
      refine k0 c hcS ?_
      by_cases hcz : c = s.heap.objs.size
      · rw [hcz]; exact hfresh
      · rw [upd_ne hcz] at q; exact q
    · refine hR s'' H'' ts'' I'' (fun c u hcS q => k'' c u hcS ?_) hS'' hp''
      rw [upd_ne hcS]
      exact up1 _ _ q
theorem zip_no_len : typeLookup (.type "zip") "__len__" = pure none := by rw [typeLookup_type, builtinLookup_eq_fast]; kernel_rfl
theorem zip_no_hint : typeLookup (.type "zip") "__length_hint__" = pure none := by rw [typeLookup_type, builtinLookup_eq_fast]; kernel_rfl
theorem init_zip {A : Around} {H0 : Hp} {R : Result → Shared → Prop} {S : Addr} {xs ys : List V} (hh : A.handled = none) (D : ZipApart z TI TO i1 i2 a b) (hSa : S ≠ a) (hSb : S ≠ b) (hn : min xs.length ys.length ≤ 1000000) (I : Inv X pins σ H s)
    (hf : ∀ c ∈ [z, TI, TO, i1, i2], FpOk X pins H c) (st : zipSt z TI TO i1 i2 a b 0 s.heap) (hqx : SqL X.K H a xs) (hqy : SqL X.K H b ys) (hS : H S = some (.lst [])) (k0 : ∀ c, c ≠ S → H c = none → H0 c = none)
    (hR : ∀ s' H' ts', Inv X pins σ H' s' → (∀ c u, c ≠ S → H c = some u → H' c = some u) → H' S = some (.lst ts') → Prs H0 H' xs ys ts' (min xs.length ys.length) → R (.ok (.ret .none)) s') :
    wpAny (model X.prog X.w) A.in1 (Builtin.«list.__init__» ⟨[.ref S, .ref z], []⟩)
      (fun fin s' => match fin with | .done f => R (.ok f) s' | .again c' => c'.quiet = true ∧ codeAny (model X.prog X.w) A c' R s') (fun e s' => R (.error e) s') s := by
  have step : ∀ {s0 : Shared} {Hs : Hp} {ts ts' : List V} {f : Array Value → Array Value} {its its' : List Value} {n : Nat}, Inv X pins σ Hs s0 → (∀ c ∈ [z, TI, TO, i1, i2], FpOk X pins Hs c) → zipSt z TI TO i1 i2 a b 0 s0.heap → SqL X.K Hs a xs → SqL X.K Hs b ys → Hs S = some (.lst ts) → (∀ c u, c ≠ S → H c = some u → Hs c = some u) → 
      (∀ c, c ≠ S → Hs c = none → H c = none) →
      s0.heap.get? S = some { cls := .type "list", data := .seq its.toArray n } → f its.toArray = its'.toArray → Vals ts' its' → ts'.length ≤ sizeLine →
      Inv X pins σ (upd Hs S (.lst ts')) { s0 with heap := s0.heap.update S (Obj.mapSeq f) } ∧ (∀ c ∈ [z, TI, TO, i1, i2], FpOk X pins (upd Hs S (.lst ts')) c) ∧ zipSt z TI TO i1 i2 a b 0 (s0.heap.update S (Obj.mapSeq f)) ∧ SqL X.K (upd Hs S (.lst ts')) a xs ∧ SqL X.K (upd Hs S (.lst ts')) b ys ∧ (∀ c u, c ≠ S → H c = some u → (upd Hs S (.lst ts')) c = some u) ∧ (∀ c, c ≠ S → (upd Hs S (.lst ts')) c = none → H c = none) := by
    intro s0 Hs ts ts' f its its' n I0 hf0 st0 hx0 hy0 hS0 k0 kn e hfe hv hz
    have Sfp : ∀ c ∈ [z, TI, TO, i1, i2], c ≠ S := fun c hcm q => by
      have := (hf0 c hcm).1
      rw [q, hS0] at this
      cases this
    refine ⟨I0.lset (t' := s0.toks) hS0 e hfe hv hz, fun c hcm => fp_up (hf0 c hcm) (by rw [upd_ne (Sfp c hcm)]; exact (hf0 c hcm).1), zip_keep st0 fun c hcm o q => (Heap.get?_update_other _ _ (Ne.symm (Sfp c hcm))).trans q,
      sql_at hx0 fun u q => by rw [upd_ne (Ne.symm hSa)]; exact q, sql_at hy0 fun u q => by rw [upd_ne (Ne.symm hSb)]; exact q, fun c u hcS q => by rw [upd_ne hcS]; exact k0 c u hcS q, fun c hcS q => by rw [upd_ne hcS] at q; exact kn c hcS q⟩
  have hSz : S ≠ z := fun q => by
    have := (hf z (by simp)).1
    rw [← q, hS] at this
    cases this
  show wpAny _ _ (do let old ← Builtin.List.listItems (.ref S); Builtin.List.listUpdate (.ref S) (fun _ => #[]); letGo old.toList.reverse; Builtin.List.listExtendWith (.ref S) (.ref z) .none) _ _ s
  obtain ⟨_, its, n, r, _, e⟩ := I.lstM hS
  cases r
  refine wpAny_bind ?_
  unfold Builtin.List.listItems
  refine wpAny_bind (wpAny_seqItems e rfl (wpAny_pure ?_))
  show wpAny _ _ (updateSeq S (fun _ => #[]) >>= fun _ => letGo (#[] : Array Value).toList.reverse >>= fun _ => Builtin.List.listExtendWith (.ref S) (.ref z) .none) _ _ s
  refine wpAny_bind (wpAny_updateSeq e rfl ?_)
  refine wpAny_bind (wpAny_letGo ?_)
  obtain ⟨J1, J2, J3, J4, J5, J6, J7⟩ := step (f := fun _ => #[]) (its' := []) (ts' := []) I hf st hqx hqy hS (fun _ _ _ q => q) (fun _ _ q => q) e rfl .nil (by decide)
  obtain ⟨_, its, n, r, _, e⟩ := J1.lstM (l := S) (xs := []) upd_same
  cases r
  unfold Builtin.List.listExtendWith
  have hT : ∀ s0 : Shared, zipSt z TI TO i1 i2 a b 0 s0.heap → s0.TypeIs (.ref z) "zip" := fun s0 ⟨⟨_, _, hz, _⟩, _⟩ => ⟨_, hz, rfl⟩
  have h1 : Builtin.List.listSameRef (.ref S) (.ref z) = false := by simp [Builtin.List.listSameRef, hSz]
  refine wpAny_bind (wpAny_typeOf (hT _ J3) ?_)
  have h2 : (Value.type "zip" == Value.type "list") = false := by decide
  have h3 : (Value.type "zip" == Value.type "tuple") = false := by decide
  simp only [h1, h2, h3, Bool.or_false, Bool.false_eq_true, if_false]
  refine wpAny_bind ((turn_zipN (P := X.prog) (w := X.w) (K := X.K) (n := "x") (tpos := default) D).self _ 0 _ _ _ J3 ?_)
  refine wpAny_bind (wpAny_holding ?_)
  unfold Builtin.List.listLengthHint
  refine wpAny_bind (wpAny_specialOf (hT _ J3) zip_no_len ?_)
  show wpAny _ _ (specialOf (Value.ref z) (Str.ofString "__length_hint__") >>= _) _ _ _
  refine wpAny_bind (wpAny_specialOf (hT _ J3) zip_no_hint ?_)
  refine wpAny_pure ?_
  show wpAny _ _ (rule "list.extend.makes-room" >>= fun _ => Builtin.List.listTouch (.ref S) >>= fun _ =>
    again (.builtin "list.extend.loop" ⟨[.ref S, .ref z, .none], []⟩)) _ _ _
  refine wpAny_bind (wpAny_rule ?_)
  refine wpAny_bind ?_
  show wpAny _ _ (updateSeq S (·.push .none) >>= fun _ => updateSeq S (·.pop)) _ _ _
  refine wpAny_bind (wpAny_updateSeq e rfl ?_)
  obtain ⟨K1, K2, K3, K4, K5, K6, K7⟩ := step (f := (·.push .none)) (its' := [Value.none]) (ts' := [V.non]) J1 J2 J3 J4 J5 upd_same J6 J7 e rfl (.cons rfl .nil) (by decide)
  obtain ⟨_, its, n, r, _, e⟩ := K1.lstM (l := S) (xs := [V.non]) upd_same
  obtain ⟨u, rfl, ru⟩ := r.one
  refine wpAny_updateSeq e rfl ?_
  obtain ⟨M1, M2, M3, M4, M5, M6, M7⟩ := step (f := (·.pop)) (its' := []) (ts' := []) K1 K2 K3 K4 K5 upd_same K6 K7 e rfl .nil (by decide)
  refine wpAny_pure ⟨plainId_quiet F.plain_extend_loop _, ?_⟩
  refine zip_loop hh D hSa hSb hn _ 0 _ _ [] rfl (Nat.zero_le _) M1 M2 M3 M4 M5 upd_same ⟨rfl, fun j t h => by simp at h⟩ (fun c hcS q => k0 c hcS (M7 c hcS q)) fun s' H' ts' I' k' hS' hp' => ?_
  exact hR s' H' ts' I' (fun c u hcS q => k' c u hcS (M6 c u hcS q)) hS' hp'
end
/-- list(zip(x, y)), lists -/
def tListZip (K : PySem.W.Frag) (ta : TA) : TE := fun σ H Q => ta σ H fun vs H1 => ∃ (a b : Addr) (xs ys : List V), vs = [.ref a, .ref b] ∧ SqL K H1 a xs ∧ SqL K H1 b ys ∧ min xs.length ys.length ≤ 1000000 ∧
  ∀ (q : Addr) (ts : List V) (H2 : Hp), (∀ c u, H1 c = some u → H2 c = some u) → H1 q = none → H2 q = some (.lst ts) → Prs H1 H2 xs ys ts (min xs.length ys.length) → Q (.ref q) H2
section
variable {X : Cx}
theorem pe_listZip {e e2 : Expr} {ta : TA} {p p2 pos pos2 : Pos} (hc : X.calm = true) (hg : Gl X "list") (hm : X.mg "list" = none) (hg2 : Gl X "zip") (hm2 : X.mg "zip" = none) (ha : PA X [e, e2] ta)
    (hs : starEach [e, e2] X.env = (false, eval e X.env) :: starEach [e2] X.env := by rfl) (hpl : (backTo pos2 (starEach [e2] X.env)).any (·.1) = false := by rfl)
    (hs2 : starEach [.Call (.Name "zip" p2) [e, e2] [] pos2] X.env = (false, eval (.Call (.Name "zip" p2) [e, e2] [] pos2) X.env) :: starEach [] X.env := by rfl) :
    PE X (.Call (.Name "list" p) [.Call (.Name "zip" p2) [e, e2] [] pos2] [] pos) (tListZip X.K ta) := by
  refine ⟨fun pins s σ H Q I h => ?_⟩
  refine Call_ (ld_blt I hg hm boot_list (PyProof.Rows.callWith_type1 (args_cons (Call_ (ld_blt I hg2 hm2 PyProof.Rows.boot_zip (PyProof.Rows.callWith_type1 (thn (ha.run pos2 pins s σ H _ I h) fun us s1 ⟨vs, H1, I1, r1, q1⟩ => ?_) hs hpl))) hs2) hs2 rfl))
  obtain ⟨a, b, xs, ys, ex, hqx, hqy, hn, q⟩ := q1
  subst ex
  cases r1 with
  | cons r rr =>
    cases rr with
    | cons r' rr =>
      cases rr
      cases r
      cases r'
      obtain ⟨its, rv, p1, _⟩ := I1.list hqx
      obtain ⟨its2, rv2, p2', _⟩ := I1.list hqy
      have la : a < s1.heap.objs.size := p1.lt
      have lb : b < s1.heap.objs.size := p2'.lt
      refine call_zip_2 p1.isList p2'.isList fun h' hz hTI hTO h1 h2 hsz hk => args_nil ?_
      have I2 : Inv X pins σ H1 { s1 with heap := h' } := I1.kept (t' := s1.toks) hk
      have hle : ∀ c ∈ [s1.heap.objs.size + 4, s1.heap.objs.size + 2, s1.heap.objs.size + 3, s1.heap.objs.size, s1.heap.objs.size + 1], s1.heap.objs.size ≤ c ∧ c < h'.objs.size := fun c hcm => by
        have e' : c = s1.heap.objs.size + 4 ∨ c = s1.heap.objs.size + 2 ∨ c = s1.heap.objs.size + 3 ∨ c = s1.heap.objs.size ∨ c = s1.heap.objs.size + 1 := by simpa using hcm
        omega
      have D := PySem.W.ktu_apart s1.heap.objs.size a b la lb
      have fps : ∀ c ∈ [s1.heap.objs.size + 4, s1.heap.objs.size + 2, s1.heap.objs.size + 3, s1.heap.objs.size, s1.heap.objs.size + 1], FpOk X pins H1 c := fun c hcm => I1.fpOk (hle c hcm).1 (I1.hok.fresh (hle c hcm).1)
      have fresh : H1 h'.objs.size = none := I2.hok.fresh (Nat.le_refl _)
      refine callType_codes (Q₁ := fun obj s₁ => obj = .ref h'.objs.size ∧ s₁ = { s1 with heap := h'.push { cls := .type "list", data := .seq #[] } }) PySem.F.called_list (PySem.F.typeCall_list_1 _) PySem.F.entry_list_init
        (code_list_new _ ⟨rfl, rfl⟩) fun obj s₁ h₁ => ?_
      obtain ⟨rfl, rfl⟩ := h₁
      have hS : (h'.push { cls := .type "list", data := .seq #[] }).get? h'.objs.size = some { cls := .type "list", data := .seq #[] } := Heap.get?_push_size _ rfl
      have I3 : Inv X pins σ (upd H1 h'.objs.size (.lst [])) { s1 with heap := h'.push { cls := .type "list", data := .seq #[] } } := I2.lnew (its := []) (ys := []) (t' := s1.toks) .nil (by decide)
      have ne : ∀ c ∈ [s1.heap.objs.size + 4, s1.heap.objs.size + 2, s1.heap.objs.size + 3, s1.heap.objs.size, s1.heap.objs.size + 1], c ≠ h'.objs.size := fun c hcm => Nat.ne_of_lt (hle c hcm).2
      have la' : a < h'.objs.size := Nat.lt_trans la (hle s1.heap.objs.size (by simp)).2
      have lb' : b < h'.objs.size := Nat.lt_trans lb (hle s1.heap.objs.size (by simp)).2
      have st0 : zipSt (s1.heap.objs.size + 4) (s1.heap.objs.size + 2) (s1.heap.objs.size + 3) s1.heap.objs.size (s1.heap.objs.size + 1) a b 0 h' := ⟨⟨_, _, hz, .inl rfl⟩, hTI, ⟨_, _, hTO⟩, h1, h2⟩
      refine ⟨⟨_, hS, rfl⟩, PySem.F.args_list_init_2 _ _, init_zip (A := X.A.in1) (H0 := H1) (I1.ok.hd hc) D (Nat.ne_of_gt la') (Nat.ne_of_gt lb') hn I3 (fun c hcm => fp_up (fps c hcm) (by rw [upd_ne (ne c hcm)]; exact (fps c hcm).1)) (zip_keep st0 fun c hcm o q => Heap.get?_push_of_some _ q)
        (sql_at hqx fun u q => by rw [upd_ne (ne_of_none q fresh)]; exact q) (sql_at hqy fun u q => by rw [upd_ne (ne_of_none q fresh)]; exact q) upd_same (fun c hcS q => by rw [upd_ne hcS] at q; exact q) fun s' H' ts' I' k' hS' hp' => ?_⟩
      refine ⟨rfl, .ref h'.objs.size, H', I', rfl, q _ ts' H' (fun c u hu => k' c u (ne_of_none hu fresh) (by rw [upd_ne (ne_of_none hu fresh)]; exact hu)) fresh hS' hp'⟩
end
end RX
namespace RX
open PySem PySem.Spec PyProof.Rows L2 RT
def Itz3 (K : PySem.W.Frag) (a b c : Addr) : It :=
  ⟨fun i H => ∃ xs ys zs x y z, SqL K H a xs ∧ SqL K H b ys ∧ SqL K H c zs ∧ xs[i]? = some x ∧ ys[i]? = some y ∧ zs[i]? = some z,
   fun i H v H' => ∃ (T : Addr) (x y z : V), v = V.ref T ∧ H T = none ∧ H' = upd H T (.tup [x, y, z]) ∧ (∀ l, SqL K H a l → l[i]? = some x) ∧ (∀ l, SqL K H b l → l[i]? = some y) ∧ (∀ l, SqL K H c l → l[i]? = some z),
   fun i H => ∃ xs ys zs, SqL K H a xs ∧ SqL K H b ys ∧ SqL K H c zs ∧ (i ≤ xs.length ∧ i ≤ ys.length ∧ i ≤ zs.length ∧ (i = xs.length ∨ i = ys.length ∨ i = zs.length))⟩
def zip3St (z TI TO i1 i2 i3 a b c : Addr) (i : Nat) (h : Heap) : Prop := IsZip h z TI TO .none ∧ IsTupOf3 h TI (.ref i1) (.ref i2) (.ref i3) ∧ (∃ x y w, IsTupOf3 h TO x y w) ∧ h.IsListIter i1 a i ∧ h.IsListIter i2 b i ∧ h.IsListIter i3 c i
theorem turn_zip3 {P : Program} {w : World} {K : PySem.W.Frag} {elts : List Expr} {kk : Nat} {tpos : Pos} {a b c z TI TO i1 i2 i3 : Addr} (S : ZipSep3 z TI TO i1 i2 i3 [i1, a] [i2, b] [i3, c]) :
    Turn P w K (.Tuple elts kk tpos) (Itz3 K a b c) [z, TI, TO, i1, i2, i3] z (zip3St z TI TO i1 i2 i3 a b c) where
  mem := by simp
  obj := fun i h st d hd => by
    obtain ⟨hz, hTI, ⟨x, y, w, hTO⟩, ⟨o1, e1, _, d1⟩, ⟨o2, e2, _, d2⟩, ⟨o3, e3, _, d3⟩⟩ := st
    have e' : d = z ∨ d = TI ∨ d = TO ∨ d = i1 ∨ d = i2 ∨ d = i3 := by simpa using hd
    rcases e' with rfl | rfl | rfl | rfl | rfl | rfl
    · exact ⟨_, hz, fun v q => nomatch q⟩
    · exact ⟨_, hTI, fun v q => nomatch q⟩
    · exact ⟨_, hTO, fun v q => nomatch q⟩
    · exact ⟨o1, e1, fun v q => by rw [d1] at q; cases q⟩
    · exact ⟨o2, e2, fun v q => by rw [d2] at q; cases q⟩
    · exact ⟨o3, e3, fun v q => by rw [d3] at q; cases q⟩
  keep := fun i h h' st k => by
    obtain ⟨hz, hTI, ⟨x, y, w, hTO⟩, h1, h2, h3⟩ := st
    exact ⟨k z (by simp) _ hz, k TI (by simp) _ hTI, ⟨x, y, w, k TO (by simp) _ hTO⟩, h1.at fun o q => k i1 (by simp) o q, h2.at fun o q => k i2 (by simp) o q, h3.at fun o q => k i3 (by simp) o q⟩
  item := by
    intro X hP hw hK hc i pins s σ H E I hf st hg
    subst hP hw hK
    obtain ⟨hz, hTI, ⟨x0, y0, w0, hTO⟩, h1, h2, h3⟩ := st
    obtain ⟨xs, ys, zs, x, y, w, hqx, hqy, hqz, hx, hy, hw⟩ := hg
    obtain ⟨its, rv, p, _⟩ := I.list hqx
    obtain ⟨its2, rv2, p2, _⟩ := I.list hqy
    obtain ⟨its3, rv3, p3, _⟩ := I.list hqz
    obtain ⟨u, hu, ru⟩ := rv.get hx
    obtain ⟨u2, hu2, ru2⟩ := rv2.get hy
    obtain ⟨u3, hu3, ru3⟩ := rv3.get hw
    have hh := I.ok.hd hc
    have n1 : a ≠ i1 := fun q => by obtain ⟨o1, q1, q2, _⟩ := p.isList; obtain ⟨o2, q3, q4, _⟩ := h1; rw [q] at q1; rw [q1] at q3; cases q3; exact absurd (q2.symm.trans q4) (by decide)
    have n2 : b ≠ i2 := fun q => by obtain ⟨o1, q1, q2, _⟩ := p2.isList; obtain ⟨o2, q3, q4, _⟩ := h2; rw [q] at q1; rw [q1] at q3; cases q3; exact absurd (q2.symm.trans q4) (by decide)
    have n3 : c ≠ i3 := fun q => by obtain ⟨o1, q1, q2, _⟩ := p3.isList; obtain ⟨o2, q3, q4, _⟩ := h3; rw [q] at q1; rw [q1] at q3; cases q3; exact absurd (q2.symm.trans q4) (by decide)
    have D1 := Draws.list (prog := X.prog) (w := X.w) (A := X.A.in1) hh i1 a n1 its.toArray
    have D2 := Draws.list (prog := X.prog) (w := X.w) (A := X.A.in1) hh i2 b n2 its2.toArray
    have D3 := Draws.list (prog := X.prog) (w := X.w) (A := X.A.in1) hh i3 c n3 its3.toArray
    have lts : ∀ d ∈ [z, TI, TO, i1, i2, i3], d < s.heap.objs.size := fun d hd => by
      have e' : d = z ∨ d = TI ∨ d = TO ∨ d = i1 ∨ d = i2 ∨ d = i3 := by simpa using hd
      rcases e' with rfl | rfl | rfl | rfl | rfl | rfl
      · exact Heap.lt_size hz
      · exact Heap.lt_size hTI
      · exact Heap.lt_size hTO
      · obtain ⟨_, e1, _⟩ := h1; exact Heap.lt_size e1
      · obtain ⟨_, e1, _⟩ := h2; exact Heap.lt_size e1
      · obtain ⟨_, e1, _⟩ := h3; exact Heap.lt_size e1
    have l1 : i < its.toArray.size := by rw [List.size_toArray]; exact (List.getElem?_eq_some_iff.mp hu).1
    have l2 : i < its2.toArray.size := by rw [List.size_toArray]; exact (List.getElem?_eq_some_iff.mp hu2).1
    have l3 : i < its3.toArray.size := by rw [List.size_toArray]; exact (List.getElem?_eq_some_iff.mp hu3).1
    refine wpAny_pyNext_zipD3_item S D1 D2 D3 hz hTI hTO ⟨h1, p.isList⟩ ⟨h2, p2.isList⟩ ⟨h3, p3.isList⟩ l1 l2 l3 fun x1 x2 x3 h' tk y1 y2 y3 z' TO' d1 d2 d3 hT hsz hk => ?_
    have e1 : x1 = u := by
      have : its.toArray[i]? = some x1 := y1
      rw [List.getElem?_toArray, hu] at this
      exact (Option.some.inj this).symm
    have e2 : x2 = u2 := by
      have : its2.toArray[i]? = some x2 := y2
      rw [List.getElem?_toArray, hu2] at this
      exact (Option.some.inj this).symm
    have e3 : x3 = u3 := by
      have : its3.toArray[i]? = some x3 := y3
      rw [List.getElem?_toArray, hu3] at this
      exact (Option.some.inj this).symm
    subst e1 e2 e3
    refine ⟨_, rfl, wpAny_letOwnedTupleGo_zip (s := { s with heap := h', toks := tk }) z' fun h'' z'' sb => ?_⟩
    have hT2 : IsTupOf3 h'' s.heap.objs.size x1 x2 x3 := (sb.2 _ (Nat.ne_of_gt (lts z (by simp)))).trans hT
    have new : ObjOk X.prog X.w (upd H s.heap.objs.size (.tup [x, y, w])) h'' s.heap.objs.size (.tup [x, y, w]) :=
      ⟨by show 3 ≤ sizeLine; decide, [x1, x2, x3], .cons ru (.cons ru2 (.cons ru3 .nil)), ⟨_, hT2, rfl, _, rfl⟩⟩
    have I1 : Inv X pins σ (upd H s.heap.objs.size (.tup [x, y, w])) { s with heap := h'', toks := tk } :=
      I.turnedNew (t' := tk) (ch := [z, TI, TO, i1, i2, i3]) (fun d o hb q => (sb.2 d (fun q' => hb (by simp [q']))).trans (hk d o (fun q' => hb (by simp [q'])) (fun q' => hb (by simp [q'])) (fun q' => hb (by simp [q'])) (fun q' => hb (by simp [q'])) (fun q' => hb (by simp [q'])) q)) hf (Nat.le_refl _) new
    refine ⟨.ref s.heap.objs.size, _, I1, rfl, ⟨_, x, y, w, rfl, I.hok.fresh (Nat.le_refl _), rfl, fun l hl => by rw [I.list_inj hl hqx]; exact hx, fun l hl => by rw [I.list_inj hl hqy]; exact hy, fun l hl => by rw [I.list_inj hl hqz]; exact hw⟩, ⟨z'', ?_, ⟨x1, x2, x3, ?_⟩, ?_, ?_, ?_⟩, fun d hd => ?_⟩
    · exact (sb.2 _ S.TIz).trans (hk _ _ S.TIz S.TITO S.TIi1 S.TIi2 S.TIi3 hTI)
    · exact (sb.2 _ S.TOz).trans TO'
    · exact d1.1.at fun o q => (sb.2 _ (Ne.symm S.zi1)).trans q
    · exact d2.1.at fun o q => (sb.2 _ (Ne.symm S.zi2)).trans q
    · exact d3.1.at fun o q => (sb.2 _ (Ne.symm S.zi3)).trans q
    · rw [upd_ne (Nat.ne_of_lt (lts d hd))]
      exact (hf d hd).1
  done := by
    intro X hP hw hK hc i pins s σ H E I hf st hg
    subst hP hw hK
    obtain ⟨hz, hTI, ⟨x0, y0, w0, hTO⟩, h1, h2, h3⟩ := st
    obtain ⟨xs, ys, zs, hqx, hqy, hqz, k1, k2, k3, hend⟩ := hg
    obtain ⟨its, rv, p, _⟩ := I.list hqx
    obtain ⟨its2, rv2, p2, _⟩ := I.list hqy
    obtain ⟨its3, rv3, p3, _⟩ := I.list hqz
    have m1 := rv.length
    have m2 := rv2.length
    have m3 := rv3.length
    have hh := I.ok.hd hc
    have n1 : a ≠ i1 := fun q => by obtain ⟨o1, q1, q2, _⟩ := p.isList; obtain ⟨o2, q3, q4, _⟩ := h1; rw [q] at q1; rw [q1] at q3; cases q3; exact absurd (q2.symm.trans q4) (by decide)
    have n2 : b ≠ i2 := fun q => by obtain ⟨o1, q1, q2, _⟩ := p2.isList; obtain ⟨o2, q3, q4, _⟩ := h2; rw [q] at q1; rw [q1] at q3; cases q3; exact absurd (q2.symm.trans q4) (by decide)
    have n3 : c ≠ i3 := fun q => by obtain ⟨o1, q1, q2, _⟩ := p3.isList; obtain ⟨o2, q3, q4, _⟩ := h3; rw [q] at q1; rw [q1] at q3; cases q3; exact absurd (q2.symm.trans q4) (by decide)
    have D1 := Draws.list (prog := X.prog) (w := X.w) (A := X.A.in1) hh i1 a n1 its.toArray
    have D2 := Draws.list (prog := X.prog) (w := X.w) (A := X.A.in1) hh i2 b n2 its2.toArray
    have D3 := Draws.list (prog := X.prog) (w := X.w) (A := X.A.in1) hh i3 c n3 its3.toArray
    refine wpAny_pyNext_zipD3_end S D1 D2 D3 hz hTI hTO ⟨h1, p.isList⟩ ⟨h2, p2.isList⟩ ⟨h3, p3.isList⟩ (by rw [List.size_toArray]; omega) (by rw [List.size_toArray]; omega) (by rw [List.size_toArray]; omega) (by rw [List.size_toArray, List.size_toArray, List.size_toArray]; omega) fun h' tk hk => ?_
    exact ⟨rfl, I.turnedL (t' := tk) (ch := [z, TI, TO, i1, i2, i3]) (fun d o hb q =>
      hk d o (fun q' => hb (by simp [q'])) (fun q' => hb (by simp [q'])) (fun q' => hb (by simp [q'])) (fun q' => hb (by simp [q'])) (fun q' => hb (by simp [q'])) q) hf⟩
  self := fun A i s Q E st h => wpAny_pyIter_zip st.1 h
theorem sep3_mk (I a b c : Nat) (h1 : a < I) (h2 : b < I) (h3 : c < I) : ZipSep3 (I + 5) (I + 3) (I + 4) I (I + 1) (I + 2) [I, a] [I + 1, b] [I + 2, c] := by
  constructor <;> first | exact List.mem_cons_self | (refine PySem.W.neN ?_; omega) | (intro q; rcases List.mem_cons.mp q with q | q; exact (PySem.W.neN (by omega)) q; exact (PySem.W.neN (by omega)) (List.mem_singleton.mp q))
def iZip3 (K : PySem.W.Frag) (ta : TA) : TI := fun σ H R => ta σ H fun vs H1 => ∃ a b c xs ys zs, vs = [.ref a, .ref b, .ref c] ∧ SqL K H1 a xs ∧ SqL K H1 b ys ∧ SqL K H1 c zs ∧ R (Itz3 K a b c) H1
theorem pi_zip3 {X : Cx} {e e2 e3 : Expr} {ta : TA} {p pos tpos : Pos} {elts : List Expr} {kk : Nat} (hg : Gl X "zip") (hm : X.mg "zip" = none) (ha : PA X [e, e2, e3] ta)
    (hs : starEach [e, e2, e3] X.env = (false, eval e X.env) :: starEach [e2, e3] X.env := by rfl) (hpl : (backTo pos (starEach [e2, e3] X.env)).any (·.1) = false := by rfl) :
    PI X (.Tuple elts kk tpos) (.Call (.Name "zip" p) [e, e2, e3] [] pos) (iZip3 X.K ta) := by
  refine ⟨fun pins s σ H R I h => ?_⟩
  refine Call_ (ld_blt I hg hm PyProof.Rows.boot_zip (PyProof.Rows.callWith_type1 (thn (ha.run pos pins s σ H _ I h) fun us s1 ⟨vs, H1, I1, r1, q1⟩ => ?_) hs hpl))
  obtain ⟨a, b, c, xs, ys, zs, ex, hqx, hqy, hqz, q⟩ := q1
  subst ex
  cases r1 with
  | cons r rr =>
    cases rr with
    | cons r' rr =>
      cases rr with
      | cons r'' rr =>
        cases rr
        cases r
        cases r'
        cases r''
        obtain ⟨its, rv, p1, _⟩ := I1.list hqx
        obtain ⟨its2, rv2, p2, _⟩ := I1.list hqy
        obtain ⟨its3, rv3, p3, _⟩ := I1.list hqz
        have la : (a : Nat) < s1.heap.objs.size := p1.lt
        have lb : (b : Nat) < s1.heap.objs.size := p2.lt
        have lc : (c : Nat) < s1.heap.objs.size := p3.lt
        refine zip_begins3 (begins_list a its.toArray) (begins_list b its2.toArray) (begins_list c its3.toArray) p1.isList p2.isList p3.isList fun h' hz hTI hTO g1 g2 g3 hsz hk => wpAny_pyIter_zip hz ?_
        have I2 : Inv X pins σ H1 { s1 with heap := h' } := I1.kept (t' := s1.toks) hk
        have S := sep3_mk s1.heap.objs.size a b c la lb lc
        refine ⟨s1.heap.objs.size + 5, [s1.heap.objs.size + 5, s1.heap.objs.size + 3, s1.heap.objs.size + 4, s1.heap.objs.size, s1.heap.objs.size + 1, s1.heap.objs.size + 2], _, _, H1, rfl, I2, turn_zip3 S, ⟨hz, hTI, ⟨_, _, _, hTO⟩, ⟨_, g1, rfl, rfl⟩, ⟨_, g2, rfl, rfl⟩, ⟨_, g3, rfl, rfl⟩⟩, fun d hd => ?_, q⟩
        have e' : d = s1.heap.objs.size + 5 ∨ d = s1.heap.objs.size + 3 ∨ d = s1.heap.objs.size + 4 ∨ d = s1.heap.objs.size ∨ d = s1.heap.objs.size + 1 ∨ d = s1.heap.objs.size + 2 := by simpa using hd
        have hle : s1.heap.objs.size ≤ d := by
          rcases e' with z | z | z | z | z | z <;> rw [z] <;> first | exact Nat.le_refl _ | exact Nat.le_add_right _ _
        exact I1.fpOk hle (I1.hok.fresh hle)
end RX
set_option maxRecDepth 100000
set_option maxHeartbeats 4000000
namespace RT2
open PySem PySem.Spec PyProof.Rows L2
abbrev KI := Int ⊕ List Nat
def keysV (shape : Nat → Bool) : Nat → List V → Option (List KI)
  | _, [] => some []
  | i, .int n :: r => if shape i = true then none else (keysV shape (i + 1) r).map (Sum.inl n :: ·)
  | i, .str x :: r => if shape i = true then (keysV shape (i + 1) r).map (Sum.inr x.cps.toList :: ·) else none
  | _, _ :: _ => none
def kLt (a b : List KI) : Bool := (listOrd itemOrd).blt a b
theorem vals_keys {shape : Nat → Bool} : ∀ {items : List V} {its : List Value} {i : Nat} {l : List KI}, Vals items its → keysV shape i items = some l → tupItems shape i its = some l
  | [], _, _, _, .nil, h => h
  | v :: items, _, i, l, .cons r t, h => by
    cases v with
    | int n =>
      obtain ⟨tk, rfl⟩ := r
      unfold keysV at h
      unfold tupItems
      split at h
      · cases h
      · rename_i hs
        rw [if_neg hs]
        obtain ⟨l', h1, h2⟩ := Option.map_eq_some_iff.mp h
        rw [vals_keys t h1]
        exact congrArg some h2
    | str x =>
      obtain ⟨tk, rfl⟩ := r
      unfold keysV at h
      unfold tupItems
      split at h
      · rename_i hs
        rw [if_pos hs]
        obtain ⟨l', h1, h2⟩ := Option.map_eq_some_iff.mp h
        rw [vals_keys t h1]
        exact congrArg some h2
      · cases h
    | _ => simp [keysV] at h
theorem tups_of {h : Heap} {shape : Nat → Bool} : ∀ {vs : List Value}, (∀ v ∈ vs, ∃ f, TupOf h shape v f) → ∃ fs, TupsOf h shape vs fs
  | [], _ => ⟨[], .nil⟩
  | v :: vs, hh => by
    obtain ⟨f, hf⟩ := hh v List.mem_cons_self
    obtain ⟨fs, hfs⟩ := tups_of (vs := vs) fun u hu => hh u (List.mem_cons_of_mem _ hu)
    exact ⟨f :: fs, .cons hf hfs⟩
end RT2
namespace RT2
open PySem PySem.Spec PyProof.Rows L2
def leV (key : V → List KI) (x y : V) : Bool := !kLt (key y) (key x)
def rSortedT (K : PySem.W.Frag) : List V → Hp → VK → Prop := fun vs H Q => ∃ (a : Addr) (xs : List V) (shape : Nat → Bool), vs = [V.ref a] ∧ SqL K H a xs ∧
  (∀ x ∈ xs, ∃ (t : Addr) (items : List V) (l : List KI), x = V.ref t ∧ SqT K H t items ∧ items ≠ [] ∧ keysV shape 0 items = some l) ∧
  ∀ (key : V → List KI) (p : Addr), (∀ (t : Addr) (items : List V) (l : List KI), V.ref t ∈ xs → SqT K H t items → keysV shape 0 items = some l → key (V.ref t) = l) → H p = none → Q (.ref p) (upd H p (.lst (xs.mergeSort (leV key))))
theorem cr_sortedT {X : Cx} : CallR X (.builtin "sorted") (rSortedT X.K) := by
  intro pins s σ H vs us Q I r h
  obtain ⟨a, xs, shape, rfl, hs, hx, q⟩ := h
  let key : V → List KI := fun v => match v with | .ref t => (G.tupKeyC s.heap shape (.ref t)).getD [] | _ => []
  obtain ⟨its, rv, hl, hz⟩ := I.list hs
  rw [Vals.ref1 r]
  obtain ⟨e1, e2⟩ := refs_back rv fun x m => by
    obtain ⟨t, _, _, e, _⟩ := hx x m
    exact ⟨t, e⟩
  have hv : ∀ v ∈ its, (∃ f, TupOf s.heap shape v f) ∧ G.tupKeyC s.heap shape v = some (key (backV v)) := fun v hm => by
    obtain ⟨t, rfl⟩ := e2 v hm
    have hm' : V.ref t ∈ xs := by rw [e1]; exact List.mem_map.mpr ⟨_, hm, rfl⟩
    obtain ⟨t', items, l, e, h1, h2, h3⟩ := hx _ hm'
    cases e
    obtain ⟨its2, r2, ⟨o, ho, hc, n, hd⟩, _⟩ := I.tuple h1
    have hk := vals_keys r2 h3
    have ht : G.isTupObj s.heap (.ref t) = true := by
      simp only [G.isTupObj, ho]
      rw [hc]; rfl
    refine ⟨?_, ?_⟩
    · cases items with
      | nil => exact absurd rfl h2
      | cons x items =>
        cases r2 with
        | cons rx rr =>
          rename_i u us'
          refine ⟨u, t, o, (u :: us').toArray, n, rfl, ho, hc, hd, rfl, fun hsh => ?_, fun hsh => ?_⟩
          · obtain ⟨k, tk, _, e, _⟩ := tupItems_int hsh hk
            exact ⟨k, tk, e⟩
          · obtain ⟨k, tk, _, e, _⟩ := tupItems_str hsh hk
            exact ⟨k, tk, e⟩
    · have e3 : G.tupKeyC s.heap shape (.ref t) = some l := by
        unfold G.tupKeyC
        rw [if_pos ht]
        unfold tupKey
        simp only [ho, hd]
        exact hk
      show G.tupKeyC s.heap shape (.ref t) = some ((G.tupKeyC s.heap shape (.ref t)).getD [])
      rw [e3]; rfl
  obtain ⟨fs, hfs⟩ := tups_of fun v hm => (hv v hm).1
  have hz' : its.length ≤ sizeLine := by rw [← rv.length]; exact hz
  refine G.sorted_tups hl.isList hfs (fun v hm => ⟨_, (hv v hm).2⟩) hz' fun st' p1 p2 p3 => ?_
  have hk := G.tupKeys (shape := shape) (h := s.heap) (vs := its) fun v hm => ⟨_, (hv v hm).2⟩
  have ea := PySem.W.sort_arr hk p1 p2 p3
  have eo : (((arrOf st').map (·.2)).toList.map backV) = xs.mergeSort (leV key) := by
    rw [Array.toList_map, ea, pairsOf_toList, List.map_map, List.map_mergeSort (s := leV key)]
    · congr 1
      rw [← List.map_map, List.map_snd_zip (Nat.le_refl _), e1]
    · intro x hxm y hym
      obtain ⟨ex, mx⟩ := mem_zip_self hxm
      obtain ⟨ey, my⟩ := mem_zip_self hym
      have kx := PySem.W.keyD_some (κ := G.tupKindC s.heap shape) (hv _ mx).2
      have ky := PySem.W.keyD_some (κ := G.tupKindC s.heap shape) (hv _ my).2
      show (!(G.tupKindC s.heap shape).blt (PySem.W.keyD (G.tupKindC s.heap shape) y.1) (PySem.W.keyD (G.tupKindC s.heap shape) x.1)) = leV key (backV x.2) (backV y.2)
      rw [kx, ky, ex, ey]
      rfl
  obtain ⟨ep, he'⟩ := PyProof.Rows.sortedAll_at s.heap its ((arrOf st').map (·.2))
  have hpm : ((arrOf st').map (·.2)).toList.Perm its := by
    rw [Array.toList_map]
    have := (Array.perm_iff_toList_perm.mp p1).map (·.2)
    rw [pairsOf_toList, List.map_snd_zip (Nat.le_refl _)] at this
    exact this
  have hall : ∀ u ∈ ((arrOf st').map (·.2)).toList, ∃ a, u = Value.ref a := fun u hu => e2 u (hpm.mem_iff.mp hu)
  have hlen : (xs.mergeSort (leV key)).length ≤ sizeLine := by rw [List.length_mergeSort]; exact hz
  refine ⟨.ref _, upd H (s.heap.objs.size + 1) (.lst (xs.mergeSort (leV key))), I.laid (t' := s.toks) (fun _ _ => PyProof.Rows.sortedAll_old) (Nat.le_succ _) ⟨hlen, ((arrOf st').map (·.2)).toList, ep, ?_, ?_⟩, rfl, q key _ (fun t items l hm h1 h3 => ?_) (I.hok.fresh (Nat.le_succ _))⟩
  rotate_left 2
  · obtain ⟨its2, r2, ⟨o, ho, hc, n, hd⟩, _⟩ := I.tuple h1
    have hk := vals_keys r2 h3
    have ht : G.isTupObj s.heap (.ref t) = true := by
      simp only [G.isTupObj, ho]
      rw [hc]; rfl
    have e3 : G.tupKeyC s.heap shape (.ref t) = some l := by
      unfold G.tupKeyC
      rw [if_pos ht]
      unfold tupKey
      simp only [ho, hd]
      exact hk
    show (G.tupKeyC s.heap shape (.ref t)).getD [] = l
    rw [e3]; rfl
  · rw [← eo]; exact vals_back hall
  · rw [he']
end RT2
set_option maxRecDepth 100000
set_option maxHeartbeats 2000000
namespace RX
open PySem PySem.Spec PyProof.Rows L2 RT
section
variable {prog : Program} {w : World} {A : Around} {E : Value → Shared → Prop} {s : Shared}
/-- enumerate's next, whatever stands within -/
theorem enum_next_any {e it : Addr} {i : Int} {old : Value} {R : Value → Heap → Prop} {Q : Value → Shared → Prop}
    (he : IsEnum s.heap e it i old)
    (hin : ∀ (Q' : Value → Shared → Prop), (∀ x h₁, R x h₁ → Q' x { s with heap := h₁ }) → wpAny (model prog w) A (Builtin.SmallTypes.nextOf (.ref it)) Q' E s)
    (hR : ∀ x h₁, R x h₁ → IsEnum h₁ e it i old)
    (hQ : ∀ x h₁ h' tk, R x h₁ → IsEnumOut h' e it (i + 1) x h₁.objs.size → h'.get? h₁.objs.size = some { cls := .type "tuple", data := .seq #[.int i tk, x] } → h'.objs.size = h₁.objs.size + 1 →
      (∀ b o, b ≠ e → h₁.get? b = some o → h'.get? b = some o) → Q (.ref h₁.objs.size) { s with heap := h', toks := tk + 1 }) :
    wpAny (model prog w) A (Builtin.«enumerate.__next__» ⟨[.ref e], []⟩) (fun fin s' => ∃ v, fin = .done (.ret v) ∧ Q v s') E s := by
  obtain ⟨hp, g, d, tk, os⟩ := s
  show wpAny _ _ (field (.ref e) 2 >>= _) _ _ _
  refine wpAny_bind (wpAny_field he rfl (x := .ref it) rfl ?_)
  refine wpAny_bind (hin _ fun x h₁ hx => ?_)
  have he₁ : IsEnum h₁ e it i old := hR x h₁ hx
  show wpAny _ _ (field (.ref e) 3 >>= _) _ _ ⟨h₁, g, d, tk, os⟩
  refine wpAny_bind (wpAny_field he₁ rfl (x := rawInt i) rfl ?_)
  show wpAny _ _ (field (.ref e) 4 >>= _) _ _ ⟨h₁, g, d, tk, os⟩
  refine wpAny_bind (wpAny_field he₁ rfl (x := .none) rfl ?_)
  show wpAny _ _ (mkInt i >>= _) _ _ ⟨h₁, g, d, tk, os⟩
  refine wpAny_bind (wpAny_mkInt ?_)
  show wpAny _ _ (setField (.ref e) 3 (rawInt ((i : Int) + 1)) >>= _) _ _ ⟨h₁, g, d, tk + 1, os⟩
  refine wpAny_bind (wpAny_setField_rec he₁ (by simp) fun h₂ he₂ hs₂ => ?_)
  replace hs₂ : Heap.SameBut e h₁ h₂ := hs₂
  replace he₂ : IsEnum h₂ e it ((i : Int) + 1) old := he₂
  show wpAny _ _ (setField (.ref e) 4 .none >>= _) _ _ ⟨h₂, g, d, tk + 1, os⟩
  refine wpAny_bind (wpAny_setField_rec he₂ (by simp) fun h₃ he₃ hs₃ => ?_)
  replace hs₃ : Heap.SameBut e h₂ h₃ := hs₃
  replace he₃ : IsEnum h₃ e it ((i : Int) + 1) old := he₃
  show wpAny _ _ (newTuple [.int i tk, x] >>= _) _ _ ⟨h₃, g, d, tk + 1, os⟩
  refine wpAny_bind (wpAny_newTuple ?_)
  have he₄ : IsEnum (h₃.push { cls := .type "tuple", data := .seq #[.int i tk, x] }) e it ((i : Int) + 1) old := Heap.get?_push_of_some _ he₃
  generalize hh₄ : h₃.push { cls := .type "tuple", data := .seq #[.int i tk, x] } = h₄ at he₄
  have hsz : h₃.objs.size = h₁.objs.size := by rw [hs₃.1, hs₂.1]
  have hel : e < h₁.objs.size := Heap.lt_size he₁
  have ht₄ : h₄.get? h₁.objs.size = some { cls := .type "tuple", data := .seq #[.int i tk, x] } := by rw [← hh₄, ← hsz]; exact Heap.get?_push_size _ rfl
  have hz₄ : h₄.objs.size = h₁.objs.size + 1 := by rw [← hh₄, Heap.size_push, hsz]
  have hk₄ : ∀ b o, b ≠ e → h₁.get? b = some o → h₄.get? b = some o := fun b o hbe hb => by
    rw [← hh₄]; exact Heap.get?_push_of_some _ (hs₃.extBut b o hbe (hs₂.extBut b o hbe hb))
  show wpAny _ _ (Builtin.SmallTypes.ownedTupleIsFree (.ref e) >>= _) _ _ ⟨h₄, g, d, tk + 1, os⟩
  rw [hsz]
  clear hh₄ he₃ hs₃ he₂ hs₂ hsz h₃ h₂
  refine wpAny_bind ?_
  · unfold Builtin.SmallTypes.ownedTupleIsFree
    refine wpAny_bind (wpAny_field he₄ rfl (x := .none) rfl (wpAny_pure ?_))
    simp only [if_true]
    refine wpAny_bind (wpAny_rule ?_)
    refine wpAny_bind (wpAny_field he₄ rfl (x := old) rfl ?_)
    refine wpAny_bind (wpAny_setField_rec he₄ (by simp) fun h₅ he₅ hs₅ => ?_)
    replace hs₅ : Heap.SameBut e h₄ h₅ := hs₅
    replace he₅ : IsEnum h₅ e it ((i : Int) + 1) x := he₅
    show wpAny _ _ (Builtin.SmallTypes.ownedTupleHandOut (.ref e) (.ref h₁.objs.size) >>= _) _ _ ⟨h₅, g, d, tk + 1, os⟩
    refine wpAny_bind ?_
    · unfold Builtin.SmallTypes.ownedTupleHandOut
      refine wpAny_bind (wpAny_setField_rec he₅ (by simp) fun h₆ he₆ hs₆ => ?_)
      replace hs₆ : Heap.SameBut e h₅ h₆ := hs₆
      replace he₆ : IsEnumOut h₆ e it ((i : Int) + 1) x h₁.objs.size := he₆
      refine wpAny_setField_rec he₆ (by simp) fun h₇ he₇ hs₇ => ?_
      replace hs₇ : Heap.SameBut e h₆ h₇ := hs₇
      replace he₇ : IsEnumOut h₇ e it ((i : Int) + 1) x h₁.objs.size := he₇
      refine wpAny_bind (wpAny_letGo (wpAny_pure ⟨_, rfl, hQ x h₁ h₇ tk hx he₇ ?_ ?_ ?_⟩))
      · exact hs₇.extBut _ _ (Nat.ne_of_gt hel) (hs₆.extBut _ _ (Nat.ne_of_gt hel) (hs₅.extBut _ _ (Nat.ne_of_gt hel) ht₄))
      · rw [hs₇.1, hs₆.1, hs₅.1, hz₄]
      · exact fun b o hbe hb => hs₇.extBut b o hbe (hs₆.extBut b o hbe (hs₅.extBut b o hbe (hk₄ b o hbe hb)))
/-- a zip's next, within -/
theorem nextOf_zip {z TI TO i1 i2 a b : Addr} {i : Nat} {xs ys : Array Value} {x y : Value} {Q : Value → Shared → Prop} (D : ZipApart z TI TO i1 i2 a b) (st : zipSt z TI TO i1 i2 a b i s.heap)
    (hl : s.heap.IsList a xs) (hm : s.heap.IsList b ys) (hx : xs[i]? = some x) (hy : ys[i]? = some y)
    (hQ : ∀ h', zipSt z TI TO i1 i2 a b (i + 1) h' → IsPair h' s.heap.objs.size x y → h'.objs.size = s.heap.objs.size + 1 → (∀ c o, c ≠ z → c ≠ TO → c ≠ i1 → c ≠ i2 → s.heap.get? c = some o → h'.get? c = some o) → Q (.ref s.heap.objs.size) { s with heap := h' }) :
    wpAny (model prog w) A (Builtin.SmallTypes.nextOf (.ref z)) Q E s := by
  obtain ⟨⟨x0, f, hz, hx0⟩, hTI, ⟨xx, yy, hTO⟩, h1, h2⟩ := st
  have hT : s.TypeIs (.ref z) "zip" := ⟨_, hz, rfl⟩
  have go : ZFree s.heap x0 → wpAny (model prog w) A (Builtin.SmallTypes.nextOf (.ref z)) Q E s := fun hfr => by
    unfold Builtin.SmallTypes.nextOf
    exact wpAny_bind (wpAny_callSpecial?_slot (name := Str.ofString "__next__") hT F.slot_zip_next
      (wpAny_call_entry F.slot_zip_next hT F.entry_zip_next (zfree_item D hz hfr hTI hTO h1 h2 hl hm hx hy fun h' z' TO' h1' h2' hT' hsz hk =>
        wpAny_pure (hQ h' ⟨⟨_, _, z', .inr ⟨_, rfl⟩⟩, hk _ _ D.TIz D.TITO D.TIi1 D.TIi2 hTI, ⟨x, y, TO'⟩, h1', h2'⟩ hT' hsz hk)) (F.args_zip_next_1 _)))
  rcases hx0 with rfl | ⟨T, rfl⟩
  · exact go (.inl rfl)
  · cases hT2 : s.heap.get? T with
    | none => exact go (.inr ⟨T, rfl, hT2⟩)
    | some oT =>
      unfold Builtin.SmallTypes.nextOf
      exact wpAny_bind (wpAny_callSpecial?_slot (name := Str.ofString "__next__") hT F.slot_zip_next
        (wpAny_call_entry F.slot_zip_next hT F.entry_zip_next (zip_next_item_held D hz hT2 hTI h1 h2 hl hm hx hy fun h' z' h1' h2' hT' hsz hk =>
          wpAny_pure (hQ h' ⟨⟨_, _, z', .inr ⟨_, rfl⟩⟩, hk _ _ D.TIz D.TIi1 D.TIi2 hTI, ⟨xx, yy, hk _ _ D.TOz D.TOi1 D.TOi2 hTO⟩, h1', h2'⟩ hT' hsz fun c o n1 _ n3 n4 e => hk c o n1 n3 n4 e)) (F.args_zip_next_1 _)))
theorem nextOf_zip_end {z TI TO i1 i2 a b : Addr} {i : Nat} {xs ys : Array Value} {Q : Value → Shared → Prop} (hh : A.in1.handled = none) (D : ZipApart z TI TO i1 i2 a b) (st : zipSt z TI TO i1 i2 a b i s.heap)
    (hl : s.heap.IsList a xs) (hm : s.heap.IsList b ys) (he : xs[i]? = none ∨ ys[i]? = none)
    (hE : ∀ h' e, (∀ c o, c ≠ z → c ≠ TO → c ≠ i1 → c ≠ i2 → s.heap.get? c = some o → h'.get? c = some o) → (∃ o, h'.get? e = some o ∧ o.cls = .type "StopIteration") → E (.ref e) { s with heap := h' }) :
    wpAny (model prog w) A (Builtin.SmallTypes.nextOf (.ref z)) Q E s := by
  obtain ⟨⟨x0, f, hz, hx0⟩, hTI, ⟨xx, yy, hTO⟩, h1, h2⟩ := st
  have hT : s.TypeIs (.ref z) "zip" := ⟨_, hz, rfl⟩
  have go : ZFree s.heap x0 → wpAny (model prog w) A (Builtin.SmallTypes.nextOf (.ref z)) Q E s := fun hfr => by
    unfold Builtin.SmallTypes.nextOf
    exact wpAny_bind (wpAny_callSpecial?_slot (name := Str.ofString "__next__") hT F.slot_zip_next
      (wpAny_call_entry F.slot_zip_next hT F.entry_zip_next (zfree_end hh D hz hfr hTI hTO h1 h2 hl hm he fun h' e hk ho => hE h' e hk ho) (F.args_zip_next_1 _)))
  rcases hx0 with rfl | ⟨T, rfl⟩
  · exact go (.inl rfl)
  · cases hT2 : s.heap.get? T with
    | none => exact go (.inr ⟨T, rfl, hT2⟩)
    | some oT =>
      unfold Builtin.SmallTypes.nextOf
      exact wpAny_bind (wpAny_callSpecial?_slot (name := Str.ofString "__next__") hT F.slot_zip_next
        (wpAny_call_entry F.slot_zip_next hT F.entry_zip_next (zip_next_end_held hh D hz hT2 hTI h1 h2 hl hm he fun h' e hk ho => hE h' e (fun c o n1 _ n3 n4 q => hk c o n1 n3 n4 q) ho) (F.args_zip_next_1 _)))
theorem pyNext_enum_any {e it : Addr} {i : Int} {old : Value} {R : Value → Heap → Prop} {Q : Option Value → Shared → Prop}
    (he : IsEnum s.heap e it i old)
    (hin : ∀ (E' : Value → Shared → Prop) (Q' : Value → Shared → Prop), (∀ x h₁, R x h₁ → Q' x { s with heap := h₁ }) → wpAny (model prog w) A.in1 (Builtin.SmallTypes.nextOf (.ref it)) Q' E' s)
    (hR : ∀ x h₁, R x h₁ → IsEnum h₁ e it i old)
    (hQ : ∀ x h₁ h' tk, R x h₁ → IsEnumOut h' e it (i + 1) x h₁.objs.size → h'.get? h₁.objs.size = some { cls := .type "tuple", data := .seq #[.int i tk, x] } → h'.objs.size = h₁.objs.size + 1 →
      (∀ b o, b ≠ e → h₁.get? b = some o → h'.get? b = some o) → Q (some (.ref h₁.objs.size)) { s with heap := h', toks := tk + 1 }) :
    wpAny (model prog w) A (pyNext (.ref e)) Q E s := by
  have hT : s.TypeIs (.ref e) "enumerate" := ⟨_, he, rfl⟩
  unfold pyNext
  exact wpAny_bind (wpAny_attempt (wpAny_callSpecial?_slot (name := Str.ofString "__next__") hT F.slot_enumerate_next
    (wpAny_call_entry F.slot_enumerate_next hT F.entry_enumerate_next
      (enum_next_any he (hin _) hR fun x h₁ h' tk a b c d k => wpAny_pure (hQ x h₁ h' tk a b c d k)) (F.args_enumerate_next_1 _))))
theorem pyNext_enum_end {e it : Addr} {i : Int} {old : Value} {R : Heap → Prop} {Q : Option Value → Shared → Prop}
    (he : IsEnum s.heap e it i old)
    (hin : ∀ (E' : Value → Shared → Prop) (Q' : Value → Shared → Prop), (∀ h' x, R h' → (∃ o, h'.get? x = some o ∧ o.cls = .type "StopIteration") → E' (.ref x) { s with heap := h' }) → wpAny (model prog w) A.in1 (Builtin.SmallTypes.nextOf (.ref it)) Q' E' s)
    (hQ : ∀ h', R h' → Q none { s with heap := h' }) : wpAny (model prog w) A (pyNext (.ref e)) Q E s := by
  have hT : s.TypeIs (.ref e) "enumerate" := ⟨_, he, rfl⟩
  unfold pyNext
  refine wpAny_bind (wpAny_attempt (wpAny_callSpecial?_slot (name := Str.ofString "__next__") hT F.slot_enumerate_next
    (wpAny_call_entry F.slot_enumerate_next hT F.entry_enumerate_next ?_ (F.args_enumerate_next_1 _))))
  show wpAny _ _ (field (.ref e) 2 >>= _) _ _ _
  refine wpAny_bind (wpAny_field he rfl (x := .ref it) rfl ?_)
  refine wpAny_bind (hin _ _ fun h' x hr hx => ?_)
  obtain ⟨o, ho, hc⟩ := hx
  refine wpAny_bind (wpAny_isInstance (T := "StopIteration") (b := true) ⟨o, ho, hc⟩ isSubtype_stop ?_)
  exact wpAny_pure (hQ _ hr)
set_option maxHeartbeats 1000000 in
theorem meets_enumerate_newZ (z TI TO : Addr) (f0 : Value) :
    Meets (Builtin.«enumerate.__new__» ⟨[.type "enumerate", .ref z], []⟩) (fun _ R s => IsZip s.heap z TI TO f0 ∧
      R (.ok (.ret (.ref s.heap.objs.size)))
        { s with heap := s.heap.push { cls := .type "enumerate", data := .fields #[.none, .bool false, .ref z, rawInt 0, .none, .none] } }) :=
  .of_wp fun prog w A R s h => by
    obtain ⟨hp, g, d, tk, os⟩ := s
    obtain ⟨hz, h⟩ := h
    have hsub := sub_enumerate
    wp_walk using wpAny_loadPart' hz
    refine wpAny_stack_any fun st => wpAny_pure ?_
    split
    · rename_i c _ _ _ _ _
      cases (c == Value.type "enumerate")
      · wp_walk using wpAny_loadPart' hz, wpAny_pyIter_zip hz
        exact ⟨_, rfl, h⟩
      · wp_walk using wpAny_loadPart' hz, wpAny_pyIter_zip hz
        exact ⟨_, rfl, h⟩
    · wp_walk using wpAny_loadPart' hz, wpAny_pyIter_zip hz
      exact ⟨_, rfl, h⟩
theorem call_enumerate_zip {z TI TO : Addr} {f0 : Value} {Q : Value → Shared → Prop} (hz : IsZip s.heap z TI TO f0)
    (h : ∀ h', IsEnum h' s.heap.objs.size z 0 .none → h'.objs.size = s.heap.objs.size + 1 → (∀ b o, s.heap.get? b = some o → h'.get? b = some o) → Q (.ref s.heap.objs.size) { s with heap := h' }) :
    wpAny (model prog w) A (call (.type "enumerate") [.ref z]) Q E s := by
  refine callType_new F.called_enumerate (by decide) (F.typeCall_enumerate_1 _) (F.newCall_enumerate_1 _) (fun obj => F.args_object_init_2 obj _) F.entry_enumerate_new
    (meets_enumerate_newZ z TI TO f0) ⟨hz, ?_⟩
  have he : IsEnum (s.heap.push { cls := .type "enumerate", data := .fields #[.none, .bool false, .ref z, rawInt 0, .none, .none] }) s.heap.objs.size z 0 .none := Heap.get?_push_size s.heap (o := { cls := .type "enumerate", data := .fields #[.none, .bool false, .ref z, rawInt 0, .none, .none] }) rfl
  exact ⟨⟨_, he, rfl⟩, h _ he (by rw [Heap.size_push]) fun b o y => Heap.get?_push_of_some _ y⟩
end
/-- enumerate over zip of two lists -/
def ItEZ (K : PySem.W.Frag) (a b : Addr) : It :=
  ⟨(Itz K a b).go,
    fun i H v H' => ∃ T1 T2 x y, v = .ref T2 ∧ H T1 = none ∧ H T2 = none ∧ T1 ≠ T2 ∧ H' = upd (upd H T1 (.tup [x, y])) T2 (.tup [.int (i : Nat), .ref T1]) ∧ (∀ xs, SqL K H a xs → xs[i]? = some x) ∧ ∀ ys, SqL K H b ys → ys[i]? = some y,
    (Itz K a b).stop⟩
theorem zipSt_keep {z TI TO i1 i2 a b : Addr} {i : Nat} {h h' : Heap} (st : zipSt z TI TO i1 i2 a b i h) (k : ∀ c ∈ [z, TI, TO, i1, i2], ∀ o, h.get? c = some o → h'.get? c = some o) : zipSt z TI TO i1 i2 a b i h' := by
  obtain ⟨⟨x, f, hz, hx⟩, hTI, ⟨x', y, hTO⟩, h1, h2⟩ := st
  exact ⟨⟨x, f, k z (by simp) _ hz, hx⟩, k TI (by simp) _ hTI, ⟨x', y, k TO (by simp) _ hTO⟩, h1.at fun o q => k i1 (by simp) o q, h2.at fun o q => k i2 (by simp) o q⟩
theorem turn_enumZ {P : Program} {w : World} {K : PySem.W.Frag} {elts : List Expr} {kk : Nat} {tpos : Pos} {e a b z TI TO i1 i2 : Addr} (D : ZipApart z TI TO i1 i2 a b) (hne : ∀ c ∈ [z, TI, TO, i1, i2], e ≠ c) :
    Turn P w K (.Tuple elts kk tpos) (ItEZ K a b) [e, z, TI, TO, i1, i2] e (fun i h => (∃ old, IsEnum h e z ((i : Nat) : Int) old) ∧ zipSt z TI TO i1 i2 a b i h) where
  mem := by simp
  obj := fun i h st c hc => by
    obtain ⟨⟨old, he⟩, ⟨x, f, hz, _⟩, hTI, ⟨x', y, hTO⟩, ⟨o1, e1, _, d1⟩, ⟨o2, e2, _, d2⟩⟩ := st
    have e' : c = e ∨ c = z ∨ c = TI ∨ c = TO ∨ c = i1 ∨ c = i2 := by simpa using hc
    rcases e' with rfl | rfl | rfl | rfl | rfl | rfl
    · exact ⟨_, he, fun v q => nomatch q⟩
    · exact ⟨_, hz, fun v q => nomatch q⟩
    · exact ⟨_, hTI, fun v q => nomatch q⟩
    · exact ⟨_, hTO, fun v q => nomatch q⟩
    · exact ⟨o1, e1, fun v q => by rw [d1] at q; cases q⟩
    · exact ⟨o2, e2, fun v q => by rw [d2] at q; cases q⟩
  keep := fun i h h' st k => by
    obtain ⟨⟨old, he⟩, st⟩ := st
    exact ⟨⟨old, k e (by simp) _ he⟩, zipSt_keep st fun c hc o q => k c (List.mem_cons_of_mem _ hc) o q⟩
  item := by
    intro X hP hw hK hc i pins s σ H E I hf st hg
    subst hP hw hK
    obtain ⟨⟨old, he⟩, hz⟩ := st
    obtain ⟨xs, ys, x, y, hqx, hqy, hx, hy⟩ := hg
    obtain ⟨its, rv, p, _⟩ := I.list hqx
    obtain ⟨its2, rv2, p2, _⟩ := I.list hqy
    obtain ⟨u, hu, ru⟩ := rv.get hx
    obtain ⟨u2, hu2, ru2⟩ := rv2.get hy
    have hel : e < s.heap.objs.size := Heap.lt_size he
    have lts : ∀ c ∈ [z, TI, TO, i1, i2], c < s.heap.objs.size := fun c hcm => by
      obtain ⟨⟨x, f, hz, _⟩, hTI, ⟨x', y, hTO⟩, ⟨o1, e1, _, d1⟩, ⟨o2, e2, _, d2⟩⟩ := hz
      have e' : c = z ∨ c = TI ∨ c = TO ∨ c = i1 ∨ c = i2 := by simpa using hcm
      rcases e' with rfl | rfl | rfl | rfl | rfl
      · exact Heap.lt_size hz
      · exact Heap.lt_size hTI
      · exact Heap.lt_size hTO
      · exact Heap.lt_size e1
      · exact Heap.lt_size e2
    refine pyNext_enum_any (R := fun v h₁ => v = .ref s.heap.objs.size ∧ IsEnum h₁ e z ((i : Nat) : Int) old ∧ zipSt z TI TO i1 i2 a b (i + 1) h₁ ∧ IsPair h₁ s.heap.objs.size u u2 ∧ h₁.objs.size = s.heap.objs.size + 1 ∧
        (∀ c o, c ≠ z → c ≠ TO → c ≠ i1 → c ≠ i2 → s.heap.get? c = some o → h₁.get? c = some o)) he
      (fun E' Q' k => nextOf_zip D hz p.isList p2.isList (x := u) (y := u2) (by simpa using hu) (by simpa using hu2) fun h' a1 a2 a3 a4 =>
        k _ _ ⟨rfl, a4 e _ (hne z (by simp)) (hne TO (by simp)) (hne i1 (by simp)) (hne i2 (by simp)) he, a1, a2, a3, a4⟩)
      (fun _ _ h => h.2.1) fun v h₁ h' tk hr ho hT hsz hk => ?_
    obtain ⟨rfl, he1, st1, hp1, hs1, k1⟩ := hr
    refine ⟨_, rfl, wpAny_letOwnedTupleGo_enum (s := { s with heap := h', toks := tk + 1 }) ho fun h'' he' sb => ?_⟩
    have hle : s.heap.objs.size ≤ h₁.objs.size := by rw [hs1]; exact Nat.le_add_right _ _
    have hel1 : e < h₁.objs.size := Nat.lt_of_lt_of_le hel hle
    have hT12 : s.heap.objs.size ≠ h₁.objs.size := by rw [hs1]; exact Nat.ne_of_lt (Nat.lt_succ_self _)
    have k2 : ∀ c o, c ≠ e → h₁.get? c = some o → h''.get? c = some o := fun c o n q => (sb.2 c n).trans (hk c o n q)
    have new1 : ObjOk X.prog X.w (upd H s.heap.objs.size (.tup [x, y])) h₁ s.heap.objs.size (.tup [x, y]) := ⟨by show 2 ≤ sizeLine; decide, [u, u2], .cons ru (.cons ru2 .nil), ⟨_, hp1, rfl, _, rfl⟩⟩
    have I1 : Inv X pins σ (upd H s.heap.objs.size (.tup [x, y])) { s with heap := h₁, toks := tk + 1 } :=
      I.turnedNew (t' := tk + 1) (ch := [z, TI, TO, i1, i2]) (fun c o hb q => k1 c o (fun q' => hb (by simp [q'])) (fun q' => hb (by simp [q'])) (fun q' => hb (by simp [q'])) (fun q' => hb (by simp [q'])) q)
        (fun c hcm => hf c (List.mem_cons_of_mem _ hcm)) (Nat.le_refl _) new1
    have hT2 : h''.get? h₁.objs.size = some { cls := .type "tuple", data := .seq #[.int i tk, .ref s.heap.objs.size] } := (sb.2 _ (Nat.ne_of_gt hel1)).trans hT
    have new2 : ObjOk X.prog X.w (upd (upd H s.heap.objs.size (.tup [x, y])) h₁.objs.size (.tup [.int (i : Nat), .ref s.heap.objs.size])) h'' h₁.objs.size (.tup [.int (i : Nat), .ref s.heap.objs.size]) :=
      ⟨by show 2 ≤ sizeLine; decide, [Value.int i tk, Value.ref s.heap.objs.size], .cons (show L2.RelV (.int (i : Nat)) (Value.int i tk) from ⟨tk, rfl⟩) (.cons (show L2.RelV (.ref s.heap.objs.size) (Value.ref s.heap.objs.size) from rfl) .nil), ⟨_, hT2, rfl, _, rfl⟩⟩
    have fe : FpOk X pins (upd H s.heap.objs.size (.tup [x, y])) e := by
      obtain ⟨f0, f1⟩ := hf e (by simp)
      exact ⟨by rw [upd_ne (Nat.ne_of_lt hel)]; exact f0, f1⟩
    have I2 : Inv X pins σ (upd (upd H s.heap.objs.size (.tup [x, y])) h₁.objs.size (.tup [.int (i : Nat), .ref s.heap.objs.size])) { s with heap := h'', toks := tk + 1 } :=
      I1.turnedNew (t' := tk + 1) (ch := [e]) (fun c o hb q => k2 c o (fun q' => hb (by simp [q'])) q) (fun c hcm => by rw [List.mem_singleton.mp hcm]; exact fe) (Nat.le_refl _) new2
    refine ⟨.ref h₁.objs.size, _, I2, rfl, ⟨s.heap.objs.size, h₁.objs.size, x, y, rfl, I.hok.fresh (Nat.le_refl _), I.hok.fresh hle, hT12, rfl, fun l hl => by rw [I.list_inj hl hqx]; exact hx, fun l hl => by rw [I.list_inj hl hqy]; exact hy⟩, ⟨⟨.ref s.heap.objs.size, ?_⟩, ?_⟩, fun c hcm => ?_⟩
    · have e1 : ((i + 1 : Nat) : Int) = (i : Int) + 1 := by omega
      rw [e1]; exact he'
    · exact zipSt_keep st1 fun c hc o q => k2 c o (fun q' => hne c hc q'.symm) q
    · have hlt : c < s.heap.objs.size := by
        rcases List.mem_cons.mp hcm with q | q
        · rw [q]; exact hel
        · exact lts c q
      rw [upd_ne (Nat.ne_of_lt (Nat.lt_of_lt_of_le hlt hle)), upd_ne (Nat.ne_of_lt hlt)]
      exact (hf c hcm).1
  done := by
    intro X hP hw hK hc i pins s σ H E I hf st hg
    subst hP hw hK
    obtain ⟨⟨old, he⟩, hz⟩ := st
    obtain ⟨xs, ys, hqx, hqy, hend⟩ := hg
    obtain ⟨its, rv, p, _⟩ := I.list hqx
    obtain ⟨its2, rv2, p2, _⟩ := I.list hqy
    have l1 := rv.length
    have l2 := rv2.length
    have hd : its.toArray[i]? = none ∨ its2.toArray[i]? = none := by
      rcases hend with q | q
      · exact .inl (by simp; omega)
      · exact .inr (by simp; omega)
    exact pyNext_enum_end (R := fun h' => ∀ c o, c ≠ z → c ≠ TO → c ≠ i1 → c ≠ i2 → s.heap.get? c = some o → h'.get? c = some o) he
      (fun E' Q' k => nextOf_zip_end (I.ok.hd hc) D hz p.isList p2.isList hd fun h' x hk ho => k h' x hk ho)
      fun h' hk => ⟨rfl, I.turnedL (t' := s.toks) (ch := [z, TI, TO, i1, i2]) (fun c o hb q => hk c o (fun q' => hb (by simp [q'])) (fun q' => hb (by simp [q'])) (fun q' => hb (by simp [q'])) (fun q' => hb (by simp [q'])) q) fun c hcm => hf c (List.mem_cons_of_mem _ hcm)⟩
  self := fun A i s Q E st h => let ⟨⟨_, he⟩, _⟩ := st; wpAny_pyIter_enum he h
def iEnumZ (K : PySem.W.Frag) (ta : TA) : TI := fun σ H R => ta σ H fun vs H1 => ∃ a b xs ys, vs = [.ref a, .ref b] ∧ SqL K H1 a xs ∧ SqL K H1 b ys ∧ R (ItEZ K a b) H1
theorem pi_enumZ {X : Cx} {e e2 : Expr} {ta : TA} {p p2 pos pos2 tpos : Pos} {elts : List Expr} {kk : Nat} (hg : Gl X "enumerate") (hm : X.mg "enumerate" = none) (hg2 : Gl X "zip") (hm2 : X.mg "zip" = none) (ha : PA X [e, e2] ta)
    (hs : starEach [e, e2] X.env = (false, eval e X.env) :: starEach [e2] X.env := by rfl) (hpl : (backTo pos2 (starEach [e2] X.env)).any (·.1) = false := by rfl) :
    PI X (.Tuple elts kk tpos) (.Call (.Name "enumerate" p) [.Call (.Name "zip" p2) [e, e2] [] pos2] [] pos) (iEnumZ X.K ta) := by
  refine ⟨fun pins s σ H R I h => ?_⟩
  refine Call_ (ld_blt I hg hm boot_enumerate (PyProof.Rows.callWith_type1 (Calls.spliced_cons ?_)))
  refine Call_ (ld_blt I hg2 hm2 PyProof.Rows.boot_zip (PyProof.Rows.callWith_type1 (thn (ha.run pos2 pins s σ H _ I h) fun us s1 ⟨vs, H1, I1, r1, q1⟩ => ?_) hs hpl))
  obtain ⟨a, b, xs, ys, ex, hqx, hqy, q⟩ := q1
  subst ex
  cases r1 with
  | cons r rr =>
    cases rr with
    | cons r' rr =>
      cases rr
      cases r
      cases r'
      obtain ⟨its, rv, p1, _⟩ := I1.list hqx
      obtain ⟨its2, rv2, p2, _⟩ := I1.list hqy
      refine call_zip_2 p1.isList p2.isList fun h' hz hTI hTO h1 h2 hsz hk => Calls.spliced_nil ?_
      refine call_enumerate_zip (s := { s1 with heap := h' }) hz fun h'' he hsz2 hk2 => wpAny_pyIter_enum he ?_
      have I2 : Inv X pins σ H1 { s1 with heap := h'' } := I1.kept (t' := s1.toks) fun c o q => hk2 c o (hk c o q)
      have fresh6 : ∀ c, c ∈ [h'.objs.size, s1.heap.objs.size + 4, s1.heap.objs.size + 2, s1.heap.objs.size + 3, s1.heap.objs.size, s1.heap.objs.size + 1] → FpOk X pins H1 c := fun c hcm => by
        have e' : c = h'.objs.size ∨ c = s1.heap.objs.size + 4 ∨ c = s1.heap.objs.size + 2 ∨ c = s1.heap.objs.size + 3 ∨ c = s1.heap.objs.size ∨ c = s1.heap.objs.size + 1 := by simpa using hcm
        have hle : s1.heap.objs.size ≤ c := by omega
        exact I1.fpOk hle (I1.hok.fresh hle)
      have hne : ∀ c ∈ [s1.heap.objs.size + 4, s1.heap.objs.size + 2, s1.heap.objs.size + 3, s1.heap.objs.size, s1.heap.objs.size + 1], h'.objs.size ≠ c := fun c hcm => by
        have e' : c = s1.heap.objs.size + 4 ∨ c = s1.heap.objs.size + 2 ∨ c = s1.heap.objs.size + 3 ∨ c = s1.heap.objs.size ∨ c = s1.heap.objs.size + 1 := by simpa using hcm
        omega
      have hzs : zipSt (s1.heap.objs.size + 4) (s1.heap.objs.size + 2) (s1.heap.objs.size + 3) s1.heap.objs.size (s1.heap.objs.size + 1) a b 0 h' := ⟨⟨_, _, hz, .inl rfl⟩, hTI, ⟨_, _, hTO⟩, h1, h2⟩
      exact ⟨h'.objs.size, [h'.objs.size, s1.heap.objs.size + 4, s1.heap.objs.size + 2, s1.heap.objs.size + 3, s1.heap.objs.size, s1.heap.objs.size + 1], _, _, H1, rfl, I2, turn_enumZ (PySem.W.ktu_apart s1.heap.objs.size a b p1.lt p2.lt) hne, ⟨⟨_, he⟩, zipSt_keep hzs fun c _ o q => hk2 c o q⟩, fresh6, q⟩
/-- every second item -/
def evs {α : Type} : List α → List α
  | [] => []
  | [x] => [x]
  | x :: _ :: r => x :: evs r
def evn {α : Type} (o : Bool) (xs : List α) : List α := evs (if o then xs.drop 1 else xs)
theorem fm_congr {α β : Type} {f g : α → Option β} : ∀ {l : List α}, (∀ x ∈ l, f x = g x) → l.filterMap f = l.filterMap g
  | [], _ => rfl
  | x :: r, h => by
    rw [List.filterMap_cons, List.filterMap_cons, h x (.head _), fm_congr fun y hy => h y (.tail _ hy)]
theorem evs_pick {α : Type} : ∀ l : List α, (List.range ((l.length + 1) / 2)).filterMap (fun k => l[2 * k]?) = evs l
  | [] => by simp [evs]
  | [x] => by simp [evs, List.range_succ]
  | x :: y :: r => by
    have e : ((x :: y :: r).length + 1) / 2 = (r.length + 1) / 2 + 1 := by simp only [List.length_cons]; omega
    rw [e, List.range_succ_eq_map, List.filterMap_cons]
    simp only [Nat.mul_zero, List.getElem?_cons_zero, List.filterMap_map, evs]
    refine congrArg _ ?_
    rw [← evs_pick r]
    refine fm_congr fun k _ => ?_
    show (x :: y :: r)[2 * (k + 1)]? = r[2 * k]?
    rw [show 2 * (k + 1) = 2 * k + 1 + 1 by omega]
    rfl
theorem evs_len {α : Type} : ∀ l : List α, (evs l).length ≤ l.length
  | [] => Nat.le_refl _
  | [x] => Nat.le_refl _
  | x :: y :: r => by
    have := evs_len r
    simp only [evs, List.length_cons]; omega
theorem evn_len {α : Type} (o : Bool) (l : List α) : (evn o l).length ≤ l.length := by
  unfold evn
  cases o
  · exact evs_len l
  · refine Nat.le_trans (evs_len _) ?_
    simp
theorem vals_evs : ∀ {xs : List V} {us : List Value}, Vals xs us → Vals (evs xs) (evs us)
  | _, _, .nil => .nil
  | _, _, .cons r .nil => .cons r .nil
  | _, _, .cons r (.cons _ q) => .cons r (vals_evs q)
theorem vals_evn {xs : List V} {us : List Value} (o : Bool) (r : Vals xs us) : Vals (evn o xs) (evn o us) := by
  unfold evn
  cases o
  · exact vals_evs r
  · refine vals_evs ?_
    cases r with
    | nil => exact .nil
    | cons a b => exact b
theorem pick_evn (o : Bool) (items : Array Value) : slicePick items (if o then some 1 else none) none (some 2) = (evn o items.toList).toArray := by
  unfold slicePick
  cases o
  · show ((sliceRange 0 (items.size : Int) 2).filterMap (items[·]?)).toArray = _
    refine congrArg _ ?_
    unfold evn
    simp only [Bool.false_eq_true, if_false]
    rw [← evs_pick]
    unfold sliceRange
    have e : (if (2 : Int) > 0 then (if (0 : Int) < (items.size : Int) then ((items.size : Int) - 0 + 2 - 1) / 2 else 0) else (if (0 : Int) > (items.size : Int) then (0 - (items.size : Int) - 2 - 1) / (-2) else 0)).toNat = (items.toList.length + 1) / 2 := by
      rw [if_pos (by decide), Array.length_toList]
      split
      · omega
      · omega
    dsimp only
    rw [e, List.filterMap_map]
    refine fm_congr fun k _ => ?_
    show items[((0 : Int) + 2 * (k : Int)).toNat]? = items.toList[2 * k]?
    rw [show ((0 : Int) + 2 * (k : Int)).toNat = 2 * k by omega, Array.getElem?_toList]
  · have hb : sliceBounds (some 1) none (some 2) items.size = (max 0 (min 1 (items.size : Int)), (items.size : Int), 2) := rfl
    simp only [if_true]
    rw [hb]
    refine congrArg _ ?_
    unfold evn
    simp only [if_true]
    rw [← evs_pick]
    unfold sliceRange
    have e : (if (2 : Int) > 0 then (if max 0 (min 1 (items.size : Int)) < (items.size : Int) then ((items.size : Int) - max 0 (min 1 (items.size : Int)) + 2 - 1) / 2 else 0) else (if max 0 (min 1 (items.size : Int)) > (items.size : Int) then (max 0 (min 1 (items.size : Int)) - (items.size : Int) - 2 - 1) / (-2) else 0)).toNat = ((items.toList.drop 1).length + 1) / 2 := by
      rw [if_pos (by decide), List.length_drop, Array.length_toList]
      split
      · omega
      · omega
    dsimp only
    rw [e, List.filterMap_map]
    refine fm_congr fun k hk => ?_
    have hk' := List.mem_range.mp hk
    rw [List.length_drop, Array.length_toList] at hk'
    show items[(max 0 (min 1 (items.size : Int)) + 2 * (k : Int)).toNat]? = (items.toList.drop 1)[2 * k]?
    rw [List.getElem?_drop, Array.getElem?_toList]
    congr 1
    omega
def tEvn (o : Bool) (K : PySem.W.Frag) (te : TE) : TE := fun σ H Q => te σ H fun x H1 => ∃ a xs, x = .ref a ∧ SqL K H1 a xs ∧ ∀ p, H1 p = none → Q (.ref p) (upd H1 p (.lst (evn o xs)))
/-- the ending, alike for both -/
theorem evn_end {X : Cx} {pins : List (Addr × Obj)} {σ : L2.St} {H : Hp} {s : Shared} {Q : V → Hp → Prop} {e slice : Expr} {a : Addr} {xs : List V} {vl vu vs : Value} (o : Bool) (I : Inv X pins σ H s) (hx : SqL X.K H a xs)
    (pl : IsPart vl (if o then some 1 else none)) (pu : IsPart vu none) (ps : IsPart vs (some 2)) (q : ∀ p, H p = none → Q (.ref p) (upd H p (.lst (evn o xs))))
    (hs : subscripted slice false (.ref a) (.ref s.heap.objs.size) = operate [.ref a, .ref s.heap.objs.size] (getItem (.ref a) (.ref s.heap.objs.size))) :
    wpAny (model X.prog X.w) X.A (subscriptTail e slice (.ref a) (.ref s.heap.objs.size)) (EP X pins σ Q) X.xe { s with heap := s.heap.push { cls := .type "slice", data := .fields #[vl, vu, vs] } } := by
  have I5 : Inv X pins σ H { s with heap := s.heap.push { cls := .type "slice", data := .fields #[vl, vu, vs] } } := I.kept (t' := s.toks) fun b ob q => Heap.get?_push_of_some _ q
  obtain ⟨its, r, ht, hz⟩ := I5.list hx
  have hlen := r.length
  refine tail_any (ops := [.ref a, .ref s.heap.objs.size]) ht.isList.typeIs (PySem.slot_list_getitem.lookup) ?_ hs
  refine wpAny_getItem_list_slice ht.isList (Heap.IsSliceOf.new _ vl vu vs) pl pu ps (by decide) ?_ (by rw [List.size_toArray]; omega)
  rw [pick_evn]
  refine ⟨.ref _, _, I5.laid (t' := s.toks) (o := .lst (evn o xs)) (fun b ob q => Heap.get?_push_of_some _ q) (Nat.le_refl _) ?_, rfl, q _ (I5.hok.fresh (Nat.le_refl _))⟩
  exact ⟨Nat.le_trans (evn_len o xs) hz, _, 0, vals_evn o r, Heap.get?_push_size _ rfl⟩
theorem pe_ev0 {X : Cx} {e : Expr} {te : TE} {k : Nat} {p1 p3 pos : Pos} (he : PE X e te) : PE X (.Subscript e (.Slice none none (some (.Constant (.int 2) k p1)) p3) pos) (tEvn false X.K te) := by
  refine ⟨fun pins s σ H Q I h => ?_⟩
  refine Subscript_ (thn (he.run pins s σ H _ I h) fun v s1 ⟨x, H1, I1, r1, q1⟩ => ?_)
  obtain ⟨a, xs, ex, hx, q⟩ := q1
  subst ex
  cases r1
  have hst : PO X (some (.Constant (.int 2) k p1)) (tPart (tC (.int 2))) := po_some pe_int
  refine wpAny_Slice (thn (po_none.run pins s1 σ H1 (fun o H2 => o = none ∧ H2 = H1) I1 ⟨rfl, rfl⟩) fun vl s2 ⟨l, H2, I2, pl, el, e2⟩ => ?_)
  subst el e2
  refine thn (po_none.run pins s2 σ H2 (fun o H3 => o = none ∧ H3 = H2) I2 ⟨rfl, rfl⟩) fun vu s3 ⟨u, H3, I3, pu, eu, e3⟩ => ?_
  subst eu e3
  refine thn (hst.run pins s3 σ H3 (fun o H4 => o = some 2 ∧ H4 = H3) I3 ⟨2, rfl, rfl, rfl⟩) fun vs s4 ⟨o, H4, I4, ps, eo, e4⟩ => ?_
  subst eo e4
  exact evn_end false I4 hx pl pu ps q (by with_unfolding_all rfl)
theorem pe_ev1 {X : Cx} {e : Expr} {te : TE} {k k2 : Nat} {p1 p2 p3 pos : Pos} (he : PE X e te) : PE X (.Subscript e (.Slice (some (.Constant (.int 1) k2 p2)) none (some (.Constant (.int 2) k p1)) p3) pos) (tEvn true X.K te) := by
  refine ⟨fun pins s σ H Q I h => ?_⟩
  refine Subscript_ (thn (he.run pins s σ H _ I h) fun v s1 ⟨x, H1, I1, r1, q1⟩ => ?_)
  obtain ⟨a, xs, ex, hx, q⟩ := q1
  subst ex
  cases r1
  have hst : PO X (some (.Constant (.int 2) k p1)) (tPart (tC (.int 2))) := po_some pe_int
  have hlo : PO X (some (.Constant (.int 1) k2 p2)) (tPart (tC (.int 1))) := po_some pe_int
  refine wpAny_Slice (thn (hlo.run pins s1 σ H1 (fun o H2 => o = some 1 ∧ H2 = H1) I1 ⟨1, rfl, rfl, rfl⟩) fun vl s2 ⟨l, H2, I2, pl, el, e2⟩ => ?_)
  subst el e2
  refine thn (po_none.run pins s2 σ H2 (fun o H3 => o = none ∧ H3 = H2) I2 ⟨rfl, rfl⟩) fun vu s3 ⟨u, H3, I3, pu, eu, e3⟩ => ?_
  subst eu e3
  refine thn (hst.run pins s3 σ H3 (fun o H4 => o = some 2 ∧ H4 = H3) I3 ⟨2, rfl, rfl, rfl⟩) fun vs s4 ⟨o, H4, I4, ps, eo, e4⟩ => ?_
  subst eo e4
  exact evn_end true I4 hx pl pu ps q (by with_unfolding_all rfl)
end RX
set_option maxRecDepth 100000
set_option maxHeartbeats 8000000
namespace PySem
namespace LowX
open PySem.W PySem.Calls PyProof.Rows PySem.HandSPX
def iA (p1 p2 : Pos) : Arguments := { posonlyargs := [], args := [{ arg := "self", annotation := none, pos := p1 }, { arg := "at", annotation := none, pos := p2 }], vararg := none, kwonlyargs := [], kw_defaults := [], kwarg := none, defaults := [] }
def iB (q1 q2 q3 q4 : Pos) : List Stmt := [.Assign [.Attribute (.Name "self" q1) "at" q2] (.Name "at" q3) q4]
def iS : Scope := { kind := .function, names := [(PySem.Str.ofString "self", .local), (PySem.Str.ofString "at", .local)], isGenerator := false, isCoroutine := false, more := [] }
/-- what the written part says of Low, at C, and of its __init__, at fI -/
structure LowTxt (cx q : Str) (K : Frag) (mg : Str → Option Value) (C fI : Addr) : Prop where
  gC : mg cx = some (.ref C)
  cls : ∃ nm q N bs bm sn sub ab col dd k0 k1 k2 k3 k5, K.lookup C = some (excClassObj nm q C N bs bm true sn sub ab col dd k0 k1 k2 k3 k5 "ValueError.__new__") ∧ refsVE bm = true
  sa : findIn K (.ref C) "__setattr__" = some (some (.builtin "object.__setattr__"))
  ga : findIn K (.ref C) "__getattribute__" = some (some (.builtin "BaseException.__getattribute__"))
  gg : findIn K (.ref C) "__getattr__" = some none
  noN : findIn K (.ref C) "at" = some none
  iC : findIn K (.ref C) "__init__" = some (some (.ref fI))
  tC : typeIn K (.ref fI) = some (.type "function")
  kC : keepIn K (.ref C) = true
  exC : subIn K (.ref C) (.type "BaseException") = some true
  tyC : typeIn K (.ref C) = some (.type "type")
  hdC : hasDictIn K C = true
  te : exmOne K (.ref C) (.ref C) = some true
  fn : ∃ (oc : Value) (od : Option Addr) (doc pm : Value) (an : Option Addr) (cdv ct : Value) (osl : Array (Option Value)) (p1 p2 q1 q2 q3 q4 : Pos),
    K.lookup fI = some ⟨oc, od, .func (fnOf "__init__" q (iA p1 p2) (iB q1 q2 q3 q4) iS .none .none doc pm an cdv ct), osl⟩ ∧ codeIn K cdv q = true
theorem one_size (v : Value) : [v].length ≤ sizeLine := by
  rw [sizeLine_eq]
  exact (by decide : 1 ≤ 16777216)
theorem ldC {M : Model} {s : Shared} {name : Str} {scope : Scope} {L a : Addr} {cd : Value} {m : Str → Option Value} {x : Str} {pos : Pos} {v : Value} {Q : Value → Shared → Prop} {A : Around} {E : Value → Shared → Prop} (hn : s.heap.Ns L m) (hv : m x = some v) (h : Q v s)
    (hk : scope.kind = .function := by rfl) (hl : (envOfC name scope L a cd).kindOf x = some .local := by rfl) (hd : (x == ("__debug__" : Str)) = false := by decide) :
    wpAny M A (eval (.Name x pos) (envOfC name scope L a cd)) Q E s := wpAny_Name (wpAny_loadName_local hk hl hn hv h) hd
/-- what __init__ leaves of a fresh exception at x -/
structure InitEnd (h h' : Heap) (x C dx t1 : Addr) (v : Value) : Prop where
  keep : ∀ b o, b ≠ x → h.get? b = some o → h'.get? b = some o
  obj : h'.get? x = some { cls := .ref C, dict := some dx, data := .fields #[.ref t1, .none, .none, .none, .bool false, .none] }
  dbig : h.objs.size ≤ dx
  dne : dx ≠ x
  ns : h'.Ns1 dx (fun y => if y = "at" then some v else none)
/-- a made Low -/
structure OwnMade (h h' : Heap) (e C d : Addr) (v : Value) : Prop where
  keep : ∀ b o, h.get? b = some o → h'.get? b = some o
  new : h.objs.size ≤ e
  obj : ∃ oe vs, h'.get? e = some oe ∧ oe.cls = .ref C ∧ oe.dict = some d ∧ oe.data = .fields vs ∧ vs[1]? = some .none
  dbig : h.objs.size ≤ d
  dne : d ≠ e
  ns : h'.Ns1 d (fun y => if y = "at" then some v else none)
section
variable {prog : Program} {w : World} {A : Around} {E : Value → Shared → Prop} {R : Result → Shared → Prop} {s : Shared} {K : Frag} {mg : Str → Option Value} {C fI : Addr} {cx q : Str}
theorem low_init (T : LowTxt cx q K mg C fI) {x t0 : Addr} {v : Value} (X : K.In s.heap) (hlim : s.heap.NoLimit) (hx : s.heap.get? x = some (excO C t0)) (hnx : K.lookup x = none) (hroom : A.depth < recursionLimit)
    (hq : ∀ h' tk dx, InitEnd s.heap h' x C dx t0 v → R (.ok (.ret .none)) { s with heap := h', toks := tk }) :
    codeAny (model prog w) A (.call (.ref fI) ⟨[.ref x, v], []⟩) R s := by
  obtain ⟨oc, od, doc, pm, an, cdv, ct, osl, p1, p2, q1, q2, q3, q4, ho, hcd⟩ := T.fn
  obtain ⟨nm, q0, N, bs, bm, sn, sub, ab, col, dd, k0, k1, k2, k3, k5, hC, hbm⟩ := T.cls
  have hcl : clsIn K C = some { name := nm, bases := bs, mro := .ref C :: bm, ns := N, qualname := q0, hasDict := true, slotNames := sn, subclasses := sub, abstract := ab, collection := col, hasDel := false } := by unfold clsIn; rw [hC] <;> rfl
  refine Att.call_fn (binds := [("self", .ref x), ("at", v)]) X hlim ho hcd hroom (BindsTo.of_eq (by first | rfl | with_unfolding_all rfl)) (by first | rfl | decide | with_unfolding_all rfl) (fun s₁ IC => ?_) rfl rfl rfl
  obtain ⟨h₁, tk₁, rfl⟩ := IC.toInCall.same
  have k : ∀ b o, s.heap.get? b = some o → h₁.get? b = some o := IC.toInCall.keep
  have hn := IC.toInCall.ns
  have hxL : s.heap.objs.size ≠ x := Nat.ne_of_gt (Heap.lt_size hx)
  have X₁ : K.In h₁ := X.keeps k
  have hx₁ := k _ _ hx
  -- self.by = by
  show wpAny _ _ (execs _ _) _ _ _
  refine wpAny_execs_cons (plainObj_wpAny_Assign_Attribute ?_)
  refine ldC (v := v) hn (by first | rfl | with_unfolding_all rfl | kernel_rfl) (ldC (v := .ref x) hn (by first | rfl | with_unfolding_all rfl | kernel_rfl) ?_)
  refine set_plain X₁ (ox := excO C t0) (od := none) ⟨hx₁, rfl, rfl, trivial⟩ T.sa ?_
  refine exc_osa X₁ hx₁ hcl (show refsVE (.ref C :: bm) = true from hbm) rfl T.noN (fun h₃ tk₃ dx k₃ dn dne hx₃ hn₃ => ?_)
  show wpAny _ _ (execs _ _) _ _ _
  have z : s.heap.objs.size < h₁.objs.size := hn.lt
  exact wpAny_execs_nil (hq h₃ tk₃ dx ⟨fun b o hb e => k₃ b o hb (k b o e), hx₃, Nat.le_of_lt (Nat.lt_of_lt_of_le z dn), dne, hn₃⟩)
theorem low_made (T : LowTxt cx q K mg C fI) {v : Value} (X : K.In s.heap) (hlim : s.heap.NoLimit) (hroom : A.depth + 1 < recursionLimit)
    (hq : ∀ h' tk e d, OwnMade s.heap h' e C d v → R (.ok (.ret (.ref e))) { s with heap := h', toks := tk }) :
    codeAny (model prog w) A (.call (.ref C) ⟨[v], []⟩) R s := by
  obtain ⟨nm, q0, N, bs, bm, sn, sub, ab, col, dd, k0, k1, k2, k3, k5, hC, hbm⟩ := T.cls
  obtain ⟨hp, g, dr, tk, os⟩ := s
  have k : ∀ b o, hp.get? b = some o → ((hp.push (kdv_tup [v])).push (excO C hp.objs.size)).get? b = some o := fun b o e => Heap.get?_push_of_some _ (Heap.get?_push_of_some _ e)
  have hget : ((hp.push (kdv_tup [v])).push (excO C hp.objs.size)).get? (hp.objs.size + 1) = some (excO C hp.objs.size) := by heap_get
  have hnx : K.lookup (hp.objs.size + 1) = none := by
    cases e : K.lookup (hp.objs.size + 1) with
    | none => rfl
    | some o =>
      have z : hp.get? (hp.objs.size + 1) = some o := X _ _ e
      exact absurd (Nat.lt_of_succ_lt (Heap.lt_size z)) (Nat.lt_irrefl _)
  refine call_own F.excBase_ValueError (fun X => refsVE_contains X bm hbm) (X _ _ hC) (looks_findIn X T.iC) (fun self => bind_fn X self T.tC) (one_size v) ?_
  refine low_init (s := ⟨(hp.push (kdv_tup [v])).push (excO C hp.objs.size), g, dr, tk, os⟩) T (X.keeps k) (hlim.keeps k) hget hnx ?_ fun h' tk' dx ⟨k', hx, dn, dne, hns⟩ => ?_
  · show A.depth + 1 < recursionLimit
    exact hroom
  · have old : ∀ b o, hp.get? b = some o → h'.get? b = some o := fun b o e => k' b o (Nat.ne_of_lt (Nat.lt_succ_of_lt (Heap.lt_size e))) (k b o e)
    have z : hp.objs.size + 1 + 1 ≤ dx := by
      first
        | (simpa only [Heap.size_push] using dn)
        | exact dn
        | (have q := dn; rw [Heap.size_push, Heap.size_push] at q; exact q)
    exact ⟨rfl, hq h' tk' (hp.objs.size + 1) dx ⟨old, Nat.le_succ _, ⟨_, _, hx, rfl, rfl, rfl, rfl⟩, Nat.le_trans (Nat.le_trans (Nat.le_succ _) (Nat.le_succ _)) z, dne, hns⟩⟩
end
end LowX
end PySem
namespace L2
open PySem PySem.Spec PyProof.Rows
theorem relO_low {v : V} {v' : Value} (r : RelV v v') (f : Str) : RelO (List.lookup f [(("at" : Str), v)]) (if f = "at" then some v' else none) := by
  by_cases hw : f = "at"
  · subst hw
    rw [if_pos rfl]
    have q : List.lookup ("at" : Str) [(("at" : Str), v)] = some v := by simp [List.lookup]
    rw [q]
    exact r
  · rw [if_neg hw]
    have qw : (f == ("at" : Str)) = false := by simpa using hw
    have q2 : List.lookup f [(("at" : Str), v)] = none := by simp [List.lookup, qw]
    rw [q2]
    trivial
section
variable {X : Cx} {C fI : Addr} {cx q : Str}
/-- Low(e) -/
def tMkLow (C : Addr) (ta : TA) : St → Hp → XK → Prop := fun σ H Q => ta σ H fun vs H1 => ∃ v, vs = [v] ∧ ∀ d, H1 d = none → Q (.ref C) (some d) (upd H1 d (.xd [(("at" : Str), v)]))
theorem pmk_low {a : Expr} {ta : TA} {p pos : Pos} {k : Nat} (T : PySem.LowX.LowTxt cx q X.K X.mg C fI) (hr : Room k X.A) (ha : PA X [a] ta) (hg : Gl X cx) (hdb : (cx == ("__debug__" : Str)) = false)
    (he : starEach (a :: []) X.env = (false, eval a X.env) :: starEach [] X.env := by rfl) (hpl : (backTo pos (starEach [] X.env)).any (·.1) = false := by rfl) :
    PMk X (.Call (.Name cx p) [a] [] pos) (tMkLow C ta) := by
  intro pins s σ H Q I h
  refine wpAny_Call_Name_kw (ld_glob I hg T.gC ?_ hdb)
  refine PySem.W.callWith_K (h₀ := X.base) I.ok.mod.kin T.kC (thn (ha.run pos pins s σ H _ I h) fun us s1 hh => ?_) he hpl
  obtain ⟨vs, H1, I1, r1, v, ev, q1⟩ := hh
  subst ev
  refine ⟨I1.kIn, ?_⟩
  cases r1 with
  | cons rv rn =>
    rename_i v' us'
    cases rn
    show wpAny _ _ (call (.ref C) [v']) _ _ _
    have hlim := I1.nolimit
    obtain ⟨hp, g, dr, tk, os⟩ := s1
    refine wpAny_call (PySem.LowX.low_made T I1.kIn hlim (by have := hr.dp; omega) fun h' tk' e d M => ?_)
    show MkP X pins σ Q (.ref e) ⟨h', g, dr, tk', os⟩
    obtain ⟨oe, fv, hoe, hc, hd, hdat, h1⟩ := M.obj
    have hns := M.ns
    obtain ⟨G', g1, g2⟩ := restrict h' fun b => decide (b ≠ e)
    have gk : ∀ b, b ≠ e → G'.get? b = h'.get? b := fun b hb => g1 b (decide_eq_true hb)
    have ge : G'.get? e = none := g2 e (by simp)
    have old : ∀ b o, hp.get? b = some o → G'.get? b = some o := fun b o q => (gk b (Nat.ne_of_lt (Nat.lt_of_lt_of_le (Heap.lt_size q) M.new))).trans (M.keep b o q)
    have ob : ObjOk X.prog X.w (upd H1 d (.xd [(("at" : Str), v)])) G' d (.xd [(("at" : Str), v)]) :=
      ⟨_, hns.at (fun o q => (gk d M.dne).trans q), fun f => relO_low rv f⟩
    have J : Inv X pins σ (upd H1 d (.xd [(("at" : Str), v)])) ⟨G', g, dr, tk', os⟩ := I1.laid (t' := tk') old M.dbig ob
    refine ⟨e, oe, fv, ⟨G', g, dr, tk', os⟩, _, .ref C, some d, rfl, J, fun b o q => ?_, ge, hoe, ⟨hc, hd⟩, hdat, h1, ?_, rfl, I1.bare, raises_own T.exC T.tyC, q1 d (I1.hok.fresh M.dbig)⟩
    · by_cases hb : b = e
      · have q' : G'.get? b = some o := q
        rw [hb, ge] at q'; cases q'
      · exact (gk b hb).symm.trans q
    · rw [upd_ne (Ne.symm M.dne)]
      exact I1.hok.fresh M.new
/-- raise Low(e) -/
def tRaiseLow (C : Addr) (W : WX) (ta : TA) : TS := fun _ σ H => tMkLow C ta σ H fun cls d H' => W cls d σ H'
theorem ps_raiseLow {a : Expr} {ta : TA} {W : WX} {p pos pos2 : Pos} {k : Nat} (hc : X.calm = true) (T : PySem.LowX.LowTxt cx q X.K X.mg C fI) (hr : Room k X.A) (tk : Takes X W) (ha : PA X [a] ta) (hg : Gl X cx) (hdb : (cx == ("__debug__" : Str)) = false)
    (he : starEach (a :: []) X.env = (false, eval a X.env) :: starEach [] X.env := by rfl) (hpl : (backTo pos (starEach [] X.env)).any (·.1) = false := by rfl) :
    PS X (.Raise (some (.Call (.Name cx p) [a] [] pos)) none pos2) (tRaiseLow C W ta) := ps_raise hc tk (pmk_low T hr ha hg hdb he hpl)
/-- e.at, e the exception that is pinned (at a; its class cls, its dict d) -/
def tAtX (C : Addr) (a : Addr) (cls : Value) (d : Option Addr) (te : TE) : TE := fun σ H Q => te σ H fun x H1 => x = .ref a ∧ cls = .ref C ∧ ∃ (dd : Addr) (v : V), d = some dd ∧ H1 dd = some (.xd [(("at" : Str), v)]) ∧ Q v H1
theorem inst_of {a : Addr} {oe : Obj} {C dd : Addr} {H : Hp} {v : V} {pins : List (Addr × Obj)} {σ : St} {s : Shared} (hp : (a, oe) ∈ X.pn) (hz : Zc (.ref C) (some dd) oe) (hf : ∃ vs, oe.data = .fields vs) (I : Inv X pins σ H s) (ea : H dd = some (.xd [(("at" : Str), v)])) :
    ∃ od u, PySem.W.InstAt s.heap a oe C (some od) ∧ PySem.W.lookIn "at" od = some (some u) ∧ RelV v u := by
  obtain ⟨ha, _⟩ := I.pin (a, oe) (List.mem_append_left _ hp)
  obtain ⟨vs, hd⟩ := hf
  have hx : ObjOk X.prog X.w H s.heap dd (.xd [(("at" : Str), v)]) := I.hok dd _ ea
  obtain ⟨mA, hns, hr⟩ := hx
  obtain ⟨od, ho, hl⟩ := lookIn_ns hns
  have l : List.lookup ("at" : Str) [(("at" : Str), v)] = some v := by simp [List.lookup]
  obtain ⟨u, hu, ru⟩ := RelO.some_of (v := v) (o := mA "at") (by rw [← l]; exact hr "at")
  exact ⟨od, u, ⟨ha, hz.1, by unfold PySem.W.notCls; rw [hd] <;> rfl, by rw [hz.2]; exact ho⟩, by rw [hl, hu], ru⟩
theorem pe_atX {a : Addr} {oe : Obj} {cls : Value} {d : Option Addr} {e : Expr} {te : TE} {pos : Pos} (T : PySem.LowX.LowTxt cx q X.K X.mg C fI) (hp : (a, oe) ∈ X.pn) (hz : Zc cls d oe) (hf : ∃ vs, oe.data = .fields vs) (he : PE X e te)
    (hb : attributeBase e "at" X.env (eval e X.env) = eval e X.env := by rfl) :
    PE X (.Attribute e "at" pos) (tAtX C a cls d te) := by
  refine ⟨fun pins s σ H Q I h => ?_⟩
  refine attr_of hb (thn (he.run pins s σ H _ I h) fun u s1 hh => ?_)
  obtain ⟨x, H1, I1, rx, ex, ec, dd, v, ed, ea, q⟩ := hh
  subst ex
  obtain rfl : u = Value.ref a := rx
  subst ec
  subst ed
  obtain ⟨od, u, J, hl, ru⟩ := inst_of hp hz hf I1 ea
  exact HandSPX.exc_get I1.kIn J T.ga T.gg T.exC (PySem.W.findObj_own T.hdC T.noN rfl hl) (handed_of ru) ⟨v, H1, I1.tok _, ru, q⟩
/-- isinstance(e, c), isinstance(e, (c, ..)), e the exception that is pinned -/
def rIsX (K : PySem.W.Frag) (D a dd : Addr) : List V → Hp → VK → Prop := fun xs H Q => ∃ (c : V) (b : Bool), xs = [.ref a, c] ∧ (∃ v, H dd = some (.xd [(("at" : Str), v)])) ∧
  ((∃ cv, ClsV c cv ∧ PySem.W.kitOne K (.ref D) cv = some b) ∨ (∃ tp cs us, c = .ref tp ∧ H tp = some (.tup cs) ∧ Paired ClsV cs us ∧ PySem.W.kitAny K (.ref D) us = some b)) ∧ Q (.bl b) H
theorem call_isX {a D dd : Addr} {oe : Obj} (C : ExcC X.K D) (hp : (a, oe) ∈ X.pn) (hz : Zc (.ref D) (some dd) oe) (hf : ∃ vs, oe.data = .fields vs) : CallR X (.builtin "isinstance") (rIsX X.K D a dd) := by
  intro pins s σ H xs us Q I r h
  obtain ⟨c, b, rfl, ⟨v, ea⟩, h, q⟩ := h
  obtain ⟨u1, u2, rfl, r1, r2⟩ := vals2 r
  cases (show u1 = Value.ref a from r1)
  obtain ⟨od, _, J, _, _⟩ := inst_of hp hz hf I ea
  have hcl : (PySem.W.clsIn X.K D).isSome = true := by
    obtain ⟨cd, hc, _⟩ := PySem.W.any_some C.hd
    rw [hc]; rfl
  have Z := PySem.W.kitx_exc (x := a) (ox := oe) (od := some od) hcl C.hg C.hk C.hs C.ha C.hn C.ht C.hm
  rcases h with ⟨cv, k, e⟩ | ⟨tp, cs, ws, rfl, hT, k, e⟩
  · have e2 := k.eq r2
    subst e2
    exact PySem.W.kia_one Z I.kIn J e (fun z => nomatch z) fun tk => ⟨.bl b, H, I.tok tk, rfl, q⟩
  · cases (show u2 = Value.ref tp from r2)
    obtain ⟨_, its, rv, o, h1, h2, n, h3⟩ := (show ObjOk X.prog X.w H s.heap tp (.tup cs) from I.hok tp _ hT)
    have e3 := ClsV.all k rv
    subst e3
    obtain ⟨oc, od, dt, sl⟩ := o
    simp only at h2 h3
    subst h2 h3
    exact PySem.W.kia_tup Z I.kIn J h1 e (fun z => nomatch z) fun tk => ⟨.bl b, H, I.tok tk, rfl, q⟩
end
end L2
set_option maxRecDepth 100000
namespace Rf
open PySem
inductive Res (α : Type) where
  | ok (a : α)
  | exn (c : Str) (x : PyData)
  | bad
namespace Res
def bind {α β : Type} : Res α → (α → Res β) → Res β
  | ok a, f => f a
  | exn c x, _ => exn c x
  | bad, _ => bad
instance : Monad Res where
  pure := ok
  bind := bind
@[simp] theorem bind_ok {α β : Type} (a : α) (f : α → Res β) : (Bind.bind (ok a) f : Res β) = f a := rfl
@[simp] theorem bind_bad {α β : Type} (f : α → Res β) : (Bind.bind (bad : Res α) f : Res β) = bad := rfl
@[simp] theorem bind_exn {α β : Type} (c : Str) (x : PyData) (f : α → Res β) : (Bind.bind (exn c x : Res α) f : Res β) = exn c x := rfl
@[simp] theorem pure_eq {α : Type} (a : α) : (pure a : Res α) = ok a := rfl
theorem bind_inv {α β : Type} {m : Res α} {f : α → Res β} {b : β} (h : (Bind.bind m f : Res β) = ok b) : ∃ a, m = ok a ∧ f a = ok b := by
  cases m with
  | ok a => exact ⟨a, rfl, h⟩
  | exn c x => cases h
  | bad => cases h
def guard (b : Bool) : Res Unit := if b then ok () else bad
theorem guard_inv {b : Bool} {u : Unit} (h : guard b = ok u) : b = true := by
  unfold guard at h
  split at h
  · assumption
  · cases h
@[simp] theorem guard_true : guard true = ok () := rfl
end Res
open Res
/-- the key of a dict of one's own -/
abbrev Ky := Sum Int Str
def kyOf : PyData → Option Ky
  | .int n => some (.inl n)
  | .str x => some (.inr x)
  | _ => none
def kyD : Ky → PyData
  | .inl n => .int n
  | .inr x => .str x
/-- a value of a name: settled data; a list of one's own that may still change; a dict of one's own (text keys), its values settled or lists of its own -/
inductive CV where
  | d (x : PyData)
  | L (xs : List PyData)
inductive PV where
  | d (x : PyData)
  | L (xs : List PyData)
  | M (kvs : List (Str × CV))
  | I (kvs : List (Ky × PyData))
  | LL (xss : List (List PyData))
def CV.frz : CV → PyData
  | .d x => x
  | .L xs => .list xs
/-- settled (a dict never) -/
def PV.fz : PV → Res PyData
  | .d x => ok x
  | .L xs => ok (.list xs)
  | .M _ => bad
  | .I _ => bad
  | .LL _ => bad
def fzs : List PV → Res (List PyData)
  | [] => ok []
  | x :: r => do let y ← x.fz; let ys ← fzs r; ok (y :: ys)
@[simp] theorem PV.fz_d (x : PyData) : (PV.d x).fz = ok x := rfl
@[simp] theorem PV.fz_L (xs : List PyData) : (PV.L xs).fz = ok (.list xs) := rfl
@[simp] theorem fzs_nil : fzs [] = ok [] := rfl
@[simp] theorem fzs_cons (x : PV) (r : List PV) : fzs (x :: r) = (do let y ← x.fz; let ys ← fzs r; ok (y :: ys)) := rfl
abbrev Ro := List (Option PV)
def PV.lent : PV → Option PV
  | .d x => some (.d x)
  | .L xs => some (.d (.list xs))
  | .M _ => none
  | .I _ => none
  | .LL xss => some (.d (.list (xss.map .list)))
/-- the names as they may be read alone -/
def frzRo (ρ : Ro) : Ro := ρ.map fun o => o.bind PV.lent
/-- no list, no dict within -/
def flat : PyData → Bool
  | .none => true
  | .bool _ => true
  | .int _ => true
  | .str _ => true
  | .list _ => false
  | .tuple xs => flats xs
  | .dict _ => false
where flats : List PyData → Bool
  | [] => true
  | x :: r => flat x && flats r
def PV.flat : PV → Bool
  | .d x => Rf.flat x
  | .L xs => Rf.flat.flats xs
  | .M _ => false
  | .I _ => false
  | .LL _ => false
inductive Bi where
  | len | max | min | abs | int | str | list | tuple | sum | all | any | sorted | reversed
  deriving DecidableEq
inductive Ty where
  | int | bool | tuple | list | str
  deriving DecidableEq
inductive Mt where
  | append | pop | popAt | extend | clear | reverse | index | count
  deriving DecidableEq
/-- a method of a value that is read -/
inductive Mv where
  | lindex | join | split | partition | find | startswith | rstripC | scount | sindex
  deriving DecidableEq
/-- a place that may be changed: a name, or a key of a dict at a name -/
inductive Pl where
  | s (i : Nat)
  | k (i : Nat) (key : Str)
  deriving DecidableEq
/-- operations of one, two, three terms -/
inductive K1 where
  | bitl
  deriving DecidableEq
inductive K2 where
  | zipL
  deriving DecidableEq
inductive K3 where
  | repl
  deriving DecidableEq
/-- what a loop's target stores -/
inductive Tg where
  | n (i : Nat)
  | nil
  | cons (t r : Tg)
  deriving DecidableEq
inductive E where
  | nm (i : Nat) | mv (i : Nat) | fz (i : Nat) | frz (e : E) | bw (e : E)
  | gl (x : Str)
  | int (i : Int) | bl (b : Bool) | non | str (x : Str)
  | bin (op : Operator) (a b : E)
  | neg (a : E) | not (a : E)
  | and (a b : E) | or (a b : E)
  | cmp (op : CmpOp) (a b : E)
  | chain (op op' : CmpOp) (a b c : E)
  | isN (a : E) | notN (a : E)
  | ife (c a b : E)
  | nil | cons (a r : E) | io (i : Nat)
  | tup (as : E) | lst (as : E) | dct (ks : List Str) (as : E)
  | ix (a b : E) | sl (a lo hi : E)
  | ixP (p : Pl) (b : E) | lenP (p : Pl)
  | bi (b : Bi) (as : E) | isi (a : E) (t : Ty)
  | call (f : Nat) (as : E)
  | mt (m : Mt) (p : Pl) (as : E)
  | mtv (m : Mv) (o as : E)
  | lc (g : Tg) (it c e : E) (vs : List Nat)
  | lrev (e : E)
  | callL (f g : Nat) (b as : E) | ixM (a b : E)
  | ixG (x : Str) (b : E) | inG (x : Str) (b : E) | rev (e : E) | evn (o : Bool) (e : E)
  | dI | ixI (i : Nat) (b : E) | srtI (i : Nat)
  | lcI (g : Tg) (j : Nat) (e : E) (vs : List Nat) | dctP (e : E) | dcI (g : Tg) (j : Nat) (e : E) (vs : List Nat)
  | inI (neg : Bool) (i : Nat) (b : E) | cpI (i : Nat) | asI (e : E) | lenI (i : Nat) | lsI (i : Nat)
  | llN (n : Nat) | llA (i : Nat) (ix x : E) | llE (i : Nat) | llO (i : Nat)
  | op1 (k : K1) (a : E) | op2 (k : K2) (a b : E) | op3 (k : K3) (a b c : E)
  | itDown (a b : E) | itZip3 (a b c : E)
  | itL (e : E) | itR1 (a : E) | itR2 (a b : E) | itEn (e : E) | itZip (a b : E) | itZipN (a b : E) | itEnZ (a b : E)
/-- what is read in an except suite: the error's field, its class, names, texts -/
inductive HE where
  | fld | is1 (k : Str) | isi (ks : List Str) | nm (j : Nat) | str (x : Str) | not (a : HE) | and (a b : HE) | add (a b : HE) | tup (as : HE) | nil | cons (a r : HE)
/-- an except suite: names are set, some under conditions -/
inductive HS where
  | nil | asg (j : Nat) (h : HE) (r : HS) | ifa (cs : HE) (j : Nat) (h : HE) (r : HS)
/-- what is read of an error that has left its suite -/
inductive HX where
  | h (h : HE) | or (a b : HX) | and (a b : HX) | not (a : HX) | isT (t : Ty) | eqN (j : Nat) | eqI (n : Int)
/-- what stands behind a try whose suite keeps the error -/
inductive RS where
  | asg (i : Nat) (e : E) (r : RS) | ifr (c : HX) (v : Bool) (r : RS) | ret (c : HX)
inductive S where
  | nil | seq (s r : S)
  | asg (i : Nat) (e : E) | unp (g : Tg) (e : E) | aug (i : Nat) (op : Operator) (e : E)
  | setP (p : Pl) (k v : E) | setSl (p : Pl) (lo hi v : E)
  | ex (e : E)
  | ife (c : E) (a b : S)
  | whl (c : E) (b : S)
  | for_ (g : Tg) (it : E) (b : S)
  | ret (e : E) | retN | pass | brk | cnt
  | raise (c : Str) (e : E)
  | try_ (b : S) (k : Str) (i : Nat) (h : HS)
  | par (i j : Nat) (a b : E)
  | tryO (b : S) (k : Str) (v : Bool)
  | tryC (b : S) (k : Str) (i j : Nat) (r : RS)
  | forE (i : Nat)
  | tok (s r : S)
  | forO (j : Nat) (g : Tg) (b : S)
  | stI (i : Nat) (k v : E)
  | forD (t : Bool) (j : Nat) (g : Tg) (b : S)
def bits (i : Int) : Nat := Builtin.Int.intBits i
def repT (n : Nat) (x : Str) : Str := ⟨(List.replicate n x.cps).foldl (· ++ ·) #[]⟩
def binS : Operator → PyData → PyData → Res PV
  | .Add, .int i, .int j => ok (.d (.int (i + j)))
  | .Add, .str x, .str y => do guard (decide (x.length + y.length ≤ 1000000)); ok (.d (.str (x ++ y)))
  | .Add, .list xs, .list ys => do guard (decide (xs.length + ys.length ≤ 1000000)); ok (.L (xs ++ ys))
  | .Add, .tuple xs, .tuple ys => do guard (decide (xs.length + ys.length ≤ 1000000)); ok (.d (.tuple (xs ++ ys)))
  | .Sub, .int i, .int j => ok (.d (.int (i - j)))
  | .Mult, .int i, .int j => do guard (decide (bits i + bits j ≤ 134217728)); ok (.d (.int (i * j)))
  | .FloorDiv, .int i, .int j => do guard (decide (0 < j ∧ j.natAbs.log2 < 9000)); ok (.d (.int (i / j)))
  | .Mod, .int i, .int j => do guard (decide (0 < j)); ok (.d (.int (i % j)))
  | .Pow, .int i, .int j => do guard (decide (0 ≤ j ∧ j ≤ 1000000 ∧ i.natAbs < 2 ^ 64)); ok (.d (.int (i ^ j.toNat)))
  | .LShift, .int i, .int j => do guard (decide (0 ≤ j ∧ (bits i : Int) + j ≤ 2 ^ 27)); ok (.d (.int (i * 2 ^ j.toNat)))
  | .RShift, .int i, .int j => do guard (decide (0 ≤ j)); ok (.d (.int (i / 2 ^ j.toNat)))
  | .BitAnd, .int i, .int j => ok (.d (.int (Builtin.bitAnd i j)))
  | .BitOr, .int i, .int j => ok (.d (.int (Builtin.bitOr i j)))
  | .Mult, .list xs, .int n => do guard (decide (0 ≤ n ∧ n ≤ 1000 ∧ xs.length ≤ 1000)); ok (.L ((List.replicate n.toNat xs).flatten))
  | .Mult, .str x, .int n => do guard (decide (0 ≤ n ∧ n ≤ 1000 ∧ x.length ≤ 1000)); ok (.d (.str (repT n.toNat x)))
  | _, _, _ => bad
def strsOf : List PyData → Option (List Str)
  | [] => some []
  | .str i :: r => (strsOf r).map (i :: ·)
  | _ :: _ => none
def intsOf : List PyData → Option (List Int)
  | [] => some []
  | .int i :: r => (intsOf r).map (i :: ·)
  | _ :: _ => none
def eqOk (x y : PyData) : Bool := x.canLay0 && y.canLay0 && decide (min x.depth y.depth ≤ 150)
def inOk (x : PyData) (ys : List PyData) : Bool := SeqAt.shaped x && SeqAt.shaped (.list ys)
def cmpS : CmpOp → PyData → PyData → Res Bool
  | .Eq, x, y => do guard (eqOk x y); ok (PyData.eqv x y)
  | .NotEq, x, y => do guard (eqOk x y); ok (!PyData.eqv x y)
  | .Lt, .int i, .int j => ok (decide (i < j))
  | .LtE, .int i, .int j => ok (decide (i ≤ j))
  | .Gt, .int i, .int j => ok (decide (j < i))
  | .GtE, .int i, .int j => ok (decide (j ≤ i))
  | .In, x, .list ys => do guard (inOk x ys); ok (ys.any fun z => PyData.eqv z x)
  | .NotIn, x, .list ys => do guard (inOk x ys); ok (!ys.any fun z => PyData.eqv z x)
  | .In, .str x, .tuple ys => (match strsOf ys with | some zs => ok (zs.any fun z => z == x) | none => bad)
  | .NotIn, .str x, .tuple ys => (match strsOf ys with | some zs => ok (!zs.any fun z => z == x) | none => bad)
  | .In, .int x, .tuple ys => (match intsOf ys with | some zs => ok (zs.any fun z => z == x) | none => bad)
  | .NotIn, .int x, .tuple ys => (match intsOf ys with | some zs => ok (!zs.any fun z => z == x) | none => bad)
  | .Lt, .tuple xs, .tuple ys => (match intsOf xs, intsOf ys with | some ns, some ms => ok (HT.lexLt ns ms) | _, _ => bad)
  | .In, .str x, .str z => (match x.cps.toList with | [c] => ok (decide (c ∈ z.cps.toList)) | [] => ok (!(Builtin.Str.occurrences z x 0 z.length 1).isEmpty) | _ => bad)
  | .NotIn, .str x, .str z => (match x.cps.toList with | [c] => ok (!decide (c ∈ z.cps.toList)) | _ => bad)
  | .Is, .bool a, .bool b => ok (decide (a = b))
  | .IsNot, .bool a, .bool b => ok (!decide (a = b))
  | _, _, _ => bad
def ixD : PyData → PyData → Res PyData
  | .list xs, .int i => (match L2.atI xs i with | some x => ok x | none => bad)
  | .tuple xs, .int i => (match L2.atI xs i with | some x => ok x | none => bad)
  | .str z, .int i => (match L2.atI z.cps.toList i with | some c => do guard (decide (z.length ≤ 1000000)); ok (.str ⟨#[c]⟩) | none => bad)
  | _, _ => bad
def isNone : E → Bool
  | .non => true
  | _ => false
def optI (e : E) : PyData → Res (Option Int)
  | .none => if isNone e then ok none else bad
  | .int i => ok (some i)
  | _ => bad
def cut {α : Type} (xs : List α) (lo hi : Option Int) : List α := (xs.drop (HT.sIx xs.length 0 lo)).take (HT.sIx xs.length xs.length hi - HT.sIx xs.length 0 lo)
def slS : PyData → Option Int → Option Int → Res PV
  | .list xs, lo, hi => ok (.L (cut xs lo hi))
  | .tuple xs, lo, hi => ok (.d (.tuple (cut xs lo hi)))
  | .str z, lo, hi => do guard (decide (z.length ≤ 1000000)); ok (.d (.str (L2.cutS z lo hi)))
  | _, _, _ => bad
def maxI : Int → List Int → Int
  | m, [] => m
  | m, x :: r => maxI (if x > m then x else m) r
def minI : Int → List Int → Int
  | m, [] => m
  | m, x :: r => minI (if x < m then x else m) r
def boolsOf : List PyData → Option (List Bool)
  | [] => some []
  | .bool i :: r => (boolsOf r).map (i :: ·)
  | _ :: _ => none
def insI (x : Int) : List Int → List Int
  | [] => [x]
  | y :: r => if x ≤ y then x :: y :: r else y :: insI x r
def sortI : List Int → List Int
  | [] => []
  | x :: r => insI x (sortI r)
/-- the keys of tuples of ints and texts -/
def kiOf : PyData → Option RT2.KI
  | .int n => some (.inl n)
  | .str x => some (.inr x.cps.toList)
  | _ => none
def kisOf : List PyData → Option (List RT2.KI)
  | [] => some []
  | d :: r => match kiOf d, kisOf r with
    | some k, some ks => some (k :: ks)
    | _, _ => none
def keyT : PyData → Option (List RT2.KI)
  | .tuple (d :: ds) => kisOf (d :: ds)
  | _ => none
def isR : RT2.KI → Bool
  | .inl _ => false
  | .inr _ => true
def keyTD (d : PyData) : List RT2.KI := (keyT d).getD []
def tupsOk (sh : List Bool) : List PyData → Bool
  | [] => true
  | d :: r => (match keyT d with | some k => decide (k.map isR = sh) | none => false) && tupsOk sh r
def shOf : List PyData → List Bool
  | d :: _ => (keyTD d).map isR
  | [] => []
def leT (x y : PyData) : Bool := !RT2.kLt (keyTD y) (keyTD x)
def sortT (xs : List PyData) : List PyData := xs.mergeSort leT
def biS : Bi → List PyData → Res PV
  | .len, [.list xs] => ok (.d (.int xs.length))
  | .len, [.tuple xs] => ok (.d (.int xs.length))
  | .len, [.str x] => do guard (decide (x.length ≤ 1000000)); ok (.d (.int x.length))
  | .max, [.int i, .int j] => ok (.d (.int (if j > i then j else i)))
  | .min, [.int i, .int j] => ok (.d (.int (if j < i then j else i)))
  | .max, [.list xs] => (match intsOf xs with | some (m :: r) => ok (.d (.int (maxI m r))) | _ => bad)
  | .min, [.list xs] => (match intsOf xs with | some (m :: r) => ok (.d (.int (minI m r))) | _ => bad)
  | .abs, [.int i] => ok (.d (.int (if i < 0 then -i else i)))
  | .int, [.int i] => ok (.d (.int i))
  | .int, [.bool b] => ok (.d (.int (if b then 1 else 0)))
  | .str, [.int i] => do guard (decide (i.natAbs.log2 < 1920)); ok (.d (.str (toString i)))
  | .list, [.list xs] => ok (.L xs)
  | .list, [.tuple xs] => ok (.L xs)
  | .tuple, [.list xs] => ok (.d (.tuple xs))
  | .tuple, [.tuple xs] => ok (.d (.tuple xs))
  | .sum, [.list xs] => (match intsOf xs with | some ns => ok (.d (.int ns.sum)) | none => bad)
  | .max, [.int i, .int j, .int k] => ok (.d (.int (if k > (if j > i then j else i) then k else (if j > i then j else i))))
  | .min, [.int i, .int j, .int k] => ok (.d (.int (if k < (if j < i then j else i) then k else (if j < i then j else i))))
  | .all, [.list xs] => (match boolsOf xs with | some bs => ok (.d (.bool (bs.all id))) | none => bad)
  | .any, [.list xs] => (match boolsOf xs with | some bs => ok (.d (.bool (bs.any id))) | none => bad)
  | .sorted, [.list xs] => (match intsOf xs with | some ns => ok (.L ((sortI ns).map .int)) | none => if tupsOk (shOf xs) xs = true then ok (.L (sortT xs)) else bad)
  | .int, [.str a] => (match PySem.intText? a with | some n => do guard (decide (a.length ≤ 640)); ok (.d (.int n)) | none => bad)
  | _, _ => bad
def isS : Ty → PyData → Bool
  | .int, .int _ => true
  | .int, .bool _ => true
  | .bool, .bool _ => true
  | .tuple, .tuple _ => true
  | .list, .list _ => true
  | .str, .str _ => true
  | _, _ => false
def getRo (ρ : Ro) (i : Nat) : Option PV := (ρ[i]?).join
def kvGet (k : Str) : List (Str × CV) → Option CV
  | [] => none
  | (a, x) :: r => if a = k then some x else kvGet k r
def kvSet (k : Str) (v : CV) : List (Str × CV) → List (Str × CV)
  | [] => []
  | (a, x) :: r => if a = k then (a, v) :: r else (a, x) :: kvSet k v r
def igGet (k : Ky) : List (Ky × PyData) → Option PyData
  | [] => none
  | (a, x) :: r => if a = k then some x else igGet k r
def igPut (k : Ky) (x : PyData) (kvs : List (Ky × PyData)) : List (Ky × PyData) :=
  if (kvs.any fun kv => decide (kv.1 = k)) = true then kvs.map (fun kv => if kv.1 = k then (kv.1, x) else kv) else kvs ++ [(k, x)]
def kyInts : List Ky → Option (List Int)
  | [] => some []
  | .inl n :: r => (kyInts r).map (n :: ·)
  | _ :: _ => none
def cvsD : List (Str × CV) → Option (List (Ky × PyData))
  | [] => some []
  | (k, .d x) :: r => (cvsD r).map ((.inr k, x) :: ·)
  | _ :: _ => none
/-- what a loop over a dict of one's own goes over: its keys, or its pairs -/
def prsOf : List PyData → Option (List (Ky × PyData))
  | [] => some []
  | .tuple [k, v] :: r => (match kyOf k, prsOf r with | some kk, some s => some ((kk, v) :: s) | _, _ => none)
  | _ => none
def igMerge (r : List (Ky × PyData)) : List (Ky × PyData) := r.foldl (fun a kv => igPut kv.1 kv.2 a) []
def itD (t : Bool) (kvs : List (Ky × PyData)) : List PyData := kvs.map fun kv => if t = true then .tuple [kyD kv.1, kv.2] else kyD kv.1
def PV.cv : PV → Option CV
  | .d x => some (.d x)
  | .L xs => some (.L xs)
  | .M _ => none
  | .I _ => none
  | .LL _ => none
/-- the list that stands at a place, one's own -/
def plList (ρ : Ro) : Pl → Res (List PyData)
  | .s i => (match getRo ρ i with | some (.L xs) => ok xs | _ => bad)
  | .k i key => (match getRo ρ i with | some (.M kvs) => (match kvGet key kvs with | some (.L xs) => ok xs | _ => bad) | _ => bad)
def plSet (ρ : Ro) (p : Pl) (xs : List PyData) : Ro := match p with
  | .s i => ρ.set i (some (.L xs))
  | .k i key => (match getRo ρ i with | some (.M kvs) => ρ.set i (some (.M (kvSet key (.L xs) kvs))) | _ => ρ)
def getD (ρ : Ro) (i : Nat) : Res PyData := match getRo ρ i with
  | some (.d x) => ok x
  | _ => bad
def PV.data : PV → Res PyData
  | .d x => ok x
  | _ => bad
def asBool : PV → Res Bool
  | .d (.bool b) => ok b
  | _ => bad
def mtS : Mt → List PyData → List PyData → Res (List PyData × PyData)
  | .append, xs, [x] => do guard (decide (xs.length < 1000000)); ok (xs ++ [x], .none)
  | .pop, xs, [] => (match xs[xs.length - 1]? with | some x => ok (xs.dropLast, x) | none => bad)
  | .popAt, xs, [.int i] => do
    guard (decide (xs.length ≤ 1000000))
    match L2.ixN xs.length i with
    | some k => (match xs[k]? with | some x => ok (xs.eraseIdx k, x) | none => bad)
    | none => bad
  | .extend, xs, [.list ys] => do guard (decide (xs.length + ys.length ≤ 1000000)); ok (xs ++ ys, .none)
  | .clear, _, [] => ok ([], .none)
  | .reverse, xs, [] => ok (xs.reverse, .none)
  | _, _, _ => bad
def mvS : Mv → PyData → List PyData → Res PV
  | .lindex, .list xs, [x] => do
    guard (inOk x xs)
    match xs.findIdx? (fun z => PyData.eqv z x) with
    | some k => ok (.d (.int k))
    | none => bad
  | .join, .str a, [.list ys] => (match strsOf ys with
    | some zs => do guard (decide ((zs.map (·.length)).sum + zs.length * a.length ≤ 1000000)); ok (.d (.str (Txt.join a zs)))
    | none => bad)
  | .split, .str a, [.str b] => do guard (decide ((b.length == 0) = false ∧ a.length ≤ 1000000)); ok (.L ((Txt.split a b).map .str))
  | .partition, .str a, [.str b] => do guard (decide ((b.length == 0) = false ∧ a.length ≤ 1000000)); ok (.d (.tuple [.str (Txt.partition a b).1, .str (Txt.partition a b).2.1, .str (Txt.partition a b).2.2]))
  | .find, .str a, [.str b] => ok (.d (.int (Txt.find a b)))
  | .startswith, .str a, [.str b] => ok (.d (.bool (Txt.startswith a b)))
  | .rstripC, .str a, [.str b] => do guard (decide (a.length ≤ 1000000)); ok (.d (.str (Txt.rstripChars a b)))
  | .scount, .str a, [.str b] => ok (.d (.int (Txt.count a b)))
  | .sindex, .str a, [.str b] => (match Builtin.Str.occurrences a b 0 a.length 1 with | i :: _ => ok (.d (.int (i : Nat))) | [] => bad)
  | _, _, _ => bad
def stTg : Tg → PyData → Ro → Res Ro
  | .n i, x, ρ => ok (ρ.set i (some (.d x)))
  | .nil, .tuple [], ρ => ok ρ
  | .cons t r, .tuple (x :: xs), ρ => do let ρ1 ← stTg t x ρ; stTg r (.tuple xs) ρ1
  | .nil, .list [], ρ => ok ρ
  | .cons t r, .list (x :: xs), ρ => do let ρ1 ← stTg t x ρ; stTg r (.tuple xs) ρ1
  | _, _, _ => bad
def wipeR (ρ : Ro) : List Nat → Ro
  | [] => ρ
  | v :: vs => (wipeR ρ vs).set v none
/-- the slots of a block's own names hold nothing of one's own -/
def wipeOk (ρ : Ro) (vs : List Nat) : Bool := vs.all fun v => match getRo ρ v with
  | none => true
  | some (.d _) => true
  | _ => false
def wipeBack (ρ ρ' : Ro) : List Nat → Ro
  | [] => ρ'
  | v :: vs => (wipeBack ρ ρ' vs).set v (getRo ρ v)
def zipI : Int → List PyData → List PyData
  | _, [] => []
  | i, x :: r => .tuple [.int i, x] :: zipI (i + 1) r
def zip2 : List PyData → List PyData → List PyData
  | x :: xs, y :: ys => .tuple [x, y] :: zip2 xs ys
  | _, _ => []
def rngI (lo : Int) : Nat → List PyData
  | 0 => []
  | n + 1 => .int lo :: rngI (lo + 1) n
def zip3 : List PyData → List PyData → List PyData → List PyData
  | x :: xs, y :: ys, z :: zs => .tuple [x, y, z] :: zip3 xs ys zs
  | _, _, _ => []
def dwnI (hi : Int) : Nat → List PyData
  | 0 => []
  | n + 1 => .int hi :: dwnI (hi - 1) n
def opS1 : K1 → PyData → Res PV
  | .bitl, .int i => ok (.d (.int (Builtin.Int.intBits i : Nat)))
  | _, _ => bad
def opS2 : K2 → PyData → PyData → Res PV
  | .zipL, .list xs, .list ys => do guard (decide (xs.length ≤ 1000000)); ok (.L (zip2 xs ys))
  | _, _, _ => bad
def opS3 : K3 → PyData → PyData → PyData → Res PV
  | .repl, .str x, .str a, .str b => (match x.cps.toList, a.cps.toList, b.cps.toList with
    | [c], [u], [v] => ok (.d (.str (if c = u then b else x)))
    | _, _, _ => bad)
  | _, _, _, _ => bad
def itemsD : PyData → Res (List PyData)
  | .list xs => ok xs
  | .tuple xs => ok xs
  | .str z => ok (z.cps.toList.map fun c => .str ⟨#[c]⟩)
  | _ => bad
def itEnD : PyData → Res (List PyData)
  | .list xs => ok xs
  | .str z => ok (z.cps.toList.map fun c => .str ⟨#[c]⟩)
  | .tuple xs => ok xs
  | _ => bad
/-- a table of the functions: number, arguments; the result, and what stands at the parameters at the end -/
abbrev Tab := Nat → List PV → Res (PV × Ro)
/-- globals that are settled data -/
abbrev Gls := Str → Option PyData
def oCons : Option PyData → List PyData → List PyData
  | some y, ys => y :: ys
  | none, ys => ys
/-- the list comprehension's loop -/
def lcF (body : PyData → Ro → Res (Option PyData × Ro)) : List PyData → Ro → Res (List PyData × Ro)
  | [], ρ => ok ([], ρ)
  | x :: xs, ρ => do
    let (o, ρ1) ← body x ρ
    let (ys, ρ2) ← lcF body xs ρ1
    ok (oCons o ys, ρ2)
def ioSet (ρ : Ro) : List (Option Nat) → Ro → Ro
  | some i :: is, o :: os => ioSet (ρ.set i o) is os
  | none :: is, _ :: os => ioSet ρ is os
  | _, _ => ρ
def alen : E → Nat
  | .cons _ r => alen r + 1
  | _ => 0
def noIo : E → Bool
  | .cons (.io _) _ => false
  | .cons _ r => noIo r
  | _ => true
/-- the places that an argument list hands on -/
def ios : E → List (Option Nat)
  | .cons (.io i) r => some i :: ios r
  | .cons _ r => none :: ios r
  | _ => []
/-- a constant dict's entry -/
def dget (k : Str) : List (PyData × PyData) → Option PyData
  | [] => none
  | (.str a, x) :: r => if a = k then some x else dget k r
  | _ :: _ => none
section
variable (T : Tab) (G : Gls)
mutual
def den : E → Ro → Res (PV × Ro)
  | .nm i, ρ => do let x ← getD ρ i; ok (.d x, ρ)
  | .mv i, ρ => (match getRo ρ i with | some x => ok (x, ρ.set i none) | none => bad)
  | .fz i, ρ => (match getRo ρ i with | some x => (do let y ← x.fz; ok (.d y, ρ.set i (some (.d y)))) | none => bad)
  | .frz e, ρ => do let (x, ρ1) ← den e ρ; let y ← x.fz; ok (.d y, ρ1)
  | .bw e, ρ => do let (x, ρ1) ← den e (frzRo ρ); guard x.flat; ok (x, ρ)
  | .gl x, ρ => (match G x with | some (.dict _) => bad | some d => ok (.d d, ρ) | none => bad)
  | .int i, ρ => ok (.d (.int i), ρ)
  | .bl b, ρ => ok (.d (.bool b), ρ)
  | .non, ρ => ok (.d .none, ρ)
  | .str x, ρ => ok (.d (.str x), ρ)
  | .bin op a b, ρ => do
    let (x, ρ1) ← den a ρ
    let (y, ρ2) ← den b ρ1
    let x' ← x.fz
    let y' ← y.fz
    let z ← binS op x' y'
    ok (z, ρ2)
  | .neg a, ρ => do
    let (x, ρ1) ← den a ρ
    match x with
    | .d (.int i) => ok (.d (.int (-i)), ρ1)
    | _ => bad
  | .not a, ρ => do let (x, ρ1) ← den a ρ; let b ← asBool x; ok (.d (.bool (!b)), ρ1)
  | .and a b, ρ => do
    let (x, ρ1) ← den a ρ
    let c ← asBool x
    if c then (do let (y, ρ2) ← den b ρ1; let c' ← asBool y; ok (.d (.bool c'), ρ2)) else ok (.d (.bool false), ρ1)
  | .or a b, ρ => do
    let (x, ρ1) ← den a ρ
    let c ← asBool x
    if c then ok (.d (.bool true), ρ1) else (do let (y, ρ2) ← den b ρ1; let c' ← asBool y; ok (.d (.bool c'), ρ2))
  | .cmp op a b, ρ => do
    let (x, ρ1) ← den a ρ
    let (y, ρ2) ← den b ρ1
    let x' ← x.fz
    let y' ← y.fz
    let z ← cmpS op x' y'
    ok (.d (.bool z), ρ2)
  | .chain op op' a b c, ρ => do
    let (x, ρ1) ← den a ρ
    let (y, ρ2) ← den b ρ1
    let x' ← x.fz
    let y' ← y.fz
    let z ← cmpS op x' y'
    if z then (do let (w, ρ3) ← den c ρ2; let w' ← w.fz; let z' ← cmpS op' y' w'; ok (.d (.bool z'), ρ3)) else ok (.d (.bool false), ρ2)
  | .isN a, ρ => do let (x, ρ1) ← den a ρ; ok (.d (.bool (match x with | .d .none => true | _ => false)), ρ1)
  | .notN a, ρ => do let (x, ρ1) ← den a ρ; ok (.d (.bool (match x with | .d .none => false | _ => true)), ρ1)
  | .ife c a b, ρ => do
    let (x, ρ1) ← den c ρ
    let t ← asBool x
    if t then den a ρ1 else den b ρ1
  | .tup as, ρ => do let (xs, ρ1) ← dens as ρ; let ys ← fzs xs; ok (.d (.tuple ys), ρ1)
  | .lst as, ρ => do let (xs, ρ1) ← dens as ρ; let ys ← fzs xs; ok (.L ys, ρ1)
  | .dct ks as, ρ => do
    let (xs, ρ1) ← dens as ρ
    guard (decide (ks.length = xs.length ∧ ks.Nodup))
    match xs.mapM PV.cv with
    | some ys => ok (.M (ks.zip ys), ρ1)
    | none => bad
  | .ix a b, ρ => do
    let (x, ρ1) ← den a ρ
    let (y, ρ2) ← den b ρ1
    let x' ← x.fz
    let y' ← y.fz
    let z ← ixD x' y'
    ok (.d z, ρ2)
  | .sl a lo hi, ρ => do
    let (x, ρ1) ← den a ρ
    let (l, ρ2) ← den lo ρ1
    let (h, ρ3) ← den hi ρ2
    let x' ← x.fz
    let lo' ← l.fz
    let hi' ← h.fz
    let l' ← optI lo lo'
    let h' ← optI hi hi'
    let z ← slS x' l' h'
    ok (z, ρ3)
  | .ixP (.k i key) b, ρ => (match getRo ρ i with
    | none => bad
    | some _ => do
      let (y, ρ1) ← den b ρ
      match getRo ρ1 i, y with
      | some (.M kvs), .d (.str k) => (match kvGet k kvs with | some (.d x) => ok (.d x, ρ1) | _ => bad)
      | _, _ => bad)
  | .ixP (.s i) b, ρ => (match getRo ρ i with
    | none => bad
    | some _ => do
      let (y, ρ1) ← den b ρ
      match getRo ρ1 i, y with
      | some (.L xs), .d (.int j) => (match L2.atI xs j with | some x => ok (.d x, ρ1) | none => bad)
      | _, _ => bad)
  | .lenP p, ρ => do let xs ← plList ρ p; ok (.d (.int xs.length), ρ)
  | .bi b as, ρ => do let (xs, ρ1) ← dens as ρ; let ys ← fzs xs; let z ← biS b ys; ok (z, ρ1)
  | .isi a t, ρ => do let (x, ρ1) ← den a ρ; let y ← x.fz; ok (.d (.bool (isS t y)), ρ1)
  | .call f as, ρ => do
    let (xs, ρ1) ← dens as ρ
    let (r, os) ← T f xs
    ok (r, ioSet ρ1 (ios as) os)
  | .mt m p as, ρ => do
    let _ ← plList ρ p
    let (ys, ρ1) ← dens as ρ
    let zs ← fzs ys
    let xs ← plList ρ1 p
    let (xs', r) ← mtS m xs zs
    ok (.d r, plSet ρ1 p xs')
  | .mtv m o as, ρ => do
    let (x, ρ1) ← den o ρ
    let (ys, ρ2) ← dens as ρ1
    let x' ← x.fz
    let zs ← fzs ys
    let r ← mvS m x' zs
    ok (r, ρ2)
  | .lrev e, ρ => do
    let (x, ρ1) ← den e ρ
    let y ← x.fz
    match y with
    | .list xs => ok (.L xs.reverse, ρ1)
    | _ => bad
  | .ixG x b, ρ => do
    let (y, ρ1) ← den b ρ
    match G x, y with
    | some (.dict kvs), .d (.str k) => (match dget k kvs with | some d => ok (.d d, ρ1) | none => bad)
    | _, _ => bad
  | .inG x b, ρ => do
    let (y, ρ1) ← den b ρ
    match G x, y with
    | some (.dict kvs), .d (.str k) => ok (.d (.bool (dget k kvs).isSome), ρ1)
    | _, _ => bad
  | .op1 k a, ρ => do
    let (x, ρ1) ← den a ρ
    let x' ← x.fz
    let z ← opS1 k x'
    ok (z, ρ1)
  | .op2 k a b, ρ => do
    let (x, ρ1) ← den a ρ
    let (y, ρ2) ← den b ρ1
    let x' ← x.fz
    let y' ← y.fz
    let z ← opS2 k x' y'
    ok (z, ρ2)
  | .op3 k a b c, ρ => do
    let (x, ρ1) ← den a ρ
    let (y, ρ2) ← den b ρ1
    let (w, ρ3) ← den c ρ2
    let x' ← x.fz
    let y' ← y.fz
    let w' ← w.fz
    let z ← opS3 k x' y' w'
    ok (z, ρ3)
  | .rev e, ρ => do
    let (x, ρ1) ← den e ρ
    let y ← x.fz
    match y with
    | .list xs => ok (.L xs.reverse, ρ1)
    | .tuple xs => ok (.d (.tuple xs.reverse), ρ1)
    | .str z => do guard (decide (z.length ≤ 1000000)); ok (.d (.str ⟨z.cps.reverse⟩), ρ1)
    | _ => bad
  | .evn o e, ρ => do
    let (x, ρ1) ← den e ρ
    let y ← x.fz
    match y with
    | .list xs => ok (.L (RX.evn o xs), ρ1)
    | _ => bad
  | .llN n, ρ => ok (.LL (List.replicate n []), ρ)
  | .llA i ix x, ρ => (match getRo ρ i with
    | some (.LL _) => (do
      let (y, ρ1) ← den ix ρ
      match getRo ρ1 i, y with
      | some (.LL xss), .d (.int k) => (match L2.atI (List.range xss.length) k with
        | some m => (do
          let (z, ρ2) ← den x (ρ1.set i none)
          let z' ← z.fz
          guard (decide ((xss.getD m []).length < 1000000))
          ok (.d .none, ρ2.set i (some (.LL (xss.set m (xss.getD m [] ++ [z']))))))
        | none => bad)
      | _, _ => bad)
    | _ => bad)
  | .llE i, ρ => (match getRo ρ i with
    | some (.LL xss) => do guard (decide (xss.length < 1000000)); ok (.d .none, ρ.set i (some (.LL (xss ++ [[]]))))
    | _ => bad)
  | .llO i, ρ => (match getRo ρ i with
    | some (.LL xss) => (match xss.getLast? with | some xs => ok (.L xs, ρ.set i (some (.LL xss.dropLast))) | none => bad)
    | _ => bad)
  | .dI, ρ => ok (.I [], ρ)
  | .ixI i b, ρ => (match getRo ρ i with
    | none => bad
    | some _ => do
      let (y, ρ1) ← den b ρ
      match getRo ρ1 i, y with
      | some (.I kvs), .d k => (match kyOf k with
        | some kk => (match igGet kk kvs with | some x => ok (.d x, ρ1) | _ => bad)
        | none => bad)
      | _, _ => bad)
  | .inI neg i b, ρ => (do
      let (y, ρ1) ← den b ρ
      match getRo ρ1 i, y with
      | some (.I kvs), .d k => (match kyOf k with
        | some kk => ok (.d (.bool (if neg = true then !(igGet kk kvs).isSome else (igGet kk kvs).isSome)), ρ1)
        | none => bad)
      | _, _ => bad)
  | .cpI i, ρ => (match getRo ρ i with
    | some (.I kvs) => ok (.I kvs, ρ)
    | _ => bad)
  | .asI e, ρ => do
    let (x, ρ1) ← den e ρ
    match x with
    | .M kvs => (match cvsD kvs with | some r => ok (.I r, ρ1) | none => bad)
    | _ => bad
  | .lenI i, ρ => (match getRo ρ i with
    | some (.I kvs) => ok (.d (.int kvs.length), ρ)
    | _ => bad)
  | .lsI i, ρ => (match getRo ρ i with
    | some (.I kvs) => ok (.L (kvs.map fun kv => kyD kv.1), ρ)
    | _ => bad)
  | .srtI i, ρ => (match getRo ρ i with
    | some (.I kvs) => (match kyInts (kvs.map (·.1)) with
      | some ns => do guard (decide (kvs.length < 64)); ok (.L ((sortI ns).map .int), ρ)
      | none => bad)
    | _ => bad)
  | .ixM a b, ρ => do
    let (x, ρ1) ← den a ρ
    let (y, ρ2) ← den b ρ1
    match x, y with
    | .M kvs, .d (.str k) => (match kvGet k kvs with | some (.d z) => ok (.d z, ρ2) | _ => bad)
    | _, _ => bad
  | .callL f g b as, ρ => do
    let (y, ρ1) ← den b ρ
    match y with
    | .d (.int i) => if i = 0 then (do
        let (xs, ρ2) ← dens as ρ1
        let (r, os) ← T f xs
        ok (r, ioSet ρ2 (ios as) os)) else if i = 1 then (do
        let (xs, ρ2) ← dens as ρ1
        let (r, os) ← T g xs
        ok (r, ioSet ρ2 (ios as) os)) else bad
    | _ => bad
  | .lcI g j e vs, ρ => (match getRo ρ j with
    | some (.I kvs) => do
      guard (wipeOk (ρ.set j none) vs && !vs.contains j)
      let (ys, ρ2) ← lcF (fun x ρ => do
        let ρ3 ← stTg g x ρ
        let (y, ρ5) ← den e ρ3
        let y' ← y.fz
        ok (some y', wipeR ρ5 vs)) (itD true kvs) (wipeR (ρ.set j none) vs)
      guard (decide (ys.length ≤ 1000000))
      ok (.L ys, (wipeBack (ρ.set j none) ρ2 vs).set j (some (.I kvs)))
    | _ => bad)
  | .dcI g j e vs, ρ => (do
    let (x, ρ1) ← (match getRo ρ j with
      | some (.I kvs) => do
        guard (wipeOk (ρ.set j none) vs && !vs.contains j)
        let (ys, ρ2) ← lcF (fun x ρ => do
          let ρ3 ← stTg g x ρ
          let (y, ρ5) ← den e ρ3
          let y' ← y.fz
          ok (some y', wipeR ρ5 vs)) (itD true kvs) (wipeR (ρ.set j none) vs)
        guard (decide (ys.length ≤ 1000000))
        ok (PV.L ys, (wipeBack (ρ.set j none) ρ2 vs).set j (some (.I kvs)))
      | _ => bad)
    let y ← x.fz
    match y with
    | .list xs => (match prsOf xs with | some r => ok (.I (igMerge r), ρ1) | none => bad)
    | _ => bad)
  | .dctP e, ρ => do
    let (x, ρ1) ← den e ρ
    let y ← x.fz
    match y with
    | .list xs => (match prsOf xs with | some r => ok (.I (igMerge r), ρ1) | none => bad)
    | _ => bad
  | .lc g it c e vs, ρ => do
    let (xs, ρ1) ← deni it ρ
    guard (wipeOk ρ1 vs)
    let (ys, ρ2) ← lcF (fun x ρ => do
      let ρ3 ← stTg g x ρ
      let (t, ρ4) ← den c ρ3
      let b ← asBool t
      if b then (do let (y, ρ5) ← den e ρ4; let y' ← y.fz; ok (some y', wipeR ρ5 vs)) else ok (none, wipeR ρ4 vs)) xs (wipeR ρ1 vs)
    guard (decide (ys.length ≤ 1000000))
    ok (.L ys, wipeBack ρ1 ρ2 vs)
  | _, _ => bad
/-- an argument list -/
def dens : E → Ro → Res (List PV × Ro)
  | .nil, ρ => ok ([], ρ)
  | .cons (.io i) r, ρ => (match getRo ρ i with
    | none => bad
    | some _ => do
      let (xs, ρ1) ← dens r ρ
      match getRo ρ1 i with
      | some x => ok (x :: xs, ρ1)
      | none => bad)
  | .cons a r, ρ => do
    let (x, ρ1) ← den a ρ
    let (xs, ρ2) ← dens r ρ1
    ok (x :: xs, ρ2)
  | _, _ => bad
/-- what a loop goes over -/
def deni : E → Ro → Res (List PyData × Ro)
  | .itL e, ρ => do let (x, ρ1) ← den e ρ; let x' ← x.fz; let xs ← itemsD x'; ok (xs, ρ1)
  | .itR1 a, ρ => do
    let (x, ρ1) ← den a ρ
    match x with
    | .d (.int n) => (do guard (decide (n < 2 ^ 62 ∧ -(2 ^ 62) ≤ n)); ok (rngI 0 n.toNat, ρ1))
    | _ => bad
  | .itR2 a b, ρ => do
    let (x, ρ1) ← den a ρ
    let (y, ρ2) ← den b ρ1
    match x, y with
    | .d (.int m), .d (.int n) => (do guard (decide (n < 2 ^ 62 ∧ -(2 ^ 62) ≤ n ∧ m < 2 ^ 62 ∧ -(2 ^ 62) ≤ m)); ok (rngI m (n - m).toNat, ρ2))
    | _, _ => bad
  | .itDown a b, ρ => do
    let (x, ρ1) ← den a ρ
    let (y, ρ2) ← den b ρ1
    match x, y with
    | .d (.int m), .d (.int n) => (do guard (decide (n < 2 ^ 62 ∧ -(2 ^ 62) ≤ n ∧ m < 2 ^ 62 ∧ -(2 ^ 62) ≤ m)); ok (dwnI m (m - n).toNat, ρ2))
    | _, _ => bad
  | .itZip3 a b c, ρ => do
    let (x, ρ1) ← den a ρ
    let (y, ρ2) ← den b ρ1
    let (w, ρ3) ← den c ρ2
    let x' ← x.fz
    let y' ← y.fz
    let w' ← w.fz
    match x', y', w' with
    | .list xs, .list ys, .list ws => ok (zip3 xs ys ws, ρ3)
    | _, _, _ => bad
  | .itEn e, ρ => do
    let (x, ρ1) ← den e ρ
    let x' ← x.fz
    let xs ← itEnD x'
    ok (zipI 0 xs, ρ1)
  | .itZip a b, ρ => do
    let (x, ρ1) ← den a ρ
    let (y, ρ2) ← den b ρ1
    let x' ← x.fz
    let y' ← y.fz
    match x', y' with
    | .list xs, .list ys => ok (zip2 xs ys, ρ2)
    | .tuple xs, .tuple ys => ok (zip2 xs ys, ρ2)
    | _, _ => bad
  | .itZipN a b, ρ => do
    let (x, ρ1) ← den a ρ
    let (y, ρ2) ← den b ρ1
    let x' ← x.fz
    let y' ← y.fz
    match x', y' with
    | .list xs, .list ys => ok (zip2 xs ys, ρ2)
    | _, _ => bad
  | .itEnZ a b, ρ => do
    let (x, ρ1) ← den a ρ
    let (y, ρ2) ← den b ρ1
    let x' ← x.fz
    let y' ← y.fz
    match x', y' with
    | .list xs, .list ys => ok (zipI 0 (zip2 xs ys), ρ2)
    | _, _ => bad
  | _, _ => bad
end
mutual
/-- an expression raises: the class, the field, what stands then -/
def denX : E → Ro → Option (Str × PyData × Ro)
  | .call f as, ρ => if noIo as = true ∧ alen as ≠ 0 then (match densX as ρ with
      | some z => some z
      | none => (match dens T G as ρ with
        | .ok (xs, ρ1) => (match T f xs with
          | .exn c d => some (c, d, ρ1)
          | _ => none)
        | _ => none)) else none
  | .frz e, ρ => denX e ρ
  | .tup as, ρ => if noIo as = true then densX as ρ else none
  | _, _ => none
def densX : E → Ro → Option (Str × PyData × Ro)
  | .cons a r, ρ => (match denX a ρ with
      | some z => some z
      | none => (match den T G a ρ with
        | .ok (_, ρ1) => densX r ρ1
        | _ => none))
  | _, _ => none
end
/-- an error of class c is one of class k -/
def isC (c k : Str) : Bool := decide (k = c) || decide (k = "HalveError") || decide (k = "ValueError")
def hB : PyData → Res Bool
  | .bool b => ok b
  | _ => bad
section
variable (c : Str) (d : PyData)
mutual
def denH : HE → Ro → Res PyData
  | .fld, _ => ok d
  | .is1 k, _ => ok (.bool (isC c k))
  | .isi ks, _ => ok (.bool (ks.any (isC c)))
  | .nm j, ρ => getD ρ j
  | .str x, _ => ok (.str x)
  | .not a, ρ => do let x ← denH a ρ; let b ← hB x; ok (.bool (!b))
  | .and a b, ρ => do let x ← denH a ρ; let u ← hB x; if u then (do let y ← denH b ρ; let v ← hB y; ok (.bool v)) else ok (.bool false)
  | .add a b, ρ => do
    let x ← denH a ρ
    let y ← denH b ρ
    match x, y with
    | .tuple xs, .tuple ys => (do guard (decide (xs.length + ys.length ≤ 1000)); ok (.tuple (xs ++ ys)))
    | _, _ => bad
  | .tup as, ρ => do let xs ← densH as ρ; ok (.tuple xs)
  | _, _ => bad
def densH : HE → Ro → Res (List PyData)
  | .nil, _ => ok []
  | .cons a r, ρ => do let x ← denH a ρ; let xs ← densH r ρ; ok (x :: xs)
  | _, _ => bad
end
def denHX : HX → Ro → Res Bool
  | .h a, ρ => do let x ← denH c d a ρ; hB x
  | .or a b, ρ => do let u ← denHX a ρ; if u then ok true else denHX b ρ
  | .and a b, ρ => do let u ← denHX a ρ; if u then denHX b ρ else ok false
  | .not a, ρ => do let u ← denHX a ρ; ok (!u)
  | .isT t, _ => ok (isS t d)
  | .eqN j, ρ => do
    let x ← getD ρ j
    match d, x with
    | .int m, .int n => ok (decide (m = n))
    | _, _ => bad
  | .eqI n, _ => match d with
    | .int m => ok (decide (m = n))
    | _ => bad
def denHS : HS → Ro → Res Ro
  | .nil, ρ => ok ρ
  | .asg j h r, ρ => do let x ← denH c d h ρ; denHS r (ρ.set j (some (.d x)))
  | .ifa cs j h r, ρ => do
    let b ← denH c d cs ρ
    let u ← hB b
    if u then (do let x ← denH c d h ρ; denHS r (ρ.set j (some (.d x)))) else denHS r ρ
end
end
end Rf
namespace Rf
open PySem Res
inductive Fl where
  | nx | rt (x : PV) | bk | ct
/-- a while, so many turns at most -/
def loopN (c : Ro → Res (Bool × Ro)) (b : Ro → Res (Fl × Ro)) : Nat → Ro → Option (Res (Fl × Ro))
  | 0, _ => none
  | n + 1, ρ => match c ρ with
    | .ok (true, ρ1) => (match b ρ1 with
      | .ok (.nx, ρ2) => loopN c b n ρ2
      | .ok (.ct, ρ2) => loopN c b n ρ2
      | .ok (.bk, ρ2) => some (.ok (.nx, ρ2))
      | .ok (.rt x, ρ2) => some (.ok (.rt x, ρ2))
      | .exn e x => some (.exn e x)
      | .bad => some .bad)
    | .ok (false, ρ1) => some (.ok (.nx, ρ1))
    | .exn e x => some (.exn e x)
    | .bad => some .bad
open Classical in
noncomputable def whl (c : Ro → Res (Bool × Ro)) (b : Ro → Res (Fl × Ro)) (ρ : Ro) : Res (Fl × Ro) :=
  if h : ∃ n r, loopN c b n ρ = some r then (choose_spec h).choose else .bad
theorem loopN_mono {c : Ro → Res (Bool × Ro)} {b : Ro → Res (Fl × Ro)} : ∀ {n m : Nat} {ρ : Ro} {r : Res (Fl × Ro)}, loopN c b n ρ = some r → n ≤ m → loopN c b m ρ = some r
  | 0, _, _, _, h, _ => by cases h
  | n + 1, 0, _, _, _, h => by omega
  | n + 1, m + 1, ρ, r, h, hm => by
    unfold loopN at h ⊢
    split at h
    · split at h
      · exact loopN_mono h (by omega)
      · exact loopN_mono h (by omega)
      all_goals exact h
    all_goals exact h
theorem whl_of {c : Ro → Res (Bool × Ro)} {b : Ro → Res (Fl × Ro)} {n : Nat} {ρ : Ro} {r : Res (Fl × Ro)} (h : loopN c b n ρ = some r) : whl c b ρ = r := by
  have hx : ∃ n r, loopN c b n ρ = some r := ⟨n, r, h⟩
  unfold whl
  rw [dif_pos hx]
  have h2 := (Classical.choose_spec hx).choose_spec
  have e1 := loopN_mono h (Nat.le_max_left n (Classical.choose hx))
  have e2 := loopN_mono h2 (Nat.le_max_right n (Classical.choose hx))
  rw [e1] at e2
  exact (Option.some.inj e2).symm
theorem whl_inv {c : Ro → Res (Bool × Ro)} {b : Ro → Res (Fl × Ro)} {ρ : Ro} {y : Fl × Ro} (h : whl c b ρ = .ok y) : ∃ n, loopN c b n ρ = some (.ok y) := by
  unfold whl at h
  split at h
  · rename_i hx
    exact ⟨_, by rw [← h]; exact (Classical.choose_spec hx).choose_spec⟩
  · cases h
/-- one turn of a while -/
theorem whl_eq (c : Ro → Res (Bool × Ro)) (b : Ro → Res (Fl × Ro)) (ρ : Ro) : whl c b ρ = (match c ρ with
    | .ok (true, ρ1) => (match b ρ1 with
      | .ok (.nx, ρ2) => whl c b ρ2
      | .ok (.ct, ρ2) => whl c b ρ2
      | .ok (.bk, ρ2) => .ok (.nx, ρ2)
      | .ok (.rt x, ρ2) => .ok (.rt x, ρ2)
      | .exn e x => .exn e x
      | .bad => .bad)
    | .ok (false, ρ1) => .ok (.nx, ρ1)
    | .exn e x => .exn e x
    | .bad => .bad) := by
  have key : ∀ (ρ2 : Ro), (∀ n, loopN c b (n + 1) ρ = loopN c b n ρ2) → whl c b ρ = whl c b ρ2 := fun ρ2 hl => by
    by_cases hx : ∃ n r, loopN c b n ρ2 = some r
    · obtain ⟨n, r, h⟩ := hx
      rw [whl_of h, whl_of (n := n + 1) (by rw [hl]; exact h)]
    · have hx2 : ¬ ∃ n r, loopN c b n ρ = some r := fun ⟨n, r, h⟩ => by
        cases n with
        | zero => cases h
        | succ n => exact hx ⟨n, r, by rw [← hl]; exact h⟩
      unfold whl
      rw [dif_neg hx, dif_neg hx2]
  split
  · rename_i ρ1 h1
    split
    · rename_i ρ2 h2; exact key ρ2 fun n => by simp only [loopN, h1, h2]
    · rename_i ρ2 h2; exact key ρ2 fun n => by simp only [loopN, h1, h2]
    all_goals (rename_i h2; exact whl_of (n := 1) (by simp only [loopN, h1, h2]))
  all_goals (rename_i h1; exact whl_of (n := 1) (by simp only [loopN, h1]))
def forF (b : PyData → Ro → Res (Fl × Ro)) : List PyData → Ro → Res (Fl × Ro)
  | [], ρ => .ok (.nx, ρ)
  | x :: xs, ρ => match b x ρ with
    | .ok (.nx, ρ2) => forF b xs ρ2
    | .ok (.ct, ρ2) => forF b xs ρ2
    | .ok (.bk, ρ2) => .ok (.nx, ρ2)
    | .ok (.rt x, ρ2) => .ok (.rt x, ρ2)
    | .exn e x => .exn e x
    | .bad => .bad
section
variable (T : Tab) (G : Gls)
def augS : Operator → PyData → PV → Res Int
  | .Add, .int a, .d (.int b) => ok (a + b)
  | .Sub, .int a, .d (.int b) => ok (a - b)
  | _, _, _ => bad
/-- the body of a try: one statement -/
def denB : S → Ro → Option (Str × PyData × Ro)
  | .asg _ e, ρ => denX T G e ρ
  | .ex e, ρ => denX T G e ρ
  | _, _ => none
/-- behind a try whose suite keeps the error -/
def denR (c : Str) (d : PyData) : RS → Ro → Res (Fl × Ro)
  | .asg i e r, ρ => do let (x, ρ1) ← den T G e ρ; denR c d r (ρ1.set i (some x))
  | .ifr h v r, ρ => do let b ← denHX c d h ρ; if b then ok (.rt (.d (.bool v)), ρ) else denR c d r ρ
  | .ret h, ρ => do let b ← denHX c d h ρ; ok (.rt (.d (.bool b)), ρ)
noncomputable def denS : S → Ro → Res (Fl × Ro)
  | .nil, ρ => ok (.nx, ρ)
  | .seq s r, ρ => do
    let (f, ρ1) ← denS s ρ
    match f with
    | .nx => denS r ρ1
    | f => ok (f, ρ1)
  | .tok s r, ρ => do
    let (f, ρ1) ← denS s ρ
    match f with
    | .nx => denS r ρ1
    | f => ok (f, ρ1)
  | .asg i e, ρ => do let (x, ρ1) ← den T G e ρ; ok (.nx, ρ1.set i (some x))
  | .unp g e, ρ => do
    let (x, ρ1) ← den T G e ρ
    let x' ← x.fz
    let ρ2 ← stTg g x' ρ1
    ok (.nx, ρ2)
  | .aug i op e, ρ => do
    let x ← getD ρ i
    let (y, ρ1) ← den T G e ρ
    let z ← augS op x y
    ok (.nx, ρ1.set i (some (.d (.int z))))
  | .setP p k v, ρ => do
    let (y, ρ1) ← den T G v ρ
    match p with
    | .k i key => (match getRo ρ1 i with
      | none => bad
      | some _ => do
        let (kk, ρ2) ← den T G k ρ1
        match getRo ρ2 i, kk with
        | some (.M kvs), .d (.str s) => (do
          let y' ← y.fz
          match decide (s = key ∧ kvs.length < 1000000), kvGet key kvs with
          | true, some _ => ok (.nx, ρ2.set i (some (.M (kvSet key (.d y') kvs))))
          | _, _ => bad)
        | _, _ => bad)
    | .s i => (match getRo ρ1 i with
      | none => bad
      | some _ => do
        let (kk, ρ2) ← den T G k ρ1
        match getRo ρ2 i, kk with
        | some (.L xs), .d (.int j) => (do
          let y' ← y.fz
          match L2.ixN xs.length j with
          | some m => ok (.nx, ρ2.set i (some (.L (xs.set m y'))))
          | none => bad)
        | _, _ => bad)
  | .stI i k v, ρ => do
    let (y, ρ1) ← den T G v ρ
    match getRo ρ1 i with
    | none => bad
    | some _ => do
      let (kk, ρ2) ← den T G k ρ1
      match getRo ρ2 i, kk with
      | some (.I kvs), .d n => (match kyOf n with
        | some kk => (do
          let y' ← y.fz
          guard (decide (kvs.length < 1000000))
          ok (.nx, ρ2.set i (some (.I (igPut kk y' kvs)))))
        | none => bad)
      | _, _ => bad
  | .setSl p lo hi v, ρ => do
    let (y, ρ1) ← den T G v ρ
    match p with
    | .k _ _ => bad
    | .s i => (match getRo ρ1 i with
      | none => bad
      | some _ => do
        let (l, ρ2) ← den T G lo ρ1
        let (h, ρ3) ← den T G hi ρ2
        let y' ← y.fz
        match getRo ρ3 i, l, h, y' with
        | some (.L xs), .d (.int a), .d (.int b), .list ys => (do
          guard (decide (0 ≤ a ∧ a ≤ b ∧ b ≤ xs.length ∧ xs.length + ys.length ≤ 1000000))
          ok (.nx, ρ3.set i (some (.L (xs.take a.toNat ++ ys ++ xs.drop b.toNat)))))
        | _, _, _, _ => bad)
  | .ex e, ρ => do let (_, ρ1) ← den T G e ρ; ok (.nx, ρ1)
  | .ife c a b, ρ => do
    let (x, ρ1) ← den T G c ρ
    let t ← asBool x
    if t then denS a ρ1 else denS b ρ1
  | .whl c b, ρ => whl (fun ρ => do let (x, ρ1) ← den T G c ρ; let t ← asBool x; ok (t, ρ1)) (fun ρ => denS b ρ) ρ
  | .for_ g it b, ρ => do
    let (xs, ρ1) ← deni T G it ρ
    forF (fun x ρ => do let ρ2 ← stTg g x ρ; denS b ρ2) xs ρ1
  | .forO j g b, ρ => (match getRo ρ j with
    | some (.L xs) => (do
      let (f, ρ1) ← forF (fun x ρ => do let ρ2 ← stTg g x ρ; denS b ρ2) xs (ρ.set j none)
      match f with
      | .nx => ok (.nx, ρ1.set j (some (.L xs)))
      | f => ok (f, ρ1))
    | _ => bad)
  | .forD t j g b, ρ => (match getRo ρ j with
    | some (.I kvs) => (do
      let (f, ρ1) ← forF (fun x ρ => do let ρ2 ← stTg g x ρ; denS b ρ2) (itD t kvs) (ρ.set j none)
      match f with
      | .nx => ok (.nx, ρ1.set j (some (.I kvs)))
      | .rt x => ok (.rt x, ρ1.set j (some (.I kvs)))
      | f => ok (f, ρ1))
    | _ => bad)
  | .ret e, ρ => do let (x, ρ1) ← den T G e ρ; ok (.rt x, ρ1)
  | .retN, ρ => ok (.rt (.d .none), ρ)
  | .pass, ρ => ok (.nx, ρ)
  | .brk, ρ => ok (.bk, ρ)
  | .cnt, ρ => ok (.ct, ρ)
  | .raise c e, ρ => do let (x, _) ← den T G e ρ; let x' ← x.fz; exn c x'
  | .try_ b k i h, ρ => (match denS b ρ with
    | .ok r => ok r
    | _ => (match denB T G b ρ with
      | some (c, d, ρ1) => if isC c k = true then (do let ρ2 ← denHS c d h (ρ1.set i none); ok (.nx, ρ2.set i none)) else bad
      | none => bad))
  | .par i j a b, ρ => do
    let (x, ρ1) ← den T G a ρ
    let (y, ρ2) ← den T G b ρ1
    let x' ← x.fz
    let y' ← y.fz
    ok (.nx, (ρ2.set i (some (.d x'))).set j (some (.d y')))
  | .tryO b k v, ρ => (match denS b ρ with
    | .ok r => ok r
    | _ => (match denB T G b ρ with
      | some (c, _, ρ1) => if isC c k = true then ok (.rt (.d (.bool v)), ρ1) else bad
      | none => bad))
  | .forE i, ρ => (match getRo ρ i with
    | some (.M []) => ok (.nx, ρ)
    | _ => bad)
  | .tryC b k i j r, ρ => (match denS b ρ with
    | .ok _ => bad
    | _ => (match denB T G b ρ with
      | some (c, d, ρ1) => if isC c k = true then denR T G c d r ((ρ1.set i none).set j none) else bad
      | none => bad))
/-- a field that is told as it is everywhere -/
def plainD : PyData → Bool
  | .int _ => true
  | .str _ => true
  | _ => false
/-- a while whose turn raises -/
def loopX (c : Ro → Res (Bool × Ro)) (b : Ro → Res (Fl × Ro)) (bx : Ro → Option (Str × PyData × Ro)) : Nat → Ro → Option (Str × PyData × Ro)
  | 0, _ => none
  | n + 1, ρ => match c ρ with
    | .ok (true, ρ1) => (match b ρ1 with
      | .ok (.nx, ρ2) => loopX c b bx n ρ2
      | .ok (.ct, ρ2) => loopX c b bx n ρ2
      | .ok _ => none
      | _ => bx ρ1)
    | _ => none
open Classical in
noncomputable def whlX (c : Ro → Res (Bool × Ro)) (b : Ro → Res (Fl × Ro)) (bx : Ro → Option (Str × PyData × Ro)) (ρ : Ro) : Option (Str × PyData × Ro) :=
  if h : ∃ n z, loopX c b bx n ρ = some z then some (choose_spec h).choose else none
def forX (b : PyData → Ro → Res (Fl × Ro)) (bx : PyData → Ro → Option (Str × PyData × Ro)) : List PyData → Ro → Option (Str × PyData × Ro)
  | [], _ => none
  | x :: xs, ρ => match b x ρ with
    | .ok (.nx, ρ2) => forX b bx xs ρ2
    | .ok (.ct, ρ2) => forX b bx xs ρ2
    | .ok _ => none
    | _ => bx x ρ
/-- a statement raises -/
noncomputable def denSX : S → Ro → Option (Str × PyData × Ro)
  | .raise c e, ρ => if c = "" then none else (match den T G e ρ with
    | .ok (.d d, ρ1) => if plainD d = true then some (c, d, ρ1) else none
    | _ => none)
  | .seq s r, ρ => (match denS T G s ρ with
    | .ok (.nx, ρ1) => denSX r ρ1
    | .ok _ => none
    | _ => denSX s ρ)
  | .asg _ e, ρ => denX T G e ρ
  | .unp _ e, ρ => denX T G e ρ
  | .ex e, ρ => denX T G e ρ
  | .ret e, ρ => denX T G e ρ
  | .ife c a b, ρ => (match den T G c ρ with
    | .ok (x, ρ1) => (match asBool x with
      | .ok true => denSX a ρ1
      | .ok false => denSX b ρ1
      | _ => none)
    | _ => none)
  | .for_ g it b, ρ => (match deni T G it ρ with
    | .ok (xs, ρ1) => forX (fun x ρ => do let ρ2 ← stTg g x ρ; denS T G b ρ2) (fun x ρ => match stTg g x ρ with | .ok ρ2 => denSX b ρ2 | _ => none) xs ρ1
    | _ => none)
  | .whl c b, ρ => whlX (fun ρ => do let (x, ρ1) ← den T G c ρ; let t ← asBool x; ok (t, ρ1)) (fun ρ => denS T G b ρ) (fun ρ => denSX b ρ) ρ
  | _, _ => none
end
/-- the classes that a text raises, those that it catches -/
def S.errs : S → List Str
  | .raise c _ => if c = "" then [] else [c]
  | .seq s r => s.errs ++ r.errs
  | .ife _ a b => a.errs ++ b.errs
  | .whl _ b => b.errs
  | .for_ _ _ b => b.errs
  | _ => []
/-- the classes of errors -/
def errNames : List Str := ["HalveError", "ValueError", "NoTree", "NoMap", "NoBreaks", "NoRow", "NoText", "Twice", "NoName", "TooGreat", "NoUndo"]
/-- those of the text's own -/
def errOwn : List Str := ["HalveError", "NoTree", "NoMap", "NoBreaks", "NoRow", "NoText", "Twice", "NoName", "TooGreat", "NoUndo"]
def S.trys : S → List Str
  | .try_ _ k _ _ => k :: errOwn
  | .tryO _ k _ => [k]
  | .tryC _ k _ _ _ => k :: errOwn
  | .seq s r => s.trys ++ r.trys
  | .tok s r => s.trys ++ r.trys
  | .ife _ a b => a.trys ++ b.trys
  | .whl _ b => b.trys
  | .for_ _ _ b => b.trys
  | .forO _ _ b => b.trys
  | .forD _ _ _ b => b.trys
  | _ => []
structure Fn where
  name : Str
  N : List Str
  np : Nat
  io : List Nat
  body : S
abbrev Prg := List Fn
def takeRo (io : List Nat) (n : Nat) (ρ : Ro) : Ro := (List.range n).map fun j => if io.contains j then getRo ρ j else none
/-- what a def tells at its end -/
def retR (d : Fn) (z : Fl × Ro) : Res (PV × Ro) := match z.1 with
  | .rt x => ok (x, takeRo d.io d.np z.2)
  | .nx => ok (.d .none, takeRo d.io d.np z.2)
  | _ => bad
noncomputable def run (P : Prg) (G : Gls) : Nat → Tab
  | 0, _, _ => bad
  | n + 1, f, xs => match P[f]? with
    | none => bad
    | some d => do
      guard (decide (xs.length = d.np))
      match denS (run P G n) G d.body (xs.map some ++ List.replicate (d.N.length - d.np) none) with
      | .ok z => retR d z
      | _ => (match denSX (run P G n) G d.body (xs.map some ++ List.replicate (d.N.length - d.np) none) with
        | some (c, x, _) => exn c x
        | none => bad)
end Rf
set_option maxRecDepth 100000
set_option maxHeartbeats 2000000
namespace Rf
open PySem L2 Evl
abbrev Frag := PySem.W.Frag
abbrev As := Addr → Prop
def none0 : As := fun _ => False
/-- a list that is read: known, or wholly an object of the written part -/
def RdL (K : Frag) (F : Hp) (a : Addr) (xs : List V) : Prop := Rd F a (.lst xs) ∨ ∃ (its : Array Value) (n : Nat), K.lookup a = some { cls := .type "list", data := .seq its n } ∧ its.size ≤ sizeLine ∧ Vals xs its.toList
theorem RdL.sq {K : Frag} {F : Hp} {a : Addr} {xs : List V} (h : RdL K F a xs) : SqL K F a xs := by
  rcases h with h | ⟨its, n, h1, h2, h3⟩
  · exact .inl h
  · exact .inr ⟨_, its, n, h1, rfl, rfl, rfl, h2, h3⟩
theorem RdL.up {K : Frag} {F F' : Hp} {a : Addr} {xs : List V} (h : RdL K F a xs) (e : Ex F F') : RdL K F' a xs := by
  rcases h with h | h
  · exact .inl (ex_rd e h)
  · exact .inr h
mutual
/-- settled data -/
inductive Rp (K : Frag) (F : Hp) : V → PyData → Prop
  | non : Rp K F .non .none
  | bl (b : Bool) : Rp K F (.bl b) (.bool b)
  | int (i : Int) : Rp K F (.int i) (.int i)
  | str (x : Str) : Rp K F (.str x) (.str x)
  | lst {a : Addr} {xs : List V} {ds : List PyData} : RdL K F a xs → Rps K F xs ds → Rp K F (.ref a) (.list ds)
  | tup {a : Addr} {xs : List V} {ds : List PyData} : SqT K F a xs → Rps K F xs ds → Rp K F (.ref a) (.tuple ds)
inductive Rps (K : Frag) (F : Hp) : List V → List PyData → Prop
  | nil : Rps K F [] []
  | cons {v : V} {vs : List V} {d : PyData} {ds : List PyData} : Rp K F v d → Rps K F vs ds → Rps K F (v :: vs) (d :: ds)
end
/-- a constant dict's entries -/
def Ents (K : Frag) : List DictEntry → List (PyData × PyData) → Prop
  | [], [] => True
  | e :: es, (.str k, d) :: r => (∃ t, e.key = .str k t) ∧ (∃ v, RelV v e.val ∧ ∀ H, Rp K H v d) ∧ Ents K es r
  | _, _ => False
/-- a module's constant -/
def GOk (K : Frag) (w : World) (v : V) : PyData → Prop
  | .dict kvs => ∃ p es n, v = .ref p ∧ K.lookup p = some ⟨.type "dict", none, .dict es n, #[]⟩ ∧ PySem.W.KeysLit w.params es.toList ∧ (p == sysModules) = false ∧ Ents K es.toList kvs
  | d => ∀ H, Rp K H v d
section
variable {K : Frag} {F F' H H' : Hp}
mutual
theorem toDp : ∀ (d : PyData) (v : V), Rp K F v d → Dp K F v d
  | .none, _, h => by cases h; exact .non
  | .bool b, _, h => by cases h; exact .bl b
  | .int i, _, h => by cases h; exact .int i
  | .str x, _, h => by cases h; exact .str x
  | .list ds, _, h => by
    cases h with
    | lst hs ha => exact .lst hs.sq (toDps ds _ ha)
  | .tuple ds, _, h => by
    cases h with
    | tup hs ha => exact .tup hs (toDps ds _ ha)
  | .dict _, _, h => by cases h
theorem toDps : ∀ (ds : List PyData) (vs : List V), Rps K F vs ds → DpAll K F vs ds
  | [], _, h => by cases h; exact .nil
  | d :: ds, _, h => by
    cases h with
    | cons h1 h2 => exact .cons (toDp d _ h1) (toDps ds _ h2)
end
mutual
theorem dp_mono (e : Ex F F') : ∀ (d : PyData) (v : V), Rp K F v d → Rp K F' v d
  | .none, _, h => by cases h; exact .non
  | .bool b, _, h => by cases h; exact .bl b
  | .int i, _, h => by cases h; exact .int i
  | .str x, _, h => by cases h; exact .str x
  | .list ds, _, h => by
    cases h with
    | lst hs ha => exact .lst (hs.up e) (dps_mono e ds _ ha)
  | .tuple ds, _, h => by
    cases h with
    | tup hs ha => exact .tup (ex_t e hs) (dps_mono e ds _ ha)
  | .dict _, _, h => by cases h
theorem dps_mono (e : Ex F F') : ∀ (ds : List PyData) (vs : List V), Rps K F vs ds → Rps K F' vs ds
  | [], _, h => by cases h; exact .nil
  | d :: ds, _, h => by
    cases h with
    | cons h1 h2 => exact .cons (dp_mono e d _ h1) (dps_mono e ds _ h2)
end
theorem Rp.up (e : Ex F F') {d : PyData} {v : V} (h : Rp K F v d) : Rp K F' v d := dp_mono e d v h
theorem Rps.up (e : Ex F F') {d : List PyData} {v : List V} (h : Rps K F v d) : Rps K F' v d := dps_mono e d v h
theorem Rps.length : ∀ {vs : List V} {ds : List PyData}, Rps K F vs ds → vs.length = ds.length
  | _, _, .nil => rfl
  | _, _, .cons _ h => by simp [Rps.length h]
theorem Rps.get : ∀ {vs : List V} {ds : List PyData} {i : Nat} {d : PyData}, Rps K F vs ds → ds[i]? = some d → ∃ v, vs[i]? = some v ∧ Rp K F v d
  | _, _, _, _, .nil, h => by simp at h
  | _, _, 0, _, .cons h _, e => by simp at e; subst e; exact ⟨_, rfl, h⟩
  | _, _, i + 1, _, .cons _ h, e => by
    obtain ⟨v, h1, h2⟩ := Rps.get (i := i) h (by simpa using e)
    exact ⟨v, by simpa using h1, h2⟩
theorem Rps.append : ∀ {vs ws : List V} {ds es : List PyData}, Rps K F vs ds → Rps K F ws es → Rps K F (vs ++ ws) (ds ++ es)
  | _, _, _, _, .nil, h => h
  | _, _, _, _, .cons a b, h => .cons a (Rps.append b h)
theorem Rps.take : ∀ {vs : List V} {ds : List PyData} (n : Nat), Rps K F vs ds → Rps K F (vs.take n) (ds.take n)
  | _, _, 0, _ => .nil
  | _, _, n + 1, .nil => .nil
  | _, _, n + 1, .cons a b => .cons a (Rps.take n b)
theorem Rps.drop : ∀ {vs : List V} {ds : List PyData} (n : Nat), Rps K F vs ds → Rps K F (vs.drop n) (ds.drop n)
  | _, _, 0, h => h
  | _, _, n + 1, .nil => .nil
  | _, _, n + 1, .cons a b => Rps.drop n b
theorem Rps.set {v : V} {d : PyData} (h : Rp K F v d) : ∀ {vs : List V} {ds : List PyData} (n : Nat), Rps K F vs ds → Rps K F (vs.set n v) (ds.set n d)
  | _, _, _, .nil => .nil
  | _, _, 0, .cons a b => .cons h b
  | _, _, n + 1, .cons a b => .cons a (Rps.set h n b)
theorem Rps.dropLast : ∀ {vs : List V} {ds : List PyData}, Rps K F vs ds → Rps K F vs.dropLast ds.dropLast := fun {vs ds} h => by
  rw [List.dropLast_eq_take, List.dropLast_eq_take, h.length]
  exact h.take _
theorem Rps.eraseIdx : ∀ {vs : List V} {ds : List PyData} (n : Nat), Rps K F vs ds → Rps K F (vs.eraseIdx n) (ds.eraseIdx n)
  | _, _, _, .nil => by simp; exact .nil
  | _, _, 0, .cons a b => b
  | _, _, n + 1, .cons a b => .cons a (Rps.eraseIdx n b)
theorem Rps.reverse : ∀ {vs : List V} {ds : List PyData}, Rps K F vs ds → Rps K F vs.reverse ds.reverse
  | _, _, .nil => .nil
  | _, _, .cons a b => by
    rw [List.reverse_cons, List.reverse_cons]
    exact (Rps.reverse b).append (.cons a .nil)
theorem Rp.int_inv {v : V} {i : Int} (h : Rp K F v (.int i)) : v = .int i := by cases h; rfl
theorem Rp.bl_inv {v : V} {i : Bool} (h : Rp K F v (.bool i)) : v = .bl i := by cases h; rfl
theorem Rp.str_inv {v : V} {i : Str} (h : Rp K F v (.str i)) : v = .str i := by cases h; rfl
theorem Rp.lst_inv {v : V} {ds : List PyData} (h : Rp K F v (.list ds)) : ∃ a xs, v = .ref a ∧ RdL K F a xs ∧ Rps K F xs ds := by
  cases h with
  | lst hs ha => exact ⟨_, _, rfl, hs, ha⟩
theorem Rp.tup_inv {v : V} {ds : List PyData} (h : Rp K F v (.tuple ds)) : ∃ a xs, v = .ref a ∧ SqT K F a xs ∧ Rps K F xs ds := by
  cases h with
  | tup hs ha => exact ⟨_, _, rfl, hs, ha⟩
inductive Opd (K : Frag) (F H : Hp) : V → PyData → Prop where
  | d {v : V} {x : PyData} : Rp K F v x → Opd K F H v x
  | L {p : Addr} {ys : List V} {xs : List PyData} : H p = some (.lst ys) → Rps K F ys xs → Opd K F H (.ref p) (.list xs)
theorem Opd.rp (e : Ex F H) {v : V} {x : PyData} (h : Opd K F H v x) : Rp K H v x := by
  cases h with
  | d h => exact h.up e
  | L h1 h2 => exact .lst (.inl (.inl h1)) (h2.up e)
theorem Opd.int_inv {v : V} {i : Int} (h : Opd K F H v (.int i)) : v = .int i := by cases h with | d h => exact h.int_inv
theorem Opd.bl_inv {v : V} {i : Bool} (h : Opd K F H v (.bool i)) : v = .bl i := by cases h with | d h => exact h.bl_inv
theorem Opd.str_inv {v : V} {i : Str} (h : Opd K F H v (.str i)) : v = .str i := by cases h with | d h => exact h.str_inv
theorem Opd.lst_inv (e : Ex F H) {v : V} {ds : List PyData} (h : Opd K F H v (.list ds)) : ∃ a xs, v = .ref a ∧ RdL K H a xs ∧ Rps K F xs ds := by
  cases h with
  | d h =>
    obtain ⟨a, xs, e1, e2, e3⟩ := h.lst_inv
    exact ⟨a, xs, e1, e2.up e, e3⟩
  | L h1 h2 => exact ⟨_, _, rfl, .inl (.inl h1), h2⟩
theorem Opd.tup_inv (e : Ex F H) {v : V} {ds : List PyData} (h : Opd K F H v (.tuple ds)) : ∃ a xs, v = .ref a ∧ SqT K H a xs ∧ Rps K F xs ds := by
  cases h with
  | d h =>
    obtain ⟨a, xs, e1, e2, e3⟩ := h.tup_inv
    exact ⟨a, xs, e1, ex_t e e2, e3⟩
end
/-- the items of a dict of one's own; as: the lists among them -/
inductive Cvs (K : Frag) (F H : Hp) : List (Key × V) → List (Str × CV) → List Addr → Prop where
  | nil : Cvs K F H [] [] []
  | d {k : Str} {v : V} {x : PyData} {r : List (Key × V)} {s : List (Str × CV)} {as : List Addr} : Rp K F v x → Cvs K F H r s as → Cvs K F H ((.inr k, v) :: r) ((k, .d x) :: s) as
  | L {k : Str} {q : Addr} {ys : List V} {xs : List PyData} {r : List (Key × V)} {s : List (Str × CV)} {as : List Addr} :
      H q = some (.lst ys) → Rps K F ys xs → q ∉ as → Cvs K F H r s as → Cvs K F H ((.inr k, .ref q) :: r) ((k, .L xs) :: s) (q :: as)
/-- a dict of one's own with whole numbers as keys, its values settled -/
inductive Cis (K : Frag) (F : Hp) : List (Key × V) → List (Ky × PyData) → Prop where
  | nil : Cis K F [] []
  | cons {k : Ky} {v : V} {x : PyData} {r : List (Key × V)} {s : List (Ky × PyData)} : Rp K F v x → Cis K F r s → Cis K F ((k, v) :: r) ((k, x) :: s)
/-- lists of one's own, in a list of one's own -/
inductive Lls (K : Frag) (F H : Hp) : List Addr → List (List PyData) → Prop where
  | nil : Lls K F H [] []
  | cons {q : Addr} {ys : List V} {xs : List PyData} {qs : List Addr} {xss : List (List PyData)} : H q = some (.lst ys) → Rps K F ys xs → q ∉ qs → Lls K F H qs xss → Lls K F H (q :: qs) (xs :: xss)
inductive Ow (K : Frag) (F H : Hp) : V → PV → As → Prop where
  | d {v : V} {x : PyData} {P : As} : Rp K F v x → Ow K F H v (.d x) P
  | L {p : Addr} {ys : List V} {xs : List PyData} {P : As} : P p → H p = some (.lst ys) → Rps K F ys xs → Ow K F H (.ref p) (.L xs) P
  | M {p : Addr} {kvs : List (Key × V)} {pvs : List (Str × CV)} {as : List Addr} {P : As} : P p → H p = some (.dK kvs) → Cvs K F H kvs pvs as → p ∉ as → (∀ a ∈ as, P a) → (pvs.map (·.1)).Nodup → Ow K F H (.ref p) (.M pvs) P
  | I {p : Addr} {kvs : List (Key × V)} {pvs : List (Ky × PyData)} {P : As} : P p → H p = some (.dK kvs) → Cis K F kvs pvs → Ow K F H (.ref p) (.I pvs) P
  | LL {p : Addr} {qs : List Addr} {xss : List (List PyData)} {P : As} : P p → H p = some (.lst (qs.map V.ref)) → Lls K F H qs xss → p ∉ qs → (∀ q ∈ qs, P q) → Ow K F H (.ref p) (.LL xss) P
section
variable {K : Frag} {F F' H H' : Hp}
theorem Cvs.up (e : Ex F F') : ∀ {kvs : List (Key × V)} {pvs : List (Str × CV)} {as : List Addr}, (∀ a ∈ as, ∀ o, H a = some o → H' a = some o) → Cvs K F H kvs pvs as → Cvs K F' H' kvs pvs as
  | _, _, _, _, .nil => .nil
  | _, _, _, k, .d h r => .d (h.up e) (Cvs.up e k r)
  | _, _, _, k, .L h1 h2 h3 r => .L (k _ List.mem_cons_self _ h1) (h2.up e) h3 (Cvs.up e (fun a ha => k a (List.mem_cons_of_mem _ ha)) r)
theorem Cis.up (e : Ex F F') : ∀ {kvs : List (Key × V)} {pvs : List (Ky × PyData)}, Cis K F kvs pvs → Cis K F' kvs pvs
  | _, _, .nil => .nil
  | _, _, .cons h r => .cons (h.up e) (Cis.up e r)
theorem Lls.up (e : Ex F F') : ∀ {qs : List Addr} {xss : List (List PyData)}, (∀ a ∈ qs, ∀ o, H a = some o → H' a = some o) → Lls K F H qs xss → Lls K F' H' qs xss
  | _, _, _, .nil => .nil
  | _, _, k, .cons h1 h2 h3 r => .cons (k _ List.mem_cons_self _ h1) (h2.up e) h3 (Lls.up e (fun a ha => k a (List.mem_cons_of_mem _ ha)) r)
theorem Lls.rps (e : Ex F H) : ∀ {qs : List Addr} {xss : List (List PyData)}, Lls K F H qs xss → Rps K H (qs.map V.ref) (xss.map PyData.list)
  | _, _, .nil => .nil
  | _, _, .cons h1 h2 _ r => .cons (.lst (.inl (.inl h1)) (h2.up e)) (Lls.rps e r)
theorem Lls.length : ∀ {qs : List Addr} {xss : List (List PyData)}, Lls K F H qs xss → qs.length = xss.length
  | _, _, .nil => rfl
  | _, _, .cons _ _ _ r => by simp [Lls.length r]
theorem Lls.nodup : ∀ {qs : List Addr} {xss : List (List PyData)}, Lls K F H qs xss → qs.Nodup
  | _, _, .nil => List.Pairwise.nil
  | _, _, .cons _ _ h r => List.nodup_cons.mpr ⟨h, Lls.nodup r⟩
theorem Lls.get : ∀ {qs : List Addr} {xss : List (List PyData)} {m : Nat}, Lls K F H qs xss → m < xss.length → ∃ q ys, qs[m]? = some q ∧ H q = some (.lst ys) ∧ Rps K F ys (xss.getD m [])
  | _, _, _, .nil, h => by simp at h
  | _, _, 0, .cons h1 h2 _ r, _ => ⟨_, _, rfl, h1, h2⟩
  | _, _, m + 1, .cons h1 h2 _ r, h => by
    obtain ⟨q, ys, e1, e2, e3⟩ := Lls.get (m := m) r (by simpa using h)
    exact ⟨q, ys, by simpa using e1, e2, by simpa using e3⟩
theorem Lls.set : ∀ {qs : List Addr} {xss : List (List PyData)} {m : Nat} {q : Addr} {ys : List V} {xs : List PyData}, Lls K F H qs xss → qs[m]? = some q → Rps K F ys xs → Lls K F (upd H q (.lst ys)) qs (xss.set m xs)
  | _, _, _, _, _, _, .nil, h, _ => by simp at h
  | _, _, 0, q, ys, xs, .cons h1 h2 h3 r, h, hr => by
    simp only [List.getElem?_cons_zero, Option.some.injEq] at h
    subst h
    exact .cons upd_same hr h3 (Lls.up (Ex.refl _) (fun a ha o ho => by
      rw [upd_ne]
      · exact ho
      · rintro rfl; exact h3 ha) r)
  | _, _, m + 1, q, ys, xs, .cons h1 h2 h3 r, h, hr => by
    simp only [List.getElem?_cons_succ] at h
    have hq := List.mem_of_getElem? h
    exact .cons (by
      rw [upd_ne]
      · exact h1
      · rintro rfl; exact h3 hq) h2 h3 (Lls.set r h hr)
theorem Lls.snoc : ∀ {qs : List Addr} {xss : List (List PyData)} {q : Addr} {ys : List V} {xs : List PyData}, Lls K F H qs xss → H q = some (.lst ys) → Rps K F ys xs → q ∉ qs → Lls K F H (qs ++ [q]) (xss ++ [xs])
  | _, _, _, _, _, .nil, h, hr, _ => .cons h hr (by simp) .nil
  | _, _, _, _, _, .cons h1 h2 h3 r, h, hr, hn => by
    refine .cons h1 h2 (fun hm => ?_) (Lls.snoc r h hr fun hm => hn (List.mem_cons_of_mem _ hm))
    rcases List.mem_append.mp hm with g | g
    · exact h3 g
    · rw [List.mem_singleton.mp g] at hn; exact hn List.mem_cons_self
theorem Lls.dropLast : ∀ {qs : List Addr} {xss : List (List PyData)}, Lls K F H qs xss → Lls K F H qs.dropLast xss.dropLast
  | _, _, .nil => .nil
  | _, _, .cons _ _ _ .nil => .nil
  | _, _, .cons h1 h2 h3 (.cons g1 g2 g3 r) => .cons h1 h2 (fun hm => h3 ((List.dropLast_sublist _).subset hm)) (Lls.dropLast (.cons g1 g2 g3 r))
theorem Ow.up (e : Ex F F') {v : V} {x : PV} {P P' : As} (h : Ow K F H v x P) (k : ∀ a, P a → ∀ o, H a = some o → H' a = some o) (s : ∀ a, P a → P' a) : Ow K F' H' v x P' := by
  cases h with
  | d h => exact .d (h.up e)
  | L hp h1 h2 => exact .L (s _ hp) (k _ hp _ h1) (h2.up e)
  | M hp h1 h2 h3 h4 h5 => exact .M (s _ hp) (k _ hp _ h1) (Cvs.up e (fun a ha => k a (h4 a ha)) h2) h3 (fun a ha => s a (h4 a ha)) h5
  | I hp h1 h2 => exact .I (s _ hp) (k _ hp _ h1) (h2.up e)
  | LL hp h1 h2 h3 h4 => exact .LL (s _ hp) (k _ hp _ h1) (Lls.up e (fun a ha => k a (h4 a ha)) h2) h3 fun a ha => s a (h4 a ha)
theorem Ow.opd {v : V} {x : PV} {P : As} {y : PyData} (h : Ow K F H v x P) (e : x.fz = .ok y) : Opd K F H v y := by
  cases h with
  | d h => cases e; exact .d h
  | L hp h1 h2 => cases e; exact .L h1 h2
  | M hp h1 h2 h3 h4 => cases e
  | I => cases e
  | LL => cases e
theorem Ow.dat {v : V} {x : PyData} {P : As} (h : Ow K F H v (.d x) P) : Rp K F v x := by
  cases h with
  | d h => exact h
end
/-- what never changes -/
def fixd : HO → Bool
  | .tup _ => true
  | .frz _ (.dK _) => false
  | .frz _ _ => true
  | .xd _ => true
  | _ => false
/-- known, and such as may change -/
def Mu (o : Option HO) : Prop := ∃ u, o = some u ∧ fixd u = false
theorem Mu.ne {o : Option HO} (h : Mu o) : o ≠ none := by
  obtain ⟨u, e, _⟩ := h
  rw [e]; simp
structure St (K : Frag) (F H : Hp) (σ : L2.St) (ρ : Ro) (fp : Nat → As) : Prop where
  le : Ex F H
  len : σ.length = ρ.length
  ow : ∀ i x, getRo ρ i = some x → ∃ v, σ[i]? = some (some v) ∧ Ow K F H v x (fp i)
  dj : ∀ i j a, fp i a → fp j a → i = j
  kn : ∀ i a, fp i a → Mu (H a)
  nf : ∀ i a, fp i a → F a = none
/-- an object that nobody owns, none of the settled data -/
theorem St.poke {K : Frag} {F H : Hp} {σ : L2.St} {ρ : Ro} {fp : Nat → As} (s : St K F H σ ρ fp) {p : Addr} (hf : F p = none) (hd : ∀ i, ¬ fp i p) (u : HO) : St K F (upd H p u) σ ρ fp where
  le := fun a o h => by
    have : a ≠ p := fun e => by rw [e, hf] at h; cases h
    rw [upd_ne this]
    exact s.le a o h
  len := s.len
  ow := fun i x h => by
    obtain ⟨v, h1, h2⟩ := s.ow i x h
    refine ⟨v, h1, h2.up (Ex.refl F) (fun a ha o e => ?_) fun _ z => z⟩
    have ne : a ≠ p := fun e => hd i (by rw [← e]; exact ha)
    rw [upd_ne ne]
    exact e
  dj := s.dj
  kn := fun i a h => by
    have ne : a ≠ p := fun e => hd i (by rw [← e]; exact h)
    rw [upd_ne ne]
    exact s.kn i a h
  nf := s.nf
/-- from one state to a later one -/
structure Xt (F H : Hp) (fp : Nat → As) (F' H' : Hp) (fp' : Nat → As) : Prop where
  ff : Ex F F'
  fr : ∀ a o, H a = some o → (∀ i, ¬ fp i a) → H' a = some o
  le : Ex F' H'
  nw : ∀ a o, F' a = some o → F a = some o ∨ H a = none ∨ (∃ i, fp i a) ∨ fixd o = true
  sub : ∀ i a, fp' i a → (∃ j, fp j a) ∨ H a = none
  kn : ∀ a, H a ≠ none → H' a ≠ none
/-- a value in hand -/
structure Hd (K : Frag) (F H : Hp) (fp : Nat → As) (v : V) (x : PV) (P : As) : Prop where
  ow : Ow K F H v x P
  nf : ∀ a, P a → F a = none
  kn : ∀ a, P a → Mu (H a)
  dj : ∀ a, P a → ∀ i, ¬ fp i a
theorem Xt.refl {F H : Hp} {fp : Nat → As} (e : Ex F H) : Xt F H fp F H fp := ⟨Ex.refl F, fun _ _ h _ => h, e, fun _ _ h => .inl h, fun i _ h => .inl ⟨i, h⟩, fun _ h => h⟩
theorem Xt.trans {F H F1 H1 F2 H2 : Hp} {fp fp1 fp2 : Nat → As} (x : Xt F H fp F1 H1 fp1) (y : Xt F1 H1 fp1 F2 H2 fp2) : Xt F H fp F2 H2 fp2 where
  ff := x.ff.trans y.ff
  fr := fun a o h n => y.fr a o (x.fr a o h n) fun i hi => by
    rcases x.sub i a hi with ⟨j, hj⟩ | hn
    · exact n j hj
    · rw [hn] at h; cases h
  le := y.le
  nw := fun a o h => by
    have back : H1 a = none → H a = none := fun h1 => by
      cases q : H a with
      | none => rfl
      | some u => exact absurd h1 (x.kn a (by rw [q]; simp))
    rcases y.nw a o h with h1 | h1 | ⟨i, h1⟩ | h1
    · exact x.nw a o h1
    · exact .inr (.inl (back h1))
    · rcases x.sub i a h1 with h2 | h2
      · exact .inr (.inr (.inl h2))
      · exact .inr (.inl h2)
    · exact .inr (.inr (.inr h1))
  sub := fun i a h => by
    rcases y.sub i a h with ⟨j, hj⟩ | h1
    · exact x.sub j a hj
    · refine .inr ?_
      cases q : H a with
      | none => rfl
      | some u => exact absurd h1 (x.kn a (by rw [q]; simp))
  kn := fun a h => y.kn a (x.kn a h)
/-- what is in hand stays in hand -/
theorem Hd.keep {K : Frag} {F H F' H' : Hp} {fp fp' : Nat → As} {v : V} {x : PV} {P : As} (h : Hd K F H fp v x P) (t : Xt F H fp F' H' fp') : Hd K F' H' fp' v x P where
  ow := h.ow.up t.ff (fun a ha o e => t.fr a o e (h.dj a ha)) fun _ z => z
  nf := fun a ha => by
    cases q : F' a with
    | none => rfl
    | some o =>
      rcases t.nw a o q with h1 | h1 | ⟨i, h1⟩ | h1
      · rw [h.nf a ha] at h1; cases h1
      · exact absurd h1 (h.kn a ha).ne
      · exact absurd h1 (h.dj a ha i)
      · obtain ⟨u, e, hu⟩ := h.kn a ha
        have e2 := t.fr a u e (h.dj a ha)
        rw [t.le a o q] at e2
        cases e2
        rw [hu] at h1; cases h1
  kn := fun a ha => by
    obtain ⟨u, e, hu⟩ := h.kn a ha
    exact ⟨u, t.fr a u e (h.dj a ha), hu⟩
  dj := fun a ha i hi => by
    rcases t.sub i a hi with ⟨j, hj⟩ | h1
    · exact h.dj a ha j hj
    · exact (h.kn a ha).ne h1
/-- new objects alone -/
structure Nw (F H F' H' : Hp) : Prop where
  le : Ex F' H'
  ff : Ex F F'
  hh : Ex H H'
  nw : ∀ a o, F' a = some o → F a = some o ∨ H a = none ∨ fixd o = true
theorem Nw.refl {F H : Hp} (e : Ex F H) : Nw F H F H := ⟨e, Ex.refl F, Ex.refl H, fun _ _ h => .inl h⟩
theorem Nw.xt {F H F' H' : Hp} {fp : Nat → As} (n : Nw F H F' H') : Xt F H fp F' H' fp where
  ff := n.ff
  fr := fun a o h _ => n.hh a o h
  le := n.le
  nw := fun a o h => by
    rcases n.nw a o h with h1 | h1 | h1
    · exact .inl h1
    · exact .inr (.inl h1)
    · exact .inr (.inr (.inr h1))
  sub := fun i a h => .inl ⟨i, h⟩
  kn := fun a h => by
    cases q : H a with
    | none => exact absurd q h
    | some o => rw [n.hh a o q]; simp
theorem Nw.st {K : Frag} {F H F' H' : Hp} {σ : L2.St} {ρ : Ro} {fp : Nat → As} (n : Nw F H F' H') (s : St K F H σ ρ fp) : St K F' H' σ ρ fp where
  le := n.le
  len := s.len
  ow := fun i x h => by
    obtain ⟨v, h1, h2⟩ := s.ow i x h
    exact ⟨v, h1, h2.up n.ff (fun a _ o e => n.hh a o e) fun _ z => z⟩
  dj := s.dj
  kn := fun i a h => by
    obtain ⟨u, e, hu⟩ := s.kn i a h
    exact ⟨u, n.hh a u e, hu⟩
  nf := fun i a h => by
    cases q : F' a with
    | none => rfl
    | some o =>
      rcases n.nw a o q with h1 | h1 | h1
      · rw [s.nf i a h] at h1; cases h1
      · exact absurd h1 (s.kn i a h).ne
      · obtain ⟨u, e, hu⟩ := s.kn i a h
        have e2 := n.hh a u e
        rw [n.le a o q] at e2
        cases e2
        rw [hu] at h1; cases h1
/-- a result of new objects alone -/
structure Rs (K : Frag) (F H F' H' : Hp) (v : V) (x : PV) : Prop where
  nw : Nw F H F' H'
  ow : Ow K F' H' v x (fun a => H a = none ∧ F' a = none ∧ Mu (H' a))
theorem Rs.hd {K : Frag} {F H F' H' : Hp} {σ : L2.St} {ρ : Ro} {fp : Nat → As} {v : V} {x : PV} (r : Rs K F H F' H' v x) (s : St K F H σ ρ fp) : Hd K F' H' fp v x (fun a => H a = none ∧ F' a = none ∧ Mu (H' a)) :=
  ⟨r.ow, fun _ h => h.2.1, fun _ h => h.2.2, fun a h i hi => (s.kn i a hi).ne h.1⟩
/-- a value without objects -/
theorem Rs.same {K : Frag} {F H : Hp} {v : V} {x : PyData} (e : Ex F H) (h : Rp K F v x) : Rs K F H F H v (.d x) := ⟨Nw.refl e, .d h⟩
/-- a new list -/
theorem Rs.newL {K : Frag} {F H : Hp} {p : Addr} {ys : List V} {xs : List PyData} (e : Ex F H) (hp : H p = none) (h : Rps K F ys xs) : Rs K F H F (upd H p (.lst ys)) (.ref p) (.L xs) :=
  ⟨⟨e.trans (Ex.new hp), Ex.refl F, Ex.new hp, fun _ _ h => .inl h⟩, .L ⟨hp, fresh_back e hp, ⟨_, upd_same, rfl⟩⟩ upd_same h⟩
/-- a new tuple -/
theorem Rs.newT {K : Frag} {F H : Hp} {p : Addr} {ys : List V} {xs : List PyData} (e : Ex F H) (hp : H p = none) (h : Rps K F ys xs) : Rs K F H (upd F p (.tup ys)) (upd H p (.tup ys)) (.ref p) (.d (.tuple xs)) := by
  have hf := fresh_back e hp
  refine ⟨⟨fun a o ha => ?_, Ex.new hf, Ex.new hp, fun a o ha => ?_⟩, .d (.tup (st_of upd_same) (h.up (Ex.new hf)))⟩
  · by_cases q : a = p
    · subst q; rw [upd_same] at ha ⊢; exact ha
    · rw [upd_ne q] at ha ⊢; exact e a o ha
  · by_cases q : a = p
    · subst q; exact .inr (.inl hp)
    · rw [upd_ne q] at ha; exact .inl ha
theorem getRo_lt {ρ : Ro} {i : Nat} {x : PV} (h : getRo ρ i = some x) : i < ρ.length := by
  unfold getRo at h
  cases q : ρ[i]? with
  | none => rw [q] at h; cases h
  | some y => exact (List.getElem?_eq_some_iff.mp q).1
theorem getRo_set_self {ρ : Ro} {i : Nat} {o : Option PV} (h : i < ρ.length) : getRo (ρ.set i o) i = o := by
  unfold getRo
  rw [List.getElem?_set_self h]
  cases o <;> rfl
theorem getRo_set_ne {ρ : Ro} {i j : Nat} {o : Option PV} (h : i ≠ j) : getRo (ρ.set i o) j = getRo ρ j := by
  unfold getRo
  rw [List.getElem?_set_ne h]
theorem getRo_set {ρ : Ro} {i j : Nat} {o : Option PV} {x : PV} (h : getRo (ρ.set i o) j = some x) : (i = j ∧ o = some x) ∨ (i ≠ j ∧ getRo ρ j = some x) := by
  by_cases e : i = j
  · subst e
    have hl : i < ρ.length := by
      have := getRo_lt h
      simpa using this
    rw [getRo_set_self hl] at h
    exact .inl ⟨rfl, h⟩
  · rw [getRo_set_ne e] at h
    exact .inr ⟨e, h⟩
/-- footprints with one changed -/
def fpSet (fp : Nat → As) (i : Nat) (P : As) : Nat → As := fun j => if j = i then P else fp j
theorem fpSet_self {fp : Nat → As} {i : Nat} {P : As} : fpSet fp i P i = P := if_pos rfl
theorem fpSet_ne {fp : Nat → As} {i j : Nat} {P : As} (h : j ≠ i) : fpSet fp i P j = fp j := if_neg h
theorem fpSet_cases {fp : Nat → As} {i j : Nat} {P : As} {a : Addr} (h : fpSet fp i P j a) : (j = i ∧ P a) ∨ (j ≠ i ∧ fp j a) := by
  by_cases e : j = i
  · subst e; rw [fpSet_self] at h; exact .inl ⟨rfl, h⟩
  · rw [fpSet_ne e] at h; exact .inr ⟨e, h⟩
section
variable {K : Frag} {F H : Hp} {σ : L2.St} {ρ : Ro} {fp : Nat → As}
/-- a value in hand is stored at a name -/
theorem St.put (s : St K F H σ ρ fp) {v : V} {x : PV} {P : As} (h : Hd K F H fp v x P) (i : Nat) : St K F H (σ.set i (some v)) (ρ.set i (some x)) (fpSet fp i P) where
  le := s.le
  len := by simp [s.len]
  ow := fun j y hj => by
    rcases getRo_set hj with ⟨e, e2⟩ | ⟨e, h2⟩
    · subst e
      cases e2
      have hl : i < σ.length := by rw [s.len]; simpa using getRo_lt hj
      exact ⟨v, by rw [List.getElem?_set_self hl], by rw [fpSet_self]; exact h.ow⟩
    · obtain ⟨w, h3, h4⟩ := s.ow j y h2
      exact ⟨w, by rw [List.getElem?_set_ne e]; exact h3, by rw [fpSet_ne (Ne.symm e)]; exact h4⟩
  dj := fun j k a hj hk => by
    rcases fpSet_cases hj with ⟨e, h1⟩ | ⟨e, h1⟩ <;> rcases fpSet_cases hk with ⟨e', h2⟩ | ⟨e', h2⟩
    · rw [e, e']
    · exact absurd h2 (h.dj a h1 k)
    · exact absurd h1 (h.dj a h2 j)
    · exact s.dj j k a h1 h2
  kn := fun j a hj => by
    rcases fpSet_cases hj with ⟨e, h1⟩ | ⟨e, h1⟩
    · exact h.kn a h1
    · exact s.kn j a h1
  nf := fun j a hj => by
    rcases fpSet_cases hj with ⟨e, h1⟩ | ⟨e, h1⟩
    · exact h.nf a h1
    · exact s.nf j a h1
/-- settled data stored at a name -/
theorem St.putD (s : St K F H σ ρ fp) {v : V} {x : PyData} (h : Rp K F v x) (i : Nat) : St K F H (σ.set i (some v)) (ρ.set i (some (.d x))) (fpSet fp i none0) :=
  s.put (P := none0) ⟨.d h, fun _ z => z.elim, fun _ z => z.elim, fun _ z => z.elim⟩ i
/-- forget a name -/
theorem St.drop (s : St K F H σ ρ fp) (i : Nat) : St K F H σ (ρ.set i none) fp where
  le := s.le
  len := by simp [s.len]
  ow := fun j y hj => by
    rcases getRo_set hj with ⟨_, e2⟩ | ⟨_, h2⟩
    · cases e2
    · exact s.ow j y h2
  dj := s.dj
  kn := s.kn
  nf := s.nf
/-- .. and take its value in hand -/
theorem St.take (s : St K F H σ ρ fp) {i : Nat} {x : PV} (h : getRo ρ i = some x) : ∃ v, σ[i]? = some (some v) ∧ St K F H σ (ρ.set i none) (fpSet fp i none0) ∧ Xt F H fp F H (fpSet fp i none0) ∧ Hd K F H (fpSet fp i none0) v x (fp i) := by
  obtain ⟨v, h1, h2⟩ := s.ow i x h
  refine ⟨v, h1, ⟨s.le, by simp [s.len], fun j y hj => ?_, fun j k a hj hk => ?_, fun j a hj => ?_, fun j a hj => ?_⟩, ⟨Ex.refl F, fun _ _ h _ => h, s.le, fun _ _ h => .inl h, fun j a hj => ?_, fun _ h => h⟩, ⟨h2, s.nf i, s.kn i, fun a ha j hj => ?_⟩⟩
  · rcases getRo_set hj with ⟨_, e2⟩ | ⟨e, h2⟩
    · cases e2
    · rw [fpSet_ne (Ne.symm e)]; exact s.ow j y h2
  · rcases fpSet_cases hj with ⟨_, h1⟩ | ⟨_, h1⟩
    · exact h1.elim
    · rcases fpSet_cases hk with ⟨_, h2⟩ | ⟨_, h2⟩
      · exact h2.elim
      · exact s.dj j k a h1 h2
  · rcases fpSet_cases hj with ⟨_, h1⟩ | ⟨_, h1⟩
    · exact h1.elim
    · exact s.kn j a h1
  · rcases fpSet_cases hj with ⟨_, h1⟩ | ⟨_, h1⟩
    · exact h1.elim
    · exact s.nf j a h1
  · rcases fpSet_cases hj with ⟨_, h1⟩ | ⟨_, h1⟩
    · exact h1.elim
    · exact .inl ⟨j, h1⟩
  · rcases fpSet_cases hj with ⟨_, h1⟩ | ⟨e, h1⟩
    · exact h1.elim
    · exact e (s.dj j i a h1 ha)
/-- a list in hand is settled -/
theorem Hd.settle (s : St K F H σ ρ fp) {v : V} {x : PV} {y : PyData} {P : As} (h : Hd K F H fp v x P) (e : x.fz = .ok y) :
    ∃ F', St K F' H σ ρ fp ∧ Ex F F' ∧ (∀ a o, F' a = some o → F a = some o ∨ P a) ∧ Rp K F' v y := by
  cases hx : h.ow with
  | d hd => cases e; exact ⟨F, s, Ex.refl F, fun _ _ h => .inl h, hd⟩
  | @L p ys xs _ hp h1 h2 =>
    cases e
    have hf := h.nf p hp
    refine ⟨upd F p (.lst ys), ⟨fun a o ha => ?_, s.len, fun i z hz => ?_, s.dj, s.kn, fun i a hi => ?_⟩, Ex.new hf, fun a o ha => ?_, .lst (.inl (.inl upd_same)) (h2.up (Ex.new hf))⟩
    · by_cases q : a = p
      · subst q; rw [upd_same] at ha; cases ha; exact h1
      · rw [upd_ne q] at ha; exact s.le a o ha
    · obtain ⟨w, e1, e2⟩ := s.ow i z hz
      exact ⟨w, e1, e2.up (Ex.new hf) (fun _ _ _ e => e) fun _ z => z⟩
    · have : a ≠ p := fun q => h.dj p hp i (q ▸ hi)
      rw [upd_ne this]; exact s.nf i a hi
    · by_cases q : a = p
      · subst q; exact .inr hp
      · rw [upd_ne q] at ha; exact .inl ha
  | M => cases e
  | I => cases e
  | LL => cases e
end
end Rf
set_option maxRecDepth 100000
set_option maxHeartbeats 4000000
namespace Rf
open PySem L2 Evl
def vis (sc : Scope) (x : Str) : Bool := (match sc.names.lookup x with | some .local => true | some .cell => true | some .free => true | _ => false) && !(x == ("__debug__" : Str)) && !(x == ("__classdict__" : Str))
def glo (sc : Scope) (x : Str) : Bool := (match sc.names.lookup x with | some .globalImplicit => true | _ => false) && !(x == ("__debug__" : Str)) && !(x == ("__name__" : Str))
def sto (top : Bool) (sc : Scope) (x : Str) : Bool := match sc.names.lookup x with
  | some .local => true
  | some .cell => top
  | _ => false
def biName : Bi → Str
  | .len => "len" | .max => "max" | .min => "min" | .abs => "abs" | .int => "int" | .str => "str" | .list => "list" | .tuple => "tuple"
  | .sum => "sum" | .all => "all" | .any => "any" | .sorted => "sorted" | .reversed => "reversed"
def tyName : Ty → Str
  | .int => "int" | .bool => "bool" | .tuple => "tuple" | .list => "list" | .str => "str"
def mtName : Mt → Str
  | .append => "append" | .pop => "pop" | .popAt => "pop" | .extend => "extend" | .clear => "clear" | .reverse => "reverse" | .index => "index" | .count => "count"
def mvName : Mv → Str
  | .lindex => "index" | .join => "join" | .split => "split" | .partition => "partition" | .find => "find" | .startswith => "startswith" | .rstripC => "rstrip" | .scount => "count" | .sindex => "index"
def isAnd : E → Bool
  | .and _ _ => true
  | _ => false
def isOr : E → Bool
  | .or _ _ => true
  | _ => false
def noStar : Expr → Bool
  | .Starred .. => false
  | _ => true
def noCall : Expr → Bool
  | .Call (.Name x _) [] [] _ => !(x == ("super" : Str))
  | _ => true
def noSlice : Expr → Bool
  | .Slice .. => false
  | _ => true
/-- a built-in of this number of arguments is known here -/
def biOk : Bi → Nat → Bool
  | .max, 1 => true | .max, 2 => true | .max, 3 => true
  | .min, 1 => true | .min, 2 => true | .min, 3 => true
  | .all, 1 => true | .any, 1 => true | .sorted, 1 => true
  | .len, 1 => true | .abs, 1 => true | .int, 1 => true | .str, 1 => true | .list, 1 => true | .tuple, 1 => true | .sum, 1 => true
  | _, _ => false
def builtinsUsed : List Str := ["len", "max", "min", "abs", "int", "str", "list", "tuple", "sum", "all", "any", "sorted", "reversed", "isinstance", "bool", "range", "enumerate", "zip", "dict"]
def isPos : Nat → List (Option Nat) → List Nat → Bool
  | _, [], _ => true
  | j, some _ :: r, io => io.contains j && isPos (j + 1) r io
  | j, none :: r, io => isPos (j + 1) r io
def keysAre : List Str → List (Option Expr) → Bool
  | [], [] => true
  | k :: ks, some (.Constant (.str j) _ _) :: es => k == j && keysAre ks es
  | _, _ => false
section
variable (P : Prg) (N : List Str)
def chkN (i : Nat) (sc : Scope) : Expr → Bool
  | .Name x _ => N[i]? == some x && vis sc x
  | _ => false
def isNilE : E → Bool
  | .nil => true
  | _ => false
def slots : Tg → List Nat
  | .n i => [i]
  | .nil => []
  | .cons t r => slots t ++ slots r
/-- a place -/
def chkP (p : Pl) (sc : Scope) (a : Expr) : Bool := match p with
  | .s i => chkN N i sc a
  | .k i key => (match a with
    | .Subscript l (.Constant (.str j) _ _) _ => chkN N i sc l && j == key
    | _ => false)
def ownOf (vs : List Nat) : List (Str × Nat) := vs.map fun v => (N.getD v "", v)
mutual
def chkT : Tg → Scope → Bool → Expr → Bool
  | .n i, sc, top, a => (match a with
    | .Name x _ => N[i]? == some x && sto top sc x
    | _ => false)
  | .nil, _, _, a => (match a with
    | .Tuple es _ _ => es.isEmpty
    | _ => false)
  | .cons t r, sc, top, a => (match a with
    | .Tuple es _ _ => chkTs (.cons t r) sc top es
    | _ => false)
def chkTs : Tg → Scope → Bool → List Expr → Bool
  | .n _, _, _, _ => false
  | .nil, _, _, es => es.isEmpty
  | .cons t r, sc, top, es => (match es with
    | e :: es => noStar e && chkT t sc top e && chkTs r sc top es
    | [] => false)
end
mutual
def chkE : E → Scope → Bool → Expr → Bool
  | .nm i, sc, _, a => chkN N i sc a
  | .mv i, sc, _, a => chkN N i sc a
  | .fz i, sc, _, a => chkN N i sc a
  | .frz e, sc, top, a => chkE e sc top a
  | .bw e, sc, top, a => chkE e sc top a
  | .gl x, sc, _, a => (match a with | .Name y _ => x == y && glo sc x | _ => false)
  | .int i, _, _, a => (match a with | .Constant (.int j) _ _ => i == j | _ => false)
  | .bl i, _, _, a => (match a with | .Constant (.bool j) _ _ => i == j | _ => false)
  | .non, _, _, a => (match a with | .Constant .none _ _ => true | _ => false)
  | .str i, _, _, a => (match a with | .Constant (.str j) _ _ => i == j | _ => false)
  | .bin op x y, sc, top, a => (match a with | .BinOp l o r _ => decide (o = op) && chkE x sc top l && chkE y sc top r | _ => false)
  | .neg x, sc, top, a => (match a with | .UnaryOp .USub l _ => chkE x sc top l | _ => false)
  | .not x, sc, top, a => (match a with | .UnaryOp .Not l _ => chkE x sc top l | _ => false)
  | .and x y, sc, top, a => (match a with
    | .BoolOp .And (l :: m :: r) p => chkE x sc top l && (match r with | [] => chkE y sc top m | _ => isAnd y && chkE y sc top (.BoolOp .And (m :: r) p))
    | _ => false)
  | .or x y, sc, top, a => (match a with
    | .BoolOp .Or (l :: m :: r) p => chkE x sc top l && (match r with | [] => chkE y sc top m | _ => isOr y && chkE y sc top (.BoolOp .Or (m :: r) p))
    | _ => false)
  | .cmp op x y, sc, top, a => (match a with | .Compare l [o] [r] _ => decide (o = op) && !behindInMarks op r && chkE x sc top l && chkE y sc top r | _ => false)
  | .chain op op' x y z, sc, top, a => (match a with
    | .Compare l [o, o'] [m, r] _ => decide (o = op) && decide (o' = op') && !behindInMarks op' r && chkE x sc top l && chkE y sc top m && chkE z sc top r
    | _ => false)
  | .isN x, sc, top, a => (match a with | .Compare l [.Is] [.Constant .none _ _] _ => chkE x sc top l | _ => false)
  | .notN x, sc, top, a => (match a with | .Compare l [.IsNot] [.Constant .none _ _] _ => chkE x sc top l | _ => false)
  | .ife c x y, sc, top, a => (match a with | .IfExp t l r _ => chkE c sc top t && chkE x sc top l && chkE y sc top r | _ => false)
  | .tup as, sc, top, a => (match a with | .Tuple es _ _ => chkA as sc top es && noIo as && decide (alen as ≤ 1000) | _ => false)
  | .lst as, sc, top, a => (match a with | .List es _ => chkA as sc top es && noIo as && decide (alen as ≤ 1000) | _ => false)
  | .lrev x, sc, top, a => (match a with
    | .Call (.Name f _) [.Call (.Name g _) [l] [] _] [] _ => f == ("list" : Str) && glo sc f && g == ("reversed" : Str) && glo sc g && noStar l && chkE x sc top l
    | _ => false)
  | .ixG x y, sc, top, a => (match a with | .Subscript (.Name z _) r _ => x == z && glo sc x && noSlice r && chkE y sc top r | _ => false)
  | .inG x y, sc, top, a => (match a with | .Compare l [.In] [.Name z _] _ => x == z && glo sc x && chkE y sc top l | _ => false)
  | .callL f g b as, sc, top, a => (match a with
    | .Call (.Subscript (.List [.Name x _, .Name y _] _) r _) es [] _ => (match P[f]?, P[g]? with
      | some d, some d' => x == d.name && glo sc x && (y == d'.name && glo sc y) && (noSlice r && chkE b sc top r) && chkA as sc top es && isPos 0 (ios as) d.io && isPos 0 (ios as) d'.io && decide ((ios as).filterMap id).Nodup && decide (alen as = d.np) && decide (alen as = d'.np) && !es.isEmpty
      | _, _ => false)
    | _ => false)
  | .op1 k x, sc, top, a => (match k, a with
    | .bitl, .Call (.Attribute l m ap) [] [] cp => m == ("bit_length" : Str) && noCall l && chkE x sc top l && ap.endLine == cp.line
    | _, _ => false)
  | .op2 k x y, sc, top, a => (match k, a with
    | .zipL, .Call (.Name f _) [.Call (.Name g _) [l, r] [] _] [] _ => f == ("list" : Str) && glo sc f && (g == ("zip" : Str)) && glo sc g && noStar l && chkE x sc top l && noStar r && chkE y sc top r
    | _, _ => false)
  | .llN n, _, _, a => (match a with
    | .List [] _ => n == 0
    | .List [.List [] _, .List [] _] _ => n == 2
    | _ => false)
  | .llA i ix x, sc, top, a => (match a with
    | .Call (.Attribute (.Subscript l r _) m ap) [e] [] cp => m == ("append" : Str) && (chkN N i sc l && noSlice r) && (chkE ix sc top r && chkE x sc top e) && (noStar e && ap.endLine == cp.line) && noIo (.cons x .nil)
    | _ => false)
  | .llE i, sc, _, a => (match a with
    | .Call (.Attribute l m ap) [.List [] _] [] cp => m == ("append" : Str) && chkN N i sc l && ap.endLine == cp.line
    | _ => false)
  | .llO i, sc, _, a => (match a with
    | .Call (.Attribute l m ap) [] [] cp => m == ("pop" : Str) && chkN N i sc l && ap.endLine == cp.line
    | _ => false)
  | .dI, _, _, a => (match a with | .Dict [] [] _ => true | _ => false)
  | .ixI i y, sc, top, a => (match a with | .Subscript l r _ => noSlice r && chkE y sc top r && chkN N i sc l | _ => false)
  | .inI neg i y, sc, top, a => (match a with
    | .Compare l [.In] [r] _ => !neg && chkE y sc top l && chkN N i sc r
    | .Compare l [.NotIn] [r] _ => neg && chkE y sc top l && chkN N i sc r
    | _ => false)
  | .cpI i, sc, _, a => (match a with | .Call (.Name f _) [e] [] _ => f == ("dict" : Str) && glo sc f && chkN N i sc e | _ => false)
  | .asI x, sc, top, a => (match a with | .Dict ks es pos => chkE x sc top (.Dict ks es pos) | _ => false)
  | .lenI i, sc, _, a => (match a with | .Call (.Name f _) [e] [] _ => f == ("len" : Str) && glo sc f && chkN N i sc e | _ => false)
  | .lsI i, sc, _, a => (match a with | .Call (.Name f _) [e] [] _ => f == ("list" : Str) && glo sc f && chkN N i sc e | _ => false)
  | .srtI i, sc, _, a => (match a with | .Call (.Name f _) [e] [] _ => f == ("sorted" : Str) && glo sc f && chkN N i sc e | _ => false)
  | .ixM x y, sc, top, a => (match a with | .Subscript l r _ => noSlice r && chkE x sc top l && chkE y sc top r | _ => false)
  | .evn o x, sc, top, a => (match o, a with
    | false, .Subscript l (.Slice none none (some (.Constant (.int 2) _ _)) _) _ => chkE x sc top l
    | true, .Subscript l (.Slice (some (.Constant (.int 1) _ _)) none (some (.Constant (.int 2) _ _)) _) _ => chkE x sc top l
    | _, _ => false)
  | .rev x, sc, top, a => (match a with | .Subscript l (.Slice none none (some (.UnaryOp .USub (.Constant (.int 1) _ _) _)) _) _ => chkE x sc top l | _ => false)
  | .dct ks as, sc, top, a => (match a with
    | .Dict keys values _ => (ks.isEmpty && keys.isEmpty && values.isEmpty && isNilE as) || keysAre ks keys && decide (ks.length = values.length) && decide (ks.length ≤ 15) && !ks.isEmpty && decide ks.Nodup && chkA as sc top values && noIo as
    | _ => false)
  | .ix x y, sc, top, a => (match a with | .Subscript l r _ => noSlice r && chkE x sc top l && chkE y sc top r | _ => false)
  | .sl x lo hi, sc, top, a => (match a with
    | .Subscript l (.Slice l1 h1 none _) _ => chkE x sc top l && (match l1 with | some e => chkE lo sc top e && !isNone lo | none => isNone lo) &&
        (match h1 with | some e => chkE hi sc top e && !isNone hi | none => isNone hi)
    | _ => false)
  | .ixP p y, sc, top, a => (match a with
    | .Subscript l r _ => noSlice r && chkE y sc top r && (match p with | .s i => chkN N i sc l | .k i _ => chkN N i sc l)
    | _ => false)
  | .lenP p, sc, top, a => (match a with
    | .Call (.Name x _) [o] [] _ => x == ("len" : Str) && glo sc x && noStar o && chkP N p sc o
    | _ => false)
  | .bi b as, sc, top, a => (match a with
    | .Call (.Name x _) es [] _ => x == biName b && glo sc x && chkA as sc top es && noIo as && biOk b (alen as)
    | _ => false)
  | .isi x t, sc, top, a => (match a with
    | .Call (.Name f _) [l, .Name y _] [] _ => f == ("isinstance" : Str) && glo sc f && y == tyName t && glo sc y && noStar l && chkE x sc top l
    | _ => false)
  | .call f as, sc, top, a => (match a with
    | .Call (.Name x _) es [] _ => (match P[f]? with
      | some d => x == d.name && glo sc x && chkA as sc top es && isPos 0 (ios as) d.io && decide ((ios as).filterMap id).Nodup && decide (alen as = d.np)
      | none => false)
    | _ => false)
  | .mt m p as, sc, top, a => (match a with
    | .Call (.Attribute o x ap) es [] cp => x == mtName m && chkP N p sc o && chkA as sc top es && noIo as && decide (alen as < 29) && (match p with | .s _ => true | .k _ _ => decide (alen as = 0)) && ap.endLine == cp.line
    | _ => false)
  | .mtv m ob as, sc, top, a => (match a with
    | .Call (.Attribute o x ap) es [] cp => x == mvName m && noCall o && chkE ob sc top o && chkA as sc top es && noIo as && decide (alen as < 29) && !es.isEmpty && ap.endLine == cp.line
    | _ => false)
  | .dcI g j e vs, sc, top, a => (match a with
    | .Call (.Name f _) [.ListComp elt [⟨.Tuple us k p, .Call (.Attribute ob m ap) [] [] cp, [], asy⟩] scope _] [] _ => (f == ("dict" : Str) && glo sc f) && decide (asy = 0) && (m == ("items" : Str) && ap.endLine == cp.line) && chkN N j sc ob && (slots g).all vs.contains && blkC N sc scope (ownOf N vs) && chkT N g (relS scope sc) false (.Tuple us k p) && chkE e (relS scope sc) false elt && decide (N.Nodup)
    | _ => false)
  | .dctP e, sc, top, a => (match a with | .Call (.Name f _) [x] [] _ => f == ("dict" : Str) && glo sc f && noStar x && chkE e sc top x | _ => false)
  | .lc g it c e vs, sc, top, a => (match a with
    | .ListComp elt [⟨tg, iter, ifs, asy⟩] scope _ => decide (asy = 0) && chkI it sc top tg iter && (slots g).all vs.contains && blkC N sc scope (ownOf N vs) && chkT N g (relS scope sc) false tg && chkE e (relS scope sc) false elt &&
      (match ifs with
      | [] => (match c with | .bl b => b | _ => false)
      | [t] => chkE c (relS scope sc) false t
      | _ => false) && decide (N.Nodup)
    | _ => false)
  | _, _, _, _ => false
def chkA : E → Scope → Bool → List Expr → Bool
  | .nil, _, _, es => es.isEmpty
  | .cons a r, sc, top, es => (match es with
    | e :: es => noStar e && (match a with | .io i => chkN N i sc e | _ => chkE a sc top e) && chkA r sc top es
    | [] => false)
  | _, _, _, _ => false
def chkI : E → Scope → Bool → Expr → Expr → Bool
  | .itL e, sc, top, _, a => chkE e sc top a && (match a with | .Set .. => false | _ => true)
  | .itR1 x, sc, top, _, a => (match a with
    | .Call (.Name f _) [l] [] _ => f == ("range" : Str) && glo sc f && noStar l && chkE x sc top l
    | _ => false)
  | .itR2 x y, sc, top, _, a => (match a with
    | .Call (.Name f _) [l, r] [] _ => f == ("range" : Str) && glo sc f && noStar l && chkE x sc top l && noStar r && chkE y sc top r
    | _ => false)
  | .itDown x y, sc, top, _, a => (match a with
    | .Call (.Name f _) [l, r, .UnaryOp .USub (.Constant (.int 1) _ _) _] [] _ => f == ("range" : Str) && glo sc f && noStar l && chkE x sc top l && noStar r && chkE y sc top r
    | _ => false)
  | .itZip3 x y z, sc, top, tg, a => (match a, tg with
    | .Call (.Name f _) [l, r, q] [] _, .Tuple .. => f == ("zip" : Str) && glo sc f && noStar l && chkE x sc top l && noStar r && chkE y sc top r && noStar q && chkE z sc top q
    | _, _ => false)
  | .itEn x, sc, top, tg, a => (match a, tg with
    | .Call (.Name f _) [l] [] _, .Tuple .. => f == ("enumerate" : Str) && glo sc f && noStar l && chkE x sc top l
    | _, _ => false)
  | .itZip x y, sc, top, tg, a => (match a, tg with
    | .Call (.Name f _) [l, r] [] _, .Tuple .. => f == ("zip" : Str) && glo sc f && noStar l && chkE x sc top l && noStar r && chkE y sc top r
    | _, _ => false)
  | .itZipN x y, sc, top, tg, a => (match a, tg with
    | .Call (.Name f _) [l, r] [] _, .Name _ _ => f == ("zip" : Str) && glo sc f && noStar l && chkE x sc top l && noStar r && chkE y sc top r
    | _, _ => false)
  | .itEnZ x y, sc, top, tg, a => (match a, tg with
    | .Call (.Name g _) [.Call (.Name f _) [l, r] [] _] [] _, .Tuple .. => g == ("enumerate" : Str) && glo sc g && f == ("zip" : Str) && glo sc f && noStar l && chkE x sc top l && noStar r && chkE y sc top r
    | _, _ => false)
  | _, _, _, _, _ => false
end
end
def peel : E → E
  | .frz e => peel e
  | .bw e => peel e
  | e => e
def isLc : Expr → Bool
  | .ListComp .. => true
  | .SetComp .. => true
  | .DictComp .. => true
  | _ => false
/-- a tuple that is folded to a constant -/
def foldV : Expr → Bool
  | .Tuple es _ _ => es.all (foldedForSure 8)
  | _ => false
/-- a target whose first part is itself a row -/
def nestT : Expr → Bool
  | .Tuple (.Tuple .. :: _) _ _ => true
  | _ => false
def isTupE : Expr → Bool
  | .Tuple .. => true
  | _ => false
section
variable (P : Prg) (N : List Str)
/-- name = value: a comprehension is stored in another way -/
def asgOk (sc : Scope) (y : Str) (py spos : Pos) : Expr → Bool
  | .ListComp _ _ scope pos => (match sc.names.lookup y with
    | some .cell => true
    | some .local => py.line == pos.line && !(scope.names.any fun (n, k) => n == y && (k == .local || k == .cell))
    | _ => false)
  | .SetComp .. => false
  | .DictComp .. => false
  | _ => true
def isAndH : HE → Bool
  | .and _ _ => true
  | _ => false
def namesAre (sc : Scope) : List Str → List Expr → Bool
  | [], [] => true
  | k :: ks, .Name x _ :: es => x == k && glo sc x && namesAre sc ks es
  | _, _ => false
mutual
def chkH (i : Nat) : HE → Scope → Expr → Bool
  | .fld, sc, a => (match a with | .Attribute o x _ => x == ("at" : Str) && chkN N i sc o | _ => false)
  | .is1 k, sc, a => (match a with
    | .Call (.Name f _) [o, .Name x _] [] _ => f == ("isinstance" : Str) && glo sc f && chkN N i sc o && x == k && glo sc x && errNames.contains k
    | _ => false)
  | .isi ks, sc, a => (match a with
    | .Call (.Name f _) [o, .Tuple es _ _] [] _ => f == ("isinstance" : Str) && glo sc f && chkN N i sc o && namesAre sc ks es && ks.all errNames.contains && decide (ks.length ≤ 20)
    | _ => false)
  | .nm j, sc, a => chkN N j sc a && decide (j ≠ i)
  | .str x, _, a => (match a with | .Constant (.str y) _ _ => x == y | _ => false)
  | .not x, sc, a => (match a with | .UnaryOp .Not l _ => chkH i x sc l | _ => false)
  | .and x y, sc, a => (match a with
    | .BoolOp .And (l :: m :: r) p => chkH i x sc l && (match r with | [] => chkH i y sc m | _ => isAndH y && chkH i y sc (.BoolOp .And (m :: r) p))
    | _ => false)
  | .add x y, sc, a => (match a with | .BinOp l .Add r _ => chkH i x sc l && chkH i y sc r | _ => false)
  | .tup as, sc, a => (match a with | .Tuple es _ _ => chkHA i as sc es && decide (es.length ≤ 1000) | _ => false)
  | _, _, _ => false
def chkHA (i : Nat) : HE → Scope → List Expr → Bool
  | .nil, _, es => es.isEmpty
  | .cons a r, sc, es => (match es with
    | e :: es => noStar e && chkH i a sc e && chkHA i r sc es
    | [] => false)
  | _, _, _ => false
end
/-- name = value, in an except suite -/
def chkHA1 (i j : Nat) (h : HE) (sc : Scope) (io : List Nat) : Stmt → Bool
  | .Assign [.Name x _] v _ => N[j]? == some x && sto true sc x && !io.contains j && decide (j ≠ i) && chkH N i h sc v && !isLc v
  | _ => false
/-- a condition: no and, no not, or a chain of and -/
def condH : HE → Bool
  | .is1 _ => true
  | .isi _ => true
  | .nm _ => true
  | .and x y => condH x && condH y
  | _ => false
def chkHS (i : Nat) : HS → Scope → List Nat → List Stmt → Bool
  | .nil, _, _, b => b.isEmpty
  | .asg j h r, sc, io, b => (match b with
    | st :: b => chkHA1 N i j h sc io st && chkHS i r sc io b
    | [] => false)
  | .ifa cs j h r, sc, io, b => (match b with
    | .If t [st] [] _ :: b => condH cs && chkH N i cs sc t && chkHA1 N i j h sc io st && chkHS i r sc io b
    | _ => false)
/-- two names, two values: stored from the right -/
def parOk (sc : Scope) (x y : Str) (px py : Pos) (u v : Expr) : Bool :=
  decide (sc.names.lookup x = some .local) && decide (sc.names.lookup y = some .local) && (px.line == py.line && decide (x ≠ y)) && (noStar u && noStar v) &&
    (!(foldedForSure 8 u && foldedForSure 8 v) && !(constantsAlone 8 u && constantsAlone 8 v))
/-- what is read of an error behind its suite, in slot i -/
def chkHX (i : Nat) : HX → Scope → Expr → Bool
  | .h a, sc, e => chkH N i a sc e && (match e with | .Call .. => true | _ => false)
  | .or x y, sc, e => (match e with
    | .BoolOp .Or [l, m] _ => chkHX i x sc l && chkHX i y sc m
    | _ => false)
  | .and x y, sc, e => (match e with
    | .BoolOp .And [l, m] _ => chkHX i x sc l && chkHX i y sc m
    | .BoolOp .And [l, m, q] p => (match y with
      | .and y z => chkHX i x sc l && (chkHX i y sc m && chkHX i z sc q)
      | _ => false)
    | _ => false)
  | .not x, sc, e => (match e with | .UnaryOp .Not l _ => chkHX i x sc l | _ => false)
  | .isT t, sc, e => (match e with
    | .Call (.Name f _) [o, .Name y _] [] _ => f == ("isinstance" : Str) && glo sc f && (y == tyName t && glo sc y) && noStar o && chkH N i .fld sc o
    | _ => false)
  | .eqN j, sc, e => (match e with | .Compare l [.Eq] [r] _ => chkH N i .fld sc l && chkH N i (.nm j) sc r && !behindInMarks .Eq r | _ => false)
  | .eqI n, sc, e => (match e with | .Compare l [.Eq] [.Constant (.int m) a b] _ => chkH N i .fld sc l && n == m && !behindInMarks .Eq (.Constant (.int m) a b) | _ => false)
/-- values, tests -/
def valHX : HX → Bool
  | .h _ => true
  | .and a b => valHX a && valHX b
  | .not a => valHX a
  | .isT _ => true
  | .eqN _ => true
  | .eqI _ => true
  | .or _ _ => false
def tstHX : HX → Bool
  | .h _ => true
  | .or a b => tstHX a && tstHX b
  | .not a => tstHX a
  | .isT _ => true
  | _ => false
/-- what stands behind a try whose suite keeps the error -/
def chkR : RS → Scope → List Nat → Nat → List Stmt → Bool
  | .asg i e r, sc, io, j, l => (match l with
    | .Assign [.Name x px] v pos :: l => N[i]? == some x && sto true sc x && !(j :: io).contains i && chkE P N e sc true v && asgOk sc x px pos v && chkR r sc io j l
    | _ => false)
  | .ifr h v r, sc, io, j, l => (match l with
    | .If t [.Return (some (.Constant (.bool w) _ _)) _] [] _ :: l => tstHX h && chkHX N j h sc t && w == v && chkR r sc io j l
    | _ => false)
  | .ret h, sc, _, j, l => (match l with
    | [.Return (some e) _] => valHX h && chkHX N j h sc e
    | _ => false)
/-- o.replace('y', 'z').replace('u', 'v') -/
def repC : E → Expr → Scope → Bool
  | .op3 .repl (.op3 .repl ob (.str y) (.str z)) (.str u) (.str v), .Call (.Attribute (.Call (.Attribute o m1 ap1) [.Constant (.str y') _ _, .Constant (.str z') _ _] [] cp1) m2 ap2) [.Constant (.str u') _ _, .Constant (.str v') _ _] [] cp2, sc =>
    (m1 == ("replace" : Str) && m2 == ("replace" : Str)) && (y == y' && z == z' && (u == u' && v == v')) && (!(y == z) && !(u == v)) && (ap1.endLine == cp1.line && ap2.endLine == cp2.line) && noCall o && chkE P N ob sc true o
  | _, _, _ => false
/-- if c: return (f(o.replace(..).replace(..), a) op e) op e' -/
def repS : S → Stmt → Scope → Bool
  | .ife c (.seq (.ret (.bin op2 (.bin op1 (.call f (.cons r (.cons a .nil))) e) e')) .nil) .nil, .If t [.Return (some (.BinOp (.BinOp (.Call (.Name x _) [q, b] [] _) o1 l _) o2 l' _)) _] [] _, sc =>
    chkE P N c sc true t && (decide (o1 = op1) && decide (o2 = op2)) && (match P[f]? with | some d => x == d.name && glo sc x && decide (d.np = 2) && isPos 0 [none, none] d.io | none => false) && (repC P N r q sc && noStar b && chkE P N a sc true b && noIo (.cons a .nil)) && (chkE P N e sc true l && chkE P N e' sc true l')
  | _, _, _ => false
def simpleB : S → Bool
  | .asg _ _ => true
  | .ex _ => true
  | _ => false
def chkS : S → Scope → List Nat → Stmt → Bool
  | .asg i e, sc, io, a => (match a with
    | .Assign [.Name x px] v pos => N[i]? == some x && sto true sc x && !io.contains i && chkE P N e sc true v && asgOk sc x px pos v
    | _ => false)
  | .unp g e, sc, io, a => (match a with
    | .Assign [t] v _ => isTupE t && (!isTupE v || (foldV v || nestT t)) && true && chkT N g sc true t && (slots g).all (fun i => !io.contains i) && chkE P N e sc true v
    | _ => false)
  | .aug i op e, sc, io, a => (match a with
    | .AugAssign (.Name x _) o v _ => N[i]? == some x && sto true sc x && !io.contains i && decide (o = op) && (match op with | .Add => true | .Sub => true | _ => false) && chkE P N e sc true v
    | _ => false)
  | .setP p k v, sc, _, a => (match p, a with
    | .s i, .Assign [.Subscript o j _] w _ => chkN N i sc o && noSlice j && !isLc w && chkE P N k sc true j && chkE P N v sc true w
    | .k i _, .Assign [.Subscript o j _] w _ => chkN N i sc o && noSlice j && !isLc w && chkE P N k sc true j && chkE P N v sc true w
    | _, _ => false)
  | .setSl p lo hi v, sc, _, a => (match p, a with
    | .s i, .Assign [.Subscript o (.Slice (some l) (some h) none _) _] w _ => chkN N i sc o && !isLc w && chkE P N lo sc true l && chkE P N hi sc true h && chkE P N v sc true w
    | _, _ => false)
  | .ex e, sc, _, a => (match a with
    | .Expr v _ => chkE P N e sc true v && !isLc v
    | _ => false)
  | .ife c x y, sc, io, a => (match a with
    | .If t b r _ => chkE P N c sc true t && chkB x sc io b && chkB y sc io r
    | _ => false)
  | .whl c x, sc, io, a => (match a with
    | .While t b [] _ => chkE P N c sc true t && chkB x sc io b
    | _ => false)
  | .for_ g it x, sc, io, a => (match a with
    | .For t i b [] _ => chkI P N it sc true t i && chkT N g sc true t && (slots g).all (fun i => !io.contains i) && chkB x sc io b
    | _ => false)
  | .stI i k v, sc, io, a => (match a with
    | .Assign [.Subscript o j _] w _ => chkN N i sc o && noSlice j && !isLc w && chkE P N k sc true j && chkE P N v sc true w
    | _ => false)
  | .forO j g x, sc, io, a => (match a with
    | .For t i b [] _ => chkN N j sc i && chkT N g sc true t && (slots g).all (fun i => !(j :: io).contains i) && !io.contains j && chkB x sc (j :: io) b
    | _ => false)
  | .forD t j g x, sc, io, a => (match a with
    | .For (.Tuple us k p) (.Call (.Attribute o m ap) [] [] cp) b [] _ => t && (m == ("items" : Str) && ap.endLine == cp.line) && (chkN N j sc o && chkT N g sc true (.Tuple us k p)) && ((slots g).all (fun i => !(j :: io).contains i) && true) && chkB x sc (j :: io) b
    | .For u o b [] _ => !t && true && (chkN N j sc o && chkT N g sc true u) && ((slots g).all (fun i => !(j :: io).contains i) && true) && chkB x sc (j :: io) b
    | _ => false)
  | .ret e, sc, _, a => (match a with
    | .Return (some v) _ => chkE P N e sc true v
    | _ => false)
  | .retN, _, _, a => (match a with
    | .Return none _ => true
    | _ => false)
  | .pass, _, _, a => (match a with | .Pass _ => true | _ => false)
  | .brk, _, _, a => (match a with | .Break _ => true | _ => false)
  | .cnt, _, _, a => (match a with | .Continue _ => true | _ => false)
  | .raise c e, sc, _, a => c == "" || (match a with
    | .Raise (some (.Call (.Name x _) [v] [] _)) none _ => x == c && glo sc x && noStar v && chkE P N e sc true v && noIo (.cons e .nil)
    | _ => false)
  | .try_ b k i h, sc, io, a => (match a with
    | .Try [st] [.ExceptHandler (some (.Name x _)) (some n) (s0 :: suite) _] [] [] _ => x == k && glo sc x && errNames.contains k && N[i]? == some n && decide (sc.names.lookup n = some .local) && !io.contains i && simpleB b && chkS b sc io st && chkHS N i h sc io (s0 :: suite)
    | _ => false)
  | .par i j e f, sc, io, a => (match a with
    | .Assign [.Tuple [.Name x px, .Name y py] _ _] (.Tuple [u, v] _ _) _ => (N[i]? == some x && N[j]? == some y) && decide (i ≠ j) && (!io.contains i && !io.contains j) && parOk sc x y px py u v && (chkE P N e sc true u && chkE P N f sc true v) && noIo (.cons e (.cons f .nil))
    | _ => false)
  | .tryO b k w, sc, io, a => (match a with
    | .Try [st] [.ExceptHandler (some (.Name x _)) none [.Return (some (.Constant (.bool v) _ _)) _] _] [] [] _ => x == k && glo sc x && errNames.contains k && v == w && simpleB b && chkS b sc io st
    | _ => false)
  | .tryC _ _ _ _ _, _, _, _ => false
  | .forE i, sc, _, a => (match a with
    | .For (.Tuple _ _ _) (.Call (.Attribute o m ap) [] [] cp) _ [] _ => m == ("items" : Str) && chkN N i sc o && ap.endLine == cp.line
    | _ => false)
  | .nil, _, _, _ => false
  | .seq _ _, _, _, _ => false
  | .tok _ _, _, _, _ => false
where chkB : S → Scope → List Nat → List Stmt → Bool
  | .nil, _, _, b => b.isEmpty
  | .seq s r, sc, io, b => (match b with
    | st :: b => chkS s sc io st && chkB r sc io b
    | [] => false)
  | .tok (.asg i (.bin op (.int n) y)) (.seq s1 (.seq s2 r)), sc, io, b => (match b with
    | .Assign [.Name x px] (.BinOp (.Constant (.int n') _ _) o' y' _) pos :: st1 :: st2 :: b => (N[i]? == some x && sto true sc x && !io.contains i && (n == n' && decide (o' = op) && chkE P N y sc true y')) && (chkS s1 sc io st1 && repS P N s2 st2 sc) && chkB r sc io b
    | _ => false)
  | .tryC b k i j r, sc, io, l => (match l with
    | .Try [st] [.ExceptHandler (some (.Name x _)) (some n) [.Assign [.Name y py] v pos] _] [] [] _ :: rest =>
      (x == k && glo sc x && errNames.contains k) && (N[i]? == some n && decide (sc.names.lookup n = some .local)) && (N[j]? == some y && sto true sc y) && decide (i ≠ j) && (!io.contains i && !io.contains j) && chkN N i sc v && simpleB b && chkS b sc io st && chkR P N r sc io j rest
    | _ => false)
  | _, _, _, _ => false
end
section
variable (K : Frag) (T : Tab) (G : Gls)
/-- a term's reading -/
def tX (e : E) : TE := fun σ H Q => ∃ F ρ fp x ρ', St K F H σ ρ fp ∧ den T G e ρ = .ok (x, ρ') ∧ ∀ v H' F' fp' P, St K F' H' σ ρ' fp' → Xt F H fp F' H' fp' → Hd K F' H' fp' v x P → (∀ a, P a → (∃ j, fp j a) ∨ H a = none) → Q v H'
def tT (e : E) : TT := fun σ H Q => ∃ F ρ fp x ρ' b, St K F H σ ρ fp ∧ den T G e ρ = .ok (x, ρ') ∧ asBool x = .ok b ∧ ∀ H' F' fp', St K F' H' σ ρ' fp' → Xt F H fp F' H' fp' → Q b H'
/-- arguments in hand -/
inductive Args (K : Frag) (F H : Hp) (σ : L2.St) (ρ : Ro) : E → List V → List PV → As → Prop where
  | nil : Args K F H σ ρ .nil [] [] none0
  | io {i : Nat} {v : V} {x : PV} {r : E} {vs : List V} {xs : List PV} {P : As} : σ[i]? = some (some v) → getRo ρ i = some x → Args K F H σ ρ r vs xs P → Args K F H σ ρ (.cons (.io i) r) (v :: vs) (x :: xs) P
  | cons {a r : E} {v : V} {x : PV} {vs : List V} {xs : List PV} {P P' : As} : (∀ i, a ≠ .io i) → Ow K F H v x P → Args K F H σ ρ r vs xs P' → (∀ c, P c → ¬ P' c) → Args K F H σ ρ (.cons a r) (v :: vs) (x :: xs) (fun c => P c ∨ P' c)
structure HdA (K : Frag) (F H : Hp) (σ : L2.St) (ρ : Ro) (fp : Nat → As) (as : E) (vs : List V) (xs : List PV) (P : As) : Prop where
  ow : Args K F H σ ρ as vs xs P
  nf : ∀ a, P a → F a = none
  kn : ∀ a, P a → Mu (H a)
  dj : ∀ a, P a → ∀ i, ¬ fp i a
def tA (as : E) : TA := fun σ H Q => ∃ F ρ fp xs ρ', St K F H σ ρ fp ∧ dens T G as ρ = .ok (xs, ρ') ∧ ∀ vs H' F' fp' P, St K F' H' σ ρ' fp' → Xt F H fp F' H' fp' → HdA K F' H' σ ρ' fp' as vs xs P → (∀ a, P a → (∃ j, fp j a) ∨ H a = none) → Q vs H'
/-- what an iterator gives -/
def Items (F : Hp) (xs : List PyData) (J : It) : Prop := ∀ i H F', Ex F F' → Ex F' H → (∀ d, xs[i]? = some d → J.go i H ∧ ∀ v H3, J.yld i H v H3 → ∃ F3, Nw F' H F3 H3 ∧ Rp K F3 v d) ∧ (xs.length = i → J.stop i H)
def tI (it : E) : TI := fun σ H R => ∃ F ρ fp xs ρ', St K F H σ ρ fp ∧ deni T G it ρ = .ok (xs, ρ') ∧ ∀ J H' F' fp', St K F' H' σ ρ' fp' → Xt F H fp F' H' fp' → Items K F' xs J → R J H'
end
theorem _root_.L2.PE.mono {X : Cx} {e : Expr} {t t' : TE} (h : PE X e t) (m : ∀ σ H Q, t' σ H Q → t σ H Q) : PE X e t' := ⟨fun pins s σ H Q I q => h.run pins s σ H Q I (m σ H Q q)⟩
theorem _root_.L2.PT.mono {X : Cx} {e : Expr} {t t' : TT} (h : PT X e t) (m : ∀ σ H Q, t' σ H Q → t σ H Q) : PT X e t' := ⟨fun pins s σ H Q I q => h.run pins s σ H Q I (m σ H Q q)⟩
theorem _root_.L2.PW.mono {X : Cx} {e : Expr} {t t' : TT} (h : PW X e t) (m : ∀ σ H Q, t' σ H Q → t σ H Q) : PW X e t' := ⟨fun w pins s σ H Q I q => h.run w pins s σ H Q I (m σ H Q q)⟩
theorem _root_.L2.PA.mono {X : Cx} {e : List Expr} {t t' : TA} (h : PA X e t) (m : ∀ σ H Q, t' σ H Q → t σ H Q) : PA X e t' := ⟨fun p pins s σ H Q I q => h.run p pins s σ H Q I (m σ H Q q)⟩
theorem _root_.L2.PI.mono {X : Cx} {tg e : Expr} {t t' : TI} (h : PI X tg e t) (m : ∀ σ H Q, t' σ H Q → t σ H Q) : PI X tg e t' := ⟨fun pins s σ H Q I q => h.run pins s σ H Q I (m σ H Q q)⟩
theorem _root_.L2.PSs.mono {X : Cx} {e : List Stmt} {t t' : TS} (h : PSs X e t) (m : ∀ D σ H, t' D σ H → t D σ H) : PSs X e t' := ⟨fun pins s σ H D I q => h.run pins s σ H D I (m D σ H q)⟩
theorem _root_.L2.PS.mono {X : Cx} {e : Stmt} {t t' : TS} (h : PS X e t) (m : ∀ D σ H, t' D σ H → t D σ H) : PS X e t' := ⟨fun pins s σ H D I q => h.run pins s σ H D I (m D σ H q)⟩
end Rf
set_option maxRecDepth 100000
set_option maxHeartbeats 4000000
namespace Rf
open PySem L2 Evl
section
variable {K : Frag} {F H F1 H1 F2 H2 F3 H3 : Hp} {fp fp1 fp2 : Nat → As} {P P' : As}
theorem Xt.back (x : Xt F H fp F1 H1 fp1) {a : Addr} (h : H1 a = none) : H a = none := by
  cases q : H a with
  | none => rfl
  | some u => exact absurd h (x.kn a (by rw [q]; simp))
theorem Xt.subP (x : Xt F H fp F1 H1 fp1) (h : ∀ a, P a → (∃ j, fp1 j a) ∨ H1 a = none) : ∀ a, P a → (∃ j, fp j a) ∨ H a = none := fun a ha => by
  rcases h a ha with ⟨j, hj⟩ | h1
  · exact x.sub j a hj
  · exact .inr (x.back h1)
/-- data in hand are settled -/
theorem Xt.grow (x : Xt F H fp F1 H1 fp1) (sub : ∀ a, P a → (∃ j, fp j a) ∨ H a = none) (e : Ex F1 F2) (le : Ex F2 H1) (h : ∀ a o, F2 a = some o → F1 a = some o ∨ P a) : Xt F H fp F2 H1 fp1 where
  ff := x.ff.trans e
  fr := x.fr
  le := le
  nw := fun a o q => by
    rcases h a o q with h1 | h1
    · exact x.nw a o h1
    · rcases sub a h1 with h2 | h2
      · exact .inr (.inr (.inl h2))
      · exact .inr (.inl h2)
  sub := x.sub
  kn := x.kn
theorem Xt.lower (x : Xt F H fp F1 H1 fp1) (h : ∀ i a, fp2 i a → ∃ j, fp1 j a) : Xt F H fp F1 H1 fp2 :=
  ⟨x.ff, x.fr, x.le, x.nw, fun i a hi => by obtain ⟨j, hj⟩ := h i a hi; exact x.sub j a hj, x.kn⟩
/-- what is in hand beside a value that is settled -/
theorem Hd.grow {v : V} {y : PV} (h : Hd K F H fp v y P) (e : Ex F F1) (q : ∀ a o, F1 a = some o → F a = some o ∨ P' a) (dj : ∀ a, P a → ¬ P' a) : Hd K F1 H fp v y P where
  ow := h.ow.up e (fun _ _ _ z => z) fun _ z => z
  nf := fun a ha => by
    cases r : F1 a with
    | none => rfl
    | some o =>
      rcases q a o r with h1 | h1
      · rw [h.nf a ha] at h1; cases h1
      · exact absurd h1 (dj a ha)
  kn := h.kn
  dj := h.dj
end
section
variable {K : Frag} {T : Tab} {G : Gls} {F H F1 H1 F2 H2 F3 H3 : Hp} {fp fp1 fp2 : Nat → As} {σ : L2.St} {ρ ρ1 ρ2 : Ro} {v : V} {x z : PV} {Q : VK}
/-- the end of a reading whose result is of new objects alone -/
theorem fin (k : ∀ v H' F' fp' P, St K F' H' σ ρ2 fp' → Xt F H fp F' H' fp' → Hd K F' H' fp' v z P → (∀ a, P a → (∃ j, fp j a) ∨ H a = none) → Q v H')
    (s : St K F2 H2 σ ρ2 fp2) (t : Xt F H fp F2 H2 fp2) (r : Rs K F2 H2 F3 H3 v z) : Q v H3 :=
  k v H3 F3 fp2 _ (r.nw.st s) (t.trans r.nw.xt) (r.hd s) fun a h => .inr (t.back h.1)
theorem fin0 (k : ∀ v H' F' fp' P, St K F' H' σ ρ2 fp' → Xt F H fp F' H' fp' → Hd K F' H' fp' v z P → (∀ a, P a → (∃ j, fp j a) ∨ H a = none) → Q v H')
    (s : St K F2 H2 σ ρ2 fp2) (t : Xt F H fp F2 H2 fp2) {d : PyData} (e : z = .d d) (h : Rp K F2 v d) : Q v H2 := by
  subst e
  exact fin k s t (Rs.same s.le h)
end
def mask (io : List Nat) (os : Ro) : Ro := (List.range os.length).map fun j => if io.contains j then getRo os j else none
def spF (K : Frag) (T : Tab) (f np : Nat) (io : List Nat) : Sp := fun vs H Q _ => vs.length = np ∧ ∃ F ap xs r os, St K F H (vs.map some) (xs.map some) ap ∧ T f xs = .ok (r, os) ∧
  ∀ v H' F' ap' P, St K F' H' (vs.map some) (mask io os) ap' → Xt F H ap F' H' ap' → Hd K F' H' ap' v r P → (∀ a, P a → (∃ j, ap j a) ∨ H a = none) → Q v H'
/-- what is known of an error's class: its maker, its field, which classes it is of -/
structure ExAt (K : Frag) (mg : Str → Option Value) (c : Str) (C : Addr) : Prop where
  low : ∃ q fI, PySem.LowX.LowTxt c q K mg C fI
  exc : ExcC K C
  cls : ∀ k ∈ errNames, (k ≠ "ValueError" ∧ mg k = none) ∨ ∃ cv, ((∃ D, mg k = some (.ref D) ∧ cv = .ref D) ∨ (k = "ValueError" ∧ mg k = none ∧ cv = .type "ValueError")) ∧ PySem.W.kitOne K (.ref C) cv = some (isC c k) ∧ PySem.W.exmOne K (.ref C) cv = some (isC c k)
/-- a value that is told without a heap -/
inductive PlV : V → PyData → Prop where
  | int (i : Int) : PlV (.int i) (.int i)
  | str (x : Str) : PlV (.str x) (.str x)
theorem PlV.rp {K : Frag} {F : Hp} {v : V} {d : PyData} (h : PlV v d) : Rp K F v d := by
  cases h with
  | int i => exact .int i
  | str x => exact .str x
/-- an error in the air -/
def ExP (K : Frag) (mg : Str → Option Value) (c : Str) (d : PyData) (cls : Value) (dd : Option Addr) (H : Hp) : Prop :=
  ∃ C dx v, cls = .ref C ∧ dd = some dx ∧ ExAt K mg c C ∧ H dx = some (.xd [(("at" : Str), v)]) ∧ PlV v d
def spX (K : Frag) (mg : Str → Option Value) (T : Tab) (f np : Nat) : Sp := fun vs H _ E => vs.length = np ∧ ∃ F ap xs c d, St K F H (vs.map some) (xs.map some) ap ∧ T f xs = .exn c d ∧
  ∀ cls dd H' F' ap', St K F' H' (vs.map some) (mask [] (List.replicate np none)) ap' → Xt F H ap F' H' ap' → ExP K mg c d cls dd H' → E cls dd H'
structure FnI (n : Nat) (T : Tab) (X : Cx) (f : Nat) (d : Fn) : Prop where
  ok : ∃ (a : Addr) (fd : FuncData), X.mg d.name = some (.ref a) ∧ PySem.W.keepIn X.K (.ref a) = true ∧ Binds X.K fd (d.N.take d.np) [] ∧ FnOk X.prog X.w X.K X.mg X.base CX0 n a fd (d.N.take d.np) (spF X.K T f d.np d.io)
structure FnXI (n : Nat) (T : Tab) (X : Cx) (f : Nat) (d : Fn) : Prop where
  ok : ∃ (a : Addr) (fd : FuncData), X.mg d.name = some (.ref a) ∧ PySem.W.keepIn X.K (.ref a) = true ∧ Binds X.K fd (d.N.take d.np) [] ∧ FnOk X.prog X.w X.K X.mg X.base (L2.CX X.prog X.w) n a fd (d.N.take d.np) (spX X.K X.mg T f d.np)
structure XOk (P : Prg) (G : Gls) (T : Tab) (n : Nat) (N : List Str) (sc : Scope) (top : Bool) (X : Cx) : Prop where
  hN : X.N = N
  hsc : X.env.scope = sc
  nd : N.Nodup
  kind : sc.kind = .function
  calm : X.calm = true
  room : Room n X.A
  fns : ∀ f d, P[f]? = some d → FnI n T X f d
  fnx : ∀ f d, P[f]? = some d → FnXI n T X f d
  blt : ∀ b ∈ builtinsUsed, X.mg b = none
  gls : ∀ x d, G x = some d → ∃ u v, X.mg x = some u ∧ RelV v u ∧ GOk X.K X.w v d
  fn : top = true → ∀ x, X.fn x = true
section
variable {P : Prg} {G : Gls} {T : Tab} {n : Nat} {N : List Str} {sc : Scope} {top : Bool} {X : Cx}
theorem vis_ok (o : XOk P G T n N sc top X) {x : Str} (h : vis sc x = true) : Vis X.env.scope x ∧ (x == ("__debug__" : Str)) = false ∧ (x == ("__classdict__" : Str)) = false := by
  unfold vis at h
  rw [Bool.and_eq_true, Bool.and_eq_true] at h
  obtain ⟨⟨h1, h2⟩, h3⟩ := h
  refine ⟨?_, by simpa using h2, by simpa using h3⟩
  rw [o.hsc]
  unfold Vis
  split at h1 <;> simp_all
theorem glo_ok (o : XOk P G T n N sc top X) {x : Str} (h : glo sc x = true) : Gl X x ∧ (x == ("__debug__" : Str)) = false ∧ x ≠ ("__name__" : Str) := by
  unfold glo at h
  rw [Bool.and_eq_true, Bool.and_eq_true] at h
  obtain ⟨⟨h1, h2⟩, h3⟩ := h
  refine ⟨?_, by simpa using h2, by simpa using h3⟩
  show X.env.scope.names.lookup x = _
  rw [o.hsc]
  split at h1 <;> simp_all
theorem star_ok {e : Expr} {es : List Expr} {env : Env} (h : noStar e = true) : starEach (e :: es) env = (false, eval e env) :: starEach es env := by
  cases e <;> first | rfl | (cases h)
theorem slice_ok {e : Expr} (h : noSlice e = true) : PlainIx e := by
  intro o i
  cases e <;> first | rfl | (cases h)
/-- a name's slot is read -/
theorem nm_ok (o : XOk P G T n N sc top X) {i : Nat} {a : Expr} (h : chkN N i sc a = true) : PE X a (tVar i) ∧ noStar a = true := by
  unfold chkN at h
  split at h
  · rename_i x p
    rw [Bool.and_eq_true] at h
    obtain ⟨h1, h2⟩ := h
    obtain ⟨v1, v2, v3⟩ := vis_ok o h2
    exact ⟨pe_var (by rw [o.hN]; simpa using h1) v1 v2 v3, rfl⟩
  · cases h
variable (o : XOk P G T n N sc top X)
include o
theorem s_nm {i : Nat} {a : Expr} (h : chkN N i sc a = true) : PE X a (tX X.K T G (.nm i)) := (nm_ok o h).1.mono fun σ H Q ⟨F, ρ, fp, x, ρ', s, hd, k⟩ => by
  simp only [den] at hd
  obtain ⟨y, h1, h2⟩ := Res.bind_inv hd
  cases h2
  unfold getD at h1
  split at h1
  · rename_i z hz
    cases h1
    obtain ⟨v, e1, e2⟩ := s.ow i _ hz
    exact ⟨v, e1, fin0 k s (Xt.refl s.le) rfl e2.dat⟩
  · cases h1
theorem s_mv {i : Nat} {a : Expr} (h : chkN N i sc a = true) : PE X a (tX X.K T G (.mv i)) := (nm_ok o h).1.mono fun σ H Q ⟨F, ρ, fp, x, ρ', s, hd, k⟩ => by
  simp only [den] at hd
  split at hd
  · rename_i z hz
    cases hd
    obtain ⟨v, e1, s1, t1, h1⟩ := s.take hz
    exact ⟨v, e1, k v H F _ _ s1 t1 h1 fun a ha => .inl ⟨i, ha⟩⟩
  · cases hd
theorem s_fz {i : Nat} {a : Expr} (h : chkN N i sc a = true) : PE X a (tX X.K T G (.fz i)) := (nm_ok o h).1.mono fun σ H Q ⟨F, ρ, fp, x, ρ', s, hd, k⟩ => by
  simp only [den] at hd
  split at hd
  · rename_i z hz
    obtain ⟨y, h1, h2⟩ := Res.bind_inv hd
    cases h2
    obtain ⟨v, e1, s1, t1, hh⟩ := s.take hz
    obtain ⟨F', s2, e2, q2, d2⟩ := hh.settle s1 h1
    refine ⟨v, e1, ?_⟩
    have s3 := s2.putD d2 i
    have es : σ.set i (some v) = σ := by
      apply List.ext_getElem?
      intro j
      by_cases hj : i = j
      · subst hj
        rw [List.getElem?_set_self (List.getElem?_eq_some_iff.mp e1).1, e1]
      · rw [List.getElem?_set_ne hj]
    have er : (ρ.set i none).set i (some (PV.d y)) = ρ.set i (some (PV.d y)) := by rw [List.set_set]
    rw [es, er] at s3
    have t2 : Xt F H fp F' H (fpSet fp i none0) := t1.grow (P := fp i) (fun a ha => .inl ⟨i, ha⟩) e2 s2.le q2
    exact fin0 k s3 (t2.lower fun j a ha => by
      rcases fpSet_cases ha with ⟨_, q⟩ | ⟨_, q⟩
      · exact q.elim
      · exact ⟨j, q⟩) rfl d2
  · cases hd
omit o in
theorem le_frz {e : E} : ∀ σ H Q, tX X.K T G (.frz e) σ H Q → tX X.K T G e σ H Q := fun σ H Q ⟨F, ρ, fp, x, ρ', s, hd, k⟩ => by
  simp only [den] at hd
  obtain ⟨⟨y, ρ1⟩, h1, h2⟩ := Res.bind_inv hd
  obtain ⟨z, h3, h4⟩ := Res.bind_inv h2
  cases h4
  refine ⟨F, ρ, fp, y, ρ1, s, h1, fun v H' F' fp' P s1 t1 hh sub => ?_⟩
  obtain ⟨F2, s2, e2, q2, d2⟩ := hh.settle s1 h3
  exact fin0 k s2 (t1.grow sub e2 s2.le q2) rfl d2
theorem s_frz {e : E} {a : Expr} (ih : PE X a (tX X.K T G e)) : PE X a (tX X.K T G (.frz e)) := ih.mono le_frz
end
section
variable {K : Frag} {F H H' : Hp}
/-- flat data lean on tuples alone -/
theorem flat_dp {A : Hp} (hA : ∀ a xs, H a = some (.tup xs) → A a = some (.tup xs)) (hB : ∀ a ob xs, H a = some (.frz ob (.tup xs)) → A a = some (.frz ob (.tup xs))) : ∀ (d : PyData) (v : V), flat d = true → Rp K H v d → Rp K A v d
  | .none, _, _, h => by cases h; exact .non
  | .bool _, _, _, h => by cases h; exact .bl _
  | .int _, _, _, h => by cases h; exact .int _
  | .str _, _, _, h => by cases h; exact .str _
  | .list _, _, f, _ => by cases f
  | .dict _, _, f, _ => by cases f
  | .tuple ds, _, f, h => by
    cases h with
    | tup hs ha =>
      refine .tup ?_ (go ds _ f ha)
      rcases hs with (h1 | ⟨ob, h1⟩) | h1
      · exact .inl (.inl (hA _ _ h1))
      · exact .inl (.inr ⟨ob, hB _ _ _ h1⟩)
      · exact .inr h1
where
  go : ∀ (ds : List PyData) (vs : List V), flat.flats ds = true → Rps K H vs ds → Rps K A vs ds
  | [], _, _, h => by cases h; exact .nil
  | d :: ds, _, f, h => by
    cases h with
    | cons h1 h2 =>
      have f' : flat d = true ∧ flat.flats ds = true := by simpa [flat.flats, Bool.and_eq_true] using f
      exact .cons (flat_dp hA hB d _ f'.1 h1) (go ds _ f'.2 h2)
end
section
variable {K : Frag} {T : Tab} {G : Gls}
theorem lent_st {F H : Hp} {σ : L2.St} {ρ : Ro} {fp : Nat → As} (s : St K F H σ ρ fp) : St K H H σ (frzRo ρ) (fun _ => none0) where
  le := Ex.refl H
  len := by simp [frzRo, s.len]
  ow := fun i x h => by
    unfold getRo frzRo at h
    rw [List.getElem?_map] at h
    cases q : ρ[i]? with
    | none => rw [q] at h; cases h
    | some y =>
      rw [q] at h
      cases y with
      | none => cases h
      | some y =>
        have h' : y.lent = some x := by simpa using h
        obtain ⟨v, e1, e2⟩ := s.ow i y (by unfold getRo; rw [q]; rfl)
        refine ⟨v, e1, ?_⟩
        cases e2 with
        | d hd => cases h'; exact .d (hd.up s.le)
        | L hp h1 h2 => cases h'; exact .d (.lst (.inl (.inl h1)) (h2.up s.le))
        | M => cases h'
        | I => cases h'
        | LL hp h1 h2 => cases h'; exact .d (.lst (.inl (.inl h1)) (h2.rps s.le))
  dj := fun _ _ _ h => h.elim
  kn := fun _ _ h => h.elim
  nf := fun _ _ h => h.elim
open Classical in
theorem le_bw {e : E} : ∀ σ H Q, tX K T G (.bw e) σ H Q → tX K T G e σ H Q := fun σ H Q ⟨F, ρ, fp, x, ρ', s, hd, k⟩ => by
  simp only [den] at hd
  obtain ⟨⟨y, ρ1⟩, h1, h2⟩ := Res.bind_inv hd
  obtain ⟨_, h3, h4⟩ := Res.bind_inv h2
  cases h4
  have hf := Res.guard_inv h3
  refine ⟨H, frzRo ρ, _, y, ρ1, lent_st s, h1, fun v H' F' fp' P s1 t1 hh sub => ?_⟩
  have hh' : Ex H H' := fun a u q => t1.fr a u q fun _ z => z
  -- what is settled now: F, what never changes, and the new objects that were settled
  let Fz : Hp := fun a => match H a with
    | none => F' a
    | some u => if fixd u = true then some u else F a
  have fz0 : ∀ {a : Addr}, H a = none → Fz a = F' a := fun {a} q => by
    show (match H a with | none => F' a | some u => if fixd u = true then some u else F a) = _
    rw [q]
  have fz1 : ∀ {a : Addr} {u : HO}, H a = some u → fixd u = true → Fz a = some u := fun {a u} q f => by
    show (match H a with | none => F' a | some u => if fixd u = true then some u else F a) = _
    rw [q]; exact if_pos f
  have fz2 : ∀ {a : Addr} {u : HO}, H a = some u → fixd u = false → Fz a = F a := fun {a u} q f => by
    show (match H a with | none => F' a | some u => if fixd u = true then some u else F a) = _
    rw [q]; exact if_neg (by rw [f]; simp)
  have fzF : Ex F Fz := fun a u q => by
    have hu := s.le a u q
    cases f : fixd u with
    | true => exact fz1 hu f
    | false => rw [fz2 hu f]; exact q
  have fzH : Ex Fz H' := fun a u q => by
    cases hu : H a with
    | none => rw [fz0 hu] at q; exact s1.le a u q
    | some w =>
      cases f : fixd w with
      | true =>
        rw [fz1 hu f] at q
        have e2 : w = u := Option.some.inj q
        rw [e2] at hu
        exact hh' a u hu
      | false => rw [fz2 hu f] at q; exact hh' a u (s.le a u q)
  have hn : ∀ a, P a → H a = none := fun a ha => by
    rcases sub a ha with ⟨j, hj⟩ | h5
    · exact hj.elim
    · exact h5
  have n : Nw F H Fz H' := ⟨fzH, fzF, hh', fun a u q => by
    cases hu : H a with
    | none => exact .inr (.inl rfl)
    | some w =>
      cases f : fixd w with
      | true =>
        rw [fz1 hu f] at q
        have e2 : w = u := Option.some.inj q
        rw [e2] at f
        exact .inr (.inr f)
      | false => rw [fz2 hu f] at q; exact .inl q⟩
  have fx : ∀ (a : Addr) (u : HO), fixd u = true → F' a = some u → Fz a = some u := fun a u f q => by
    cases hu : H a with
    | none => rw [fz0 hu]; exact q
    | some w =>
      have e1 := hh' a w hu
      rw [s1.le a u q] at e1
      have e2 : u = w := Option.some.inj e1
      rw [← e2] at hu
      exact fz1 hu f
  have dp : ∀ (d : PyData) (w : V), flat d = true → Rp K F' w d → Rp K Fz w d := flat_dp (fun a xs q => fx a _ rfl q) (fun a ob xs q => fx a _ rfl q)
  have dps : ∀ (d : List PyData) (w : List V), flat.flats d = true → Rps K F' w d → Rps K Fz w d := flat_dp.go (fun a xs q => fx a _ rfl q) (fun a ob xs q => fx a _ rfl q)
  refine k v H' Fz fp P (n.st s) n.xt ⟨?_, fun a ha => ?_, hh.kn, fun a ha i hi => (s.kn i a hi).ne (hn a ha)⟩ fun a ha => .inr (hn a ha)
  · cases ho : hh.ow with
    | d g1 => exact .d (dp _ _ hf g1)
    | L hp g1 g2 => exact .L hp g1 (dps _ _ hf g2)
    | M => cases hf
    | I => cases hf
    | LL => cases hf
  · rw [fz0 (hn a ha)]; exact hh.nf a ha
end
end Rf
set_option maxRecDepth 100000
set_option maxHeartbeats 4000000
namespace Rf
open PySem PySem.Spec PyProof.Rows L2 Evl
theorem _root_.L2.Inv.lstR {X : Cx} {pins : List (Addr × Obj)} {σ : L2.St} {H : Hp} {s : Shared} {l : Addr} {xs : List V} (I : Inv X pins σ H s) (hH : RdL X.K H l xs) :
    xs.length ≤ sizeLine ∧ ∃ (its : List Value) (n : Nat), Vals xs its ∧ xs.length = its.length ∧ s.heap.get? l = some { cls := .type "list", data := .seq its.toArray n } := by
  rcases hH with h | ⟨w, m, k1, k2, k3⟩
  · obtain ⟨z, its, n, r, e⟩ := h.ok I.hok
    exact ⟨z, its, n, r, r.length, e⟩
  · have hl := k3.length
    refine ⟨?_, w.toList, m, k3, hl, ?_⟩
    · rw [hl, Array.length_toList]
      exact k2
    · rw [Array.toArray_toList]
      exact I.kIn l _ k1
def rCatR (K : Frag) : R2 := fun x y H Q => ∃ l b xs zs, x = .ref l ∧ y = .ref b ∧ RdL K H l xs ∧ RdL K H b zs ∧ xs.length + zs.length ≤ sizeLine ∧ ∀ p, H p = none → Q (.ref p) (upd H p (.lst (xs ++ zs)))
def rNo : R2 := fun _ _ _ _ => False
section
variable {X : Cx}
theorem op_catR : OpR X (binaryOp .Add) (rCatR X.K) := by
  intro pins s σ H x y v u Q I rx ry h
  obtain ⟨l, b, xs, zs, rfl, rfl, hH, hB, hz, q⟩ := h
  cases rx
  cases ry
  obtain ⟨z, its, n, r, hl, e⟩ := I.lstR hH
  obtain ⟨z2, its2, n2, r2, hl2, e2⟩ := I.lstR hB
  refine PySem.P.add_list e e2 ?_ (by rw [List.size_toArray, List.size_toArray]; omega)
  have ea : its.toArray ++ its2.toArray = (its ++ its2).toArray := by simp
  rw [ea]
  exact ⟨.ref _, _, I.lnew (t' := s.toks) (r.append r2) (by rw [List.length_append]; omega), rfl, q _ I.fresh⟩
theorem op_no {f : Value → Value → Sem Value} : OpR X f rNo := fun _ _ _ _ _ _ _ _ _ _ _ _ h => h.elim
def rAddS : R2 := fun x y H Q => ∃ i j, x = .str i ∧ y = .str j ∧ i.length + j.length ≤ sizeLine ∧ Q (.str (i ++ j)) H
def rMulT : R2 := fun x y H Q => ∃ a n, x = .str a ∧ y = .int n ∧ (0 ≤ n ∧ n ≤ 1000 ∧ a.length ≤ 1000) ∧ Q (.str (repT n.toNat a)) H
theorem op_mulT : OpR X (binaryOp .Mult) rMulT := by
  intro pins s σ H x y v u Q I rx ry h
  obtain ⟨a, n, rfl, rfl, ⟨h1, h2, h4⟩, q⟩ := h
  obtain ⟨t, rfl⟩ := (show ∃ t, v = Value.str a t from rx)
  obtain ⟨t', rfl⟩ := (show ∃ t, u = Value.int n t from ry)
  have hr : (decide (n < -(2 ^ 63 : Int)) || decide (n ≥ 2 ^ 63)) = false := by
    rw [decide_eq_false (by omega), decide_eq_false (by omega)]; rfl
  have hlen : 1 ≤ n → ((a.length : Int)) ≤ (2 ^ 63 - 1) / n := fun h1 => by
    have : (a.length : Int) * n ≤ 2 ^ 63 - 1 := by
      have : (a.length : Int) * n ≤ 1000 * 1000 := Int.mul_le_mul (by omega) h2 (by omega) (by omega)
      omega
    exact (Int.le_ediv_iff_mul_le (by omega)).mpr this
  have hsz : a.length * n.toNat ≤ 1000 * 1000 := Nat.mul_le_mul h4 (by omega)
  refine PySem.P.mul_str hr (fun h _ => by have := hlen (by omega); omega) (fun _ _ => ?_) ?_
  · exact decide_eq_false (by rw [sizeLine_eq]; omega)
  · have key : ∀ (m : Nat) (acc : Array Nat), ((List.replicate m a.cps).foldl (· ++ ·) acc).size = acc.size + m * a.cps.size := fun m => by
      induction m with
      | zero => intro acc; simp
      | succ m ih =>
        intro acc
        rw [List.replicate_succ, List.foldl_cons, ih, Array.size_append, Nat.add_mul]
        omega
    by_cases hn : n < 1
    · rw [if_pos hn]
      have e0 : n = 0 := by omega
      have ea : repT n.toNat a = Str.empty := by rw [e0]; rfl
      rw [ea] at q
      exact ⟨by decide, .str Str.empty, H, I.tok _, ⟨_, rfl⟩, q⟩
    · rw [if_neg hn]
      by_cases h1' : (n == 1 || a.length == 0) = true
      · rw [if_pos h1']
        have ea : repT n.toNat a = a := by
          rcases (Bool.or_eq_true _ _).mp h1' with h | h
          · rw [eq_of_beq h]
            show (⟨#[] ++ a.cps⟩ : Str) = a
            simp
          · have h0 : a.cps.size = 0 := eq_of_beq h
            have hz : (repT n.toNat a).cps.size = 0 := by
              show ((List.replicate n.toNat a.cps).foldl (· ++ ·) #[]).size = 0
              rw [key, h0]; simp
            have e1 := Array.eq_empty_of_size_eq_zero hz
            have e2 := Array.eq_empty_of_size_eq_zero h0
            cases a
            cases hq : repT n.toNat ⟨_⟩
            rw [hq] at e1
            dsimp only at e1 e2
            rw [e1, e2]
        rw [ea] at q
        exact ⟨.str a, H, I, ⟨t, rfl⟩, q⟩
      · rw [if_neg h1']
        refine ⟨?_, .str (repT n.toNat a), H, I.tok _, ⟨_, rfl⟩, q⟩
        show ((List.replicate n.toNat a.cps).foldl (· ++ ·) #[]).size ≤ sizeLine
        rw [key, sizeLine_eq]
        have : n.toNat * a.cps.size = a.length * n.toNat := Nat.mul_comm _ _
        rw [this]
        show 0 + _ ≤ _
        omega
def rRepR (K : Frag) : R2 := fun x y H Q => ∃ l k xs, x = .ref l ∧ y = .int k ∧ RdL K H l xs ∧ -(2 ^ 63) ≤ k ∧ k < 2 ^ 63 ∧ xs.length * k.toNat ≤ sizeLine ∧ ∀ p, H p = none → Q (.ref p) (upd H p (.lst (List.replicate k.toNat xs).flatten))
theorem op_repR : OpR X (binaryOp .Mult) (rRepR X.K) := by
  intro pins s σ H x y v u Q I rx ry h
  obtain ⟨l, k, xs, rfl, rfl, hH, h1, h2, hz, q⟩ := h
  cases rx
  obtain ⟨t, rfl⟩ := ry
  obtain ⟨z, its, n, r, hl, e⟩ := I.lstR hH
  have hlen : its.toArray.size * k.toNat ≤ sizeLine := by rw [List.size_toArray, ← hl]; exact hz
  have hcap : ¬ its.toArray.size * k.toNat > (2 ^ 63 - 1) / 8 := by
    have : (sizeLine : Nat) ≤ (2 ^ 63 - 1) / 8 := by decide
    omega
  have hfit : ¬ (!Builtin.List.listFitsIndex k) = true := by
    rw [fitsIndex_both h1 h2]
    exact Bool.false_ne_true
  have hlong : ¬ Builtin.List.listTooLong (its.toArray.size * k.toNat) = true := by
    rw [notLongL hlen]
    exact Bool.false_ne_true
  have hnew : List.foldl (fun x1 x2 => x1 ++ x2) #[] (List.replicate (if its.toArray.isEmpty = true then 0 else k.toNat) its.toArray) = (List.replicate k.toNat its).flatten.toArray := by
    have f0 : ∀ m : Nat, List.foldl (fun x1 x2 => x1 ++ x2) #[] (List.replicate m its.toArray) = (List.replicate m its).flatten.toArray := fun m => by
      have := foldl_rep its m []
      rw [List.nil_append] at this
      exact this
    rw [f0]
    cases its with
    | nil => simp
    | cons a r' => rw [if_neg (by simp)]
  refine wpAny_binaryOp_repeat_ref (T := "list") (U := "int") (by decide) ⟨_, e, rfl⟩ (fun s' => typeIs_int s' k t) noFill_list_mul F.fills_int_mul F.slot_int_rmul repeat_list F.slot_int_index.lookup
    (call_meets F.slot_int_rmul (typeIs_int s k t) F.entry_int_rmul (F.args_int_rmul_2 _ _) (int___rmul___int_list k t l its.toArray n)
      ⟨e, rfl, ⟨_, e, rfl⟩, call_meets F.slot_list_mul ⟨_, e, rfl⟩ F.entry_list_mul (F.args_list_mul_2 _ _) (AutoListH.list___mul___list_int_3 l its.toArray n k t hfit hcap hlong) ⟨e, ?_⟩⟩)
  rw [hnew]
  exact ⟨.ref _, _, I.lnew (t' := s.toks) (r.rep k.toNat) (by rw [PyProof.Rows.lm_len_rep_flat, Nat.mul_comm]; exact hz), rfl, q _ I.fresh⟩
theorem _root_.Rf.Rps.repl {K : Frag} {F : Hp} {vs : List V} {ds : List PyData} (h : Rps K F vs ds) : ∀ n : Nat, Rps K F (List.replicate n vs).flatten (List.replicate n ds).flatten
  | 0 => .nil
  | n + 1 => by
    rw [List.replicate_succ, List.replicate_succ, List.flatten_cons, List.flatten_cons]
    exact h.append (Rps.repl h n)
def rBin (K : Frag) : Operator → R2
  | .Add => fun x y H Q => rI0 (fun i j => .int (i + j)) x y H Q ∨ (rAddS x y H Q ∨ (rCatR K x y H Q ∨ L2.rCatA K x y H Q))
  | .Sub => rI0 fun i j => .int (i - j)
  | .Mult => fun x y H Q => rI CMulX (fun i j => .int (i * j)) x y H Q ∨ (rMulT x y H Q ∨ rRepR K x y H Q)
  | .FloorDiv => rI CDivW fun i j => .int (i / j)
  | .Mod => rI (fun _ j => 0 < j) fun i j => .int (i % j)
  | .Pow => rI CPow fun i j => .int (i ^ j.toNat)
  | .LShift => rI CShl fun i j => .int (i * 2 ^ j.toNat)
  | .RShift => rI (fun _ j => 0 ≤ j) fun i j => .int (i / 2 ^ j.toNat)
  | .BitAnd => rI0 fun i j => .int (Builtin.bitAnd i j)
  | .BitOr => rI0 fun i j => .int (Builtin.bitOr i j)
  | _ => rNo
theorem op_bin (op : Operator) : OpR X (binaryOp op) (rBin X.K op) := by
  cases op
  case Add => exact op_add.or (op_add_str.or (op_catR.or op_catA))
  case Sub => exact op_sub
  case Mult => exact op_mulX.or (op_mulT.or op_repR)
  case FloorDiv => exact op_fdivW
  case Mod => exact op_mod
  case Pow => exact op_pow
  case LShift => exact op_shlW
  case RShift => exact op_shr
  case BitAnd => exact op_and
  case BitOr => exact op_or
  all_goals exact op_no
end
theorem mil {n : Nat} (h : n ≤ 1000000) : n ≤ sizeLine := Nat.le_trans h (by decide)
theorem mil_lt {n : Nat} (h : n < 1000000) : n < sizeLine := Nat.lt_of_lt_of_le h (by decide)
section
variable {K : Frag} {F H : Hp} {v w : V} {dx dy : PyData} {z : PV} {Q : VK}
theorem rs_int (e : Ex F H) {r : Int} (k : ∀ v' F' H', Rs K F H F' H' v' (.d (.int r)) → Q v' H') : Q (.int r) H := k _ F H (Rs.same e (.int r))
theorem rs_str (e : Ex F H) {r : Str} (k : ∀ v' F' H', Rs K F H F' H' v' (.d (.str r)) → Q v' H') : Q (.str r) H := k _ F H (Rs.same e (.str r))
theorem rs_bl (e : Ex F H) {r : Bool} (k : ∀ v' F' H', Rs K F H F' H' v' (.d (.bool r)) → Q v' H') : Q (.bl r) H := k _ F H (Rs.same e (.bl r))
theorem bin_rs (op : Operator) (e : Ex F H) (h1 : Opd K F H v dx) (h2 : Opd K F H w dy) (hz : binS op dx dy = .ok z) (k : ∀ v' F' H', Rs K F H F' H' v' z → Q v' H') : rBin K op v w H Q := by
  unfold binS at hz
  split at hz
  · cases hz; exact .inl ⟨_, _, h1.int_inv, h2.int_inv, rs_int e k⟩
  · obtain ⟨_, g, hz⟩ := Res.bind_inv hz
    cases hz
    have g' := of_decide_eq_true (Res.guard_inv g)
    exact .inr (.inl ⟨_, _, h1.str_inv, h2.str_inv, mil g', rs_str e k⟩)
  · obtain ⟨_, g, hz⟩ := Res.bind_inv hz
    cases hz
    have g' := of_decide_eq_true (Res.guard_inv g)
    obtain ⟨a, xs, e1, e2, e3⟩ := h1.lst_inv e
    obtain ⟨b, ys, e4, e5, e6⟩ := h2.lst_inv e
    exact .inr (.inr (.inl ⟨a, b, xs, ys, e1, e4, e2, e5, mil (by rw [e3.length, e6.length]; exact g'), fun p hp => k _ _ _ (Rs.newL e hp (e3.append e6))⟩))
  · obtain ⟨_, g, hz⟩ := Res.bind_inv hz
    cases hz
    have g' := of_decide_eq_true (Res.guard_inv g)
    obtain ⟨a, xs, e1, e2, e3⟩ := h1.tup_inv e
    obtain ⟨b, ys, e4, e5, e6⟩ := h2.tup_inv e
    refine .inr (.inr (.inr ⟨a, b, xs, ys, e1, e4, e2, e5, mil (by rw [e3.length, e6.length]; exact g'), ?_, ?_, ?_⟩))
    · intro hx
      subst hx
      cases e3
      subst e4
      cases h2 with
      | d h => exact k _ F H (Rs.same e h)
    · intro _ hy
      subst hy
      cases e6
      simp only [List.append_nil] at k
      subst e1
      cases h1 with
      | d h => exact k _ F H (Rs.same e h)
    · intro _ _ p hp
      exact k _ _ _ (Rs.newT e hp (e3.append e6))
  · cases hz; exact ⟨_, _, h1.int_inv, h2.int_inv, rs_int e k⟩
  · obtain ⟨_, g, hz⟩ := Res.bind_inv hz
    cases hz
    have g' := of_decide_eq_true (Res.guard_inv g)
    exact .inl ⟨_, _, h1.int_inv, h2.int_inv, by unfold CMulX; unfold bits at g'; omega, rs_int e k⟩
  · obtain ⟨_, g, hz⟩ := Res.bind_inv hz
    cases hz
    have g' := of_decide_eq_true (Res.guard_inv g)
    exact ⟨_, _, h1.int_inv, h2.int_inv, g', rs_int e k⟩
  · obtain ⟨_, g, hz⟩ := Res.bind_inv hz
    cases hz
    exact ⟨_, _, h1.int_inv, h2.int_inv, of_decide_eq_true (Res.guard_inv g), rs_int e k⟩
  · obtain ⟨_, g, hz⟩ := Res.bind_inv hz
    cases hz
    have g' := of_decide_eq_true (Res.guard_inv g)
    exact ⟨_, _, h1.int_inv, h2.int_inv, g', rs_int e k⟩
  · obtain ⟨_, g, hz⟩ := Res.bind_inv hz
    cases hz
    have g' := of_decide_eq_true (Res.guard_inv g)
    exact ⟨_, _, h1.int_inv, h2.int_inv, g', rs_int e k⟩
  · obtain ⟨_, g, hz⟩ := Res.bind_inv hz
    cases hz
    exact ⟨_, _, h1.int_inv, h2.int_inv, of_decide_eq_true (Res.guard_inv g), rs_int e k⟩
  · cases hz; exact ⟨_, _, h1.int_inv, h2.int_inv, rs_int e k⟩
  · cases hz; exact ⟨_, _, h1.int_inv, h2.int_inv, rs_int e k⟩
  · obtain ⟨_, g, hz⟩ := Res.bind_inv hz
    cases hz
    obtain ⟨g1, g2, g3⟩ := of_decide_eq_true (Res.guard_inv g)
    obtain ⟨a, xs, e1, e2, e3⟩ := h1.lst_inv e
    rename_i ds n _
    have hsz : xs.length * n.toNat ≤ 1000 * 1000 := Nat.mul_le_mul (by rw [e3.length]; exact g3) (by omega)
    exact .inr (.inr ⟨a, _, xs, e1, h2.int_inv, e2, by omega, by omega, mil (by omega), fun p hp => k _ _ _ (Rs.newL e hp (e3.repl _))⟩)
  · obtain ⟨_, g, hz⟩ := Res.bind_inv hz
    cases hz
    exact .inr (.inl ⟨_, _, h1.str_inv, h2.int_inv, of_decide_eq_true (Res.guard_inv g), rs_str e k⟩)
  · cases hz
end
def rEqO (K : Frag) (neg : Bool) : R2 := fun x y H Q => ∃ d e, Dp K H x d ∧ Dp K H y e ∧ eqOk d e = true ∧ Q (.bl (if neg then !PyData.eqv d e else PyData.eqv d e)) H
section
variable {X : Cx}
theorem eq_room {A : Around} (hu : A.units + 200 < cLine) {d e : PyData} (h : min d.depth e.depth ≤ 150) : A.units + min d.depth e.depth < cLine := by omega
theorem op_eqO (hu : X.A.units + 200 < cLine) : OpR X (compareOp .Eq) (rEqO X.K false) := by
  intro pins s σ H x y v u Q I rx ry h
  obtain ⟨d, e, hd, he, g, q⟩ := h
  obtain ⟨as, r1⟩ := Dp.reads I d x v hd rx
  obtain ⟨bs, r2⟩ := Dp.reads I e y u he ry
  unfold eqOk at g
  rw [Bool.and_eq_true, Bool.and_eq_true] at g
  exact SeqAt.compareEq_reads r1 r2 g.1.1 g.1.2 (eq_room hu (of_decide_eq_true g.2)) ⟨.bl _, H, I, rfl, q⟩
theorem op_neO (hu : X.A.units + 200 < cLine) : OpR X (compareOp .NotEq) (rEqO X.K true) := by
  intro pins s σ H x y v u Q I rx ry h
  obtain ⟨d, e, hd, he, g, q⟩ := h
  obtain ⟨as, r1⟩ := Dp.reads I d x v hd rx
  obtain ⟨bs, r2⟩ := Dp.reads I e y u he ry
  unfold eqOk at g
  rw [Bool.and_eq_true, Bool.and_eq_true] at g
  exact SeqAt.compareNe_reads r1 r2 g.1.1 g.1.2 (eq_room hu (of_decide_eq_true g.2)) ⟨.bl _, H, I, rfl, q⟩
def rSgn (neg : Bool) : R2 := fun x y H Q => ∃ (c : Nat) (z : Str), x = .str ⟨#[c]⟩ ∧ y = .str z ∧ Q (.bl (if neg then !decide (c ∈ z.cps.toList) else decide (c ∈ z.cps.toList))) H
theorem op_in_sgn : OpR X (compareOp .In) (rSgn false) := op_in_sign
theorem op_notIn_sgn : OpR X (compareOp .NotIn) (rSgn true) := op_notIn_sign
def rOcc : R2 := fun x y H Q => ∃ a z, x = .str a ∧ y = .str z ∧ Q (.bl (!(Builtin.Str.occurrences z a 0 z.length 1).isEmpty)) H
theorem op_inOcc : OpR X (compareOp .In) rOcc := by
  intro pins s σ H x y v u Q I rx ry h
  obtain ⟨a, z, rfl, rfl, q⟩ := h
  obtain ⟨t, rfl⟩ := (show ∃ t, v = Value.str a t from rx)
  obtain ⟨t', rfl⟩ := (show ∃ t, u = Value.str z t from ry)
  exact PyProof.Rows.in_str ⟨.bl _, H, I, rfl, q⟩
def rCmp (K : Frag) : CmpOp → R2
  | .Eq => rEqO K false
  | .NotEq => rEqO K true
  | .Lt => fun x y H Q => rI0 (fun i j => .bl (decide (i < j))) x y H Q ∨ rLtT K x y H Q
  | .LtE => rI0 fun i j => .bl (decide (i ≤ j))
  | .Gt => rI0 fun i j => .bl (decide (j < i))
  | .GtE => rI0 fun i j => .bl (decide (j ≤ i))
  | .In => fun x y H Q => rInD K x y H Q ∨ (rIn K false x y H Q ∨ (rSgn false x y H Q ∨ rOcc x y H Q))
  | .NotIn => fun x y H Q => rNotInD K x y H Q ∨ (rIn K true x y H Q ∨ rSgn true x y H Q)
  | .Is => rIsB
  | .IsNot => rNotB
theorem op_cmp (hu : X.A.units + 200 < cLine) (op : CmpOp) : OpR X (compareOp op) (rCmp X.K op) := by
  cases op
  case Eq => exact op_eqO hu
  case NotEq => exact op_neO hu
  case Lt => exact op_lt.or (op_ltT (by omega))
  case LtE => exact op_le
  case Gt => exact op_gt
  case GtE => exact op_ge
  case In => exact (op_inD (by omega)).or (op_in_seq.or (op_in_sgn.or op_inOcc))
  case NotIn => exact (op_notInD (by omega)).or (op_notIn_seq.or op_notIn_sgn)
  case Is => exact op_isBl
  case IsNot => exact op_notBl
end
theorem strsV {K : Frag} {F : Hp} : ∀ {vs : List V} {xs : List PyData} {ns : List Str}, Rps K F vs xs → strsOf xs = some ns → vs = ns.map V.str
  | _, _, _, .nil, h => by cases h; rfl
  | _, _, ns, .cons (d := d) a b, h => by
    cases a with
    | str i =>
      simp only [strsOf] at h
      cases q : strsOf _ with
      | none => rw [q] at h; cases h
      | some r =>
        rw [q] at h
        cases h
        rw [strsV b q]; rfl
    | _ => cases h
theorem intsV {K : Frag} {F : Hp} : ∀ {vs : List V} {xs : List PyData} {ns : List Int}, Rps K F vs xs → intsOf xs = some ns → vs = ns.map V.int
  | _, _, _, .nil, h => by cases h; rfl
  | _, _, ns, .cons (d := d) a b, h => by
    cases a with
    | int i =>
      simp only [intsOf] at h
      cases q : intsOf _ with
      | none => rw [q] at h; cases h
      | some r =>
        rw [q] at h
        cases h
        rw [intsV b q]; rfl
    | _ => cases h
theorem flat_ints (ns : List Int) : (ns.map V.int).all flatV = true := by
  rw [List.all_eq_true]
  intro v hv
  obtain ⟨x, _, rfl⟩ := List.mem_map.mp hv
  rfl
theorem in_ints (x : Int) (ns : List Int) : inV (.int x) (ns.map V.int) = ns.any fun z => z == x := by
  unfold inV
  rw [List.any_map]
  rfl
theorem flat_strs (ns : List Str) : (ns.map V.str).all flatV = true := by
  rw [List.all_eq_true]
  intro v hv
  obtain ⟨x, _, rfl⟩ := List.mem_map.mp hv
  rfl
theorem in_strs (x : Str) (ns : List Str) : inV (.str x) (ns.map V.str) = ns.any fun z => z == x := by
  unfold inV
  rw [List.any_map]
  rfl
theorem one_sign {x : Str} {c : Nat} (h : x.cps.toList = [c]) : x = ⟨#[c]⟩ := by
  cases x with
  | mk a => simp only [Str.mk.injEq]; exact Array.ext' (by simpa using h)
theorem cmp_rs {K : Frag} {F H : Hp} {v w : V} {dx dy : PyData} {z : Bool} {Q : VK} (op : CmpOp) (e : Ex F H) (h1 : Opd K F H v dx) (h2 : Opd K F H w dy) (hz : cmpS op dx dy = .ok z) (k : Q (.bl z) H) : rCmp K op v w H Q := by
  unfold cmpS at hz
  split at hz
  · obtain ⟨_, g, hz⟩ := Res.bind_inv hz
    cases hz
    exact ⟨_, _, toDp _ _ (h1.rp e), toDp _ _ (h2.rp e), Res.guard_inv g, k⟩
  · obtain ⟨_, g, hz⟩ := Res.bind_inv hz
    cases hz
    exact ⟨_, _, toDp _ _ (h1.rp e), toDp _ _ (h2.rp e), Res.guard_inv g, k⟩
  · cases hz; exact .inl ⟨_, _, h1.int_inv, h2.int_inv, k⟩
  · cases hz; exact ⟨_, _, h1.int_inv, h2.int_inv, k⟩
  · cases hz; exact ⟨_, _, h1.int_inv, h2.int_inv, k⟩
  · cases hz; exact ⟨_, _, h1.int_inv, h2.int_inv, k⟩
  · obtain ⟨_, g, hz⟩ := Res.bind_inv hz
    cases hz
    have g' := Res.guard_inv g
    unfold inOk at g'
    rw [Bool.and_eq_true] at g'
    exact .inl ⟨_, _, toDp _ _ (h1.rp e), toDp _ _ (h2.rp e), g'.1, g'.2, k⟩
  · obtain ⟨_, g, hz⟩ := Res.bind_inv hz
    cases hz
    have g' := Res.guard_inv g
    unfold inOk at g'
    rw [Bool.and_eq_true] at g'
    exact .inl ⟨_, _, toDp _ _ (h1.rp e), toDp _ _ (h2.rp e), g'.1, g'.2, k⟩
  · split at hz
    · rename_i zs hq
      cases hz
      obtain ⟨a, xs, e1, e2, e3⟩ := h2.tup_inv e
      have hx := strsV e3 hq
      subst hx
      exact .inr (.inl ⟨a, _, e1, .inr e2, by rw [h1.str_inv] <;> rfl, flat_strs _, by rw [h1.str_inv, in_strs]; exact k⟩)
    · cases hz
  · split at hz
    · rename_i zs hq
      cases hz
      obtain ⟨a, xs, e1, e2, e3⟩ := h2.tup_inv e
      have hx := strsV e3 hq
      subst hx
      exact .inr (.inl ⟨a, _, e1, .inr e2, by rw [h1.str_inv] <;> rfl, flat_strs _, by rw [h1.str_inv, in_strs]; exact k⟩)
    · cases hz
  · split at hz
    · rename_i zs hq
      cases hz
      obtain ⟨a, xs, e1, e2, e3⟩ := h2.tup_inv e
      have hx := intsV e3 hq
      subst hx
      exact .inr (.inl ⟨a, _, e1, .inr e2, by rw [h1.int_inv] <;> rfl, flat_ints _, by rw [h1.int_inv, in_ints]; exact k⟩)
    · cases hz
  · split at hz
    · rename_i zs hq
      cases hz
      obtain ⟨a, xs, e1, e2, e3⟩ := h2.tup_inv e
      have hx := intsV e3 hq
      subst hx
      exact .inr (.inl ⟨a, _, e1, .inr e2, by rw [h1.int_inv] <;> rfl, flat_ints _, by rw [h1.int_inv, in_ints]; exact k⟩)
    · cases hz
  · split at hz
    · rename_i ns ms hq hq2
      cases hz
      obtain ⟨a, xs, e1, e2, e3⟩ := h1.tup_inv e
      obtain ⟨b, ys, f1, f2, f3⟩ := h2.tup_inv e
      have hx := intsV e3 hq
      have hy := intsV f3 hq2
      subst hx
      subst hy
      exact .inr ⟨a, b, _, _, e1, f1, e2, f2, k⟩
    · cases hz
  · split at hz
    · rename_i c hq
      cases hz
      exact .inr (.inr (.inl ⟨c, _, by rw [h1.str_inv, one_sign hq], h2.str_inv, k⟩))
    · cases hz
      exact .inr (.inr (.inr ⟨_, _, h1.str_inv, h2.str_inv, k⟩))
    · cases hz
  · split at hz
    · rename_i c hq
      cases hz
      exact .inr (.inr ⟨c, _, by rw [h1.str_inv, one_sign hq], h2.str_inv, k⟩)
    · cases hz
  · cases hz; exact ⟨_, _, h1.bl_inv, h2.bl_inv, k⟩
  · cases hz; exact ⟨_, _, h1.bl_inv, h2.bl_inv, k⟩
  · cases hz
section
variable {K : Frag} {T : Tab} {G : Gls}
theorem two {x y : E} {σ : L2.St} {F H : Hp} {ρ ρ1 ρ2 : Ro} {fp : Nat → As} {X1 X2 : PV} {R : V → V → Hp → Prop} (s : St K F H σ ρ fp) (h1 : den T G x ρ = .ok (X1, ρ1)) (h2 : den T G y ρ1 = .ok (X2, ρ2))
    (k : ∀ v w H2 F2 fp2 P1 P2, St K F2 H2 σ ρ2 fp2 → Xt F H fp F2 H2 fp2 → Hd K F2 H2 fp2 v X1 P1 → Hd K F2 H2 fp2 w X2 P2 → (∀ a, P1 a → (∃ j, fp j a) ∨ H a = none) → (∀ a, P2 a → (∃ j, fp j a) ∨ H a = none) → (∀ a, P1 a → ¬ P2 a) → R v w H2) :
    tX K T G x σ H fun v H1 => tX K T G y σ H1 fun w H2 => R v w H2 := by
  refine ⟨F, ρ, fp, X1, ρ1, s, h1, fun v H1 F1 fp1 P1 s1 t1 hd1 sub1 => ⟨F1, ρ1, fp1, X2, ρ2, s1, h2, fun w H2 F2 fp2 P2 s2 t2 hd2 sub2 => ?_⟩⟩
  refine k v w H2 F2 fp2 P1 P2 s2 (t1.trans t2) (hd1.keep t2) hd2 sub1 (t1.subP sub2) fun a h3 h4 => ?_
  rcases sub2 a h4 with ⟨j, hj⟩ | h5
  · exact hd1.dj a h3 j hj
  · exact (hd1.kn a h3).ne h5
end
section
variable {P : Prg} {G : Gls} {T : Tab} {n : Nat} {N : List Str} {sc : Scope} {top : Bool} {X : Cx} (o : XOk P G T n N sc top X)
theorem s_bin {op : Operator} {x y : E} {a b : Expr} {pos : Pos} (ha : PE X a (tX X.K T G x)) (hb : PE X b (tX X.K T G y)) : PE X (.BinOp a op b pos) (tX X.K T G (.bin op x y)) :=
  (pe_op (op_bin op) ha hb).mono fun σ H Q ⟨F, ρ, fp, z, ρ', s, hd, k⟩ => by
    simp only [den] at hd
    obtain ⟨⟨x1, ρ1⟩, h1, hd⟩ := Res.bind_inv hd
    obtain ⟨⟨x2, ρ2⟩, h2, hd⟩ := Res.bind_inv hd
    obtain ⟨d1, h3, hd⟩ := Res.bind_inv hd
    obtain ⟨d2, h4, hd⟩ := Res.bind_inv hd
    obtain ⟨w, h5, hd⟩ := Res.bind_inv hd
    cases hd
    exact two s h1 h2 fun v w H2 F2 fp2 P1 P2 s2 t2 hd1 hd2 _ _ _ => bin_rs op s2.le (hd1.ow.opd h3) (hd2.ow.opd h4) h5 fun v' F' H' r => fin k s2 t2 r
include o in
theorem units_ok : X.A.units + 200 < cLine := by
  have := o.room.un
  omega
include o in
theorem s_cmp {op : CmpOp} {x y : E} {a b : Expr} {pos : Pos} (ha : PE X a (tX X.K T G x)) (hb : PE X b (tX X.K T G y)) (hm : behindInMarks op b = false) : PE X (.Compare a [op] [b] pos) (tX X.K T G (.cmp op x y)) :=
  (pe_cmpR (op_cmp (units_ok o) op) ha hb hm).mono fun σ H Q ⟨F, ρ, fp, z, ρ', s, hd, k⟩ => by
    simp only [den] at hd
    obtain ⟨⟨x1, ρ1⟩, h1, hd⟩ := Res.bind_inv hd
    obtain ⟨⟨x2, ρ2⟩, h2, hd⟩ := Res.bind_inv hd
    obtain ⟨d1, h3, hd⟩ := Res.bind_inv hd
    obtain ⟨d2, h4, hd⟩ := Res.bind_inv hd
    obtain ⟨w, h5, hd⟩ := Res.bind_inv hd
    cases hd
    exact two s h1 h2 fun v w H2 F2 fp2 P1 P2 s2 t2 hd1 hd2 _ _ _ => cmp_rs op s2.le (hd1.ow.opd h3) (hd2.ow.opd h4) h5 (fin0 k s2 t2 rfl (.bl _))
include o in
theorem t_cmp {op : CmpOp} {x y : E} {a b : Expr} {pos : Pos} (ha : PE X a (tX X.K T G x)) (hb : PE X b (tX X.K T G y)) (hm : behindInMarks op b = false) : PT X (.Compare a [op] [b] pos) (tT X.K T G (.cmp op x y)) :=
  (pt_cmpR (op_cmp (units_ok o) op) ha hb hm).mono fun σ H Q ⟨F, ρ, fp, z, ρ', c, s, hd, hc, k⟩ => by
    simp only [den] at hd
    obtain ⟨⟨x1, ρ1⟩, h1, hd⟩ := Res.bind_inv hd
    obtain ⟨⟨x2, ρ2⟩, h2, hd⟩ := Res.bind_inv hd
    obtain ⟨d1, h3, hd⟩ := Res.bind_inv hd
    obtain ⟨d2, h4, hd⟩ := Res.bind_inv hd
    obtain ⟨w, h5, hd⟩ := Res.bind_inv hd
    cases hd
    cases hc
    exact two s h1 h2 fun v w H2 F2 fp2 P1 P2 s2 t2 hd1 hd2 _ _ _ => cmp_rs op s2.le (hd1.ow.opd h3) (hd2.ow.opd h4) h5 ⟨_, rfl, k _ _ _ s2 t2⟩
theorem Hd.bool {K : Frag} {F H : Hp} {fp : Nat → As} {v : V} {x : PV} {P : As} {b : Bool} (h : Hd K F H fp v x P) (e : asBool x = .ok b) : v = .bl b ∧ x = .d (.bool b) := by
  unfold asBool at e
  split at e
  · cases e; exact ⟨h.ow.dat.bl_inv, rfl⟩
  · cases e
/-- a term whose value is a bool, as a test -/
theorem t_val {x : E} {a : Expr} (ha : PE X a (tX X.K T G x)) (he : ∀ whole, isTrue a X.env whole = (do let v ← whole; standAt a.pos; holding [v] (truthy v))) : PT X a (tT X.K T G x) :=
  (pt_val ha he).mono fun σ H Q ⟨F, ρ, fp, z, ρ', c, s, hd, hc, k⟩ => ⟨F, ρ, fp, z, ρ', s, hd, fun v H' F' fp' P' s1 t1 hh _ => ⟨c, (hh.bool hc).1, k H' F' fp' s1 t1⟩⟩
theorem s_neg {x : E} {a : Expr} {pos : Pos} (ha : PE X a (tX X.K T G x)) : PE X (.UnaryOp .USub a pos) (tX X.K T G (.neg x)) :=
  (pe_un un_neg ha).mono fun σ H Q ⟨F, ρ, fp, z, ρ', s, hd, k⟩ => by
    simp only [den] at hd
    obtain ⟨⟨x1, ρ1⟩, h1, hd⟩ := Res.bind_inv hd
    dsimp only at hd
    split at hd
    · cases hd
      exact ⟨F, ρ, fp, _, _, s, h1, fun v H' F' fp' P' s1 t1 hh _ => ⟨_, hh.ow.dat.int_inv, fin0 k s1 t1 rfl (.int _)⟩⟩
    · cases hd
theorem t_not {x : E} {a : Expr} {pos : Pos} (ha : PT X a (tT X.K T G x)) : PT X (.UnaryOp .Not a pos) (tT X.K T G (.not x)) :=
  (pt_not ha).mono fun σ H Q ⟨F, ρ, fp, z, ρ', c, s, hd, hc, k⟩ => by
    simp only [den] at hd
    obtain ⟨⟨x1, ρ1⟩, h1, hd⟩ := Res.bind_inv hd
    obtain ⟨b, h2, hd⟩ := Res.bind_inv hd
    cases hd
    cases hc
    exact ⟨F, ρ, fp, _, _, b, s, h1, h2, fun H' F' fp' s1 t1 => k _ _ _ s1 t1⟩
theorem s_not {x : E} {a : Expr} {pos : Pos} (ha : PE X a (tX X.K T G x)) : PE X (.UnaryOp .Not a pos) (tX X.K T G (.not x)) :=
  (pe_not ha).mono fun σ H Q ⟨F, ρ, fp, z, ρ', s, hd, k⟩ => by
    simp only [den] at hd
    obtain ⟨⟨x1, ρ1⟩, h1, hd⟩ := Res.bind_inv hd
    obtain ⟨b, h2, hd⟩ := Res.bind_inv hd
    cases hd
    exact ⟨F, ρ, fp, _, _, s, h1, fun v H' F' fp' P' s1 t1 hh _ => ⟨b, (hh.bool h2).1, fin0 k s1 t1 rfl (.bl _)⟩⟩
theorem le_and {x y : E} : ∀ σ H Q, tX X.K T G (.and x y) σ H Q → tAndV (tX X.K T G x) (tX X.K T G y) σ H Q := fun σ H Q ⟨F, ρ, fp, z, ρ', s, hd, k⟩ => by
  simp only [den] at hd
  obtain ⟨⟨x1, ρ1⟩, h1, hd⟩ := Res.bind_inv hd
  obtain ⟨b, h2, hd⟩ := Res.bind_inv hd
  refine ⟨F, ρ, fp, _, _, s, h1, fun v H' F' fp' P' s1 t1 hh _ => ⟨b, (hh.bool h2).1, ?_⟩⟩
  cases b with
  | true =>
    obtain ⟨⟨x2, ρ2⟩, h3, hd⟩ := Res.bind_inv hd
    obtain ⟨c, h4, hd⟩ := Res.bind_inv hd
    cases hd
    exact ⟨F', _, fp', _, _, s1, h3, fun w H2 F2 fp2 P2 s2 t2 hh2 _ => by
      obtain ⟨rfl, _⟩ := hh2.bool h4
      exact fin0 k s2 (t1.trans t2) rfl (.bl _)⟩
  | false =>
    cases hd
    exact fin0 k s1 t1 rfl (.bl _)
theorem le_or {x y : E} : ∀ σ H Q, tX X.K T G (.or x y) σ H Q → tOrV (tX X.K T G x) (tX X.K T G y) σ H Q := fun σ H Q ⟨F, ρ, fp, z, ρ', s, hd, k⟩ => by
  simp only [den] at hd
  obtain ⟨⟨x1, ρ1⟩, h1, hd⟩ := Res.bind_inv hd
  obtain ⟨b, h2, hd⟩ := Res.bind_inv hd
  refine ⟨F, ρ, fp, _, _, s, h1, fun v H' F' fp' P' s1 t1 hh _ => ⟨b, (hh.bool h2).1, ?_⟩⟩
  cases b with
  | false =>
    obtain ⟨⟨x2, ρ2⟩, h3, hd⟩ := Res.bind_inv hd
    obtain ⟨c, h4, hd⟩ := Res.bind_inv hd
    cases hd
    exact ⟨F', _, fp', _, _, s1, h3, fun w H2 F2 fp2 P2 s2 t2 hh2 _ => by
      obtain ⟨rfl, _⟩ := hh2.bool h4
      exact fin0 k s2 (t1.trans t2) rfl (.bl _)⟩
  | true =>
    cases hd
    exact fin0 k s1 t1 rfl (.bl _)
theorem le_andT {x y : E} : ∀ σ H Q, tT X.K T G (.and x y) σ H Q → tAnd (tT X.K T G x) (tT X.K T G y) σ H Q := fun σ H Q ⟨F, ρ, fp, z, ρ', c, s, hd, hc, k⟩ => by
  simp only [den] at hd
  obtain ⟨⟨x1, ρ1⟩, h1, hd⟩ := Res.bind_inv hd
  obtain ⟨b, h2, hd⟩ := Res.bind_inv hd
  refine ⟨F, ρ, fp, _, _, b, s, h1, h2, fun H' F' fp' s1 t1 => ?_⟩
  cases b with
  | true =>
    obtain ⟨⟨x2, ρ2⟩, h3, hd⟩ := Res.bind_inv hd
    obtain ⟨c', h4, hd⟩ := Res.bind_inv hd
    cases hd
    cases hc
    exact ⟨F', _, fp', _, _, _, s1, h3, h4, fun H2 F2 fp2 s2 t2 => k _ _ _ s2 (t1.trans t2)⟩
  | false =>
    cases hd
    cases hc
    exact k _ _ _ s1 t1
theorem le_orT {x y : E} : ∀ σ H Q, tT X.K T G (.or x y) σ H Q → tOr (tT X.K T G x) (tT X.K T G y) σ H Q := fun σ H Q ⟨F, ρ, fp, z, ρ', c, s, hd, hc, k⟩ => by
  simp only [den] at hd
  obtain ⟨⟨x1, ρ1⟩, h1, hd⟩ := Res.bind_inv hd
  obtain ⟨b, h2, hd⟩ := Res.bind_inv hd
  refine ⟨F, ρ, fp, _, _, b, s, h1, h2, fun H' F' fp' s1 t1 => ?_⟩
  cases b with
  | false =>
    obtain ⟨⟨x2, ρ2⟩, h3, hd⟩ := Res.bind_inv hd
    obtain ⟨c', h4, hd⟩ := Res.bind_inv hd
    cases hd
    cases hc
    exact ⟨F', _, fp', _, _, _, s1, h3, h4, fun H2 F2 fp2 s2 t2 => k _ _ _ s2 (t1.trans t2)⟩
  | true =>
    cases hd
    cases hc
    exact k _ _ _ s1 t1
theorem s_isN {x : E} {a : Expr} {pos p2 : Pos} {j : Nat} (ha : PE X a (tX X.K T G x)) : PE X (.Compare a [.Is] [.Constant .none j p2] pos) (tX X.K T G (.isN x)) :=
  (pe_cmp (pc_isN ha) rfl).mono fun σ H Q ⟨F, ρ, fp, z, ρ', s, hd, k⟩ => by
    simp only [den] at hd
    obtain ⟨⟨x1, ρ1⟩, h1, hd⟩ := Res.bind_inv hd
    cases hd
    refine ⟨F, ρ, fp, _, _, s, h1, fun v H' F' fp' P' s1 t1 hh _ => fin0 k s1 t1 ?_ (.bl _)⟩
    congr 2
    cases ho : hh.ow with
    | d hq => cases hq <;> rfl
    | L => rfl
    | M => rfl
    | I => rfl
    | LL => rfl
theorem s_notN {x : E} {a : Expr} {pos p2 : Pos} {j : Nat} (ha : PE X a (tX X.K T G x)) : PE X (.Compare a [.IsNot] [.Constant .none j p2] pos) (tX X.K T G (.notN x)) :=
  (pe_cmp (pc_notN ha) rfl).mono fun σ H Q ⟨F, ρ, fp, z, ρ', s, hd, k⟩ => by
    simp only [den] at hd
    obtain ⟨⟨x1, ρ1⟩, h1, hd⟩ := Res.bind_inv hd
    cases hd
    refine ⟨F, ρ, fp, _, _, s, h1, fun v H' F' fp' P' s1 t1 hh _ => fin0 k s1 t1 ?_ (.bl _)⟩
    congr 2
    cases ho : hh.ow with
    | d hq => cases hq <;> rfl
    | L => rfl
    | M => rfl
    | I => rfl
    | LL => rfl
theorem s_ife {c x y : E} {t a b : Expr} {pos : Pos} (hc : PT X t (tT X.K T G c)) (ha : PE X a (tX X.K T G x)) (hb : PE X b (tX X.K T G y)) : PE X (.IfExp t a b pos) (tX X.K T G (.ife c x y)) :=
  (pe_ifExp hc ha hb).mono fun σ H Q ⟨F, ρ, fp, z, ρ', s, hd, k⟩ => by
    simp only [den] at hd
    obtain ⟨⟨x1, ρ1⟩, h1, hd⟩ := Res.bind_inv hd
    obtain ⟨b, h2, hd⟩ := Res.bind_inv hd
    refine ⟨F, ρ, fp, _, _, b, s, h1, h2, fun H' F' fp' s1 t1 => ?_⟩
    cases b with
    | true => exact ⟨F', _, fp', _, _, s1, hd, fun w H2 F2 fp2 P2 s2 t2 hh2 sub => k w H2 F2 fp2 P2 s2 (t1.trans t2) hh2 (t1.subP sub)⟩
    | false => exact ⟨F', _, fp', _, _, s1, hd, fun w H2 F2 fp2 P2 s2 t2 hh2 sub => k w H2 F2 fp2 P2 s2 (t1.trans t2) hh2 (t1.subP sub)⟩
include o in
theorem le_chain {op op' : CmpOp} {x y w : E} : ∀ σ H Q, tX X.K T G (.chain op op' x y w) σ H Q → tChain (rCmp X.K op) (rCmp X.K op') (tX X.K T G x) (tX X.K T G y) (tX X.K T G w) σ H Q := fun σ H Q ⟨F, ρ, fp, z, ρ', s, hd, k⟩ => by
  simp only [den] at hd
  obtain ⟨⟨x1, ρ1⟩, h1, hd⟩ := Res.bind_inv hd
  obtain ⟨⟨x2, ρ2⟩, h2, hd⟩ := Res.bind_inv hd
  obtain ⟨d1, h3, hd⟩ := Res.bind_inv hd
  obtain ⟨d2, h4, hd⟩ := Res.bind_inv hd
  obtain ⟨c, h5, hd⟩ := Res.bind_inv hd
  refine two s h1 h2 fun v u H2 F2 fp2 P1 P2 s2 t2 hd1 hd2 _ _ _ => cmp_rs op s2.le (hd1.ow.opd h3) (hd2.ow.opd h4) h5 ⟨c, rfl, ?_⟩
  cases c with
  | true =>
    obtain ⟨⟨x3, ρ3⟩, h6, hd⟩ := Res.bind_inv hd
    obtain ⟨d3, h7, hd⟩ := Res.bind_inv hd
    obtain ⟨c', h8, hd⟩ := Res.bind_inv hd
    cases hd
    exact ⟨F2, _, fp2, _, _, s2, h6, fun r H3 F3 fp3 P3 s3 t3 hd3 _ => cmp_rs op' s3.le ((hd2.keep t3).ow.opd h4) (hd3.ow.opd h7) h8 (fin0 k s3 (t2.trans t3) rfl (.bl _))⟩
  | false =>
    cases hd
    exact fin0 k s2 t2 rfl (.bl _)
end
end Rf
set_option maxRecDepth 100000
set_option maxHeartbeats 4000000
namespace Rf
open PySem PySem.Spec PyProof.Rows L2 Evl
section
variable {K : Frag} {T : Tab} {G : Gls} {F F' H H' : Hp} {σ : L2.St} {ρ ρ' : Ro} {fp fp' : Nat → As}
theorem Args.up (e : Ex F F') : ∀ {as : E} {vs : List V} {xs : List PV} {P : As}, Args K F H σ ρ as vs xs P → (∀ a, P a → ∀ o, H a = some o → H' a = some o) → Args K F' H' σ ρ as vs xs P
  | _, _, _, _, .nil, _ => .nil
  | _, _, _, _, .io h1 h2 r, k => .io h1 h2 (Args.up e r k)
  | _, _, _, _, .cons h1 h2 r h3, k => .cons h1 (h2.up e (fun a ha => k a (.inl ha)) fun _ z => z) (Args.up e r fun a ha => k a (.inr ha)) h3
theorem Args.len : ∀ {as : E} {vs : List V} {xs : List PV} {P : As}, Args K F H σ ρ as vs xs P → vs.length = alen as ∧ xs.length = alen as
  | _, _, _, _, .nil => ⟨rfl, rfl⟩
  | _, _, _, _, .io h1 h2 r => by
    have := Args.len r
    exact ⟨by simp [alen, this.1], by simp [alen, this.2]⟩
  | _, _, _, _, .cons h1 h2 r h3 => by
    have := Args.len r
    exact ⟨by simp [alen, this.1], by simp [alen, this.2]⟩
theorem le_nilA : ∀ σ H Q, tA K T G .nil σ H Q → tNil σ H Q := fun σ H Q ⟨F, ρ, fp, xs, ρ', s, hd, k⟩ => by
  simp only [dens] at hd
  cases hd
  exact k [] H F fp none0 s (Xt.refl s.le) ⟨.nil, fun _ z => z.elim, fun _ z => z.elim, fun _ z => z.elim⟩ fun _ z => z.elim
theorem le_consA {a r : E} (hn : ∀ i, a ≠ .io i) : ∀ σ H Q, tA K T G (.cons a r) σ H Q → tCons (tX K T G a) (tA K T G r) σ H Q := fun σ H Q ⟨F, ρ, fp, xs, ρ', s, hd, k⟩ => by
  have hd' : (do
    let (x, ρ1) ← den T G a ρ
    let (ys, ρ2) ← dens T G r ρ1
    Res.ok (x :: ys, ρ2) : Res (List PV × Ro)) = Res.ok (xs, ρ') := by
    rw [← hd]
    cases a <;> first | rfl | exact absurd rfl (hn _)
  obtain ⟨⟨x, ρ1⟩, h1, h2⟩ := Res.bind_inv hd'
  obtain ⟨⟨ys, ρ2⟩, h3, h4⟩ := Res.bind_inv h2
  cases h4
  refine ⟨F, ρ, fp, x, ρ1, s, h1, fun v H1 F1 fp1 P1 s1 t1 hd1 sub1 => ⟨F1, ρ1, fp1, ys, _, s1, h3, fun vs H2 F2 fp2 P2 s2 t2 hd2 sub2 => ?_⟩⟩
  have hd1' := hd1.keep t2
  have dj : ∀ c, P1 c → ¬ P2 c := fun c h3 h4 => by
    rcases sub2 c h4 with ⟨j, hj⟩ | h5
    · exact hd1.dj c h3 j hj
    · exact (hd1.kn c h3).ne h5
  refine k (v :: vs) H2 F2 fp2 (fun c => P1 c ∨ P2 c) s2 (t1.trans t2) ⟨.cons hn hd1'.ow hd2.ow dj, fun c h => h.elim (hd1'.nf c) (hd2.nf c), fun c h => h.elim (hd1'.kn c) (hd2.kn c), fun c h => h.elim (hd1'.dj c) (hd2.dj c)⟩ fun c h => ?_
  rcases h with h | h
  · exact sub1 c h
  · exact t1.subP sub2 c h
theorem le_ioA {i : Nat} {r : E} : ∀ σ H Q, tA K T G (.cons (.io i) r) σ H Q → tCons (tVar i) (tA K T G r) σ H Q := fun σ H Q ⟨F, ρ, fp, xs, ρ', s, hd, k⟩ => by
  simp only [dens] at hd
  split at hd
  · cases hd
  · rename_i y hy
    obtain ⟨⟨ys, ρ2⟩, h3, h4⟩ := Res.bind_inv hd
    dsimp only at h4
    split at h4
    · rename_i z hz
      cases h4
      obtain ⟨v, e1, _⟩ := s.ow i _ hy
      refine ⟨v, e1, F, ρ, fp, ys, _, s, h3, fun vs H2 F2 fp2 P2 s2 t2 hd2 sub2 => ?_⟩
      exact k (v :: vs) H2 F2 fp2 P2 s2 t2 ⟨.io e1 hz hd2.ow, hd2.nf, hd2.kn, hd2.dj⟩ sub2
    · cases h4
theorem noIo_tail {a r : E} (h : ∀ i, a ≠ .io i) (n : noIo (.cons a r) = true) : noIo r = true := by
  cases a <;> first | exact n | exact absurd rfl (h _)
theorem settleA : ∀ {as : E} {vs : List V} {xs : List PV} {P : As} {F : Hp} {ys : List PyData}, Args K F H σ ρ as vs xs P → noIo as = true → fzs xs = .ok ys → St K F H σ ρ fp → (∀ a, P a → F a = none) → (∀ a, P a → Mu (H a)) → (∀ a, P a → ∀ i, ¬ fp i a) →
    ∃ F', St K F' H σ ρ fp ∧ Ex F F' ∧ (∀ a o, F' a = some o → F a = some o ∨ P a) ∧ Rps K F' vs ys
  | _, _, _, _, F, _, .nil, _, e, s, _, _, _ => by
    cases e
    exact ⟨F, s, Ex.refl F, fun _ _ h => .inl h, .nil⟩
  | _, _, _, _, F, _, .io _ _ _, n, _, _, _, _, _ => by cases n
  | _, _, _, _, F, ys, .cons (P := P1) (P' := P2) h1 h2 r h3, n, e, s, nf, kn, dj => by
    simp only [fzs_cons] at e
    obtain ⟨y, e1, e⟩ := Res.bind_inv e
    obtain ⟨ys', e2, e⟩ := Res.bind_inv e
    cases e
    have hh : Hd K F H fp _ _ P1 := ⟨h2, fun a z => nf a (.inl z), fun a z => kn a (.inl z), fun a z => dj a (.inl z)⟩
    obtain ⟨F1, s1, x1, q1, d1⟩ := hh.settle s e1
    have n' := noIo_tail h1 n
    obtain ⟨F2, s2, x2, q2, d2⟩ := settleA (r.up x1 fun _ _ _ z => z) n' e2 s1 (fun a ha => by
      cases q : F1 a with
      | none => rfl
      | some o =>
        rcases q1 a o q with z | z
        · rw [nf a (.inr ha)] at z; cases z
        · exact absurd ha (h3 a z)) (fun a z => kn a (.inr z)) (fun a z => dj a (.inr z))
    refine ⟨F2, s2, x1.trans x2, fun a o q => ?_, .cons (d1.up x2) d2⟩
    rcases q2 a o q with z | z
    · rcases q1 a o z with z2 | z2
      · exact .inl z2
      · exact .inr (.inl z2)
    · exact .inr (.inr z)
inductive Opds (K : Frag) (F H : Hp) : List V → List PyData → Prop where
  | nil : Opds K F H [] []
  | cons {v : V} {x : PyData} {vs : List V} {xs : List PyData} : Opd K F H v x → Opds K F H vs xs → Opds K F H (v :: vs) (x :: xs)
theorem Args.opds : ∀ {as : E} {vs : List V} {xs : List PV} {P : As} {ys : List PyData}, Args K F H σ ρ as vs xs P → noIo as = true → fzs xs = .ok ys → Opds K F H vs ys
  | _, _, _, _, _, .nil, _, e => by cases e; exact .nil
  | _, _, _, _, _, .io _ _ _, n, _ => by cases n
  | _, _, _, _, ys, .cons h1 h2 r h3, n, e => by
    simp only [fzs_cons] at e
    obtain ⟨y, e1, e⟩ := Res.bind_inv e
    obtain ⟨ys', e2, e⟩ := Res.bind_inv e
    cases e
    have n' := noIo_tail h1 n
    exact .cons (h2.opd e1) (Args.opds r n' e2)
theorem Opds.one {x : PyData} {vs : List V} (h : Opds K F H vs [x]) : ∃ v, vs = [v] ∧ Opd K F H v x := by
  cases h with
  | cons h r => cases r; exact ⟨_, rfl, h⟩
theorem Opds.two {x y : PyData} {vs : List V} (h : Opds K F H vs [x, y]) : ∃ v w, vs = [v, w] ∧ Opd K F H v x ∧ Opd K F H w y := by
  cases h with
  | cons h r =>
    cases r with
    | cons h2 r => cases r; exact ⟨_, _, rfl, h, h2⟩
end
section
variable {P : Prg} {G : Gls} {T : Tab} {n : Nat} {N : List Str} {sc : Scope} {top : Bool} {X : Cx} (o : XOk P G T n N sc top X)
theorem s_tup {as : E} {es : List Expr} {j : Nat} {pos : Pos} (ha : PA X es (tA X.K T G as)) (hn : noIo as = true) (hl : alen as ≤ 1000) : PE X (.Tuple es j pos) (tX X.K T G (.tup as)) :=
  (pe_tup ha).mono fun σ H Q ⟨F, ρ, fp, z, ρ', s, hd, k⟩ => by
    simp only [den] at hd
    obtain ⟨⟨xs, ρ1⟩, h1, hd⟩ := Res.bind_inv hd
    obtain ⟨ys, h2, hd⟩ := Res.bind_inv hd
    cases hd
    refine ⟨F, ρ, fp, xs, ρ1, s, h1, fun vs H1 F1 fp1 P1 s1 t1 hd1 sub => ?_⟩
    obtain ⟨F2, s2, x2, q2, d2⟩ := settleA hd1.ow hn h2 s1 hd1.nf hd1.kn hd1.dj
    exact ⟨mil (by have := hd1.ow.len.1; omega), fun p hp => fin k s2 (t1.grow sub x2 s2.le q2) (Rs.newT s2.le hp d2)⟩
theorem s_lst {as : E} {es : List Expr} {pos : Pos} (ha : PA X es (tA X.K T G as)) (hn : noIo as = true) (hl : alen as ≤ 1000) : PE X (.List es pos) (tX X.K T G (.lst as)) :=
  (pe_lst ha).mono fun σ H Q ⟨F, ρ, fp, z, ρ', s, hd, k⟩ => by
    simp only [den] at hd
    obtain ⟨⟨xs, ρ1⟩, h1, hd⟩ := Res.bind_inv hd
    obtain ⟨ys, h2, hd⟩ := Res.bind_inv hd
    cases hd
    refine ⟨F, ρ, fp, xs, ρ1, s, h1, fun vs H1 F1 fp1 P1 s1 t1 hd1 sub => ?_⟩
    obtain ⟨F2, s2, x2, q2, d2⟩ := settleA hd1.ow hn h2 s1 hd1.nf hd1.kn hd1.dj
    exact ⟨mil (by have := hd1.ow.len.1; omega), fun p hp => fin k s2 (t1.grow sub x2 s2.le q2) (Rs.newL s2.le hp d2)⟩
theorem atI_rps {K : Frag} {F : Hp} {vs : List V} {xs : List PyData} {i : Int} {x : PyData} (h : Rps K F vs xs) (e : atI xs i = some x) : ∃ v, atI vs i = some v ∧ Rp K F v x := by
  unfold atI at e ⊢
  rw [h.length]
  cases q : ixN xs.length i with
  | none => rw [q] at e; cases e
  | some j =>
    rw [q] at e
    exact h.get (show xs[j]? = some x from e)
theorem ix_rs {K : Frag} {F H : Hp} {v w : V} {dx dy z : PyData} {Q : VK} (e : Ex F H) (h1 : Opd K F H v dx) (h2 : Opd K F H w dy) (hz : ixD dx dy = .ok z) (k : ∀ v', Rp K F v' z → Q v' H) : rIx K v w H Q := by
  unfold ixD at hz
  split at hz
  · split at hz
    · rename_i hx
      cases hz
      obtain ⟨a, ys, e1, e2, e3⟩ := h1.lst_inv e
      obtain ⟨u, h3, h4⟩ := atI_rps e3 hx
      exact .inl ⟨a, ys, _, u, e1, h2.int_inv, e2.sq, h3, k u h4⟩
    · cases hz
  · split at hz
    · rename_i hx
      cases hz
      obtain ⟨a, ys, e1, e2, e3⟩ := h1.tup_inv e
      obtain ⟨u, h3, h4⟩ := atI_rps e3 hx
      exact .inr (.inl ⟨a, ys, _, u, e1, h2.int_inv, e2, h3, k u h4⟩)
    · cases hz
  · split at hz
    · rename_i hx
      obtain ⟨_, g, hz⟩ := Res.bind_inv hz
      cases hz
      exact .inr (.inr ⟨_, _, _, h1.str_inv, h2.int_inv, mil (of_decide_eq_true (Res.guard_inv g)), hx, k _ (.str _)⟩)
    · cases hz
  · cases hz
theorem s_ix {x y : E} {a b : Expr} {pos : Pos} (ha : PE X a (tX X.K T G x)) (hb : PE X b (tX X.K T G y)) (hp : PlainIx b) : PE X (.Subscript a b pos) (tX X.K T G (.ix x y)) :=
  (pe_ix ix_seq ha hb hp).mono fun σ H Q ⟨F, ρ, fp, z, ρ', s, hd, k⟩ => by
    simp only [den] at hd
    obtain ⟨⟨x1, ρ1⟩, h1, hd⟩ := Res.bind_inv hd
    obtain ⟨⟨x2, ρ2⟩, h2, hd⟩ := Res.bind_inv hd
    obtain ⟨d1, h3, hd⟩ := Res.bind_inv hd
    obtain ⟨d2, h4, hd⟩ := Res.bind_inv hd
    obtain ⟨w, h5, hd⟩ := Res.bind_inv hd
    cases hd
    exact two s h1 h2 fun v w H2 F2 fp2 P1 P2 s2 t2 hd1 hd2 _ _ _ => ix_rs s2.le (hd1.ow.opd h3) (hd2.ow.opd h4) h5 fun v' r => fin0 k s2 t2 rfl r
theorem cut_rps {K : Frag} {F : Hp} {vs : List V} {xs : List PyData} {lo hi : Option Int} (h : Rps K F vs xs) : Rps K F (cutV vs lo hi) (cut xs lo hi) := by
  unfold cutV cut
  rw [h.length]
  exact (h.drop _).take _
def rSl3 (K : Frag) : V → Option Int → Option Int → Hp → VK → Prop := fun x lo hi H Q => rSlL K x lo hi H Q ∨ (L2.rSlA K x lo hi H Q ∨ rSlS x lo hi H Q)
theorem sl_any : SlR X (rSl3 X.K) := sl_list.or (sl_tupA.or sl_str)
theorem sl_rs {K : Frag} {F H : Hp} {v : V} {dx : PyData} {lo hi : Option Int} {z : PV} {Q : VK} (e : Ex F H) (h1 : Opd K F H v dx) (hz : slS dx lo hi = .ok z) (k : ∀ v' F' H', Rs K F H F' H' v' z → Q v' H') : rSl3 K v lo hi H Q := by
  unfold slS at hz
  split at hz
  · cases hz
    obtain ⟨a, ys, e1, e2, e3⟩ := h1.lst_inv e
    exact .inl ⟨a, ys, e1, e2.sq, fun p hp => k _ _ _ (Rs.newL e hp (cut_rps e3))⟩
  · cases hz
    obtain ⟨a, ys, e1, e2, e3⟩ := h1.tup_inv e
    refine .inr (.inl ⟨a, ys, e1, e2, fun hw => ?_, fun _ p hp => k _ _ _ (Rs.newT e hp (cut_rps e3))⟩)
    rename_i xs
    have he : cut xs lo hi = xs := by
      unfold cut
      rw [← e3.length, hw.1, hw.2, List.drop_zero, Nat.sub_zero, e3.length, List.take_length]
    rw [he] at k
    subst e1
    cases h1 with
    | d h => exact k _ F H (Rs.same e h)
  · obtain ⟨_, g, hz⟩ := Res.bind_inv hz
    cases hz
    exact .inr (.inr ⟨_, h1.str_inv, mil (of_decide_eq_true (Res.guard_inv g)), rs_str e k⟩)
  · cases hz
end
end Rf
set_option maxRecDepth 100000
set_option maxHeartbeats 4000000
namespace Rf
open PySem PySem.Spec PyProof.Rows L2 Evl
section
variable {P : Prg} {G : Gls} {T : Tab} {n : Nat} {N : List Str} {sc : Scope} {top : Bool} {X : Cx} (o : XOk P G T n N sc top X)
def tO (K : Frag) (T : Tab) (G : Gls) (lo : E) : TO := if isNone lo = true then tNoPart else tPart (tX K T G lo)
theorem po_of {lo : E} {l : Option Expr} (h : (l = none ∧ isNone lo = true) ∨ ∃ e, l = some e ∧ isNone lo = false ∧ PE X e (tX X.K T G lo)) : PO X l (tO X.K T G lo) := by
  unfold tO
  rcases h with ⟨rfl, h⟩ | ⟨e, rfl, h, he⟩
  · rw [if_pos h]; exact po_none
  · rw [if_neg (by rw [h]; simp)]; exact po_some he
theorem tO_of {K : Frag} {lo : E} {σ : L2.St} {F H : Hp} {ρ ρ1 : Ro} {fp : Nat → As} {l : PV} {l' : PyData} {oi : Option Int} {R : Option Int → Hp → Prop} (s : St K F H σ ρ fp) (h1 : den T G lo ρ = .ok (l, ρ1)) (h2 : l.fz = .ok l') (h3 : optI lo l' = .ok oi)
    (k : ∀ H' F' fp', St K F' H' σ ρ1 fp' → Xt F H fp F' H' fp' → R oi H') : tO K T G lo σ H R := by
  unfold tO
  by_cases hn : isNone lo = true
  · rw [if_pos hn]
    cases lo <;> first | cases hn | skip
    simp only [den] at h1
    cases h1
    cases h2
    cases h3
    exact k H F fp s (Xt.refl s.le)
  · rw [if_neg hn]
    refine ⟨F, ρ, fp, l, ρ1, s, h1, fun v H' F' fp' P' s' t' hh _ => ?_⟩
    cases l' with
    | int i =>
      cases h3
      exact ⟨i, (hh.ow.opd h2).int_inv, k H' F' fp' s' t'⟩
    | none =>
      unfold optI at h3
      rw [if_neg hn] at h3
      cases h3
    | _ => cases h3
theorem s_sl {x lo hi : E} {a : Expr} {l h : Option Expr} {p2 pos : Pos} (ha : PE X a (tX X.K T G x)) (hl : PO X l (tO X.K T G lo)) (hh : PO X h (tO X.K T G hi)) : PE X (.Subscript a (.Slice l h none p2) pos) (tX X.K T G (.sl x lo hi)) :=
  (pe_slice sl_any ha hl hh).mono fun σ H Q ⟨F, ρ, fp, z, ρ', s, hd, k⟩ => by
    simp only [den] at hd
    obtain ⟨⟨x1, ρ1⟩, h1, hd⟩ := Res.bind_inv hd
    obtain ⟨⟨x2, ρ2⟩, h2, hd⟩ := Res.bind_inv hd
    obtain ⟨⟨x3, ρ3⟩, h3, hd⟩ := Res.bind_inv hd
    obtain ⟨d1, g1, hd⟩ := Res.bind_inv hd
    obtain ⟨d2, g2, hd⟩ := Res.bind_inv hd
    obtain ⟨d3, g3, hd⟩ := Res.bind_inv hd
    obtain ⟨o2, g4, hd⟩ := Res.bind_inv hd
    obtain ⟨o3, g5, hd⟩ := Res.bind_inv hd
    obtain ⟨w, g6, hd⟩ := Res.bind_inv hd
    cases hd
    refine ⟨F, ρ, fp, x1, ρ1, s, h1, fun v H1 F1 fp1 P1 s1 t1 hd1 sub1 => ?_⟩
    refine tO_of s1 h2 g2 g4 fun H2 F2 fp2 s2 t2 => tO_of s2 h3 g3 g5 fun H3 F3 fp3 s3 t3 => ?_
    exact sl_rs s3.le (((hd1.keep t2).keep t3).ow.opd g1) g6 fun v' F' H' r => fin k s3 ((t1.trans t2).trans t3) r
theorem maxI_spec : ∀ (r : List Int) (m : Int), maxI m r ∈ m :: r ∧ ∀ y ∈ m :: r, y ≤ maxI m r
  | [], m => ⟨List.mem_cons_self, fun y hy => by simp at hy; rw [hy]; exact Int.le_refl _⟩
  | x :: r, m => by
    obtain ⟨h1, h2⟩ := maxI_spec r (if x > m then x else m)
    unfold maxI
    generalize maxI (if x > m then x else m) r = w at h1 h2 ⊢
    refine ⟨?_, fun y hy => ?_⟩
    · rcases List.mem_cons.mp h1 with q | q
      · rw [q]; split <;> simp
      · exact List.mem_cons_of_mem _ (List.mem_cons_of_mem _ q)
    · have hm := h2 _ List.mem_cons_self
      rcases List.mem_cons.mp hy with q | q
      · subst q; split at hm <;> omega
      · rcases List.mem_cons.mp q with q | q
        · subst q; split at hm <;> omega
        · exact h2 y (List.mem_cons_of_mem _ q)
theorem minI_spec : ∀ (r : List Int) (m : Int), minI m r ∈ m :: r ∧ ∀ y ∈ m :: r, minI m r ≤ y
  | [], m => ⟨List.mem_cons_self, fun y hy => by simp at hy; rw [hy]; exact Int.le_refl _⟩
  | x :: r, m => by
    obtain ⟨h1, h2⟩ := minI_spec r (if x < m then x else m)
    unfold minI
    generalize minI (if x < m then x else m) r = w at h1 h2 ⊢
    refine ⟨?_, fun y hy => ?_⟩
    · rcases List.mem_cons.mp h1 with q | q
      · rw [q]; split <;> simp
      · exact List.mem_cons_of_mem _ (List.mem_cons_of_mem _ q)
    · have hm := h2 _ List.mem_cons_self
      rcases List.mem_cons.mp hy with q | q
      · subst q; split at hm <;> omega
      · rcases List.mem_cons.mp q with q | q
        · subst q; split at hm <;> omega
        · exact h2 y (List.mem_cons_of_mem _ q)
abbrev R1 := List V → Hp → VK → Prop
def rLen (K : Frag) : R1 := fun xs H Q => (∃ p ys, xs = [.ref p] ∧ (SqL K H p ys ∨ SqT K H p ys) ∧ Q (.int ys.length) H) ∨ ∃ z, xs = [.str z] ∧ z.length ≤ sizeLine ∧ Q (.int z.length) H
theorem c_len : CallR X (.builtin "len") (rLen X.K) := call_len_seq.or call_len_str
def rMax12 (K : Frag) : R1 := fun xs H Q => (∃ i j, xs = [.int i, .int j] ∧ Q (.int (if j > i then j else i)) H) ∨ rMax K xs H Q
def rMin12 (K : Frag) : R1 := fun xs H Q => (∃ i j, xs = [.int i, .int j] ∧ Q (.int (if j < i then j else i)) H) ∨ rMin K xs H Q
theorem c_max (hc : X.calm = true) : CallR X (.builtin "max") (rMax12 X.K) := (call_max2 hc).or (cr_max hc)
theorem c_min (hc : X.calm = true) : CallR X (.builtin "min") (rMin12 X.K) := (call_min2 hc).or (cr_min hc)
def boolsV {K : Frag} {F : Hp} : ∀ {vs : List V} {xs : List PyData} {ns : List Bool}, Rps K F vs xs → boolsOf xs = some ns → vs = ns.map V.bl
  | _, _, _, .nil, h => by cases h; rfl
  | _, _, ns, .cons (d := d) a b, h => by
    cases a with
    | bl i =>
      simp only [boolsOf] at h
      cases q : boolsOf _ with
      | none => rw [q] at h; cases h
      | some r =>
        rw [q] at h
        cases h
        rw [boolsV b q]; rfl
    | _ => cases h
def rMaxA (K : Frag) : R1 := fun xs H Q => rMax12 K xs H Q ∨ rNuC3 nuMax3 xs H Q
def rMinA (K : Frag) : R1 := fun xs H Q => rMin12 K xs H Q ∨ rNuC3 nuMin3 xs H Q
theorem c_maxA (hc : X.calm = true) : CallR X (.builtin "max") (rMaxA X.K) := (c_max hc).or (call_max3Nu hc)
theorem c_minA (hc : X.calm = true) : CallR X (.builtin "min") (rMinA X.K) := (c_min hc).or (call_min3Nu hc)
theorem nu_max2 (i j : Int) : nuMax2 (.int i) (.int j) = some (.int (if j > i then j else i)) := by
  show some (if decide (i < j) = true then V.int j else V.int i) = _
  by_cases h : i < j <;> simp [h]
theorem nu_min2 (i j : Int) : nuMin2 (.int i) (.int j) = some (.int (if j < i then j else i)) := by
  show some (if decide (j < i) = true then V.int j else V.int i) = _
  by_cases h : j < i <;> simp [h]
theorem nu_max3 (i j k : Int) : nuMax3 (.int i) (.int j) (.int k) = some (.int (if k > (if j > i then j else i) then k else (if j > i then j else i))) := by
  unfold nuMax3
  rw [nu_max2]
  exact nu_max2 _ _
theorem nu_min3 (i j k : Int) : nuMin3 (.int i) (.int j) (.int k) = some (.int (if k < (if j < i then j else i) then k else (if j < i then j else i))) := by
  unfold nuMin3
  rw [nu_min2]
  exact nu_min2 _ _
/-- what a built-in's reading asks -/
def rBi (K : Frag) : Bi → R1
  | .len => rLen K
  | .max => rMaxA K
  | .min => rMinA K
  | .all => rAll K
  | .any => rAny K
  | .abs => fun xs H Q => ∃ i, xs = [.int i] ∧ Q (.int (if i < 0 then -i else i)) H
  | .int => fun xs H Q => ((∃ i, xs = [.int i] ∧ Q (.int i) H) ∨ ∃ k, xs = [.bl k] ∧ Q (.int (if k then 1 else 0)) H) ∨ ∃ a n, xs = [.str a] ∧ PySem.intText? a = some n ∧ a.length ≤ 640 ∧ Q (.int n) H
  | .str => fun xs H Q => ∃ i, xs = [.int i] ∧ i.natAbs.log2 < 1920 ∧ Q (.str (toString i)) H
  | .list => fun xs H Q => ∃ p ys, xs = [.ref p] ∧ (SqL K H p ys ∨ SqT K H p ys) ∧ ∀ l, H l = none → Q (.ref l) (upd H l (.lst ys))
  | .tuple => fun xs H Q => ∃ p ys, xs = [.ref p] ∧ ((SqL K H p ys ∧ ∀ l, H l = none → Q (.ref l) (upd H l (.tup ys))) ∨ (SqT K H p ys ∧ Q (.ref p) H))
  | .sum => rSum K
  | .sorted => fun xs H Q => rSortedI K xs H Q ∨ RT2.rSortedT K xs H Q
  | _ => fun _ _ _ => False
theorem Opds.three {K : Frag} {F H : Hp} {x y z : PyData} {vs : List V} (h : Opds K F H vs [x, y, z]) : ∃ v w u, vs = [v, w, u] ∧ Opd K F H v x ∧ Opd K F H w y ∧ Opd K F H u z := by
  cases h with
  | cons h r =>
    cases r with
    | cons h2 r =>
      cases r with
      | cons h3 r => cases r; exact ⟨_, _, _, rfl, h, h2, h3⟩
theorem insI_perm (x : Int) : ∀ l : List Int, (insI x l).Perm (x :: l)
  | [] => .refl _
  | y :: r => by
    rw [insI]
    split
    · exact .refl _
    · exact ((insI_perm x r).cons y).trans (.swap x y r)
theorem sortI_perm : ∀ l : List Int, (sortI l).Perm l
  | [] => .refl _
  | x :: r => (insI_perm x (sortI r)).trans ((sortI_perm r).cons x)
theorem insI_srt (x : Int) : ∀ l : List Int, l.Pairwise (· ≤ ·) → (insI x l).Pairwise (· ≤ ·)
  | [], _ => by simp [insI]
  | y :: r, h => by
    rw [insI]
    obtain ⟨h1, h2⟩ := List.pairwise_cons.mp h
    split
    · rename_i hx
      refine List.pairwise_cons.mpr ⟨fun z hz => ?_, h⟩
      rcases List.mem_cons.mp hz with rfl | hz
      · exact hx
      · exact Int.le_trans hx (h1 z hz)
    · rename_i hx
      refine List.pairwise_cons.mpr ⟨fun z hz => ?_, insI_srt x r h2⟩
      rcases List.mem_cons.mp ((insI_perm x r).mem_iff.mp hz) with rfl | hz
      · omega
      · exact h1 z hz
theorem sortI_srt : ∀ l : List Int, (sortI l).Pairwise (· ≤ ·)
  | [] => .nil
  | x :: r => insI_srt x _ (sortI_srt r)
theorem srt_uniq : ∀ {l m : List Int}, l.Perm m → l.Pairwise (· ≤ ·) → m.Pairwise (· ≤ ·) → l = m
  | [], m, h, _, _ => (List.Perm.nil_eq h)
  | x :: l, [], h, _, _ => by have := h.length_eq; simp at this
  | x :: l, y :: m, h, h1, h2 => by
    obtain ⟨a1, a2⟩ := List.pairwise_cons.mp h1
    obtain ⟨b1, b2⟩ := List.pairwise_cons.mp h2
    have e : x = y := by
      have u : x ∈ y :: m := h.mem_iff.mp (by simp)
      have v : y ∈ x :: l := h.mem_iff.mpr (by simp)
      rcases List.mem_cons.mp u with u | u
      · exact u
      · rcases List.mem_cons.mp v with v | v
        · exact v.symm
        · have := a1 y v
          have := b1 x u
          omega
    subst e
    rw [srt_uniq h.cons_inv a2 b2]
theorem rps_ints0 {K : Frag} {F : Hp} : ∀ ns : List Int, Rps K F (ns.map V.int) (ns.map PyData.int)
  | [] => .nil
  | n :: ns => .cons (.int n) (rps_ints0 ns)
theorem kis_rps {K : Frag} {F : Hp} : ∀ {items : List V} {ds : List PyData} {l : List RT2.KI} {sh : Nat → Bool} {i : Nat}, Rps K F items ds → kisOf ds = some l → (∀ j k, l[j]? = some k → sh (i + j) = isR k) → RT2.keysV sh i items = some l
  | _, _, l, sh, i, .nil, h, _ => by cases h; rfl
  | _, _, l, sh, i, .cons (v := v) (d := d) (ds := ds) hv hr, h, hs => by
    unfold kisOf at h
    split at h
    · rename_i k ks h1 h2
      cases h
      have h0 : sh i = isR k := hs 0 k rfl
      have ih := kis_rps (sh := sh) (i := i + 1) hr h2 fun j k' hj => by
        have := hs (j + 1) k' hj
        rwa [show i + (j + 1) = i + 1 + j by omega] at this
      cases d with
      | int n =>
        cases h1
        obtain rfl := hv.int_inv
        unfold RT2.keysV
        rw [h0, if_neg (show ¬ isR (Sum.inl n) = true from Bool.false_ne_true), ih]; rfl
      | str x =>
        cases h1
        obtain rfl := hv.str_inv
        unfold RT2.keysV
        rw [h0, if_pos (show isR (Sum.inr x.cps.toList) = true from rfl), ih]; rfl
      | _ => cases h1
    · cases h
theorem tupsOk_mem {sh : List Bool} : ∀ {xs : List PyData}, tupsOk sh xs = true → ∀ d ∈ xs, ∃ l, keyT d = some l ∧ l.map isR = sh
  | [], _, _, hd => by cases hd
  | x :: r, h, d, hd => by
    unfold tupsOk at h
    obtain ⟨h1, h2⟩ := Bool.and_eq_true_iff.mp h
    rcases List.mem_cons.mp hd with rfl | hd
    · split at h1
      · rename_i k hk; exact ⟨k, hk, of_decide_eq_true h1⟩
      · cases h1
    · exact tupsOk_mem h2 d hd
theorem rps_zip {K : Frag} {F : Hp} : ∀ L : List (V × PyData), (∀ p ∈ L, Rp K F p.1 p.2) → Rps K F (L.map (·.1)) (L.map (·.2))
  | [], _ => .nil
  | p :: L, h => .cons (h p List.mem_cons_self) (rps_zip L fun q hq => h q (List.mem_cons_of_mem _ hq))
theorem rps_mem {K : Frag} {F : Hp} : ∀ {vs : List V} {ds : List PyData}, Rps K F vs ds → ∀ p ∈ vs.zip ds, Rp K F p.1 p.2
  | _, _, .nil, p, h => by cases h
  | _, _, .cons a b, p, h => by
    rw [List.zip_cons_cons] at h
    rcases List.mem_cons.mp h with rfl | h
    · exact a
    · exact rps_mem b p h
theorem srt_tups {K : Frag} {F H : Hp} {a : Addr} {ys : List V} {xs : List PyData} {Q : VK} (e : Ex F H) (e2 : RdL K H a ys) (e3 : Rps K F ys xs) (hok : tupsOk (shOf xs) xs = true) (k : ∀ v' F' H', Rs K F H F' H' v' (.L (sortT xs)) → Q v' H') : RT2.rSortedT K [.ref a] H Q := by
  have tup : ∀ (v : V) (d : PyData), Rp K F v d → d ∈ xs → ∃ (t : Addr) (items : List V), v = .ref t ∧ SqT K H t items ∧ items ≠ [] ∧ RT2.keysV (fun j => (shOf xs)[j]? == some true) 0 items = some (keyTD d) := fun v d hv hd => by
    obtain ⟨l, hl, hsh⟩ := tupsOk_mem hok d hd
    cases d with
    | tuple ds =>
      cases ds with
      | nil => cases hl
      | cons d ds =>
        obtain ⟨t, items, rfl, h1, h2⟩ := hv.tup_inv
        have hne : items ≠ [] := fun z => by
          rw [z] at h2
          cases h2
        refine ⟨t, items, rfl, ex_t e h1, hne, ?_⟩
        have hk : keyTD (.tuple (d :: ds)) = l := by unfold keyTD; rw [hl]; rfl
        rw [hk]
        refine kis_rps h2 hl fun j k hj => ?_
        rw [← hsh, Nat.zero_add, List.getElem?_map, hj]
        cases k <;> rfl
    | _ => cases hl
  have pm := rps_mem e3
  have hlen := e3.length
  refine ⟨a, ys, fun j => (shOf xs)[j]? == some true, rfl, e2.sq, fun v hv => ?_, fun key p hkey hp => ?_⟩
  · obtain ⟨i, hi, rfl⟩ := List.mem_iff_getElem.mp hv
    have hm : (ys[i], xs[i]) ∈ ys.zip xs := by
      rw [List.mem_iff_getElem]
      exact ⟨i, by rw [List.length_zip]; omega, by rw [List.getElem_zip]⟩
    obtain ⟨t, items, h1, h2, h3, h4⟩ := tup _ _ (pm _ hm) (List.getElem_mem _)
    exact ⟨t, items, _, h1, h2, h3, h4⟩
  · have hk : ∀ q ∈ ys.zip xs, key q.1 = keyTD q.2 := fun q hq => by
      obtain ⟨m1, m2⟩ := List.of_mem_zip (show (q.1, q.2) ∈ ys.zip xs from hq)
      obtain ⟨t, items, h1, h2, h3, h4⟩ := tup _ _ (pm _ hq) m2
      rw [h1] at m1 ⊢
      exact hkey t items _ m1 h2 h4
    have z1 : ((ys.zip xs).mergeSort fun p q => leT p.2 q.2).map (·.2) = sortT xs := by
      unfold sortT
      rw [List.map_mergeSort (s := leT) (fun _ _ _ _ => rfl), List.map_snd_zip (by omega)]
    have z2 : ((ys.zip xs).mergeSort fun p q => leT p.2 q.2).map (·.1) = ys.mergeSort (RT2.leV key) := by
      rw [List.map_mergeSort (s := RT2.leV key) (fun p hp q hq => by
        show (!RT2.kLt (keyTD q.2) (keyTD p.2)) = !RT2.kLt (key q.1) (key p.1)
        rw [hk p hp, hk q hq]), List.map_fst_zip (by omega)]
    have r := rps_zip ((ys.zip xs).mergeSort fun p q => leT p.2 q.2) fun p hp => pm p ((List.mergeSort_perm _ _).mem_iff.mp hp)
    rw [z1, z2] at r
    exact k _ _ _ (Rs.newL e hp r)
theorem bi_rs {K : Frag} {F H : Hp} {vs : List V} {ys : List PyData} {z : PV} {Q : VK} (b : Bi) (e : Ex F H) (h : Opds K F H vs ys) (hz : biS b ys = .ok z) (k : ∀ v' F' H', Rs K F H F' H' v' z → Q v' H') : rBi K b vs H Q := by
  unfold biS at hz
  split at hz
  · cases hz
    obtain ⟨v, rfl, h1⟩ := h.one
    obtain ⟨a, ys, rfl, e2, e3⟩ := h1.lst_inv e
    exact .inl ⟨a, ys, rfl, .inl e2.sq, by rw [e3.length]; exact rs_int e k⟩
  · cases hz
    obtain ⟨v, rfl, h1⟩ := h.one
    obtain ⟨a, ys, rfl, e2, e3⟩ := h1.tup_inv e
    exact .inl ⟨a, ys, rfl, .inr e2, by rw [e3.length]; exact rs_int e k⟩
  · obtain ⟨_, g, hz⟩ := Res.bind_inv hz
    cases hz
    obtain ⟨v, rfl, h1⟩ := h.one
    obtain rfl := h1.str_inv
    exact .inr ⟨_, rfl, mil (of_decide_eq_true (Res.guard_inv g)), rs_int e k⟩
  · cases hz
    obtain ⟨v, w, rfl, h1, h2⟩ := h.two
    obtain rfl := h1.int_inv
    obtain rfl := h2.int_inv
    exact .inl (.inl ⟨_, _, rfl, rs_int e k⟩)
  · cases hz
    obtain ⟨v, w, rfl, h1, h2⟩ := h.two
    obtain rfl := h1.int_inv
    obtain rfl := h2.int_inv
    exact .inl (.inl ⟨_, _, rfl, rs_int e k⟩)
  · split at hz
    · rename_i m r hi
      cases hz
      obtain ⟨v, rfl, h1⟩ := h.one
      obtain ⟨a, ys, rfl, e2, e3⟩ := h1.lst_inv e
      have hy := intsV e3 hi
      subst hy
      refine .inl (.inr ⟨a, _, rfl, e2.sq, by simp, fun m' hm hle => ?_⟩)
      obtain ⟨q1, q2⟩ := maxI_spec r m
      have : m' = maxI m r := by
        have h1 := hle _ q1
        have h2 := q2 _ hm
        omega
      rw [this]; exact rs_int e k
    · cases hz
  · split at hz
    · rename_i m r hi
      cases hz
      obtain ⟨v, rfl, h1⟩ := h.one
      obtain ⟨a, ys, rfl, e2, e3⟩ := h1.lst_inv e
      have hy := intsV e3 hi
      subst hy
      refine .inl (.inr ⟨a, _, rfl, e2.sq, by simp, fun m' hm hle => ?_⟩)
      obtain ⟨q1, q2⟩ := minI_spec r m
      have : m' = minI m r := by
        have h1 := hle _ q1
        have h2 := q2 _ hm
        omega
      rw [this]; exact rs_int e k
    · cases hz
  · cases hz
    obtain ⟨v, rfl, h1⟩ := h.one
    obtain rfl := h1.int_inv
    exact ⟨_, rfl, rs_int e k⟩
  · cases hz
    obtain ⟨v, rfl, h1⟩ := h.one
    obtain rfl := h1.int_inv
    exact .inl (.inl ⟨_, rfl, rs_int e k⟩)
  · cases hz
    obtain ⟨v, rfl, h1⟩ := h.one
    obtain rfl := h1.bl_inv
    exact .inl (.inr ⟨_, rfl, rs_int e k⟩)
  · obtain ⟨_, g, hz⟩ := Res.bind_inv hz
    cases hz
    obtain ⟨v, rfl, h1⟩ := h.one
    obtain rfl := h1.int_inv
    exact ⟨_, rfl, of_decide_eq_true (Res.guard_inv g), rs_str e k⟩
  · cases hz
    obtain ⟨v, rfl, h1⟩ := h.one
    obtain ⟨a, ys, rfl, e2, e3⟩ := h1.lst_inv e
    exact ⟨a, ys, rfl, .inl e2.sq, fun l hl => k _ _ _ (Rs.newL e hl e3)⟩
  · cases hz
    obtain ⟨v, rfl, h1⟩ := h.one
    obtain ⟨a, ys, rfl, e2, e3⟩ := h1.tup_inv e
    exact ⟨a, ys, rfl, .inr e2, fun l hl => k _ _ _ (Rs.newL e hl e3)⟩
  · cases hz
    obtain ⟨v, rfl, h1⟩ := h.one
    obtain ⟨a, ys, rfl, e2, e3⟩ := h1.lst_inv e
    exact ⟨a, ys, rfl, .inl ⟨e2.sq, fun l hl => k _ _ _ (Rs.newT e hl e3)⟩⟩
  · cases hz
    obtain ⟨v, rfl, h1⟩ := h.one
    obtain ⟨a, ys, rfl, e2, e3⟩ := h1.tup_inv e
    refine ⟨a, ys, rfl, .inr ⟨e2, ?_⟩⟩
    cases h1 with
    | d h => exact k _ F H (Rs.same e h)
  · split at hz
    · rename_i hi
      cases hz
      obtain ⟨v, rfl, h1⟩ := h.one
      obtain ⟨a, ys, rfl, e2, e3⟩ := h1.lst_inv e
      have hy := intsV e3 hi
      subst hy
      exact ⟨a, _, rfl, e2.sq, rs_int e k⟩
    · cases hz
  · cases hz
    obtain ⟨v, w, u, rfl, h1, h2, h3⟩ := h.three
    obtain rfl := h1.int_inv
    obtain rfl := h2.int_inv
    obtain rfl := h3.int_inv
    exact .inr ⟨_, _, _, _, rfl, nu_max3 _ _ _, rs_int e k⟩
  · cases hz
    obtain ⟨v, w, u, rfl, h1, h2, h3⟩ := h.three
    obtain rfl := h1.int_inv
    obtain rfl := h2.int_inv
    obtain rfl := h3.int_inv
    exact .inr ⟨_, _, _, _, rfl, nu_min3 _ _ _, rs_int e k⟩
  · split at hz
    · rename_i hi
      cases hz
      obtain ⟨v, rfl, h1⟩ := h.one
      obtain ⟨a, ys, rfl, e2, e3⟩ := h1.lst_inv e
      have hy := boolsV e3 hi
      subst hy
      exact ⟨a, _, rfl, e2.sq, rs_bl e k⟩
    · cases hz
  · split at hz
    · rename_i hi
      cases hz
      obtain ⟨v, rfl, h1⟩ := h.one
      obtain ⟨a, ys, rfl, e2, e3⟩ := h1.lst_inv e
      have hy := boolsV e3 hi
      subst hy
      exact ⟨a, _, rfl, e2.sq, rs_bl e k⟩
    · cases hz
  · split at hz
    · rename_i ns hi
      cases hz
      obtain ⟨v, rfl, h1⟩ := h.one
      obtain ⟨a, ys, rfl, e2, e3⟩ := h1.lst_inv e
      have hy := intsV e3 hi
      subst hy
      refine .inl ⟨a, ns, rfl, e2.sq, fun ns' q hp hs hq => ?_⟩
      rw [srt_uniq (hp.trans (sortI_perm ns).symm) hs (sortI_srt ns)]
      exact k _ _ _ (Rs.newL e hq (rps_ints0 _))
    · split at hz
      · rename_i hok
        cases hz
        obtain ⟨v, rfl, h1⟩ := h.one
        obtain ⟨a, ys, rfl, e2, e3⟩ := h1.lst_inv e
        exact .inr (srt_tups e e2 e3 hok k)
      · cases hz
  · split at hz
    · rename_i hi
      obtain ⟨_, g, hz⟩ := Res.bind_inv hz
      cases hz
      obtain ⟨v, rfl, h1⟩ := h.one
      obtain rfl := h1.str_inv
      exact .inr ⟨_, _, rfl, hi, of_decide_eq_true (Res.guard_inv g), rs_int e k⟩
    · cases hz
  · cases hz
theorem le_bi {as : E} (b : Bi) (hn : noIo as = true) : ∀ σ H Q, tX X.K T G (.bi b as) σ H Q → tCB (rBi X.K b) (tA X.K T G as) σ H Q := fun σ H Q ⟨F, ρ, fp, z, ρ', s, hd, k⟩ => by
  simp only [den] at hd
  obtain ⟨⟨xs, ρ1⟩, h1, hd⟩ := Res.bind_inv hd
  obtain ⟨ys, h2, hd⟩ := Res.bind_inv hd
  obtain ⟨w, h3, hd⟩ := Res.bind_inv hd
  cases hd
  exact ⟨F, ρ, fp, xs, _, s, h1, fun vs H1 F1 fp1 P1 s1 t1 hd1 sub => bi_rs b s1.le (hd1.ow.opds hn h2) h3 fun v' F' H' r => fin k s1 t1 r⟩
theorem plain_tail {env : Env} {pos : Pos} : ∀ {es : List Expr}, es.all noStar = true → (backTo pos (starEach es env)).any (·.1) = false := by
  intro es
  induction es with
  | nil => intro _; rfl
  | cons e es ih =>
    intro h
    rw [List.all_cons, Bool.and_eq_true] at h
    rw [star_ok h.1]
    show (false || (backTo pos (starEach es env)).any (·.1)) = false
    rw [ih h.2] <;> rfl
include o in
theorem s_lrev {e : E} {f g : Str} {l : Expr} {p p2 pos pos2 : Pos} (he : PE X l (tX X.K T G e)) (hs : noStar l = true) (hf : f = "list") (hgf : glo sc f = true) (hg : g = "reversed") (hgg : glo sc g = true) :
    PE X (.Call (.Name f p) [.Call (.Name g p2) [l] [] pos2] [] pos) (tX X.K T G (.lrev e)) := by
  obtain ⟨f1, f2, f3⟩ := glo_ok o hgf
  obtain ⟨g1, g2, g3⟩ := glo_ok o hgg
  subst hf
  subst hg
  refine (RX.pe_listRev o.calm f1 (o.blt _ (by decide +kernel)) g1 (o.blt _ (by decide +kernel)) he (star_ok hs) rfl).mono fun σ H Q ⟨F, ρ, fp, z, ρ', s, hd, k⟩ => ?_
  simp only [den] at hd
  obtain ⟨⟨x1, ρ1⟩, h1, hd⟩ := Res.bind_inv hd
  obtain ⟨d1, h2, hd⟩ := Res.bind_inv hd
  dsimp only at hd
  split at hd
  · cases hd
    refine ⟨F, ρ, fp, x1, _, s, h1, fun v H1 F1 fp1 P1 s1 t1 hd1 sub => ?_⟩
    obtain ⟨a, ys, rfl, e2, e3⟩ := (hd1.ow.opd h2).lst_inv s1.le
    exact ⟨a, ys, rfl, e2.sq, fun q hq => fin k s1 t1 (Rs.newL s1.le hq e3.reverse)⟩
  · cases hd
include o in
theorem s_bi {b : Bi} {as : E} {x : Str} {p pos : Pos} {es : List Expr} (ha : PA X es (tA X.K T G as)) (hl : es.length = alen as) (hs : es.all noStar = true) (hx : x = biName b) (hg : glo sc x = true) (hn : noIo as = true) (hb : biOk b (alen as) = true) : PE X (.Call (.Name x p) es [] pos) (tX X.K T G (.bi b as)) := by
  obtain ⟨g1, g2, g3⟩ := glo_ok o hg
  cases es with
  | nil =>
    rw [← hl] at hb
    cases b <;> cases hb
  | cons e es =>
    rw [List.all_cons, Bool.and_eq_true] at hs
    have he : starEach (e :: es) X.env = (false, eval e X.env) :: starEach es X.env := star_ok hs.1
    have hpl : (backTo pos (starEach es X.env)).any (·.1) = false := plain_tail hs.2
    subst hx
    cases b
    case len => exact (pe_callB c_len g1 (o.blt _ (by decide +kernel)) (by decide +kernel) ha g3 g2 he hpl).mono (le_bi _ hn)
    case max => exact (pe_callB (c_maxA o.calm) g1 (o.blt _ (by decide +kernel)) (by decide +kernel) ha g3 g2 he hpl).mono (le_bi _ hn)
    case min => exact (pe_callB (c_minA o.calm) g1 (o.blt _ (by decide +kernel)) (by decide +kernel) ha g3 g2 he hpl).mono (le_bi _ hn)
    case abs => exact (pe_callB call_abs g1 (o.blt _ (by decide +kernel)) (by decide +kernel) ha g3 g2 he hpl).mono (le_bi _ hn)
    case int => exact (pe_callTy (call_int1.or call_int_str) g1 (o.blt _ (by decide +kernel)) (by decide +kernel) ha g3 g2 he hpl).mono (le_bi _ hn)
    case str => exact (pe_callTy call_str_int g1 (o.blt _ (by decide +kernel)) (by decide +kernel) ha g3 g2 he hpl).mono (le_bi _ hn)
    case list => exact (pe_callTy call_list_of g1 (o.blt _ (by decide +kernel)) (by decide +kernel) ha g3 g2 he hpl).mono (le_bi _ hn)
    case tuple => exact (pe_callTy call_tuple_of g1 (o.blt _ (by decide +kernel)) (by decide +kernel) ha g3 g2 he hpl).mono (le_bi _ hn)
    case all => exact (pe_callB (cr_all o.calm) g1 (o.blt _ (by decide +kernel)) (by decide +kernel) ha g3 g2 he hpl).mono (le_bi _ hn)
    case any => exact (pe_callB (cr_any o.calm) g1 (o.blt _ (by decide +kernel)) (by decide +kernel) ha g3 g2 he hpl).mono (le_bi _ hn)
    case sorted => exact (pe_callB (CallR.or cr_sortedI RT2.cr_sortedT) g1 (o.blt _ (by decide +kernel)) (by decide +kernel) ha g3 g2 he hpl).mono (le_bi _ hn)
    case sum => exact (pe_callB (cr_sum o.calm) g1 (o.blt _ (by decide +kernel)) (by decide +kernel) ha g3 g2 he hpl).mono (le_bi _ hn)
    all_goals (cases hb)
end
end Rf
set_option maxRecDepth 100000
set_option maxHeartbeats 4000000
namespace Rf
open PySem PySem.Spec PyProof.Rows L2 Evl
def At (as : E) (j i : Nat) : Prop := (ios as)[j]? = some (some i)
theorem fm_some {i : Nat} {l : List (Option Nat)} : (some i :: l).filterMap id = i :: l.filterMap id := rfl
theorem fm_none {l : List (Option Nat)} : ((none : Option Nat) :: l).filterMap id = l.filterMap id := rfl
theorem ios_io {i : Nat} {r : E} : ios (.cons (.io i) r) = some i :: ios r := rfl
theorem ios_cons {a r : E} (h : ∀ i, a ≠ .io i) : ios (.cons a r) = none :: ios r := by
  cases a <;> first | rfl | exact absurd rfl (h _)
section
variable {K : Frag} {F H : Hp} {σ : L2.St} {ρ : Ro} {fp : Nat → As}
theorem Args.at : ∀ {as : E} {vs : List V} {xs : List PV} {P : As}, Args K F H σ ρ as vs xs P → ∀ {j i : Nat}, At as j i → ∃ v, vs[j]? = some v ∧ σ[i]? = some (some v)
  | _, _, _, _, .nil, j, i, h => by
    unfold At at h
    simp [ios] at h
  | _, _, _, _, .io h1 h2 r, 0, i, h => by
    unfold At at h
    rw [ios_io] at h
    simp at h
    subst h
    exact ⟨_, rfl, h1⟩
  | _, _, _, _, .io h1 h2 r, j + 1, i, h => by
    unfold At at h
    rw [ios_io] at h
    obtain ⟨v, e1, e2⟩ := Args.at r (j := j) (i := i) (by unfold At; simpa using h)
    exact ⟨v, by simpa using e1, e2⟩
  | _, _, _, _, .cons hn h2 r h3, 0, i, h => by
    unfold At at h
    rw [ios_cons hn] at h
    simp at h
  | _, _, _, _, .cons hn h2 r h3, j + 1, i, h => by
    unfold At at h
    rw [ios_cons hn] at h
    obtain ⟨v, e1, e2⟩ := Args.at r (j := j) (i := i) (by unfold At; simpa using h)
    exact ⟨v, by simpa using e1, e2⟩
theorem at_tail_io {i0 : Nat} {r : E} {j i : Nat} (h : At r j i) : At (.cons (.io i0) r) (j + 1) i := by
  unfold At at h ⊢
  rw [ios_io]; simpa using h
theorem at_tail {a r : E} (hn : ∀ i, a ≠ .io i) {j i : Nat} (h : At r j i) : At (.cons a r) (j + 1) i := by
  unfold At at h ⊢
  rw [ios_cons hn]; simpa using h
/-- the arguments as the callee's names -/
theorem Args.state : ∀ {as : E} {vs : List V} {xs : List PV} {P : As}, Args K F H σ ρ as vs xs P → St K F H σ ρ fp → ((ios as).filterMap id).Nodup → (∀ a, P a → F a = none) → (∀ a, P a → Mu (H a)) → (∀ a, P a → ∀ i, ¬ fp i a) →
    ∃ ap, St K F H (vs.map some) (xs.map some) ap ∧ (∀ j a, ap j a → (∃ i, At as j i ∧ fp i a) ∨ P a)
  | _, _, _, _, .nil, s, _, _, _, _ => by
    refine ⟨fun _ => none0, ⟨s.le, rfl, fun i x h => ?_, fun _ _ _ z => z.elim, fun _ _ z => z.elim, fun _ _ z => z.elim⟩, fun _ _ z => z.elim⟩
    unfold getRo at h; simp at h
  | _, _, _, _, .io (i := i) (v := v) (x := x) (r := r0) (vs := vs) (xs := xs) (P := P) h1 h2 r, s, nd, nf, kn, dj => by
    rw [ios_io, fm_some] at nd
    obtain ⟨hni, nd'⟩ := List.nodup_cons.mp nd
    obtain ⟨ap, s', sub⟩ := Args.state r s nd' nf kn dj
    have apart : ∀ j a, fp i a → ¬ ap j a := fun j a h3 h4 => by
      rcases sub j a h4 with ⟨i', hi', h5⟩ | h5
      · have := s.dj i i' a h3 h5
        subst this
        exact hni (List.mem_filterMap.mpr ⟨some i, List.mem_of_getElem? hi', rfl⟩)
      · exact dj a h5 i h3
    refine ⟨fun j => match j with | 0 => fp i | j + 1 => ap j, ⟨s.le, by simp [s'.len] <;> (have := s'.len; simpa using this), ?_, ?_, ?_, ?_⟩, ?_⟩
    · intro j y h
      cases j with
      | zero =>
        have hy : x = y := by simpa [getRo] using h
        subst hy
        obtain ⟨v', e1, e2⟩ := s.ow i x h2
        rw [h1] at e1
        cases e1
        exact ⟨v, rfl, e2⟩
      | succ j =>
        obtain ⟨v', e1, e2⟩ := s'.ow j y (by simpa [getRo] using h)
        exact ⟨v', by simpa using e1, e2⟩
    · intro j k a h3 h4
      cases j <;> cases k
      · rfl
      · exact absurd h4 (apart _ a h3)
      · exact absurd h3 (apart _ a h4)
      · rw [s'.dj _ _ a h3 h4]
    · intro j a h3
      cases j
      · exact s.kn i a h3
      · exact s'.kn _ a h3
    · intro j a h3
      cases j
      · exact s.nf i a h3
      · exact s'.nf _ a h3
    · intro j a h3
      cases j with
      | zero => exact .inl ⟨i, by unfold At; rw [ios_io]; rfl, h3⟩
      | succ j =>
        rcases sub j a h3 with ⟨i', hi', h5⟩ | h5
        · exact .inl ⟨i', at_tail_io hi', h5⟩
        · exact .inr h5
  | _, _, _, _, .cons (a := a0) (r := r0) (v := v) (x := x) (vs := vs) (xs := xs) (P := P1) (P' := P2) hn h2 r h3, s, nd, nf, kn, dj => by
    rw [ios_cons hn, fm_none] at nd
    obtain ⟨ap, s', sub⟩ := Args.state r s nd (fun a z => nf a (.inr z)) (fun a z => kn a (.inr z)) (fun a z => dj a (.inr z))
    have apart : ∀ j a, P1 a → ¬ ap j a := fun j a h4 h5 => by
      rcases sub j a h5 with ⟨i', hi', h6⟩ | h6
      · exact dj a (.inl h4) i' h6
      · exact h3 a h4 h6
    refine ⟨fun j => match j with | 0 => P1 | j + 1 => ap j, ⟨s.le, by simp [s'.len] <;> (have := s'.len; simpa using this), ?_, ?_, ?_, ?_⟩, ?_⟩
    · intro j y h
      cases j with
      | zero =>
        have hy : x = y := by simpa [getRo] using h
        subst hy
        exact ⟨v, rfl, h2⟩
      | succ j =>
        obtain ⟨v', e1, e2⟩ := s'.ow j y (by simpa [getRo] using h)
        exact ⟨v', by simpa using e1, e2⟩
    · intro j k a h4 h5
      cases j <;> cases k
      · rfl
      · exact absurd h5 (apart _ a h4)
      · exact absurd h4 (apart _ a h5)
      · rw [s'.dj _ _ a h4 h5]
    · intro j a h4
      cases j
      · exact kn a (.inl h4)
      · exact s'.kn _ a h4
    · intro j a h4
      cases j
      · exact nf a (.inl h4)
      · exact s'.nf _ a h4
    · intro j a h4
      cases j with
      | zero => exact .inr (.inl h4)
      | succ j =>
        rcases sub j a h4 with ⟨i', hi', h5⟩ | h5
        · exact .inl ⟨i', at_tail hn hi', h5⟩
        · exact .inr (.inr h5)
theorem ioSet_len : ∀ (l : List (Option Nat)) (ρ os : Ro), (ioSet ρ l os).length = ρ.length
  | [], ρ, os => by simp [ioSet]
  | some i :: l, ρ, [] => by simp [ioSet]
  | none :: l, ρ, [] => by simp [ioSet]
  | some i :: l, ρ, o :: os => by simp [ioSet, ioSet_len l]
  | none :: l, ρ, o :: os => by simp [ioSet, ioSet_len l]
theorem ioSet_out {i : Nat} : ∀ {l : List (Option Nat)} {ρ os : Ro}, (∀ j : Nat, l[j]? ≠ some (some i)) → getRo (ioSet ρ l os) i = getRo ρ i
  | [], ρ, os, _ => by simp [ioSet]
  | some i' :: l, ρ, [], _ => by simp [ioSet]
  | none :: l, ρ, [], _ => by simp [ioSet]
  | some i' :: l, ρ, o :: os, h => by
    have hne : i' ≠ i := fun e => h 0 (by simp [e])
    show getRo (ioSet (ρ.set i' o) l os) i = _
    rw [ioSet_out fun j => by have := h (j + 1); simpa using this, getRo_set_ne hne]
  | none :: l, ρ, o :: os, h => by
    show getRo (ioSet ρ l os) i = _
    exact ioSet_out fun j => by have := h (j + 1); simpa using this
theorem ioSet_in {i : Nat} {x : PV} : ∀ {l : List (Option Nat)} {ρ os : Ro} {j : Nat}, (l.filterMap id).Nodup → l[j]? = some (some i) → getRo (ioSet ρ l os) i = some x → l.length ≤ os.length → getRo os j = some x
  | [], ρ, os, j, _, h, _, _ => by simp at h
  | o' :: l, ρ, [], j, _, _, _, hl => by simp at hl
  | some i' :: l, ρ, o :: os, 0, nd, h, hx, hl => by
    simp at h
    subst h
    rw [fm_some] at nd
    have hx' : getRo (ioSet (ρ.set i' o) l os) i' = some x := hx
    rw [ioSet_out fun j hj => (List.nodup_cons.mp nd).1 (List.mem_filterMap.mpr ⟨_, List.mem_of_getElem? hj, rfl⟩)] at hx'
    rcases getRo_set hx' with ⟨_, e⟩ | ⟨e, _⟩
    · show (some o).join = _
      rw [e]; rfl
    · exact absurd rfl e
  | some i' :: l, ρ, o :: os, j + 1, nd, h, hx, hl => by
    rw [fm_some] at nd
    have := ioSet_in (l := l) (os := os) (j := j) (List.nodup_cons.mp nd).2 (by simpa using h) (show getRo (ioSet (ρ.set i' o) l os) i = some x from hx) (by simpa using hl)
    simpa [getRo] using this
  | none :: l, ρ, o :: os, 0, nd, h, hx, hl => by simp at h
  | none :: l, ρ, o :: os, j + 1, nd, h, hx, hl => by
    rw [fm_none] at nd
    have := ioSet_in (l := l) (os := os) (j := j) nd (by simpa using h) (show getRo (ioSet ρ l os) i = some x from hx) (by simpa using hl)
    simpa [getRo] using this
theorem isPos_at {io : List Nat} : ∀ {l : List (Option Nat)} {m j i : Nat}, isPos m l io = true → l[j]? = some (some i) → m + j ∈ io
  | [], _, _, _, _, h => by simp at h
  | some i' :: l, m, 0, i, h, e => by
    simp [isPos, Bool.and_eq_true] at h
    exact h.1
  | some i' :: l, m, j + 1, i, h, e => by
    simp [isPos, Bool.and_eq_true] at h
    have := isPos_at (m := m + 1) (j := j) h.2 (by simpa using e)
    have e2 : m + 1 + j = m + (j + 1) := by omega
    rwa [e2] at this
  | none :: l, m, 0, i, h, e => by simp at e
  | none :: l, m, j + 1, i, h, e => by
    simp [isPos] at h
    have := isPos_at (m := m + 1) (j := j) h (by simpa using e)
    have e2 : m + 1 + j = m + (j + 1) := by omega
    rwa [e2] at this
theorem ios_length : ∀ {as : E} {vs : List V} {xs : List PV} {P : As}, Args K F H σ ρ as vs xs P → (ios as).length = alen as
  | _, _, _, _, .nil => rfl
  | _, _, _, _, .io h1 h2 r => by rw [ios_io]; simp [alen, ios_length r]
  | _, _, _, _, .cons hn h2 r h3 => by rw [ios_cons hn]; simp [alen, ios_length r]
theorem mask_get {io : List Nat} {os : Ro} {j : Nat} (h : j ∈ io) (hl : j < os.length) : getRo (mask io os) j = getRo os j := by
  unfold mask
  unfold getRo
  rw [List.getElem?_map, List.getElem?_range hl]
  have : io.contains j = true := by simpa using h
  show (some (if io.contains j = true then getRo os j else none)).join = _
  rw [if_pos this]; rfl
end
section
variable {P : Prg} {G : Gls} {T : Tab} {n : Nat} {N : List Str} {sc : Scope} {top : Bool} {X : Cx} (o : XOk P G T n N sc top X)
theorem call_after {io : List Nat} {as : E} (nd : ((ios as).filterMap id).Nodup) (hp : isPos 0 (ios as) io = true) {F H F1 H1 : Hp} {σ : L2.St} {ρ1 : Ro} {fp fp1 : Nat → As} {xs : List PV} {vs : List V} {P1 : As}
    (s1 : St X.K F1 H1 σ ρ1 fp1) (t1 : Xt F H fp F1 H1 fp1) (hd1 : HdA X.K F1 H1 σ ρ1 fp1 as vs xs P1) (sub1 : ∀ a, P1 a → (∃ j, fp j a) ∨ H a = none) :
    ∃ ap, St X.K F1 H1 (vs.map some) (xs.map some) ap ∧ vs.length = alen as ∧ ∀ (os : Ro) (v : V) (r : PV) (H' F' : Hp) (ap' : Nat → As) (P' : As), St X.K F' H' (vs.map some) (mask io os) ap' → Xt F1 H1 ap F' H' ap' → Hd X.K F' H' ap' v r P' → (∀ a, P' a → (∃ j, ap j a) ∨ H1 a = none) →
      ∃ fp2, St X.K F' H' σ (ioSet ρ1 (ios as) os) fp2 ∧ Xt F H fp F' H' fp2 ∧ Hd X.K F' H' fp2 v r P' ∧ ∀ a, P' a → (∃ j, fp j a) ∨ H a = none := by
  obtain ⟨ap, sa, suba⟩ := hd1.ow.state s1 nd hd1.nf hd1.kn hd1.dj
  have hlen := hd1.ow.len.1
  refine ⟨ap, sa, hlen, fun os v r H' F' ap' P' s' t' hh sub' => ?_⟩
  have hol : os.length = vs.length := by
    have := s'.len
    unfold mask at this
    simpa using this.symm
  have hil : (ios as).length = vs.length := by rw [ios_length hd1.ow, hlen]
  -- what an address of the callee's is
  have apIn : ∀ j a, ap j a → (∃ i, At as j i ∧ fp1 i a) ∨ P1 a := suba
  have ap'In : ∀ j a, ap' j a → (∃ i p, At as p i ∧ fp1 i a) ∨ P1 a ∨ H1 a = none := fun j a h => by
    rcases t'.sub j a h with ⟨q, hq⟩ | hq
    · rcases apIn q a hq with ⟨i, h3, h4⟩ | h3
      · exact .inl ⟨i, q, h3, h4⟩
      · exact .inr (.inl h3)
    · exact .inr (.inr hq)
  have outAp : ∀ i a, (∀ j, ¬ At as j i) → fp1 i a → ∀ j, ¬ ap j a := fun i a hi h j hj => by
    rcases apIn j a hj with ⟨i', h3, h4⟩ | h3
    · have := s1.dj i i' a h h4
      subst this
      exact hi j h3
    · exact hd1.dj a h3 i h
  have outAp' : ∀ i a, (∀ j, ¬ At as j i) → fp1 i a → ∀ j, ¬ ap' j a := fun i a hi h j hj => by
    rcases ap'In j a hj with ⟨i', p, h3, h4⟩ | h3 | h3
    · have := s1.dj i i' a h h4
      subst this
      exact hi p h3
    · exact hd1.dj a h3 i h
    · exact (s1.kn i a h).ne h3
  let fp2 : Nat → As := fun i a => (∃ j, At as j i ∧ ap' j a) ∨ ((∀ j, ¬ At as j i) ∧ fp1 i a)
  have st2 : St X.K F' H' σ (ioSet ρ1 (ios as) os) fp2 := {
    le := s'.le
    len := by rw [ioSet_len]; exact s1.len
    ow := fun i x hx => by
      by_cases hi : ∃ j, At as j i
      · obtain ⟨j, hj⟩ := hi
        have hx2 := ioSet_in nd hj hx (by omega)
        have hjl : j < os.length := by
          have : j < (ios as).length := (List.getElem?_eq_some_iff.mp hj).1
          omega
        have hm : j ∈ io := by
          have := isPos_at hp hj
          rwa [Nat.zero_add] at this
        obtain ⟨v1, e1, e2⟩ := s'.ow j x (by rw [mask_get hm hjl]; exact hx2)
        obtain ⟨v2, e3, e4⟩ := hd1.ow.at hj
        have : v1 = v2 := by
          rw [List.getElem?_map, e3] at e1
          simpa using e1.symm
        subst this
        exact ⟨v1, e4, e2.up (Ex.refl _) (fun _ _ _ z => z) fun a ha => .inl ⟨j, hj, ha⟩⟩
      · have hi' : ∀ j, ¬ At as j i := fun j hj => hi ⟨j, hj⟩
        rw [ioSet_out hi'] at hx
        obtain ⟨v1, e1, e2⟩ := s1.ow i x hx
        exact ⟨v1, e1, e2.up t'.ff (fun a ha ob e => t'.fr a ob e (outAp i a hi' ha)) fun a ha => .inr ⟨hi', ha⟩⟩
    dj := fun i j a h3 h4 => by
      rcases h3 with ⟨p, hp1, hp2⟩ | ⟨hp1, hp2⟩ <;> rcases h4 with ⟨q, hq1, hq2⟩ | ⟨hq1, hq2⟩
      · have := s'.dj p q a hp2 hq2
        subst this
        unfold At at hp1 hq1
        rw [hp1] at hq1
        simpa using hq1
      · exact absurd hp2 (outAp' j a hq1 hq2 p)
      · exact absurd hq2 (outAp' i a hp1 hp2 q)
      · exact s1.dj i j a hp2 hq2
    kn := fun i a h3 => by
      rcases h3 with ⟨p, hp1, hp2⟩ | ⟨hp1, hp2⟩
      · exact s'.kn p a hp2
      · obtain ⟨u, e, hu⟩ := s1.kn i a hp2
        exact ⟨u, t'.fr a u e (outAp i a hp1 hp2), hu⟩
    nf := fun i a h3 => by
      rcases h3 with ⟨p, hp1, hp2⟩ | ⟨hp1, hp2⟩
      · exact s'.nf p a hp2
      · cases q : F' a with
        | none => rfl
        | some u =>
          obtain ⟨w, e, hw⟩ := s1.kn i a hp2
          rcases t'.nw a u q with h5 | h5 | ⟨j, h5⟩ | h5
          · rw [s1.nf i a hp2] at h5; cases h5
          · rw [e] at h5; cases h5
          · exact absurd h5 (outAp i a hp1 hp2 j)
          · have e2 := t'.fr a w e (outAp i a hp1 hp2)
            rw [t'.le a u q] at e2
            cases e2
            rw [hw] at h5; cases h5 }
  have old : ∀ a, ((∃ i p, At as p i ∧ fp1 i a) ∨ P1 a ∨ H1 a = none) → (∃ j, fp j a) ∨ H a = none := fun a h3 => by
    rcases h3 with ⟨i, p, _, h4⟩ | h3 | h3
    · exact t1.sub i a h4
    · exact sub1 a h3
    · exact .inr (t1.back h3)
  have xt2 : Xt F H fp F' H' fp2 := {
    ff := t1.ff.trans t'.ff
    fr := fun a ob e hn => t'.fr a ob (t1.fr a ob e hn) fun j hj => by
      have : (∃ j, fp j a) ∨ H a = none := old a ((apIn j a hj).elim (fun ⟨i, h3, h4⟩ => .inl ⟨i, j, h3, h4⟩) fun h3 => .inr (.inl h3))
      rcases this with ⟨q, hq⟩ | hq
      · exact hn q hq
      · rw [e] at hq; cases hq
    le := s'.le
    nw := fun a ob q => by
      rcases t'.nw a ob q with h5 | h5 | ⟨j, h5⟩ | h5
      · exact t1.nw a ob h5
      · exact .inr (.inl (t1.back h5))
      · have : (∃ j, fp j a) ∨ H a = none := old a ((apIn j a h5).elim (fun ⟨i, h3, h4⟩ => .inl ⟨i, j, h3, h4⟩) fun h3 => .inr (.inl h3))
        rcases this with hq | hq
        · exact .inr (.inr (.inl hq))
        · exact .inr (.inl hq)
      · exact .inr (.inr (.inr h5))
    sub := fun i a h3 => by
      rcases h3 with ⟨p, hp1, hp2⟩ | ⟨hp1, hp2⟩
      · exact old a (ap'In p a hp2)
      · exact t1.sub i a hp2
    kn := fun a h3 => t'.kn a (t1.kn a h3) }
  have pIn : ∀ a, P' a → (∃ i p, At as p i ∧ fp1 i a) ∨ P1 a ∨ H1 a = none := fun a h => by
    rcases sub' a h with ⟨q, hq⟩ | hq
    · rcases apIn q a hq with ⟨i, h3, h4⟩ | h3
      · exact .inl ⟨i, q, h3, h4⟩
      · exact .inr (.inl h3)
    · exact .inr (.inr hq)
  refine ⟨fp2, st2, xt2, ⟨hh.ow, hh.nf, hh.kn, fun a ha i hi => ?_⟩, fun a ha => old a (pIn a ha)⟩
  rcases hi with ⟨p, hp1, hp2⟩ | ⟨hp1, hp2⟩
  · exact hh.dj a ha p hp2
  · rcases pIn a ha with ⟨i', p, h3, h4⟩ | h3 | h3
    · have := s1.dj i i' a hp2 h4
      subst this
      exact hp1 p h3
    · exact hd1.dj a h3 i hp2
    · exact (s1.kn i a hp2).ne h3
theorem le_call {f np : Nat} {io : List Nat} {as : E} (nd : ((ios as).filterMap id).Nodup) (hp : isPos 0 (ios as) io = true) (hl : alen as = np) : ∀ σ H Q, tX X.K T G (.call f as) σ H Q → tCall (spF X.K T f np io) [] E0 (tA X.K T G as) σ H Q :=
  fun σ H Q ⟨F, ρ, fp, z, ρ', s, hd, k⟩ => by
  simp only [den] at hd
  obtain ⟨⟨xs, ρ1⟩, h1, hd⟩ := Res.bind_inv hd
  obtain ⟨⟨r, os⟩, h2, hd⟩ := Res.bind_inv hd
  cases hd
  refine ⟨F, ρ, fp, xs, ρ1, s, h1, fun vs H1 F1 fp1 P1 s1 t1 hd1 sub1 => ?_⟩
  obtain ⟨ap, sa, hlen, aft⟩ := call_after nd hp s1 t1 hd1 sub1
  rw [List.append_nil]
  refine ⟨by omega, F1, ap, xs, r, os, sa, h2, fun v H' F' ap' P' s' t' hh sub' => ?_⟩
  obtain ⟨fp2, q1, q2, q3, q4⟩ := aft os v r H' F' ap' P' s' t' hh sub'
  exact k v H' F' fp2 P' q1 q2 q3 q4
include o in
theorem s_call {f : Nat} {d : Fn} {as : E} {x : Str} {p pos : Pos} {es : List Expr} (hf : P[f]? = some d) (ha : PA X es (tA X.K T G as)) (hs : es.all noStar = true) (hx : x = d.name) (hg : glo sc x = true) (nd : ((ios as).filterMap id).Nodup)
    (hp : isPos 0 (ios as) d.io = true) (hl : alen as = d.np) (he0 : es = [] → as = .nil) : PE X (.Call (.Name x p) es [] pos) (tX X.K T G (.call f as)) := by
  obtain ⟨g1, g2, g3⟩ := glo_ok o hg
  obtain ⟨a, fd, m1, m2, m3, m4⟩ := (o.fns f d hf).ok
  subst hx
  cases es with
  | nil =>
    refine (pe_call0 (E := E0) m4 o.room g1 m1 m2 m3 .nil pass0 g2).mono fun σ H Q h => ?_
    have h2 := le_call nd hp hl σ H Q h
    obtain rfl := he0 rfl
    exact le_nilA σ H _ h2
  | cons e es =>
    rw [List.all_cons, Bool.and_eq_true] at hs
    exact (pe_call (E := E0) m4 o.room g1 m1 m2 m3 .nil pass0 ha g2 (star_ok hs.1) (plain_tail hs.2)).mono (le_call nd hp hl)
def tyD : PyData → String
  | .none => "NoneType"
  | .bool _ => "bool"
  | .int _ => "int"
  | .str _ => "str"
  | .list _ => "list"
  | .tuple _ => "tuple"
  | .dict _ => "dict"
theorem opd_ty {K : Frag} {F H : Hp} {v : V} {d : PyData} (e : Ex F H) (h : Opd K F H v d) : TyX K H v (.type (tyD d)) := by
  cases h with
  | L h1 h2 => exact .base (.lst h1)
  | d h =>
    cases h with
    | non => exact .base .non
    | bl b => exact .base (.bl b)
    | int i => exact .base (.int i)
    | str x => exact .base (.str x)
    | lst h1 h2 =>
      rcases h1.up e with (q | ⟨ob, q⟩) | ⟨_, _, q, _⟩
      · exact .base (.lst q)
      · exact .base (.frz q)
      · exact .kList q rfl
    | tup h1 h2 =>
      rcases ex_t e h1 with (q | ⟨ob, q⟩) | ⟨ob, its, m, q1, q2, _⟩
      · exact .base (.tup q)
      · exact .fTuple q
      · exact .kTuple q1 q2
def tyS : Ty → String
  | .int => "int" | .bool => "bool" | .tuple => "tuple" | .list => "list" | .str => "str"
theorem kit_is {K : Frag} (t : Ty) (d : PyData) (h : ∀ kvs, d ≠ .dict kvs) : PySem.W.kitOne K (.type (tyD d)) (.type (tyS t)) = some (isS t d) := by
  apply kit_ty
  cases d
  case dict => exact absurd rfl (h _)
  all_goals (cases t <;> (show kitB _ _ = some _) <;> (simp only [tyD, tyS, isS]) <;> decide +kernel)
theorem ty_boot (t : Ty) : bootBuiltins (tyName t) = some (.type (tyS t)) := by
  cases t <;> decide +kernel
include o in
theorem s_isi {x : E} {t : Ty} {f y : Str} {p p2 pos : Pos} {l : Expr} (ha : PE X l (tX X.K T G x)) (hs : noStar l = true) (hf : f = "isinstance") (hg : glo sc f = true) (hy : y = tyName t) (hgy : glo sc y = true) :
    PE X (.Call (.Name f p) [l, .Name y p2] [] pos) (tX X.K T G (.isi x t)) := by
  obtain ⟨g1, g2, g3⟩ := glo_ok o hg
  obtain ⟨y1, y2, y3⟩ := glo_ok o hgy
  subst hf
  subst hy
  have hb : X.mg (tyName t) = none := o.blt _ (by cases t <;> decide +kernel)
  have pt : PE X (.Name (tyName t) p2) (tC (.ty (tyS t))) := pe_bltn y1 hb (ty_boot t) rfl y3 y2
  refine (pe_callB call_isi g1 (o.blt _ (by decide +kernel)) (by decide +kernel) (pa_cons ha (pa_cons pt pa_nil (star_ok rfl)) (star_ok hs)) g3 g2 (star_ok hs) rfl).mono fun σ H Q ⟨F, ρ, fp, z, ρ', s, hd, k⟩ => ?_
  simp only [den] at hd
  obtain ⟨⟨x1, ρ1⟩, h1, hd⟩ := Res.bind_inv hd
  obtain ⟨d1, h2, hd⟩ := Res.bind_inv hd
  cases hd
  refine ⟨F, ρ, fp, x1, _, s, h1, fun v H1 F1 fp1 P1 s1 t1 hd1 sub => ⟨v, .ty (tyS t), _, _, isS t d1, rfl, .ty _, opd_ty s1.le (hd1.ow.opd h2), kit_is t d1 (fun kvs e => ?_), fin0 k s1 t1 rfl (.bl _)⟩⟩
  subst e
  have := hd1.ow.opd h2
  cases this with
  | d h => cases h
section
variable {K : Frag} {F H : Hp} {σ : L2.St} {ρ : Ro} {fp : Nat → As}
theorem St.list (s : St K F H σ ρ fp) {i : Nat} {xs : List PyData} (h : getRo ρ i = some (.L xs)) : ∃ p ys, σ[i]? = some (some (.ref p)) ∧ fp i p ∧ H p = some (.lst ys) ∧ Rps K F ys xs := by
  obtain ⟨v, e1, e2⟩ := s.ow i _ h
  cases e2 with
  | L hp h1 h2 => exact ⟨_, _, e1, hp, h1, h2⟩
/-- a list of one's own is changed -/
theorem St.mut (s : St K F H σ ρ fp) {i : Nat} {xs xs' : List PyData} {p : Addr} {ys ys' : List V} (h : getRo ρ i = some (.L xs)) (e : σ[i]? = some (some (.ref p))) (hp : fp i p) (hH : H p = some (.lst ys)) (hr : Rps K F ys' xs') :
    St K F (upd H p (.lst ys')) σ (ρ.set i (some (.L xs'))) fp ∧ Xt F H fp F (upd H p (.lst ys')) fp := by
  have hf := s.nf i p hp
  have le : Ex F (upd H p (.lst ys')) := fun a u ha => by rw [upd_ne (ne_of_none ha hf)]; exact s.le a u ha
  refine ⟨⟨le, by simp [s.len], fun j x hx => ?_, s.dj, fun j a ha => ?_, s.nf⟩, ⟨Ex.refl F, fun a u ha hn => ?_, le, fun a u ha => .inl ha, fun j a ha => .inl ⟨j, ha⟩, fun a ha => ?_⟩⟩
  · rcases getRo_set hx with ⟨e1, e2⟩ | ⟨e1, h2⟩
    · subst e1
      cases e2
      exact ⟨_, e, .L hp upd_same hr⟩
    · obtain ⟨v, e3, e4⟩ := s.ow j x h2
      refine ⟨v, e3, e4.up (Ex.refl F) (fun a ha u hu => ?_) fun _ z => z⟩
      rw [upd_ne]
      · exact hu
      · rintro rfl
        exact e1 (s.dj i j a hp ha)
  · by_cases q : a = p
    · subst q; exact ⟨_, upd_same, rfl⟩
    · rw [upd_ne q]; exact s.kn j a ha
  · rw [upd_ne]
    · exact ha
    · rintro rfl
      exact hn i hp
  · by_cases q : a = p
    · subst q; rw [upd_same]; simp
    · rw [upd_ne q]; exact ha
end
end
end Rf
set_option maxRecDepth 100000
set_option maxHeartbeats 4000000
namespace Rf
open PySem PySem.Spec PyProof.Rows L2 Evl
def iAny (K : Frag) (tl : TE) : TI := fun σ H R => tl σ H fun x H1 => (∃ a xs, x = .ref a ∧ SqL K H1 a xs ∧ R (Itl K a) H1) ∨ (∃ a xs, x = .ref a ∧ SqT K H1 a xs ∧ R (Itt K a) H1) ∨ ∃ z, x = .str z ∧ R (Its z) H1
theorem pi_any {X : Cx} {tg l : Expr} {tl : TE} (hl : PE X l tl) : PI X tg l (iAny X.K tl) := by
  refine ⟨fun pins s σ H R I h => ?_⟩
  refine thn (hl.run pins s σ H _ I h) fun v s1 ⟨x, H1, I1, r1, q1⟩ => ?_
  rcases q1 with ⟨a, xs, e, hq, q⟩ | ⟨a, xs, e, hq, q⟩ | ⟨z, e, q⟩
  · subst e
    cases r1
    obtain ⟨its, rv, p, hz⟩ := I1.list hq
    refine wpAny_pyIter_list p.isList ?_
    refine ⟨s1.heap.objs.size, [s1.heap.objs.size], _, _, H1, rfl, I1.kept (t' := s1.toks) fun b o e => Heap.get?_push_of_some _ e, turn_list a _, ⟨_, Heap.get?_push_size _ rfl, rfl, rfl⟩, fun b hb => ?_, q⟩
    have e : b = s1.heap.objs.size := by simpa using hb
    subst e
    exact I1.fpOk (Nat.le_refl _) (I1.hok.fresh (Nat.le_refl _))
  · subst e
    cases r1
    obtain ⟨its, rv, p, hz⟩ := I1.tuple hq
    refine wpAny_pyIter_tuple (show s1.heap.IsTuple a its.toArray from p) ?_
    refine ⟨s1.heap.objs.size, [s1.heap.objs.size], _, _, H1, rfl, I1.kept (t' := s1.toks) fun b o e => Heap.get?_push_of_some _ e, turn_tuple a _, ⟨_, Heap.get?_push_size _ rfl, rfl, rfl⟩, fun b hb => ?_, q⟩
    have e : b = s1.heap.objs.size := by simpa using hb
    subst e
    exact I1.fpOk (Nat.le_refl _) (I1.hok.fresh (Nat.le_refl _))
  · subst e
    obtain ⟨t, rfl⟩ := r1
    cases ha : z.cps.all (· < 128)
    · exact wpAny_pyIter_wide ha (pi_one (tk := s1.toks) I1 _ (turn_str _ z t "str_iterator" (.inr rfl)) ⟨_, Heap.get?_push_size _ rfl, rfl, rfl⟩ q)
    · exact wpAny_pyIter_ascii ha (pi_one (tk := s1.toks) I1 _ (turn_str _ z t "str_ascii_iterator" (.inl rfl)) ⟨_, Heap.get?_push_size _ rfl, rfl, rfl⟩ q)
section
variable {K : Frag} {F H : Hp} {xs : List PyData}
theorem items_list {a : Addr} {ys : List V} (h : SqL K F a ys) (r : Rps K F ys xs) : Items K F xs (Itl K a) := fun i H F' e1 e2 => by
  have h' := ex_l (e1.trans e2) h
  refine ⟨fun d hd => ?_, fun hl0 => by have hl := Nat.le_of_eq hl0; exact ⟨ys, h', by rw [r.length]; exact hl⟩⟩
  obtain ⟨v, hv, hr⟩ := r.get hd
  refine ⟨⟨ys, v, h', hv⟩, fun w H3 hy => ?_⟩
  obtain ⟨rfl, f⟩ := hy
  have : w = v := Option.some.inj ((f ys h').symm.trans hv)
  subst this
  exact ⟨F', Nw.refl e2, hr.up e1⟩
theorem items_tup {a : Addr} {ys : List V} (h : SqT K F a ys) (r : Rps K F ys xs) : Items K F xs (Itt K a) := fun i H F' e1 e2 => by
  have h' := ex_t (e1.trans e2) h
  refine ⟨fun d hd => ?_, fun hl0 => by have hl := Nat.le_of_eq hl0; exact ⟨ys, h', by rw [r.length]; exact hl⟩⟩
  obtain ⟨v, hv, hr⟩ := r.get hd
  refine ⟨⟨ys, v, h', hv⟩, fun w H3 hy => ?_⟩
  obtain ⟨rfl, f⟩ := hy
  have : w = v := Option.some.inj ((f ys h').symm.trans hv)
  subst this
  exact ⟨F', Nw.refl e2, hr.up e1⟩
theorem items_str {z : Str} : Items K F (z.cps.toList.map fun c => .str ⟨#[c]⟩) (Its z) := fun i H F' e1 e2 => by
  refine ⟨fun d hd => ?_, fun hl0 => by have hl := Nat.le_of_eq hl0; simpa [Its] using hl⟩
  rw [List.getElem?_map] at hd
  cases q : z.cps.toList[i]? with
  | none => rw [q] at hd; cases hd
  | some c =>
    rw [q] at hd
    cases hd
    have hlt : i < z.cps.size := by
      have := (List.getElem?_eq_some_iff.mp q).1
      simpa using this
    refine ⟨hlt, fun w H3 hy => ?_⟩
    obtain ⟨rfl, c', hc, rfl⟩ := hy
    rw [Array.getElem?_toList] at q
    rw [q] at hc
    cases hc
    exact ⟨F', Nw.refl e2, .str _⟩
theorem rngI_get : ∀ {n i : Nat} {lo : Int} {d : PyData}, (rngI lo n)[i]? = some d → i < n ∧ d = .int (lo + i)
  | 0, _, _, _, h => by simp [rngI] at h
  | n + 1, 0, lo, d, h => by
    simp [rngI] at h
    subst h
    exact ⟨by omega, by simp⟩
  | n + 1, i + 1, lo, d, h => by
    obtain ⟨h1, h2⟩ := rngI_get (n := n) (i := i) (lo := lo + 1) (d := d) (by simpa [rngI] using h)
    refine ⟨by omega, ?_⟩
    rw [h2]
    congr 1
    omega
theorem rngI_length : ∀ {n : Nat} {lo : Int}, (rngI lo n).length = n
  | 0, _ => rfl
  | n + 1, lo => by simp [rngI, rngI_length]
theorem items_rng {lo : Int} {n : Nat} : Items K F (rngI lo n) (Itr lo n) := fun i H F' e1 e2 => by
  refine ⟨fun d hd => ?_, fun hl0 => by have hl := Nat.le_of_eq hl0; rw [rngI_length] at hl; exact hl⟩
  obtain ⟨h1, rfl⟩ := rngI_get hd
  refine ⟨h1, fun w H3 hy => ?_⟩
  obtain ⟨rfl, rfl⟩ := hy
  exact ⟨F', Nw.refl e2, .int _⟩
theorem dwnI_get : ∀ {n i : Nat} {hi : Int} {d : PyData}, (dwnI hi n)[i]? = some d → i < n ∧ d = .int (hi + (i : Nat) * (-1))
  | 0, i, hi, d, h => by simp [dwnI] at h
  | n + 1, 0, hi, d, h => by
    simp [dwnI] at h
    subst h
    exact ⟨by omega, by simp⟩
  | n + 1, i + 1, hi, d, h => by
    obtain ⟨h1, h2⟩ := dwnI_get (n := n) (i := i) (hi := hi - 1) (d := d) (by simpa [dwnI] using h)
    refine ⟨by omega, ?_⟩
    rw [h2]
    congr 1
    simp
    omega
theorem dwnI_length : ∀ (n : Nat) (hi : Int), (dwnI hi n).length = n
  | 0, _ => rfl
  | n + 1, hi => by simp [dwnI, dwnI_length]
theorem items_dwn {hi : Int} {n : Nat} : Items K F (dwnI hi n) (Itc hi (-1) n) := fun i H F' e1 e2 => by
  refine ⟨fun d hd => ?_, fun hl0 => by have hl := Nat.le_of_eq hl0; rw [dwnI_length] at hl; exact hl⟩
  obtain ⟨h1, rfl⟩ := dwnI_get hd
  refine ⟨h1, fun w H3 hy => ?_⟩
  obtain ⟨rfl, rfl⟩ := hy
  exact ⟨F', Nw.refl e2, .int _⟩
theorem new_pair {p : Addr} {v w : V} {d e : PyData} {F H : Hp} (ex : Ex F H) (hp : H p = none) (h1 : Rp K F v d) (h2 : Rp K F w e) : ∃ F3, Nw F H F3 (upd H p (.tup [v, w])) ∧ Rp K F3 (.ref p) (.tuple [d, e]) := by
  have r := Rs.newT (K := K) ex hp (Rps.cons h1 (Rps.cons h2 Rps.nil))
  exact ⟨_, r.nw, r.ow.dat⟩
theorem zipI_get : ∀ {xs : List PyData} {i : Nat} {lo : Int} {d : PyData}, (zipI lo xs)[i]? = some d → ∃ x, xs[i]? = some x ∧ d = .tuple [.int (lo + i), x]
  | [], _, _, _, h => by simp [zipI] at h
  | x :: xs, 0, lo, d, h => by
    simp [zipI] at h
    subst h
    exact ⟨x, rfl, by simp⟩
  | x :: xs, i + 1, lo, d, h => by
    obtain ⟨y, h1, h2⟩ := zipI_get (xs := xs) (i := i) (lo := lo + 1) (d := d) (by simpa [zipI] using h)
    refine ⟨y, by simpa using h1, ?_⟩
    rw [h2]
    congr 3
    omega
theorem zipI_length : ∀ {xs : List PyData} {lo : Int}, (zipI lo xs).length = xs.length
  | [], _ => rfl
  | x :: xs, lo => by simp [zipI, zipI_length]
theorem items_enum {a : Addr} {ys : List V} (h : SqL K F a ys) (r : Rps K F ys xs) : Items K F (zipI 0 xs) (Ite K a) := fun i H F' e1 e2 => by
  have h' := ex_l (e1.trans e2) h
  refine ⟨fun d hd => ?_, fun hl0 => by have hl := Nat.le_of_eq hl0; exact ⟨ys, h', by rw [r.length]; rwa [zipI_length] at hl⟩⟩
  obtain ⟨x, hx, rfl⟩ := zipI_get hd
  obtain ⟨v, hv, hr⟩ := r.get hx
  refine ⟨⟨ys, v, h', hv⟩, fun w H3 hy => ?_⟩
  obtain ⟨t, u, rfl, ht, rfl, f⟩ := hy
  have : u = v := Option.some.inj ((f ys h').symm.trans hv)
  subst this
  have := new_pair (K := K) e2 ht (.int (0 + (i : Int))) (hr.up e1)
  simpa using this
theorem items_enumT {a : Addr} {ys : List V} (h : SqT K F a ys) (r : Rps K F ys xs) : Items K F (zipI 0 xs) (RET.ItT K a) := fun i H F' e1 e2 => by
  have h' := ex_t (e1.trans e2) h
  refine ⟨fun d hd => ?_, fun hl0 => by have hl := Nat.le_of_eq hl0; exact ⟨ys, h', by rw [r.length]; rwa [zipI_length] at hl⟩⟩
  obtain ⟨x, hx, rfl⟩ := zipI_get hd
  obtain ⟨v, hv, hr⟩ := r.get hx
  refine ⟨⟨ys, v, h', hv⟩, fun w H3 hy => ?_⟩
  obtain ⟨t, u, rfl, ht, rfl, f⟩ := hy
  have : u = v := Option.some.inj ((f ys h').symm.trans hv)
  subst this
  have := new_pair (K := K) e2 ht (.int (0 + (i : Int))) (hr.up e1)
  simpa using this
theorem items_enumS {z : Str} : Items K F (zipI 0 (z.cps.toList.map fun c => .str ⟨#[c]⟩)) (RE.ItsE z) := fun i H F' e1 e2 => by
  refine ⟨fun d hd => ?_, fun hl0 => by have hl := Nat.le_of_eq hl0; rw [zipI_length] at hl; show z.cps.size ≤ i; simpa using hl⟩
  obtain ⟨x, hx, rfl⟩ := zipI_get hd
  rw [List.getElem?_map] at hx
  cases hc : z.cps.toList[i]? with
  | none => rw [hc] at hx; cases hx
  | some c =>
    rw [hc] at hx
    cases hx
    have hlt : i < z.cps.size := by
      have := (List.getElem?_eq_some_iff.mp hc).1
      simpa using this
    refine ⟨hlt, fun w H3 hy => ?_⟩
    obtain ⟨t, c', rfl, ht, hc', rfl⟩ := hy
    have : c' = c := by
      rw [← Array.getElem?_toList, hc] at hc'
      exact (Option.some.inj hc').symm
    subst this
    have := new_pair (K := K) e2 ht (.int (0 + (i : Int))) (.str ⟨#[c']⟩)
    simpa using this
theorem zip2_get : ∀ {xs ys : List PyData} {i : Nat} {d : PyData}, (zip2 xs ys)[i]? = some d → ∃ x y, xs[i]? = some x ∧ ys[i]? = some y ∧ d = .tuple [x, y]
  | [], _, _, _, h => by simp [zip2] at h
  | _ :: _, [], _, _, h => by simp [zip2] at h
  | x :: xs, y :: ys, 0, d, h => by
    simp [zip2] at h
    subst h
    exact ⟨x, y, rfl, rfl, rfl⟩
  | x :: xs, y :: ys, i + 1, d, h => by
    obtain ⟨a, b, h1, h2, h3⟩ := zip2_get (xs := xs) (ys := ys) (i := i) (d := d) (by simpa [zip2] using h)
    exact ⟨a, b, by simpa using h1, by simpa using h2, h3⟩
theorem zip2_len : ∀ {xs ys : List PyData} {i : Nat}, (zip2 xs ys).length ≤ i → xs.length ≤ i ∨ ys.length ≤ i
  | [], _, _, _ => .inl (Nat.zero_le _)
  | _ :: _, [], _, _ => .inr (Nat.zero_le _)
  | x :: xs, y :: ys, i, h => by
    cases i with
    | zero => simp [zip2] at h
    | succ i =>
      rcases zip2_len (xs := xs) (ys := ys) (i := i) (by simpa [zip2] using h) with q | q
      · exact .inl (by simpa using q)
      · exact .inr (by simpa using q)
theorem items_zip {a b : Addr} {ys ws : List V} {xs zs : List PyData} (h : SqL K F a ys) (r : Rps K F ys xs) (h2 : SqL K F b ws) (r2 : Rps K F ws zs) : Items K F (zip2 xs zs) (Itz K a b) := fun i H F' e1 e2 => by
  have h' := ex_l (e1.trans e2) h
  have h2' := ex_l (e1.trans e2) h2
  refine ⟨fun d hd => ?_, fun hl0 => by have hl := Nat.le_of_eq hl0; exact ⟨ys, ws, h', h2', by rw [r.length, r2.length]; exact zip2_len hl⟩⟩
  obtain ⟨x, y, hx, hy, rfl⟩ := zip2_get hd
  obtain ⟨v, hv, hr⟩ := r.get hx
  obtain ⟨v2, hv2, hr2⟩ := r2.get hy
  refine ⟨⟨ys, ws, v, v2, h', h2', hv, hv2⟩, fun w H3 hy => ?_⟩
  obtain ⟨t, u, u2, rfl, ht, rfl, f, f2⟩ := hy
  have : u = v := Option.some.inj ((f ys h').symm.trans hv)
  subst this
  have : u2 = v2 := Option.some.inj ((f2 ws h2').symm.trans hv2)
  subst this
  exact new_pair (K := K) e2 ht (hr.up e1) (hr2.up e1)
theorem items_enumZ {a b : Addr} {ys ws : List V} {xs zs : List PyData} (h : SqL K F a ys) (r : Rps K F ys xs) (h2 : SqL K F b ws) (r2 : Rps K F ws zs) : Items K F (zipI 0 (zip2 xs zs)) (RX.ItEZ K a b) := fun i H F' e1 e2 => by
  have h' := ex_l (e1.trans e2) h
  have h2' := ex_l (e1.trans e2) h2
  refine ⟨fun d hd => ?_, fun hl0 => by have hl := Nat.le_of_eq hl0; rw [zipI_length] at hl; exact ⟨ys, ws, h', h2', by rw [r.length, r2.length]; exact zip2_len hl⟩⟩
  obtain ⟨d', hd', rfl⟩ := zipI_get hd
  obtain ⟨x, y, hx, hy, rfl⟩ := zip2_get hd'
  obtain ⟨v, hv, hr⟩ := r.get hx
  obtain ⟨v2, hv2, hr2⟩ := r2.get hy
  refine ⟨⟨ys, ws, v, v2, h', h2', hv, hv2⟩, fun w H3 hy => ?_⟩
  obtain ⟨t, t2, u, u2, rfl, ht, ht2, hne, rfl, f, f2⟩ := hy
  have : u = v := Option.some.inj ((f ys h').symm.trans hv)
  subst this
  have : u2 = v2 := Option.some.inj ((f2 ws h2').symm.trans hv2)
  subst this
  obtain ⟨F3, n3, r3⟩ := new_pair (K := K) e2 ht (hr.up e1) (hr2.up e1)
  obtain ⟨F4, n4, r4⟩ := new_pair (K := K) (p := t2) n3.le (by rw [upd_ne (Ne.symm hne)]; exact ht2) (.int (0 + (i : Int))) r3
  refine ⟨F4, ⟨by simpa using n4.le, n3.ff.trans n4.ff, by simpa using n3.hh.trans n4.hh, fun a o h => ?_⟩, by simpa using r4⟩
  rcases n4.nw a o h with q | q | q
  · exact n3.nw a o q
  · cases hH : H a with
    | none => exact .inr (.inl rfl)
    | some o' => rw [n3.hh _ _ hH] at q; cases q
  · exact .inr (.inr q)
theorem items_zipT {a b : Addr} {ys ws : List V} {xs zs : List PyData} (h : SqT K F a ys) (r : Rps K F ys xs) (h2 : SqT K F b ws) (r2 : Rps K F ws zs) : Items K F (zip2 xs zs) (RZ.ItzT K a b) := fun i H F' e1 e2 => by
  have h' := ex_t (e1.trans e2) h
  have h2' := ex_t (e1.trans e2) h2
  refine ⟨fun d hd => ?_, fun hl0 => by have hl := Nat.le_of_eq hl0; exact ⟨ys, ws, h', h2', by rw [r.length, r2.length]; exact zip2_len hl⟩⟩
  obtain ⟨x, y, hx, hy, rfl⟩ := zip2_get hd
  obtain ⟨v, hv, hr⟩ := r.get hx
  obtain ⟨v2, hv2, hr2⟩ := r2.get hy
  refine ⟨⟨ys, ws, v, v2, h', h2', hv, hv2⟩, fun w H3 hy => ?_⟩
  obtain ⟨t, u, u2, rfl, ht, rfl, f, f2⟩ := hy
  have : u = v := Option.some.inj ((f ys h').symm.trans hv)
  subst this
  have : u2 = v2 := Option.some.inj ((f2 ws h2').symm.trans hv2)
  subst this
  exact new_pair (K := K) e2 ht (hr.up e1) (hr2.up e1)
end
section
variable {K : Frag} {F : Hp}
theorem zip3_get : ∀ {xs ys zs : List PyData} {i : Nat} {d : PyData}, (zip3 xs ys zs)[i]? = some d → ∃ x y z, xs[i]? = some x ∧ ys[i]? = some y ∧ zs[i]? = some z ∧ d = .tuple [x, y, z]
  | [], _, _, _, _, h => by simp [zip3] at h
  | _ :: _, [], _, _, _, h => by simp [zip3] at h
  | _ :: _, _ :: _, [], _, _, h => by simp [zip3] at h
  | x :: xs, y :: ys, z :: zs, 0, d, h => by
    simp [zip3] at h
    subst h
    exact ⟨x, y, z, rfl, rfl, rfl, rfl⟩
  | x :: xs, y :: ys, z :: zs, i + 1, d, h => by
    obtain ⟨a, b, c, h1, h2, h3, h4⟩ := zip3_get (xs := xs) (ys := ys) (zs := zs) (i := i) (d := d) (by simpa [zip3] using h)
    exact ⟨a, b, c, by simpa using h1, by simpa using h2, by simpa using h3, h4⟩
theorem zip3_length : ∀ xs ys zs : List PyData, (zip3 xs ys zs).length = min (min xs.length ys.length) zs.length
  | [], _, _ => by simp [zip3]
  | _ :: _, [], _ => by simp [zip3]
  | _ :: _, _ :: _, [] => by simp [zip3]
  | x :: xs, y :: ys, z :: zs => by simp [zip3, zip3_length xs ys zs]
theorem new_trip {p : Addr} {u v w : V} {c d e : PyData} {F H : Hp} (ex : Ex F H) (hp : H p = none) (h0 : Rp K F u c) (h1 : Rp K F v d) (h2 : Rp K F w e) : ∃ F3, Nw F H F3 (upd H p (.tup [u, v, w])) ∧ Rp K F3 (.ref p) (.tuple [c, d, e]) := by
  have r := Rs.newT (K := K) ex hp (Rps.cons h0 (Rps.cons h1 (Rps.cons h2 Rps.nil)))
  exact ⟨_, r.nw, r.ow.dat⟩
theorem items_zip3 {a b c : Addr} {ys ws us : List V} {xs zs vs : List PyData} (h : SqL K F a ys) (r : Rps K F ys xs) (h2 : SqL K F b ws) (r2 : Rps K F ws zs) (h3 : SqL K F c us) (r3 : Rps K F us vs) : Items K F (zip3 xs zs vs) (RX.Itz3 K a b c) := fun i H F' e1 e2 => by
  have h' := ex_l (e1.trans e2) h
  have h2' := ex_l (e1.trans e2) h2
  have h3' := ex_l (e1.trans e2) h3
  refine ⟨fun d hd => ?_, fun hl => ⟨ys, ws, us, h', h2', h3', ?_⟩⟩
  · obtain ⟨x, y, z, hx, hy, hz, rfl⟩ := zip3_get hd
    obtain ⟨v, hv, hr⟩ := r.get hx
    obtain ⟨v2, hv2, hr2⟩ := r2.get hy
    obtain ⟨v3, hv3, hr3⟩ := r3.get hz
    refine ⟨⟨ys, ws, us, v, v2, v3, h', h2', h3', hv, hv2, hv3⟩, fun w H3 hy => ?_⟩
    obtain ⟨t, u, u2, u3, rfl, ht, rfl, f, f2, f3⟩ := hy
    have : u = v := Option.some.inj ((f ys h').symm.trans hv)
    subst this
    have : u2 = v2 := Option.some.inj ((f2 ws h2').symm.trans hv2)
    subst this
    have : u3 = v3 := Option.some.inj ((f3 us h3').symm.trans hv3)
    subst this
    exact new_trip (K := K) e2 ht (hr.up e1) (hr2.up e1) (hr3.up e1)
  · rw [zip3_length] at hl
    rw [r.length, r2.length, r3.length]
    omega
end
section
variable {P : Prg} {G : Gls} {T : Tab} {n : Nat} {N : List Str} {sc : Scope} {top : Bool} {X : Cx} (o : XOk P G T n N sc top X)
theorem i_itL {e : E} {tg a : Expr} (ha : PE X a (tX X.K T G e)) : PI X tg a (tI X.K T G (.itL e)) := (pi_any ha).mono fun σ H R ⟨F, ρ, fp, xs, ρ', s, hd, k⟩ => by
  simp only [deni] at hd
  obtain ⟨⟨x1, ρ1⟩, h1, hd⟩ := Res.bind_inv hd
  obtain ⟨d1, h2, hd⟩ := Res.bind_inv hd
  obtain ⟨ys, h3, hd⟩ := Res.bind_inv hd
  cases hd
  refine ⟨F, ρ, fp, x1, _, s, h1, fun v H1 F1 fp1 P1 s1 t1 hd1 sub => ?_⟩
  obtain ⟨F2, s2, e2, q2, d2⟩ := hd1.settle s1 h2
  have t2 := t1.grow sub e2 s2.le q2
  unfold itemsD at h3
  split at h3
  · cases h3
    obtain ⟨a, ys, rfl, h4, h5⟩ := d2.lst_inv
    exact .inl ⟨a, ys, rfl, (h4.up s2.le).sq, k _ _ _ _ s2 t2 (items_list h4.sq h5)⟩
  · cases h3
    obtain ⟨a, ys, rfl, h4, h5⟩ := d2.tup_inv
    exact .inr (.inl ⟨a, ys, rfl, ex_t s2.le h4, k _ _ _ _ s2 t2 (items_tup h4 h5)⟩)
  · cases h3
    obtain rfl := d2.str_inv
    exact .inr (.inr ⟨_, rfl, k _ _ _ _ s2 t2 items_str⟩)
  · cases h3
include o in
theorem i_itR1 {x : E} {tg a : Expr} {f : Str} {p pos : Pos} (ha : PE X a (tX X.K T G x)) (hs : noStar a = true) (hf : f = "range") (hg : glo sc f = true) : PI X tg (.Call (.Name f p) [a] [] pos) (tI X.K T G (.itR1 x)) := by
  obtain ⟨g1, g2, g3⟩ := glo_ok o hg
  subst hf
  refine (pi_range1 g1 (o.blt _ (by decide +kernel)) (pa_cons ha pa_nil (star_ok hs)) (star_ok hs)).mono fun σ H R ⟨F, ρ, fp, xs, ρ', s, hd, k⟩ => ?_
  simp only [deni] at hd
  obtain ⟨⟨x1, ρ1⟩, h1, hd⟩ := Res.bind_inv hd
  dsimp only at hd
  split at hd
  · rename_i m
    obtain ⟨_, g, hd⟩ := Res.bind_inv hd
    cases hd
    have g' := of_decide_eq_true (Res.guard_inv g)
    refine ⟨F, ρ, fp, _, _, s, h1, fun v H1 F1 fp1 P1 s1 t1 hd1 sub => ⟨m, ?_, g'.2, g'.1, k _ _ _ _ s1 t1 items_rng⟩⟩
    rw [hd1.ow.dat.int_inv]
  · cases hd
include o in
theorem i_itR2 {x y : E} {tg a b : Expr} {f : Str} {p pos : Pos} (ha : PE X a (tX X.K T G x)) (hs : noStar a = true) (hb : PE X b (tX X.K T G y)) (hs2 : noStar b = true) (hf : f = "range") (hg : glo sc f = true) : PI X tg (.Call (.Name f p) [a, b] [] pos) (tI X.K T G (.itR2 x y)) := by
  obtain ⟨g1, g2, g3⟩ := glo_ok o hg
  subst hf
  refine (pi_range2 g1 (o.blt _ (by decide +kernel)) (pa_cons ha (pa_cons hb pa_nil (star_ok hs2)) (star_ok hs)) (by rw [star_ok hs, star_ok hs2] <;> rfl) (star_ok hs2)).mono fun σ H R ⟨F, ρ, fp, xs, ρ', s, hd, k⟩ => ?_
  simp only [deni] at hd
  obtain ⟨⟨x1, ρ1⟩, h1, hd⟩ := Res.bind_inv hd
  obtain ⟨⟨x2, ρ2⟩, h2, hd⟩ := Res.bind_inv hd
  dsimp only at hd
  split at hd
  · obtain ⟨_, g, hd⟩ := Res.bind_inv hd
    cases hd
    have g' := of_decide_eq_true (Res.guard_inv g)
    refine two s h1 h2 fun v w H2 F2 fp2 P1 P2 s2 t2 hd1 hd2 _ _ _ => ⟨_, _, ?_, ⟨g'.2.2.2, g'.2.2.1, g'.2.1, g'.1⟩, k _ _ _ _ s2 t2 items_rng⟩
    rw [hd1.ow.dat.int_inv, hd2.ow.dat.int_inv]
  · cases hd
include o in
theorem i_itDown {x y : E} {tg a b : Expr} {f : Str} {j : Nat} {p p1 p2 pos : Pos} (ha : PE X a (tX X.K T G x)) (hs : noStar a = true) (hb : PE X b (tX X.K T G y)) (hs2 : noStar b = true) (hf : f = "range") (hg : glo sc f = true) : PI X tg (.Call (.Name f p) [a, b, .UnaryOp .USub (.Constant (.int 1) j p1) p2] [] pos) (tI X.K T G (.itDown x y)) := by
  obtain ⟨g1, g2, g3⟩ := glo_ok o hg
  subst hf
  have pm : PE X (.UnaryOp .USub (.Constant (.int 1) j p1) p2) (tUn (rU fun i => .int (-i)) (tC (.int 1))) := pe_un un_neg pe_int
  refine (pi_range3 g1 (o.blt _ (by decide +kernel)) (pa_cons ha (pa_cons hb (pa_cons pm pa_nil rfl) (star_ok hs2)) (star_ok hs)) (by rw [star_ok hs, star_ok hs2] <;> rfl) (by rw [star_ok hs2] <;> rfl)).mono fun σ H R ⟨F, ρ, fp, xs, ρ', s, hd, k⟩ => ?_
  simp only [deni] at hd
  obtain ⟨⟨x1, ρ1⟩, h1, hd⟩ := Res.bind_inv hd
  obtain ⟨⟨x2, ρ2⟩, h2, hd⟩ := Res.bind_inv hd
  dsimp only at hd
  split at hd
  · rename_i m n
    obtain ⟨_, g, hd⟩ := Res.bind_inv hd
    cases hd
    have g' := of_decide_eq_true (Res.guard_inv g)
    refine ⟨F, ρ, fp, _, ρ1, s, h1, fun v H1 F1 fp1 P1 s1 t1 hd1 sub1 => ⟨F1, ρ1, fp1, _, _, s1, h2, fun w H2 F2 fp2 P2 s2 t2 hd2 sub2 => ⟨1, rfl, _, _, -1, _, ?_, RgC.neg g'.2.2.2 g'.2.2.1 g'.2.1 g'.1, k _ _ _ _ s2 (t1.trans t2) items_dwn⟩⟩⟩
    rw [hd1.ow.dat.int_inv, hd2.ow.dat.int_inv]
  · cases hd
include o in
theorem i_itZip3 {x y z : E} {a b c : Expr} {f : Str} {p pos tpos : Pos} {elts : List Expr} {kk : Nat} (ha : PE X a (tX X.K T G x)) (hs : noStar a = true) (hb : PE X b (tX X.K T G y)) (hs2 : noStar b = true) (hc : PE X c (tX X.K T G z)) (hs3 : noStar c = true) (hf : f = "zip") (hg : glo sc f = true) : PI X (.Tuple elts kk tpos) (.Call (.Name f p) [a, b, c] [] pos) (tI X.K T G (.itZip3 x y z)) := by
  obtain ⟨g1, g2, g3⟩ := glo_ok o hg
  subst hf
  refine (RX.pi_zip3 g1 (o.blt _ (by decide +kernel)) (pa_cons ha (pa_cons hb (pa_cons hc pa_nil (star_ok hs3)) (star_ok hs2)) (star_ok hs)) (star_ok hs) (by rw [star_ok hs2, star_ok hs3] <;> rfl)).mono fun σ H R ⟨F, ρ, fp, xs, ρ', s, hd, k⟩ => ?_
  simp only [deni] at hd
  obtain ⟨⟨x1, ρ1⟩, h1, hd⟩ := Res.bind_inv hd
  obtain ⟨⟨x2, ρ2⟩, h2, hd⟩ := Res.bind_inv hd
  obtain ⟨⟨x3, ρ3⟩, h3, hd⟩ := Res.bind_inv hd
  obtain ⟨d1, h4, hd⟩ := Res.bind_inv hd
  obtain ⟨d2, h5, hd⟩ := Res.bind_inv hd
  obtain ⟨d3, h6, hd⟩ := Res.bind_inv hd
  dsimp only at hd
  refine ⟨F, ρ, fp, x1, ρ1, s, h1, fun v H1 F1 fp1 P1 s1 t1 hd1 sub1 => ⟨F1, ρ1, fp1, x2, ρ2, s1, h2, fun w H2 F2 fp2 P2 s2 t2 hd2 sub2 => ⟨F2, ρ2, fp2, x3, ρ3, s2, h3, fun u H3 F3 fp3 P3 s3 t3 hd3 sub3 => ?_⟩⟩⟩
  have dj12 : ∀ a, P1 a → ¬ P2 a := fun a q1 q2 => by
    rcases sub2 a q2 with ⟨j, hj⟩ | h5
    · exact hd1.dj a q1 j hj
    · exact (hd1.kn a q1).ne h5
  have k1 := (hd1.keep t2)
  have dj13 : ∀ a, P1 a → ¬ P3 a := fun a q1 q2 => by
    rcases sub3 a q2 with ⟨j, hj⟩ | h5
    · exact k1.dj a q1 j hj
    · exact (k1.kn a q1).ne h5
  have dj23 : ∀ a, P2 a → ¬ P3 a := fun a q1 q2 => by
    rcases sub3 a q2 with ⟨j, hj⟩ | h5
    · exact hd2.dj a q1 j hj
    · exact (hd2.kn a q1).ne h5
  have l1 := k1.keep t3
  have l2 := hd2.keep t3
  have t13 := (t1.trans t2).trans t3
  obtain ⟨F4, s4, e4, q4, r4⟩ := l1.settle s3 h4
  have t4 := t13.grow sub1 e4 s4.le q4
  have m2 := l2.grow e4 q4 fun a z z2 => dj12 a z2 z
  have m3 := hd3.grow e4 q4 fun a z z2 => dj13 a z2 z
  obtain ⟨F5, s5, e5, q5, r5⟩ := m2.settle s4 h5
  have t5 := t4.grow (t1.subP sub2) e5 s5.le q5
  have n3 := m3.grow e5 q5 fun a z z2 => dj23 a z2 z
  obtain ⟨F6, s6, e6, q6, r6⟩ := n3.settle s5 h6
  have t6 := t5.grow ((t1.trans t2).subP sub3) e6 s6.le q6
  split at hd
  · cases hd
    obtain ⟨a, ys, rfl, j1, j2⟩ := r4.lst_inv
    obtain ⟨b, zs, rfl, j3, j4⟩ := r5.lst_inv
    obtain ⟨c, us, rfl, j5, j6⟩ := r6.lst_inv
    exact ⟨a, b, c, ys, zs, us, rfl, (((j1.up e5).up e6).up s6.le).sq, ((j3.up e6).up s6.le).sq, (j5.up s6.le).sq, k _ _ _ _ s6 t6 (items_zip3 ((j1.up e5).up e6).sq ((j2.up e5).up e6) (j3.up e6).sq (j4.up e6) j5.sq j6)⟩
  · cases hd
include o in
theorem i_itEn {x : E} {a : Expr} {f : Str} {p pos tpos : Pos} {elts : List Expr} {kk : Nat} (ha : PE X a (tX X.K T G x)) (hs : noStar a = true) (hf : f = "enumerate") (hg : glo sc f = true) : PI X (.Tuple elts kk tpos) (.Call (.Name f p) [a] [] pos) (tI X.K T G (.itEn x)) := by
  obtain ⟨g1, g2, g3⟩ := glo_ok o hg
  subst hf
  have p1 := pi_enum (p := p) (pos := pos) (tpos := tpos) (elts := elts) (kk := kk) g1 (o.blt _ (by decide +kernel)) (pa_cons ha pa_nil (star_ok hs)) (star_ok hs)
  have p2 := RE.pi_enumS (p := p) (pos := pos) (tpos := tpos) (elts := elts) (kk := kk) g1 (o.blt _ (by decide +kernel)) (pa_cons ha pa_nil (star_ok hs)) (star_ok hs)
  have p3 := RET.pi_enumT (p := p) (pos := pos) (tpos := tpos) (elts := elts) (kk := kk) g1 (o.blt _ (by decide +kernel)) (pa_cons ha pa_nil (star_ok hs)) (star_ok hs)
  have pp : PI X (.Tuple elts kk tpos) (.Call (.Name "enumerate" p) [a] [] pos) (fun σ H R => iEnum X.K (tCons (tX X.K T G x) tNil) σ H R ∨ RE.iEnumS (tCons (tX X.K T G x) tNil) σ H R ∨ RET.iEnumT X.K (tCons (tX X.K T G x) tNil) σ H R) := ⟨fun pins s σ H R I q => q.elim (p1.run pins s σ H R I) fun q => q.elim (p2.run pins s σ H R I) (p3.run pins s σ H R I)⟩
  refine pp.mono fun σ H R ⟨F, ρ, fp, xs, ρ', s, hd, k⟩ => ?_
  simp only [deni] at hd
  obtain ⟨⟨x1, ρ1⟩, h1, hd⟩ := Res.bind_inv hd
  obtain ⟨d1, h2, hd⟩ := Res.bind_inv hd
  obtain ⟨ys, h3, hd⟩ := Res.bind_inv hd
  dsimp only at hd
  cases hd
  unfold itEnD at h3
  split at h3
  · cases h3
    refine .inl ⟨F, ρ, fp, _, _, s, h1, fun v H1 F1 fp1 P1 s1 t1 hd1 sub => ?_⟩
    obtain ⟨F2, s2, e2, q2, d2⟩ := hd1.settle s1 h2
    have t2 := t1.grow sub e2 s2.le q2
    obtain ⟨a, ys, rfl, h4, h5⟩ := d2.lst_inv
    exact ⟨a, ys, rfl, (h4.up s2.le).sq, k _ _ _ _ s2 t2 (items_enum h4.sq h5)⟩
  · cases h3
    refine .inr (.inl ⟨F, ρ, fp, _, _, s, h1, fun v H1 F1 fp1 P1 s1 t1 hd1 sub => ?_⟩)
    obtain ⟨F2, s2, e2, q2, d2⟩ := hd1.settle s1 h2
    have t2 := t1.grow sub e2 s2.le q2
    obtain rfl := d2.str_inv
    exact ⟨_, rfl, k _ _ _ _ s2 t2 items_enumS⟩
  · cases h3
    refine .inr (.inr ⟨F, ρ, fp, _, _, s, h1, fun v H1 F1 fp1 P1 s1 t1 hd1 sub => ?_⟩)
    obtain ⟨F2, s2, e2, q2, d2⟩ := hd1.settle s1 h2
    have t2 := t1.grow sub e2 s2.le q2
    obtain ⟨a, ys, rfl, h4, h5⟩ := d2.tup_inv
    exact ⟨a, ys, rfl, ex_t s2.le h4, k _ _ _ _ s2 t2 (items_enumT h4 h5)⟩
  · cases h3
include o in
theorem i_itZip {x y : E} {a b : Expr} {f : Str} {p pos tpos : Pos} {elts : List Expr} {kk : Nat} (ha : PE X a (tX X.K T G x)) (hs : noStar a = true) (hb : PE X b (tX X.K T G y)) (hs2 : noStar b = true) (hf : f = "zip") (hg : glo sc f = true) : PI X (.Tuple elts kk tpos) (.Call (.Name f p) [a, b] [] pos) (tI X.K T G (.itZip x y)) := by
  obtain ⟨g1, g2, g3⟩ := glo_ok o hg
  subst hf
  refine (RZ.pi_zipA g1 (o.blt _ (by decide +kernel)) (pa_cons ha (pa_cons hb pa_nil (star_ok hs2)) (star_ok hs)) (star_ok hs) (by rw [star_ok hs2] <;> rfl)).mono fun σ H R ⟨F, ρ, fp, xs, ρ', s, hd, k⟩ => ?_
  simp only [deni] at hd
  obtain ⟨⟨x1, ρ1⟩, h1, hd⟩ := Res.bind_inv hd
  obtain ⟨⟨x2, ρ2⟩, h2, hd⟩ := Res.bind_inv hd
  obtain ⟨d1, h3, hd⟩ := Res.bind_inv hd
  obtain ⟨d2, h4, hd⟩ := Res.bind_inv hd
  dsimp only at hd
  refine two s h1 h2 fun v w H2 F2 fp2 P1 P2 s2 t2 hd1 hd2 sub1 sub2 dj => ?_
  obtain ⟨F3, s3, e3, q3, r3⟩ := hd1.settle s2 h3
  have t3 := t2.grow sub1 e3 s3.le q3
  have hd2' := hd2.grow e3 q3 fun a z z2 => dj a z2 z
  obtain ⟨F4, s4, e4, q4, r4⟩ := hd2'.settle s3 h4
  have t4 := t3.grow sub2 e4 s4.le q4
  split at hd
  · cases hd
    obtain ⟨a, ys, rfl, h4, h5⟩ := r3.lst_inv
    obtain ⟨b, zs, rfl, h6, h7⟩ := r4.lst_inv
    exact ⟨a, b, ys, zs, rfl, .inl ⟨((h4.up e4).up s4.le).sq, (h6.up s4.le).sq, k _ _ _ _ s4 t4 (items_zip (h4.up e4).sq (h5.up e4) h6.sq h7)⟩⟩
  · cases hd
    obtain ⟨a, ys, rfl, h4, h5⟩ := r3.tup_inv
    obtain ⟨b, zs, rfl, h6, h7⟩ := r4.tup_inv
    exact ⟨a, b, ys, zs, rfl, .inr ⟨ex_t s4.le (ex_t e4 h4), ex_t s4.le h6, k _ _ _ _ s4 t4 (items_zipT (ex_t e4 h4) (h5.up e4) h6 h7)⟩⟩
  · cases hd
include o in
theorem i_itZipN {x y : E} {a b : Expr} {f nm : Str} {p pos tpos : Pos} (ha : PE X a (tX X.K T G x)) (hs : noStar a = true) (hb : PE X b (tX X.K T G y)) (hs2 : noStar b = true) (hf : f = "zip") (hg : glo sc f = true) : PI X (.Name nm tpos) (.Call (.Name f p) [a, b] [] pos) (tI X.K T G (.itZipN x y)) := by
  obtain ⟨g1, g2, g3⟩ := glo_ok o hg
  subst hf
  refine (RX.pi_zipN g1 (o.blt _ (by decide +kernel)) (pa_cons ha (pa_cons hb pa_nil (star_ok hs2)) (star_ok hs)) (star_ok hs) (by rw [star_ok hs2] <;> rfl)).mono fun σ H R ⟨F, ρ, fp, xs, ρ', s, hd, k⟩ => ?_
  simp only [deni] at hd
  obtain ⟨⟨x1, ρ1⟩, h1, hd⟩ := Res.bind_inv hd
  obtain ⟨⟨x2, ρ2⟩, h2, hd⟩ := Res.bind_inv hd
  obtain ⟨d1, h3, hd⟩ := Res.bind_inv hd
  obtain ⟨d2, h4, hd⟩ := Res.bind_inv hd
  dsimp only at hd
  refine two s h1 h2 fun v w H2 F2 fp2 P1 P2 s2 t2 hd1 hd2 sub1 sub2 dj => ?_
  obtain ⟨F3, s3, e3, q3, r3⟩ := hd1.settle s2 h3
  have t3 := t2.grow sub1 e3 s3.le q3
  have hd2' := hd2.grow e3 q3 fun a z z2 => dj a z2 z
  obtain ⟨F4, s4, e4, q4, r4⟩ := hd2'.settle s3 h4
  have t4 := t3.grow sub2 e4 s4.le q4
  split at hd
  · cases hd
    obtain ⟨a, ys, rfl, h4, h5⟩ := r3.lst_inv
    obtain ⟨b, zs, rfl, h6, h7⟩ := r4.lst_inv
    exact ⟨a, b, ys, zs, rfl, ((h4.up e4).up s4.le).sq, (h6.up s4.le).sq, k _ _ _ _ s4 t4 (items_zip (h4.up e4).sq (h5.up e4) h6.sq h7)⟩
  · cases hd
include o in
theorem i_itEnZ {x y : E} {a b : Expr} {f g : Str} {p p2 pos pos2 tpos : Pos} {elts : List Expr} {kk : Nat} (ha : PE X a (tX X.K T G x)) (hs : noStar a = true) (hb : PE X b (tX X.K T G y)) (hs2 : noStar b = true) (hfg : g = "enumerate") (hgg : glo sc g = true) (hf : f = "zip") (hg : glo sc f = true) : PI X (.Tuple elts kk tpos) (.Call (.Name g p) [.Call (.Name f p2) [a, b] [] pos2] [] pos) (tI X.K T G (.itEnZ x y)) := by
  obtain ⟨g1, g2, g3⟩ := glo_ok o hg
  obtain ⟨g4, g5, g6⟩ := glo_ok o hgg
  subst hf hfg
  refine (RX.pi_enumZ g4 (o.blt _ (by decide +kernel)) g1 (o.blt _ (by decide +kernel)) (pa_cons ha (pa_cons hb pa_nil (star_ok hs2)) (star_ok hs)) (star_ok hs) (by rw [star_ok hs2] <;> rfl)).mono fun σ H R ⟨F, ρ, fp, xs, ρ', s, hd, k⟩ => ?_
  simp only [deni] at hd
  obtain ⟨⟨x1, ρ1⟩, h1, hd⟩ := Res.bind_inv hd
  obtain ⟨⟨x2, ρ2⟩, h2, hd⟩ := Res.bind_inv hd
  obtain ⟨d1, h3, hd⟩ := Res.bind_inv hd
  obtain ⟨d2, h4, hd⟩ := Res.bind_inv hd
  dsimp only at hd
  refine two s h1 h2 fun v w H2 F2 fp2 P1 P2 s2 t2 hd1 hd2 sub1 sub2 dj => ?_
  obtain ⟨F3, s3, e3, q3, r3⟩ := hd1.settle s2 h3
  have t3 := t2.grow sub1 e3 s3.le q3
  have hd2' := hd2.grow e3 q3 fun a z z2 => dj a z2 z
  obtain ⟨F4, s4, e4, q4, r4⟩ := hd2'.settle s3 h4
  have t4 := t3.grow sub2 e4 s4.le q4
  split at hd
  · cases hd
    obtain ⟨a, ys, rfl, h4, h5⟩ := r3.lst_inv
    obtain ⟨b, zs, rfl, h6, h7⟩ := r4.lst_inv
    exact ⟨a, b, ys, zs, rfl, ((h4.up e4).up s4.le).sq, (h6.up s4.le).sq, k _ _ _ _ s4 t4 (items_enumZ (h4.up e4).sq (h5.up e4) h6.sq h7)⟩
  · cases hd
end
end Rf
set_option maxRecDepth 100000
set_option maxHeartbeats 4000000
namespace Rf
open PySem PySem.Spec PyProof.Rows L2 Evl
def tG (K : Frag) (g : Tg) : TG := fun v σ H k => ∃ F ρ fp d ρ', St K F H σ ρ fp ∧ Rp K F v d ∧ stTg g d ρ = .ok ρ' ∧
  ∀ σ' fp', St K F H σ' ρ' fp' → (∀ i, i ∉ slots g → σ'[i]? = σ[i]?) → (∀ i a, fp' i a → fp i a) → k σ' H
def tGs (K : Frag) (g : Tg) : TGs := fun vs σ H k => ∃ F ρ fp ds ρ', St K F H σ ρ fp ∧ Rps K F vs ds ∧ stTg g (.tuple ds) ρ = .ok ρ' ∧
  ∀ σ' fp', St K F H σ' ρ' fp' → (∀ i, i ∉ slots g → σ'[i]? = σ[i]?) → (∀ i a, fp' i a → fp i a) → k σ' H
theorem _root_.L2.PG.mono {X : Cx} {e : Expr} {t t' : TG} (h : PG X e t) (m : ∀ v σ H Q, t' v σ H Q → t v σ H Q) : PG X e t' := ⟨fun pins s σ H v u Q I r q => h.run pins s σ H v u Q I r (m v σ H Q q)⟩
theorem _root_.L2.PGs.mono {X : Cx} {e : List Expr} {t t' : TGs} (h : PGs X e t) (m : ∀ v σ H Q, t' v σ H Q → t v σ H Q) : PGs X e t' := ⟨fun pins s σ H v u Q I r q => h.run pins s σ H v u Q I r (m v σ H Q q)⟩
theorem pg_or {X : Cx} {e : Expr} {t t' : TG} (h : PG X e t) (h' : PG X e t') : PG X e (fun v σ H Q => t v σ H Q ∨ t' v σ H Q) :=
  ⟨fun pins s σ H v u Q I r q => q.elim (h.run pins s σ H v u Q I r) (h'.run pins s σ H v u Q I r)⟩
theorem stTg_length : ∀ {g : Tg} {d : PyData} {ρ ρ' : Ro}, stTg g d ρ = .ok ρ' → ρ'.length = ρ.length
  | .n i, d, ρ, ρ', h => by
    simp only [stTg] at h
    cases h
    simp
  | .nil, d, ρ, ρ', h => by
    cases d with
    | tuple ds =>
      cases ds with
      | nil => simp only [stTg] at h; cases h; rfl
      | cons d ds => simp [stTg] at h
    | list ds =>
      cases ds with
      | nil => simp only [stTg] at h; cases h; rfl
      | cons d ds => simp [stTg] at h
    | _ => simp [stTg] at h
  | .cons t r, d, ρ, ρ', h => by
    cases d with
    | tuple ds =>
      cases ds with
      | nil => simp [stTg] at h
      | cons d ds =>
        simp only [stTg] at h
        obtain ⟨ρ1, h1, h2⟩ := Res.bind_inv h
        rw [stTg_length h2, stTg_length h1]
    | list ds =>
      cases ds with
      | nil => simp [stTg] at h
      | cons d ds =>
        simp only [stTg] at h
        obtain ⟨ρ1, h1, h2⟩ := Res.bind_inv h
        rw [stTg_length h2, stTg_length h1]
    | _ => simp [stTg] at h
theorem asg_ok {e : Expr} {es : List Expr} {env : Env} (h : noStar e = true) : assignEach (e :: es) env = (false, assign e env) :: assignEach es env := by
  cases e <;> first | rfl | (cases h)
section
variable {P : Prg} {G : Gls} {T : Tab} {n : Nat} {N : List Str} {sc : Scope} {top : Bool} {X : Cx} (o : XOk P G T n N sc top X)
include o
theorem sto_ok {x : Str} (h : sto top sc x = true) : Loc X.env.scope x ∧ (X.fn x = true ∨ X.env.scope.names.lookup x = some .local) := by
  unfold sto at h
  rw [o.hsc]
  split at h
  · rename_i q; exact ⟨.inl q, .inr q⟩
  · rename_i q; exact ⟨.inr q, .inl (o.fn h x)⟩
  · cases h
mutual
theorem pg_of : ∀ (g : Tg) (a : Expr), chkT N g sc top a = true → PG X a (tG X.K g)
  | .n i, a, h => by
    unfold chkT at h
    split at h
    · rw [Bool.and_eq_true] at h
      obtain ⟨h1, h2⟩ := h
      obtain ⟨l1, l2⟩ := sto_ok o h2
      refine (pg_name (i := i) (by rw [o.hN]; exact o.nd) (by rw [o.hN]; simpa using h1) l1 l2).mono fun v σ H Q ⟨F, ρ, fp, d, ρ', s, r, e, k⟩ => ?_
      simp only [stTg] at e
      cases e
      refine k _ _ (s.putD r i) (fun j hj => ?_) fun j a hj => ?_
      · rw [List.getElem?_set_ne]
        rintro rfl
        exact hj List.mem_cons_self
      · rcases fpSet_cases hj with ⟨_, z⟩ | ⟨_, z⟩
        · exact z.elim
        · exact z
    · cases h
  | .nil, a, h => by
    unfold chkT at h
    split at h
    · rename_i es kk pos
      have he : es = [] := by simpa using h
      subst he
      refine (pg_or (pg_tup (n := 0) o.calm pgs_nil rfl rfl) (pg_unl (n := 0) o.calm pgs_nil rfl rfl)).mono fun v σ H Q ⟨F, ρ, fp, d, ρ', s, r, e, k⟩ => ?_
      cases d with
      | tuple ds =>
        cases ds with
        | nil =>
          simp only [stTg] at e
          cases e
          obtain ⟨a, ys, rfl, h1, h2⟩ := r.tup_inv
          cases h2
          exact .inl ⟨a, [], rfl, ex_t s.le h1, rfl, rfl, k σ fp s (fun _ _ => rfl) fun _ _ z => z⟩
        | cons d ds => simp [stTg] at e
      | list ds =>
        cases ds with
        | nil =>
          simp only [stTg] at e
          cases e
          obtain ⟨a, ys, rfl, h1, h2⟩ := r.lst_inv
          cases h2
          exact .inr ⟨a, [], rfl, (h1.up s.le).sq, rfl, rfl, k σ fp s (fun _ _ => rfl) fun _ _ z => z⟩
        | cons d ds => simp [stTg] at e
      | _ => simp [stTg] at e
    · cases h
  | .cons t r, a, h => by
    unfold chkT at h
    split at h
    · rename_i es kk pos
      have hl := (pgs_len (.cons t r) es h)
      refine (pg_or (pg_tup (n := es.length) o.calm (pgs_of (.cons t r) es h) hl.1 hl.2) (pg_unl (n := es.length) o.calm (pgs_of (.cons t r) es h) hl.1 hl.2)).mono fun v σ H Q ⟨F, ρ, fp, d, ρ', s, r', e, k⟩ => ?_
      cases d with
      | tuple ds =>
        obtain ⟨a, ys, rfl, h1, h2⟩ := r'.tup_inv
        exact .inl ⟨a, ys, rfl, ex_t s.le h1, by rw [h2.length]; exact stTg_len _ es ds ρ ρ' h e, F, ρ, fp, ds, ρ', s, h2, e, k⟩
      | list ds =>
        have e' : stTg (.cons t r) (.tuple ds) ρ = .ok ρ' := by
          rw [← e]
          cases ds <;> rfl
        obtain ⟨a, ys, rfl, h1, h2⟩ := r'.lst_inv
        exact .inr ⟨a, ys, rfl, (h1.up s.le).sq, by rw [h2.length]; exact stTg_len _ es ds ρ ρ' h e', F, ρ, fp, ds, ρ', s, h2, e', k⟩
      | _ => simp [stTg] at e
    · cases h
theorem pgs_of : ∀ (g : Tg) (es : List Expr), chkTs N g sc top es = true → PGs X es (tGs X.K g)
  | .n i, es, h => by simp [chkTs] at h
  | .nil, es, h => by
    simp only [chkTs] at h
    have he : es = [] := by simpa using h
    subst he
    refine pgs_nil.mono fun v σ H Q ⟨F, ρ, fp, ds, ρ', s, r, e, k⟩ => ?_
    cases ds with
    | nil =>
      simp only [stTg] at e
      cases e
      cases r
      exact ⟨rfl, k σ fp s (fun _ _ => rfl) fun _ _ z => z⟩
    | cons d ds => simp [stTg] at e
  | .cons t r, es, h => by
    cases es with
    | nil => simp [chkTs] at h
    | cons e es =>
      simp only [chkTs, Bool.and_eq_true] at h
      refine (pgs_cons (pg_of t e h.1.2) (pgs_of r es h.2) (by rw [asg_ok h.1.1] <;> rfl)).mono fun vs σ H Q ⟨F, ρ, fp, ds, ρ', s, hr, e', k⟩ => ?_
      cases ds with
      | nil => simp [stTg] at e'
      | cons d ds =>
        simp only [stTg] at e'
        obtain ⟨ρ1, e1, e2⟩ := Res.bind_inv e'
        cases hr with
        | cons r1 r2 =>
          refine ⟨_, _, rfl, F, ρ, fp, d, ρ1, s, r1, e1, fun σ1 fp1 s1 k1 f1 => ?_⟩
          refine ⟨F, ρ1, fp1, ds, ρ', s1, r2, e2, fun σ2 fp2 s2 k2 f2 => ?_⟩
          refine k σ2 fp2 s2 (fun i hi => ?_) fun i a z => f1 i a (f2 i a z)
          have hi' : i ∉ slots t ∧ i ∉ slots r := by simpa [slots] using hi
          rw [k2 i hi'.2, k1 i hi'.1]
theorem pgs_len : ∀ (g : Tg) (es : List Expr), chkTs N g sc top es = true → (assignEach es X.env).length = es.length ∧ (assignEach es X.env).findIdx? (·.1) = none
  | .n i, es, h => by simp [chkTs] at h
  | .nil, es, h => by
    simp only [chkTs] at h
    have he : es = [] := by simpa using h
    subst he
    exact ⟨rfl, rfl⟩
  | .cons t r, es, h => by
    cases es with
    | nil => simp [chkTs] at h
    | cons e es =>
      simp only [chkTs, Bool.and_eq_true] at h
      obtain ⟨h1, h2⟩ := pgs_len r es h.2
      rw [asg_ok h.1.1]
      exact ⟨by simp [h1], by simp [List.findIdx?_cons, h2]⟩
theorem stTg_len : ∀ (g : Tg) (es : List Expr) (ds : List PyData) (ρ ρ' : Ro), chkTs N g sc top es = true → stTg g (.tuple ds) ρ = .ok ρ' → ds.length = es.length
  | .n i, es, _, _, _, h, _ => by simp [chkTs] at h
  | .nil, es, ds, ρ, ρ', h, e => by
    simp only [chkTs] at h
    have he : es = [] := by simpa using h
    subst he
    cases ds with
    | nil => rfl
    | cons d ds => simp [stTg] at e
  | .cons t r, es, ds, ρ, ρ', h, e => by
    cases es with
    | nil => simp [chkTs] at h
    | cons e0 es =>
      simp only [chkTs, Bool.and_eq_true] at h
      cases ds with
      | nil => simp [stTg] at e
      | cons d ds =>
        simp only [stTg] at e
        obtain ⟨ρ1, e1, e2⟩ := Res.bind_inv e
        simp [stTg_len r es ds ρ1 ρ' h.2 e2]
end
end
def rExtR (K : Frag) : V → List V → Hp → VK → Prop := fun x vs H Q => ∃ l b xs zs, x = .ref l ∧ vs = [.ref b] ∧ H l = some (.lst xs) ∧ RdL K H b zs ∧ xs.length + zs.length ≤ sizeLine ∧ Q .non (upd H l (.lst (xs ++ zs)))
theorem mt_extR {X : Cx} : MtM X "list.extend" (rExtR X.K) := by
  intro pins s σ H x vs v us Q I rx rv h
  obtain ⟨l, b, xs, zs, rfl, rfl, hH, hB, hz, q⟩ := h
  cases rx
  obtain ⟨u, rfl, ru⟩ := rv.one
  cases ru
  obtain ⟨z, its, n, r, hl, e⟩ := I.lstM hH
  obtain ⟨z2, its2, n2, r2, hl2, e2⟩ := I.lstR hB
  have hsz : its.toArray.size + its2.toArray.size ≤ sizeLine := by rw [List.size_toArray, List.size_toArray]; omega
  have hlong : ¬ (!its.toArray.isEmpty && Builtin.List.listTooLong (its.toArray.size + its2.toArray.size)) = true := by
    rw [notLongL hsz, Bool.and_false]
    exact Bool.false_ne_true
  refine call_meets F.slot_list_extend ⟨_, e, rfl⟩ F.entry_list_extend (F.args_list_extend_2 _ _)
    (AutoSeq1.list_extend_list_list_0 l its.toArray n b its2.toArray n2 hlong (by rw [List.size_toArray]; omega) (by omega)) ⟨e, e2, ?_⟩
  refine ⟨.non, _, I.lset (its' := its ++ its2) hH e (by simp) (r.append r2) ?_, rfl, q⟩
  rw [List.length_append]
  omega
def mtId : Mt → String
  | .append => "list.append" | .pop => "list.pop" | .popAt => "list.pop" | .extend => "list.extend" | .clear => "list.clear" | .reverse => "list.reverse" | .index => "list.index" | .count => "list.count"
def rMt (K : Frag) : Mt → V → List V → Hp → VK → Prop
  | .append => rAppend
  | .pop => rPop
  | .popAt => rPopAt
  | .extend => rExtR K
  | .clear => rClear
  | .reverse => rReverse
  | _ => fun _ _ _ _ => False
theorem mt_all {X : Cx} (m : Mt) : MtR X (mtId m) (rMt X.K m) := by
  cases m
  case append => exact mt_append
  case pop => exact mt_pop
  case popAt => exact mt_popAt
  case extend => exact mt_extR
  case clear => exact mt_clear
  case reverse => exact mt_reverse
  all_goals exact fun _ _ _ _ _ _ _ _ _ _ _ _ h => h.elim
theorem mt_rs {K : Frag} {F H : Hp} {p : Addr} {ys : List V} {xs xs' zs : List PyData} {vs : List V} {r : PyData} {Q : VK} (m : Mt) (e : Ex F H) (hH : H p = some (.lst ys)) (hr : Rps K F ys xs) (ha : Rps K F vs zs) (hz : mtS m xs zs = .ok (xs', r))
    (k : ∀ v' ys', Rps K F ys' xs' → Rp K F v' r → Q v' (upd H p (.lst ys'))) : rMt K m (.ref p) vs H Q := by
  unfold mtS at hz
  split at hz
  · obtain ⟨_, g, hz⟩ := Res.bind_inv hz
    cases hz
    have g' := of_decide_eq_true (Res.guard_inv g)
    cases ha with
    | cons h1 h2 =>
      cases h2
      exact ⟨p, ys, _, rfl, rfl, hH, mil_lt (by rw [hr.length]; exact g'), k _ _ (hr.append (.cons h1 .nil)) .non⟩
  · cases ha
    split at hz
    · rename_i hx
      cases hz
      rw [← hr.length] at hx
      obtain ⟨v, h1, h2⟩ := hr.get hx
      exact ⟨p, ys, v, rfl, rfl, hH, h1, k _ _ hr.dropLast h2⟩
    · cases hz
  · rename_i i
    obtain ⟨_, g, hz⟩ := Res.bind_inv hz
    have g' := of_decide_eq_true (Res.guard_inv g)
    cases ha with
    | cons h1 h2 =>
      cases h2
      obtain rfl := h1.int_inv
      split at hz
      · rename_i j hj
        split at hz
        · rename_i hx
          cases hz
          obtain ⟨q1, q2, q3, q4⟩ := ixN_seq hj
          obtain ⟨v, h3, h4⟩ := hr.get hx
          exact ⟨p, ys, i, j, v, rfl, rfl, hH, by omega, by omega, by rw [hr.length]; exact q1, h3, k _ _ (hr.eraseIdx _) h4⟩
        · cases hz
      · cases hz
  · obtain ⟨_, g, hz⟩ := Res.bind_inv hz
    cases hz
    have g' := of_decide_eq_true (Res.guard_inv g)
    cases ha with
    | cons h1 h2 =>
      cases h2
      obtain ⟨a, ws, rfl, h3, h4⟩ := h1.lst_inv
      exact ⟨p, a, ys, ws, rfl, rfl, hH, h3.up e, mil (by rw [hr.length, h4.length]; exact g'), k _ _ (hr.append h4) .non⟩
  · cases hz
    cases ha
    exact ⟨p, ys, rfl, rfl, hH, k _ _ .nil .non⟩
  · cases hz
    cases ha
    exact ⟨p, ys, rfl, rfl, hH, k _ _ hr.reverse .non⟩
  · cases hz
section
variable {P : Prg} {G : Gls} {T : Tab} {n : Nat} {N : List Str} {sc : Scope} {top : Bool} {X : Cx} (o : XOk P G T n N sc top X)
theorem plList_s {ρ : Ro} {i : Nat} {xs : List PyData} (h : plList ρ (.s i) = .ok xs) : getRo ρ i = some (.L xs) := by
  have h' : (match getRo ρ i with | some (.L xs) => Res.ok xs | _ => Res.bad) = Res.ok xs := h
  split at h'
  · rename_i h2
    cases h'
    exact h2
  · cases h'
theorem le_mt {m : Mt} {i : Nat} {as : E} (hn : noIo as = true) : ∀ σ H Q, tX X.K T G (.mt m (.s i) as) σ H Q → (tVar i σ H fun x H1 => tyV X.K "list" x H1 ∧ tA X.K T G as σ H1 fun vs H2 => rMt X.K m x vs H2 Q) := fun σ H Q ⟨F, ρ, fp, z, ρ', s, hd, k⟩ => by
  simp only [den] at hd
  obtain ⟨xs0, h0, hd⟩ := Res.bind_inv hd
  obtain ⟨⟨ys, ρ1⟩, h1, hd⟩ := Res.bind_inv hd
  obtain ⟨zs, h2, hd⟩ := Res.bind_inv hd
  obtain ⟨xs, h3, hd⟩ := Res.bind_inv hd
  obtain ⟨⟨xs', r⟩, h4, hd⟩ := Res.bind_inv hd
  cases hd
  obtain ⟨p, ws, e1, e2, e3, e4⟩ := s.list (plList_s h0)
  refine ⟨_, e1, .inl ⟨rfl, ws, sq_of e3⟩, F, ρ, fp, ys, ρ1, s, h1, fun vs H1 F1 fp1 P1 s1 t1 hd1 sub => ?_⟩
  obtain ⟨F2, s2, x2, q2, d2⟩ := settleA hd1.ow hn h2 s1 hd1.nf hd1.kn hd1.dj
  obtain ⟨p', ws', f1, f2, f3, f4⟩ := s2.list (plList_s h3)
  rw [e1] at f1
  cases f1
  refine mt_rs m s2.le f3 f4 d2 h4 fun v' ys' g1 g2 => ?_
  obtain ⟨s3, t3⟩ := s2.mut (plList_s h3) e1 f2 f3 g1
  exact fin0 k s3 ((t1.grow sub x2 s2.le q2).trans t3) rfl g2
theorem base_ok {a : Expr} {x : Str} {env : Env} {w : Sem Value} (h : noCall a = true) : attributeBase a x env w = w := by
  cases a with
  | Call f as ks p =>
    cases f with
    | Name y q =>
      cases as with
      | nil =>
        cases ks with
        | nil =>
          have hn : (y != ("super" : Str)) = true := h
          unfold attributeBase
          simp only [hn, Bool.true_or, if_true]
        | cons _ _ => rfl
      | cons _ _ => rfl
    | _ => rfl
  | _ => rfl
theorem few_ok {env : Env} {pos : Pos} {e : Expr} {es : List Expr} (h : (e :: es).all noStar = true) (hl : (e :: es).length < 29) :
    ((backTo pos (starEach (e :: es) env)).all (fun x => !x.1) && (backToKw pos (keywordEach [] env)).all (fun x => x.1.isSome) && decide ((e :: es).length + ([] : List Keyword).length + (if ([] : List Keyword).isEmpty then 0 else 1) < 30)) = true := by
  have h1 : ∀ es : List Expr, es.all noStar = true → (backTo pos (starEach es env)).all (fun x => !x.1) = true := by
    intro es
    induction es with
    | nil => intro _; rfl
    | cons e es ih =>
      intro h
      rw [List.all_cons, Bool.and_eq_true] at h
      rw [star_ok h.1]
      show (true && (backTo pos (starEach es env)).all (fun x => !x.1)) = true
      rw [ih h.2] <;> rfl
  rw [h1 _ h]
  have : decide ((e :: es).length + ([] : List Keyword).length + (if ([] : List Keyword).isEmpty then 0 else 1) < 30) = true := decide_eq_true (by simp only [List.length_nil, List.isEmpty_nil, if_true]; omega)
  rw [this]
  rfl
include o in
theorem s_mt {m : Mt} {i : Nat} {as : E} {a : Expr} {x : Str} {es : List Expr} {ap cp : Pos} (hp : chkN N i sc a = true) (ha : PA X es (tA X.K T G as)) (hs : es.all noStar = true) (hl : es.length < 29) (he0 : es = [] → as = .nil) (hn : noIo as = true) (hx : x = mtName m) (hline : (ap.endLine == cp.line) = true) :
    PE X (.Call (.Attribute a x ap) es [] cp) (tX X.K T G (.mt m (.s i) as)) := by
  have hbase : attributeBase a x X.env (eval a X.env) = eval a X.env := by
    unfold chkN at hp
    split at hp
    · rfl
    · cases hp
  have hv := (nm_ok o hp).1
  subst hx
  cases es with
  | nil =>
    obtain rfl := he0 rfl
    have key : ∀ (r : V → List V → Hp → VK → Prop), r = rMt X.K m → ∀ σ H Q, tX X.K T G (.mt m (.s i) .nil) σ H Q → tBM0 X.K "list" r (tVar i) σ H Q := fun r hr σ H Q h => by
      subst hr
      obtain ⟨v, e1, ty, h2⟩ := le_mt hn σ H Q h
      exact ⟨v, e1, ty, le_nilA σ H _ h2⟩
    cases m
    case append => exact (pe_bm0 PySem.F.plainAttrs_list PySem.F.slot_list_append PySem.F.type_list_append (mt_all .append) hv hbase hline).mono (key _ rfl)
    case pop => exact (pe_bm0 PySem.F.plainAttrs_list PySem.F.slot_list_pop PySem.F.type_list_pop (mt_all .pop) hv hbase hline).mono (key _ rfl)
    case popAt => exact (pe_bm0 PySem.F.plainAttrs_list PySem.F.slot_list_pop PySem.F.type_list_pop (mt_all .popAt) hv hbase hline).mono (key _ rfl)
    case extend => exact (pe_bm0 PySem.F.plainAttrs_list PySem.F.slot_list_extend PySem.F.type_list_extend (mt_all .extend) hv hbase hline).mono (key _ rfl)
    case clear => exact (pe_bm0 PySem.F.plainAttrs_list PySem.F.slot_list_clear PySem.F.type_list_clear (mt_all .clear) hv hbase hline).mono (key _ rfl)
    case reverse => exact (pe_bm0 PySem.F.plainAttrs_list PySem.F.slot_list_reverse PySem.F.type_list_reverse (mt_all .reverse) hv hbase hline).mono (key _ rfl)
    case index => exact (pe_bm0 PySem.F.plainAttrs_list PySem.F.slot_list_index PySem.F.type_list_index (mt_all .index) hv hbase hline).mono (key _ rfl)
    case count => exact (pe_bm0 PySem.F.plainAttrs_list PySem.F.slot_list_count PySem.F.type_list_count (mt_all .count) hv hbase hline).mono (key _ rfl)
  | cons e es =>
    have hs' := hs
    rw [List.all_cons, Bool.and_eq_true] at hs'
    have h1 : starEach (e :: es) X.env = (false, eval e X.env) :: starEach es X.env := star_ok hs'.1
    have h2 : (backTo cp (starEach es X.env)).any (·.1) = false := plain_tail hs'.2
    have h3 := few_ok (env := X.env) (pos := cp) hs hl
    have key : ∀ (r : V → List V → Hp → VK → Prop), r = rMt X.K m → ∀ σ H Q, tX X.K T G (.mt m (.s i) as) σ H Q → tBM X.K "list" r (tVar i) (tA X.K T G as) σ H Q := fun r hr σ H Q h => by
      subst hr
      exact le_mt hn σ H Q h
    cases m
    case append => exact (pe_bm PySem.F.plainAttrs_list PySem.F.slot_list_append PySem.F.type_list_append (mt_all .append) hv ha hbase h3 hline h1 h2).mono (key _ rfl)
    case pop => exact (pe_bm PySem.F.plainAttrs_list PySem.F.slot_list_pop PySem.F.type_list_pop (mt_all .pop) hv ha hbase h3 hline h1 h2).mono (key _ rfl)
    case popAt => exact (pe_bm PySem.F.plainAttrs_list PySem.F.slot_list_pop PySem.F.type_list_pop (mt_all .popAt) hv ha hbase h3 hline h1 h2).mono (key _ rfl)
    case extend => exact (pe_bm PySem.F.plainAttrs_list PySem.F.slot_list_extend PySem.F.type_list_extend (mt_all .extend) hv ha hbase h3 hline h1 h2).mono (key _ rfl)
    case clear => exact (pe_bm PySem.F.plainAttrs_list PySem.F.slot_list_clear PySem.F.type_list_clear (mt_all .clear) hv ha hbase h3 hline h1 h2).mono (key _ rfl)
    case reverse => exact (pe_bm PySem.F.plainAttrs_list PySem.F.slot_list_reverse PySem.F.type_list_reverse (mt_all .reverse) hv ha hbase h3 hline h1 h2).mono (key _ rfl)
    case index => exact (pe_bm PySem.F.plainAttrs_list PySem.F.slot_list_index PySem.F.type_list_index (mt_all .index) hv ha hbase h3 hline h1 h2).mono (key _ rfl)
    case count => exact (pe_bm PySem.F.plainAttrs_list PySem.F.slot_list_count PySem.F.type_list_count (mt_all .count) hv ha hbase h3 hline h1 h2).mono (key _ rfl)
include o in
/-- x[i], x a list of one's own -/
theorem s_ixP {i : Nat} {y : E} {a b : Expr} {pos : Pos} (hp : chkN N i sc a = true) (hb : PE X b (tX X.K T G y)) (hpl : PlainIx b) : PE X (.Subscript a b pos) (tX X.K T G (.ixP (.s i) y)) :=
  (pe_ix ix_list (nm_ok o hp).1 hb hpl).mono fun σ H Q ⟨F, ρ, fp, z, ρ', s, hd, k⟩ => by
    simp only [den] at hd
    split at hd
    · cases hd
    rename_i x0 hx0
    obtain ⟨⟨x1, ρ1⟩, h1, hd⟩ := Res.bind_inv hd
    dsimp only at hd
    obtain ⟨v, e1, e2⟩ := s.ow i _ hx0
    refine ⟨v, e1, F, ρ, fp, x1, ρ1, s, h1, fun w H1 F1 fp1 P1 s1 t1 hd1 sub => ?_⟩
    split at hd
    · rename_i xs j hxs
      split at hd
      · rename_i hx
        cases hd
        obtain ⟨p, ys, f1, f2, f3, f4⟩ := s1.list hxs
        rw [e1] at f1
        cases f1
        obtain ⟨u, h3, h4⟩ := atI_rps f4 hx
        exact ⟨p, ys, j, u, rfl, hd1.ow.dat.int_inv, sq_of f3, h3, fin0 k s1 t1 rfl h4⟩
      · cases hd
    · cases hd
include o in
theorem s_lenP {i : Nat} {a : Expr} {f : Str} {p pos : Pos} (hp : chkN N i sc a = true) (hf : f = "len") (hg : glo sc f = true) : PE X (.Call (.Name f p) [a] [] pos) (tX X.K T G (.lenP (.s i))) := by
  obtain ⟨g1, g2, g3⟩ := glo_ok o hg
  obtain ⟨hv, hs⟩ := nm_ok o hp
  subst hf
  refine (pe_callB c_len g1 (o.blt _ (by decide +kernel)) (by decide +kernel) (pa_cons hv pa_nil (star_ok hs)) g3 g2 (star_ok hs) rfl).mono fun σ H Q ⟨F, ρ, fp, z, ρ', s, hd, k⟩ => ?_
  simp only [den] at hd
  obtain ⟨xs, h1, hd⟩ := Res.bind_inv hd
  cases hd
  obtain ⟨p, ys, f1, f2, f3, f4⟩ := s.list (plList_s h1)
  exact ⟨_, f1, .inl ⟨p, ys, rfl, .inl (sq_of f3), by rw [f4.length]; exact fin0 k s (Xt.refl s.le) rfl (.int _)⟩⟩
def mvTy : Mv → String
  | .lindex => "list"
  | _ => "str"
def mvId : Mv → String
  | .lindex => "list.index" | .join => "str.join" | .split => "str.split" | .partition => "str.partition" | .find => "str.find" | .startswith => "str.startswith" | .rstripC => "str.rstrip" | .scount => "str.count" | .sindex => "str.index"
def rMv (K : Frag) : Mv → V → List V → Hp → VK → Prop
  | .lindex => rIndexD K
  | .join => fun x xs H Q => ∃ a p, ∃ ys : List Str, x = .str a ∧ xs = [.ref p] ∧ (SqL K H p (ys.map V.str) ∨ SqT K H p (ys.map V.str)) ∧ (ys.map (·.length)).sum + ys.length * a.length ≤ 16777216 ∧ Q (.str (Txt.join a ys)) H
  | .split => fun x xs H Q => ∃ a b, x = .str a ∧ xs = [.str b] ∧ (b.length == 0) = false ∧ a.length + 2 ≤ sizeLine ∧ rNewStrs (Txt.split a b) H Q
  | .partition => fun x xs H Q => ∃ a b, x = .str a ∧ xs = [.str b] ∧ (b.length == 0) = false ∧ a.length ≤ sizeLine ∧ ∀ p, H p = none → Q (.ref p) (upd H p (.tup [.str (Txt.partition a b).1, .str (Txt.partition a b).2.1, .str (Txt.partition a b).2.2]))
  | .find => fun x xs H Q => ∃ a b, x = .str a ∧ xs = [.str b] ∧ Q (.int (Txt.find a b)) H
  | .startswith => fun x xs H Q => ∃ a b, x = .str a ∧ xs = [.str b] ∧ Q (.bl (Txt.startswith a b)) H
  | .rstripC => fun x xs H Q => ∃ a b, x = .str a ∧ xs = [.str b] ∧ a.length ≤ sizeLine ∧ Q (.str (Txt.rstripChars a b)) H
  | .scount => fun x xs H Q => ∃ a b, x = .str a ∧ xs = [.str b] ∧ Q (.int (Txt.count a b)) H
  | .sindex => fun x xs H Q => ∃ a b i rest, x = .str a ∧ xs = [.str b] ∧ Builtin.Str.occurrences a b 0 a.length 1 = i :: rest ∧ Q (.int (i : Nat)) H
omit o in
theorem mv_all {X : Cx} {n : Nat} (hr : Room n X.A) (m : Mv) : MtR X (mvId m) (rMv X.K m) := by
  cases m
  case lindex => exact mt_indexD (by have := hr.un; omega)
  case join => exact mt_join
  case split => exact mt_split
  case partition => exact mt_partition
  case find => exact mt_find
  case startswith => exact mt_startswith
  case rstripC => exact mt_rstripChars
  case scount => exact mt_count
  case sindex => exact mt_sindex
omit o in
theorem ty_str {K : Frag} {H : Hp} {v : V} {x : Str} (h : v = .str x) : tyV K "str" v H := by
  subst h
  exact rfl
omit o in
theorem mv_ty {K : Frag} {F H : Hp} {v : V} {d : PyData} {m : Mv} {zs : List PyData} {r : PV} (e : Ex F H) (h : Opd K F H v d) (hm : mvS m d zs = .ok r) : tyV K (mvTy m) v H := by
  unfold mvS at hm
  split at hm
  · obtain ⟨a, xs, rfl, h1, _⟩ := h.lst_inv e
    exact .inl ⟨rfl, _, h1.sq⟩
  all_goals first | (cases hm; done) | exact ty_str h.str_inv
omit o in
theorem rps_strs {K : Frag} {F : Hp} : ∀ zs : List Str, Rps K F (zs.map V.str) (zs.map .str)
  | [] => .nil
  | z :: r => .cons (.str z) (rps_strs r)
omit o in
theorem mv_rs {K : Frag} {F H : Hp} {v : V} {d : PyData} {vs : List V} {m : Mv} {zs : List PyData} {r : PV} {Q : VK} (e : Ex F H) (h : Rp K F v d) (hs : Rps K F vs zs) (hm : mvS m d zs = .ok r) (k : ∀ v' F' H', Rs K F H F' H' v' r → Q v' H') : rMv K m v vs H Q := by
  unfold mvS at hm
  split at hm
  · obtain ⟨_, g, hm⟩ := Res.bind_inv hm
    split at hm
    · rename_i j hj
      cases hm
      obtain ⟨a, xs, rfl, h1, h2⟩ := h.lst_inv
      cases hs with
      | cons hx hn =>
        cases hn
        have g' := Res.guard_inv g
        unfold inOk at g'
        rw [Bool.and_eq_true] at g'
        obtain ⟨j1, j2, j3⟩ := List.findIdx?_eq_some_iff_getElem.mp hj
        refine ⟨a, _, _, _, j, _, rfl, rfl, toDp _ _ (h.up e), toDp _ _ (hx.up e), g'.2, g'.1, List.getElem?_eq_getElem j1, j2, fun i z hi hz => ?_, rs_int e k⟩
        obtain ⟨q1, q2⟩ := List.getElem?_eq_some_iff.mp hz
        have := j3 i hi
        rw [q2] at this
        simpa using this
    · cases hm
  · split at hm
    · rename_i hq
      obtain ⟨_, g, hm⟩ := Res.bind_inv hm
      cases hm
      have g' := of_decide_eq_true (Res.guard_inv g)
      cases hs with
      | cons hx hn =>
        cases hn
        obtain ⟨a, xs, rfl, h1, h2⟩ := hx.lst_inv
        have := strsV h2 hq
        subst this
        exact ⟨_, a, _, h.str_inv, rfl, .inl (h1.up e).sq, by omega, rs_str e k⟩
    · cases hm
  · obtain ⟨_, g, hm⟩ := Res.bind_inv hm
    cases hm
    have g' := of_decide_eq_true (Res.guard_inv g)
    cases hs with
    | cons hx hn =>
      cases hn
      refine ⟨_, _, h.str_inv, by rw [hx.str_inv], g'.1, Nat.le_trans (Nat.add_le_add_right g'.2 2) (by decide), fun p hp => ?_⟩
      exact k _ _ _ (Rs.newL e hp (rps_strs _))
  · obtain ⟨_, g, hm⟩ := Res.bind_inv hm
    cases hm
    have g' := of_decide_eq_true (Res.guard_inv g)
    cases hs with
    | cons hx hn =>
      cases hn
      exact ⟨_, _, h.str_inv, by rw [hx.str_inv], g'.1, mil g'.2, fun p hp => k _ _ _ (Rs.newT e hp (.cons (.str _) (.cons (.str _) (.cons (.str _) .nil))))⟩
  · cases hm
    cases hs with
    | cons hx hn =>
      cases hn
      exact ⟨_, _, h.str_inv, by rw [hx.str_inv], rs_int e k⟩
  · cases hm
    cases hs with
    | cons hx hn =>
      cases hn
      exact ⟨_, _, h.str_inv, by rw [hx.str_inv], rs_bl e k⟩
  · obtain ⟨_, g, hm⟩ := Res.bind_inv hm
    cases hm
    have g' := of_decide_eq_true (Res.guard_inv g)
    cases hs with
    | cons hx hn =>
      cases hn
      exact ⟨_, _, h.str_inv, by rw [hx.str_inv], mil g', rs_str e k⟩
  · cases hm
    cases hs with
    | cons hx hn =>
      cases hn
      exact ⟨_, _, h.str_inv, by rw [hx.str_inv], rs_int e k⟩
  · split at hm
    · rename_i i rest ho
      cases hm
      cases hs with
      | cons hx hn =>
        cases hn
        exact ⟨_, _, i, rest, h.str_inv, by rw [hx.str_inv], ho, rs_int e k⟩
    · cases hm
  · cases hm
omit o in
theorem le_mtv {K : Frag} {m : Mv} {ob as : E} (hn : noIo as = true) : ∀ σ H Q, tX K T G (.mtv m ob as) σ H Q → tBM K (mvTy m) (rMv K m) (tX K T G ob) (tA K T G as) σ H Q := fun σ H Q ⟨F, ρ, fp, z, ρ', s, hd, k⟩ => by
  simp only [den] at hd
  obtain ⟨⟨x, ρ1⟩, h1, hd⟩ := Res.bind_inv hd
  obtain ⟨⟨ys, ρ2⟩, h2, hd⟩ := Res.bind_inv hd
  obtain ⟨x', h3, hd⟩ := Res.bind_inv hd
  obtain ⟨zs, h4, hd⟩ := Res.bind_inv hd
  obtain ⟨r, h5, hd⟩ := Res.bind_inv hd
  injection hd with hd
  injection hd with e1 e2
  subst e1
  subst e2
  refine ⟨F, ρ, fp, x, ρ1, s, h1, fun v H1 F1 fp1 P1 s1 t1 hd1 sub1 => ⟨mv_ty s1.le (hd1.ow.opd h3) h5, F1, ρ1, fp1, ys, _, s1, h2, fun vs H2 F2 fp2 P2 s2 t2 hd2 sub2 => ?_⟩⟩
  have hk := hd1.keep t2
  have dj : ∀ a, P1 a → ¬ P2 a := fun a ha hb => by
    rcases sub2 a hb with ⟨j, hj⟩ | hj
    · exact hd1.dj a ha j hj
    · exact (hd1.kn a ha).ne hj
  obtain ⟨F3, s3, x3, q3, d3⟩ := settleA hd2.ow hn h4 s2 hd2.nf hd2.kn hd2.dj
  obtain ⟨F4, s4, x4, q4, d4⟩ := (hk.grow x3 q3 dj).settle s3 h3
  have t3 := ((t1.trans t2).grow (t1.subP sub2) x3 s3.le q3).grow (P := P1) sub1 x4 s4.le q4
  exact mv_rs s4.le d4 (d3.up x4) h5 fun v' F' H' rr => fin k s4 t3 rr
include o in
theorem s_mtv {m : Mv} {ob as : E} {a : Expr} {x : Str} {es : List Expr} {ap cp : Pos} (hc : noCall a = true) (hv : PE X a (tX X.K T G ob)) (ha : PA X es (tA X.K T G as)) (hs : es.all noStar = true) (hl : es.length < 29) (hne : es ≠ []) (hn : noIo as = true) (hx : x = mvName m) (hline : (ap.endLine == cp.line) = true) :
    PE X (.Call (.Attribute a x ap) es [] cp) (tX X.K T G (.mtv m ob as)) := by
  have hbase : attributeBase a x X.env (eval a X.env) = eval a X.env := base_ok hc
  subst hx
  cases es with
  | nil => exact absurd rfl hne
  | cons e es =>
    have hs' := hs
    rw [List.all_cons, Bool.and_eq_true] at hs'
    have h1 : starEach (e :: es) X.env = (false, eval e X.env) :: starEach es X.env := star_ok hs'.1
    have h2 : (backTo cp (starEach es X.env)).any (·.1) = false := plain_tail hs'.2
    have h3 := few_ok (env := X.env) (pos := cp) hs hl
    have le := le_mtv (K := X.K) (T := T) (G := G) (m := m) (ob := ob) (as := as) hn
    cases m
    case lindex => exact (pe_bm PySem.F.plainAttrs_list PySem.F.slot_list_index PySem.F.type_list_index (mv_all o.room .lindex) hv ha hbase h3 hline h1 h2).mono le
    case join => exact (pe_bm PySem.F.plainAttrs_str PySem.F.slot_str_join PySem.F.type_str_join (mv_all o.room .join) hv ha hbase h3 hline h1 h2).mono le
    case split => exact (pe_bm PySem.F.plainAttrs_str PySem.F.slot_str_split PySem.F.type_str_split (mv_all o.room .split) hv ha hbase h3 hline h1 h2).mono le
    case partition => exact (pe_bm PySem.F.plainAttrs_str PySem.F.slot_str_partition PySem.F.type_str_partition (mv_all o.room .partition) hv ha hbase h3 hline h1 h2).mono le
    case find => exact (pe_bm PySem.F.plainAttrs_str PySem.F.slot_str_find PySem.F.type_str_find (mv_all o.room .find) hv ha hbase h3 hline h1 h2).mono le
    case startswith => exact (pe_bm PySem.F.plainAttrs_str PySem.F.slot_str_startswith PySem.F.type_str_startswith (mv_all o.room .startswith) hv ha hbase h3 hline h1 h2).mono le
    case rstripC => exact (pe_bm PySem.F.plainAttrs_str PySem.F.slot_str_rstrip PySem.F.type_str_rstrip (mv_all o.room .rstripC) hv ha hbase h3 hline h1 h2).mono le
    case sindex => exact (pe_bm PySem.F.plainAttrs_str PySem.F.slot_str_index PySem.F.type_str_index (mv_all o.room .sindex) hv ha hbase h3 hline h1 h2).mono le
    case scount => exact (pe_bm PySem.F.plainAttrs_str PySem.F.slot_str_count PySem.F.type_str_count (mv_all o.room .scount) hv ha hbase h3 hline h1 h2).mono le
end
end Rf
set_option maxRecDepth 100000
set_option maxHeartbeats 4000000
namespace Rf
open PySem PySem.Spec PyProof.Rows L2 Evl
section
variable {K : Frag} {F H : Hp} {σ : L2.St} {ρ : Ro} {fp : Nat → As}
theorem St.dict (s : St K F H σ ρ fp) {i : Nat} {kvs : List (Str × CV)} (h : getRo ρ i = some (.M kvs)) : ∃ (p : Addr) (kv : List (Key × V)) (as : List Addr), σ[i]? = some (some (.ref p)) ∧ fp i p ∧ H p = some (.dK kv) ∧ Cvs K F H kv kvs as ∧ p ∉ as ∧ (∀ a ∈ as, fp i a) ∧ (kvs.map (·.1)).Nodup := by
  obtain ⟨v, e1, e2⟩ := s.ow i _ h
  cases e2 with
  | M hp h1 h2 h3 h4 h5 => exact ⟨_, _, _, e1, hp, h1, h2, h3, h4, h5⟩
/-- an object of one name's is changed -/
theorem St.mutG (s : St K F H σ ρ fp) {i : Nat} {x' : PV} {r : Addr} {o : HO} {v : V} (hr : fp i r) (ho : fixd o = false) (e : σ[i]? = some (some v)) (ow' : Ow K F (upd H r o) v x' (fp i)) :
    St K F (upd H r o) σ (ρ.set i (some x')) fp ∧ Xt F H fp F (upd H r o) fp := by
  have hf := s.nf i r hr
  have le : Ex F (upd H r o) := fun a u ha => by rw [upd_ne (ne_of_none ha hf)]; exact s.le a u ha
  refine ⟨⟨le, by simp [s.len], fun j x hx => ?_, s.dj, fun j a ha => ?_, s.nf⟩, ⟨Ex.refl F, fun a u ha hn => ?_, le, fun a u ha => .inl ha, fun j a ha => .inl ⟨j, ha⟩, fun a ha => ?_⟩⟩
  · rcases getRo_set hx with ⟨e1, e2⟩ | ⟨e1, h2⟩
    · subst e1
      cases e2
      exact ⟨_, e, ow'⟩
    · obtain ⟨v, e3, e4⟩ := s.ow j x h2
      refine ⟨v, e3, e4.up (Ex.refl F) (fun a ha u hu => ?_) fun _ z => z⟩
      rw [upd_ne]
      · exact hu
      · rintro rfl
        exact e1 (s.dj i j a hr ha)
  · by_cases q : a = r
    · subst q; exact ⟨_, upd_same, ho⟩
    · rw [upd_ne q]; exact s.kn j a ha
  · rw [upd_ne]
    · exact ha
    · rintro rfl
      exact hn i hr
  · by_cases q : a = r
    · subst q; rw [upd_same]; simp
    · rw [upd_ne q]; exact ha
theorem Cvs.getD {key : Str} {x : PyData} : ∀ {kv : List (Key × V)} {kvs : List (Str × CV)} {as : List Addr}, Cvs K F H kv kvs as → kvGet key kvs = some (.d x) → ∃ v, valV kv (.inr key : Key) = some v ∧ Rp K F v x
  | _, _, _, .nil, h => by cases h
  | _, _, _, .d (k := k) (v := v) h1 r, h => by
    unfold kvGet at h
    split at h
    · rename_i e
      cases h
      exact ⟨v, valV_pos (by rw [e]), h1⟩
    · rename_i e
      obtain ⟨w, q1, q2⟩ := Cvs.getD r h
      exact ⟨w, by rw [valV_neg (by simpa using e)]; exact q1, q2⟩
  | _, _, _, .L h1 h2 h3 r, h => by
    unfold kvGet at h
    split at h
    · cases h
    · rename_i e
      obtain ⟨w, q1, q2⟩ := Cvs.getD r h
      exact ⟨w, by rw [valV_neg (by simpa using e)]; exact q1, q2⟩
theorem Cvs.getL {key : Str} {xs : List PyData} : ∀ {kv : List (Key × V)} {kvs : List (Str × CV)} {as : List Addr}, Cvs K F H kv kvs as → kvGet key kvs = some (.L xs) → ∃ q ys, valV kv (.inr key : Key) = some (.ref q) ∧ q ∈ as ∧ H q = some (.lst ys) ∧ Rps K F ys xs
  | _, _, _, .nil, h => by cases h
  | _, _, _, .d (k := k) (v := v) h1 r, h => by
    unfold kvGet at h
    split at h
    · cases h
    · rename_i e
      obtain ⟨w, ys, q1, q2⟩ := Cvs.getL r h
      exact ⟨w, ys, by rw [valV_neg (by simpa using e)]; exact q1, q2⟩
  | _, _, _, .L (q := q) h1 h2 h3 r, h => by
    unfold kvGet at h
    split at h
    · rename_i e
      cases h
      exact ⟨q, _, valV_pos (by rw [e]), List.mem_cons_self, h1, h2⟩
    · rename_i e
      obtain ⟨w, ys, q1, q2, q3⟩ := Cvs.getL r h
      exact ⟨w, ys, by rw [valV_neg (by simpa using e)]; exact q1, List.mem_cons_of_mem _ q2, q3⟩
def mapK (kv : List (Key × V)) (k : Key) (v : V) : List (Key × V) := kv.map fun kv => if kv.1 = k then (kv.1, v) else kv
theorem mapK_no {key : Str} {v : V} : ∀ {kv : List (Key × V)} {kvs : List (Str × CV)} {as : List Addr}, Cvs K F H kv kvs as → key ∉ kvs.map (·.1) → mapK kv (.inr key) v = kv
  | _, _, _, .nil, _ => rfl
  | _, _, _, .d (k := k) h1 r, h => by
    rw [List.map_cons, List.mem_cons, not_or] at h
    simp only [mapK, List.map_cons]
    rw [if_neg (by simpa using Ne.symm h.1)]
    congr 1
    exact mapK_no r h.2
  | _, _, _, .L (k := k) h1 h2 h3 r, h => by
    rw [List.map_cons, List.mem_cons, not_or] at h
    simp only [mapK, List.map_cons]
    rw [if_neg (by simpa using Ne.symm h.1)]
    congr 1
    exact mapK_no r h.2
theorem kvSet_keys {key : Str} {c : CV} : ∀ kvs : List (Str × CV), (kvSet key c kvs).map (·.1) = kvs.map (·.1)
  | [] => rfl
  | (a, x) :: r => by
    unfold kvSet
    split
    · rfl
    · simp [kvSet_keys r]
theorem Cvs.putD {key : Str} {v : V} {x : PyData} (hv : Rp K F v x) : ∀ {kv : List (Key × V)} {kvs : List (Str × CV)} {as : List Addr}, Cvs K F H kv kvs as → (kvs.map (·.1)).Nodup → ∃ as', Cvs K F H (mapK kv (.inr key) v) (kvSet key (.d x) kvs) as' ∧ ∀ a ∈ as', a ∈ as
  | _, _, _, .nil, _ => ⟨[], .nil, fun _ h => h⟩
  | _, _, _, .d (k := k) (v := w) h1 r, nd => by
    rw [List.map_cons] at nd
    obtain ⟨n1, n2⟩ := List.nodup_cons.mp nd
    by_cases e : k = key
    · subst e
      refine ⟨_, ?_, fun _ h => h⟩
      simp only [mapK, List.map_cons, kvSet, if_true]
      have := mapK_no (v := v) r n1
      unfold mapK at this
      rw [this]
      exact .d hv r
    · obtain ⟨as', q1, q2⟩ := Cvs.putD hv r n2
      refine ⟨as', ?_, q2⟩
      simp only [mapK, List.map_cons, kvSet]
      rw [if_neg (by simpa using e), if_neg e]
      exact .d h1 q1
  | _, _, _, .L (k := k) (q := q) h1 h2 h3 r, nd => by
    rw [List.map_cons] at nd
    obtain ⟨n1, n2⟩ := List.nodup_cons.mp nd
    by_cases e : k = key
    · subst e
      refine ⟨_, ?_, fun _ h => List.mem_cons_of_mem _ h⟩
      simp only [mapK, List.map_cons, kvSet, if_true]
      have := mapK_no (v := v) r n1
      unfold mapK at this
      rw [this]
      exact .d hv r
    · obtain ⟨as', q1, q2⟩ := Cvs.putD hv r n2
      refine ⟨q :: as', ?_, fun a h => ?_⟩
      · simp only [mapK, List.map_cons, kvSet]
        rw [if_neg (by simpa using e), if_neg e]
        exact .L h1 h2 (fun z => h3 (q2 _ z)) q1
      · rcases List.mem_cons.mp h with z | z
        · rw [z]; exact List.mem_cons_self
        · exact List.mem_cons_of_mem _ (q2 _ z)
theorem Cvs.any {key : Str} {c : CV} : ∀ {kv : List (Key × V)} {kvs : List (Str × CV)} {as : List Addr}, Cvs K F H kv kvs as → kvGet key kvs = some c → (kv.any fun kv => decide (kv.1 = (.inr key : Key))) = true
  | _, _, _, .nil, h => by cases h
  | _, _, _, .d (k := k) h1 r, h => by
    unfold kvGet at h
    split at h
    · rename_i e; simp [e]
    · simp [Cvs.any r h]
  | _, _, _, .L (k := k) h1 h2 h3 r, h => by
    unfold kvGet at h
    split at h
    · rename_i e; simp [e]
    · simp [Cvs.any r h]
theorem Cvs.length : ∀ {kv : List (Key × V)} {kvs : List (Str × CV)} {as : List Addr}, Cvs K F H kv kvs as → kv.length = kvs.length
  | _, _, _, .nil => rfl
  | _, _, _, .d h1 r => by simp [Cvs.length r]
  | _, _, _, .L h1 h2 h3 r => by simp [Cvs.length r]
/-- a list in a dict is changed -/
theorem Cvs.mutL {key : Str} {xs xs' : List PyData} {q : Addr} {ys' : List V} (hr : Rps K F ys' xs') : ∀ {kv : List (Key × V)} {kvs : List (Str × CV)} {as : List Addr}, Cvs K F H kv kvs as → kvGet key kvs = some (.L xs) → valV kv (.inr key : Key) = some (.ref q) →
    Cvs K F (upd H q (.lst ys')) kv (kvSet key (.L xs') kvs) as
  | _, _, _, .nil, h, _ => by cases h
  | _, _, _, .d (k := k) h1 r, h, e => by
    unfold kvGet at h
    split at h
    · cases h
    · rename_i ne
      rw [valV_neg (by simpa using ne)] at e
      unfold kvSet
      rw [if_neg ne]
      exact .d h1 (Cvs.mutL hr r h e)
  | _, _, _, .L (k := k) (q := q0) h1 h2 h3 r, h, e => by
    unfold kvGet at h
    split at h
    · rename_i ee
      rw [valV_pos (by rw [ee])] at e
      have : q0 = q := by simpa using e
      subst this
      unfold kvSet
      rw [if_pos ee]
      refine .L upd_same hr h3 (r.up (Ex.refl F) fun a ha o ho => ?_)
      rw [upd_ne]
      · exact ho
      · rintro rfl; exact h3 ha
    · rename_i ne
      rw [valV_neg (by simpa using ne)] at e
      obtain ⟨q', ys, g1, g2, _⟩ := Cvs.getL r h
      rw [e] at g1
      have : q' = q := by simpa using g1.symm
      subst this
      unfold kvSet
      rw [if_neg ne]
      refine .L ?_ h2 h3 (Cvs.mutL hr r h e)
      rw [upd_ne]
      · exact h1
      · rintro rfl; exact h3 g2
end
section
variable {P : Prg} {G : Gls} {T : Tab} {n : Nat} {N : List Str} {sc : Scope} {top : Bool} {X : Cx} (o : XOk P G T n N sc top X)
theorem plList_k {ρ : Ro} {i : Nat} {key : Str} {xs : List PyData} (h : plList ρ (.k i key) = .ok xs) : ∃ kvs, getRo ρ i = some (.M kvs) ∧ kvGet key kvs = some (.L xs) := by
  have h' : (match getRo ρ i with | some (.M kvs) => (match kvGet key kvs with | some (.L xs) => Res.ok xs | _ => Res.bad) | _ => Res.bad) = Res.ok xs := h
  split at h'
  · rename_i kvs h2
    split at h'
    · rename_i ys h3
      cases h'
      exact ⟨kvs, h2, h3⟩
    · cases h'
  · cases h'
include o
theorem dunits : X.A.units + 1 < cLine := by have := o.room.un; omega
theorem nosl {e : Expr} (h : noSlice e = true) : NoSl e := by
  intro o i
  cases e <;> first | rfl | (cases h)
theorem s_ixK {i : Nat} {key : Str} {y : E} {a b : Expr} {pos : Pos} (hp : chkN N i sc a = true) (hb : PE X b (tX X.K T G y)) (hpl : NoSl b) : PE X (.Subscript a b pos) (tX X.K T G (.ixP (.k i key) y)) :=
  (pe_dget (dunits o) (nm_ok o hp).1 hb hpl).mono fun σ H Q ⟨F, ρ, fp, z, ρ', s, hd, k⟩ => by
    simp only [den] at hd
    split at hd
    · cases hd
    rename_i x0 hx0
    obtain ⟨⟨x1, ρ1⟩, h1, hd⟩ := Res.bind_inv hd
    dsimp only at hd
    obtain ⟨v, e1, e2⟩ := s.ow i _ hx0
    refine ⟨v, e1, F, ρ, fp, x1, ρ1, s, h1, fun w H1 F1 fp1 P1 s1 t1 hd1 sub => ?_⟩
    split at hd
    · rename_i kvs kk hxs
      split at hd
      · rename_i x hx
        cases hd
        obtain ⟨p, kv, as, f1, f2, f3, f4, f5, f6, f7⟩ := s1.dict hxs
        rw [e1] at f1
        cases f1
        obtain ⟨u, h3, h4⟩ := f4.getD hx
        refine ⟨p, u, rfl, ?_, fin0 k s1 t1 rfl h4⟩
        rw [hd1.ow.dat.str_inv, ← h3]
        exact DGet.k (k := .inr kk) f3
      · cases hd
    · cases hd
theorem chkP_k {i : Nat} {key : Str} {a : Expr} (h : chkP N (.k i key) sc a = true) : PE X a (fun σ H Q => tVar i σ H fun x H1 => ∃ b v, x = .ref b ∧ DGet H1 b (.str key) (some v) ∧ Q v H1) ∧ noStar a = true ∧ (∀ x, attributeBase a x X.env (eval a X.env) = eval a X.env) := by
  unfold chkP at h
  simp only at h
  split at h
  · rename_i l j _ _ _
    obtain ⟨h1, h2⟩ := and2S h
    have e := eq_of_beq h2
    subst e
    refine ⟨(pe_dget (dunits o) (nm_ok o h1).1 pe_str (fun _ _ => rfl)).mono fun σ H Q q => ?_, rfl, fun _ => rfl⟩
    obtain ⟨v, e1, b, w, e2, e3, e4⟩ := q
    exact ⟨v, e1, b, w, e2, e3, e4⟩
  · cases h
where
  and2S {a b : Bool} (h : (a && b) = true) : a = true ∧ b = true := by rw [Bool.and_eq_true] at h; exact h
theorem s_lenK {i : Nat} {key : Str} {a : Expr} {f : Str} {p pos : Pos} (hp : chkP N (.k i key) sc a = true) (hf : f = "len") (hg : glo sc f = true) : PE X (.Call (.Name f p) [a] [] pos) (tX X.K T G (.lenP (.k i key))) := by
  obtain ⟨g1, g2, g3⟩ := glo_ok o hg
  obtain ⟨hv, hs, _⟩ := chkP_k o hp
  subst hf
  refine (pe_callB c_len g1 (o.blt _ (by decide +kernel)) (by decide +kernel) (pa_cons hv pa_nil (star_ok hs)) g3 g2 (star_ok hs) rfl).mono fun σ H Q ⟨F, ρ, fp, z, ρ', s, hd, k⟩ => ?_
  simp only [den] at hd
  obtain ⟨xs, h1, hd⟩ := Res.bind_inv hd
  cases hd
  obtain ⟨kvs, h2, h3⟩ := plList_k h1
  obtain ⟨q, kv, as, f1, f2, f3, f4, f5, f6, f7⟩ := s.dict h2
  obtain ⟨r, ys, g4, g5, g6, g7⟩ := f4.getL h3
  refine ⟨_, f1, q, .ref r, rfl, ?_, .inl ⟨r, ys, rfl, .inl (sq_of g6), by rw [g7.length]; exact fin0 k s (Xt.refl s.le) rfl (.int _)⟩⟩
  rw [← g4]
  exact DGet.k (k := .inr key) f3
theorem le_mtK {m : Mt} {i : Nat} {key : Str} : ∀ σ H Q, tX X.K T G (.mt m (.k i key) .nil) σ H Q → tBM0 X.K "list" (rMt X.K m) (fun σ H Q => tVar i σ H fun x H1 => ∃ b v, x = .ref b ∧ DGet H1 b (.str key) (some v) ∧ Q v H1) σ H Q := fun σ H Q ⟨F, ρ, fp, z, ρ', s, hd, k⟩ => by
  simp only [den, dens] at hd
  obtain ⟨xs0, h0, hd⟩ := Res.bind_inv hd
  obtain ⟨⟨ys, ρ1⟩, h1, hd⟩ := Res.bind_inv hd
  cases h1
  obtain ⟨zs, h2, hd⟩ := Res.bind_inv hd
  cases h2
  obtain ⟨xs, h3, hd⟩ := Res.bind_inv hd
  obtain ⟨⟨xs', r⟩, h4, hd⟩ := Res.bind_inv hd
  cases hd
  dsimp only at h3 h4
  obtain ⟨kvs, g2, g3⟩ := plList_k h3
  obtain ⟨p, kv, as, f1, f2, f3, f4, f5, f6, f7⟩ := s.dict g2
  obtain ⟨q, ws, g4, g5, g6, g7⟩ := f4.getL g3
  refine ⟨_, f1, p, .ref q, rfl, ?_, .inl ⟨rfl, ws, sq_of g6⟩, ?_⟩
  · rw [← g4]
    exact DGet.k (k := .inr key) f3
  refine mt_rs m s.le g6 g7 .nil h4 fun v' ys' r1 r2 => ?_
  have ow' : Ow X.K F (upd H q (.lst ys')) (.ref p) (.M (kvSet key (.L xs') kvs)) (fp i) := by
    refine .M f2 ?_ (f4.mutL r1 g3 g4) f5 f6 (by rw [kvSet_keys]; exact f7)
    rw [upd_ne]
    · exact f3
    · rintro rfl; exact f5 g5
  obtain ⟨s3, t3⟩ := s.mutG (f6 q g5) rfl f1 ow'
  have er : plSet ρ (.k i key) xs' = ρ.set i (some (.M (kvSet key (.L xs') kvs))) := by
    show (match getRo ρ i with | some (.M kvs) => ρ.set i (some (.M (kvSet key (.L xs') kvs))) | _ => ρ) = _
    rw [g2]
  rw [← er] at s3
  exact fin0 k s3 t3 rfl r2
theorem s_mtK {m : Mt} {i : Nat} {key : Str} {a : Expr} {x : Str} {ap cp : Pos} (hp : chkP N (.k i key) sc a = true) (hx : x = mtName m) (hline : (ap.endLine == cp.line) = true) :
    PE X (.Call (.Attribute a x ap) [] [] cp) (tX X.K T G (.mt m (.k i key) .nil)) := by
  obtain ⟨hv, _, hb⟩ := chkP_k o hp
  have hbase := hb x
  subst hx
  have key := le_mtK (T := T) (G := G) o (m := m) (i := i) (key := key)
  cases m
  case append => exact (pe_bm0 PySem.F.plainAttrs_list PySem.F.slot_list_append PySem.F.type_list_append (mt_all .append) hv hbase hline).mono key
  case pop => exact (pe_bm0 PySem.F.plainAttrs_list PySem.F.slot_list_pop PySem.F.type_list_pop (mt_all .pop) hv hbase hline).mono key
  case popAt => exact (pe_bm0 PySem.F.plainAttrs_list PySem.F.slot_list_pop PySem.F.type_list_pop (mt_all .popAt) hv hbase hline).mono key
  case extend => exact (pe_bm0 PySem.F.plainAttrs_list PySem.F.slot_list_extend PySem.F.type_list_extend (mt_all .extend) hv hbase hline).mono key
  case clear => exact (pe_bm0 PySem.F.plainAttrs_list PySem.F.slot_list_clear PySem.F.type_list_clear (mt_all .clear) hv hbase hline).mono key
  case reverse => exact (pe_bm0 PySem.F.plainAttrs_list PySem.F.slot_list_reverse PySem.F.type_list_reverse (mt_all .reverse) hv hbase hline).mono key
  case index => exact (pe_bm0 PySem.F.plainAttrs_list PySem.F.slot_list_index PySem.F.type_list_index (mt_all .index) hv hbase hline).mono key
  case count => exact (pe_bm0 PySem.F.plainAttrs_list PySem.F.slot_list_count PySem.F.type_list_count (mt_all .count) hv hbase hline).mono key
omit o in
theorem _root_.Rf.Cis.any {K : Frag} {F : Hp} {k : Ky} : ∀ {kv : List (Key × V)} {s : List (Ky × PyData)}, Cis K F kv s → (kv.any fun q => decide (q.1 = (k : Key))) = s.any fun q => decide (q.1 = k)
  | _, _, .nil => rfl
  | _, _, .cons (k := a) h r => by
    rw [List.any_cons, List.any_cons, Cis.any r]
omit o in
theorem _root_.Rf.Cis.keys {K : Frag} {F : Hp} : ∀ {kv : List (Key × V)} {s : List (Ky × PyData)}, Cis K F kv s → kv.map (·.1) = s.map (·.1)
  | _, _, .nil => rfl
  | _, _, .cons h r => by simp [Cis.keys r]
omit o in
theorem _root_.Rf.Cis.length {K : Frag} {F : Hp} : ∀ {kv : List (Key × V)} {s : List (Ky × PyData)}, Cis K F kv s → kv.length = s.length
  | _, _, .nil => rfl
  | _, _, .cons h r => by simp [Cis.length r]
omit o in
theorem _root_.Rf.Cis.get {K : Frag} {F : Hp} {k : Ky} {d : PyData} : ∀ {kv : List (Key × V)} {s : List (Ky × PyData)}, Cis K F kv s → igGet k s = some d → ∃ v, valV kv (k : Key) = some v ∧ Rp K F v d
  | _, _, .nil, h => by cases h
  | _, _, .cons (k := a) (v := v) h1 r, h => by
    unfold igGet at h
    split at h
    · rename_i e
      cases h
      exact ⟨v, valV_pos (by rw [e]), h1⟩
    · rename_i e
      obtain ⟨w, q1, q2⟩ := Cis.get r h
      exact ⟨w, by rw [valV_neg (by simpa using e)]; exact q1, q2⟩
omit o in
theorem _root_.Rf.Cis.mapP {K : Frag} {F : Hp} {k : Ky} {w : V} {d : PyData} (hw : Rp K F w d) : ∀ {kv : List (Key × V)} {s : List (Ky × PyData)}, Cis K F kv s → Cis K F (kv.map fun q => if q.1 = (k : Key) then (q.1, w) else q) (s.map fun q => if q.1 = k then (q.1, d) else q)
  | _, _, .nil => .nil
  | _, _, .cons (k := a) h r => by
    rw [List.map_cons, List.map_cons]
    by_cases e : a = k
    · subst e; rw [if_pos rfl, if_pos rfl]; exact .cons hw (Cis.mapP hw r)
    · rw [if_neg (by simpa using e), if_neg e]; exact .cons h (Cis.mapP hw r)
omit o in
theorem _root_.Rf.Cis.snoc {K : Frag} {F : Hp} {k : Ky} {w : V} {d : PyData} (hw : Rp K F w d) : ∀ {kv : List (Key × V)} {s : List (Ky × PyData)}, Cis K F kv s → Cis K F (kv ++ [(k, w)]) (s ++ [(k, d)])
  | _, _, .nil => .cons hw .nil
  | _, _, .cons h r => .cons h (Cis.snoc hw r)
omit o in
theorem _root_.Rf.Cis.put {K : Frag} {F : Hp} {k : Ky} {w : V} {d : PyData} (hw : Rp K F w d) {kv : List (Key × V)} {s : List (Ky × PyData)} (h : Cis K F kv s) : Cis K F (putK kv (k : Key) w) (igPut k d s) := by
  unfold putK igPut
  rw [h.any]
  split
  · exact h.mapP hw
  · exact h.snoc hw
omit o in
theorem kyV {K : Frag} {F : Hp} {v : V} {d : PyData} {kk : Ky} (h : Rp K F v d) (e : kyOf d = some kk) : v = kV (kk : Key) := by
  cases d <;> first | cases e | skip
  · exact h.int_inv
  · exact h.str_inv
omit o in
theorem kyR {K : Frag} {F : Hp} (kk : Ky) : Rp K F (kV (kk : Key)) (kyD kk) := by
  cases kk with
  | inl n => exact .int n
  | inr x => exact .str x
omit o in
theorem kyInts_inl : ∀ {ks : List Ky} {ns : List Int}, kyInts ks = some ns → ks = ns.map Sum.inl
  | [], _, h => by cases h; rfl
  | .inl n :: r, _, h => by
    simp only [kyInts] at h
    cases q : kyInts r with
    | none => rw [q] at h; cases h
    | some m => rw [q] at h; cases h; rw [kyInts_inl q]; rfl
  | .inr _ :: r, _, h => by cases h
omit o in
theorem cvs_cis {K : Frag} {F H : Hp} : ∀ {kvs : List (Key × V)} {pvs : List (Str × CV)} {as : List Addr} {r : List (Ky × PyData)}, Cvs K F H kvs pvs as → cvsD pvs = some r → Cis K F kvs r
  | _, _, _, _, .nil, e => by cases e; exact .nil
  | _, _, _, _, .d h t, e => by
    simp only [cvsD] at e
    cases q : cvsD _ with
    | none => rw [q] at e; cases e
    | some m => rw [q] at e; cases e; exact .cons h (cvs_cis t q)
  | _, _, _, _, .L _ _ _ _, e => by cases e
omit o in
theorem _root_.Rf.Cis.isSome {K : Frag} {F : Hp} {k : Ky} : ∀ {kv : List (Key × V)} {s : List (Ky × PyData)}, Cis K F kv s → (valV kv (k : Key)).isSome = (igGet k s).isSome
  | _, _, .nil => rfl
  | _, _, .cons (k := a) (v := v) h1 r => by
    unfold igGet
    split
    · rename_i e
      rw [valV_pos (by rw [e])]
      rfl
    · rename_i e
      rw [valV_neg e]
      exact Cis.isSome r
omit o in
theorem _root_.Rf.Cis.rpk {K : Frag} {F : Hp} : ∀ {kv : List (Key × V)} {s : List (Ky × PyData)}, Cis K F kv s → Rps K F (kv.map fun kv => kV kv.1) (s.map fun kv => kyD kv.1)
  | _, _, .nil => .nil
  | _, _, .cons h r => .cons (kyR _) (Cis.rpk r)
omit o in
theorem _root_.Rf.Cis.at {K : Frag} {F : Hp} : ∀ {kv : List (Key × V)} {s : List (Ky × PyData)} {i : Nat} {k : Ky} {d : PyData}, Cis K F kv s → s[i]? = some (k, d) → ∃ v, kv[i]? = some ((k : Key), v) ∧ Rp K F v d
  | _, _, _, _, _, .nil, h => by simp at h
  | _, _, 0, _, _, .cons h r, e => by
    simp at e
    obtain ⟨rfl, rfl⟩ := e
    exact ⟨_, rfl, h⟩
  | _, _, i + 1, _, _, .cons h r, e => by
    obtain ⟨v, q1, q2⟩ := Cis.at (i := i) r (by simpa using e)
    exact ⟨v, by simpa using q1, q2⟩
omit o in
theorem _root_.Rf.St.idict {K : Frag} {F H : Hp} {σ : L2.St} {ρ : Ro} {fp : Nat → As} (s : St K F H σ ρ fp) {i : Nat} {kvs : List (Ky × PyData)} (h : getRo ρ i = some (.I kvs)) : ∃ (p : Addr) (kv : List (Key × V)), σ[i]? = some (some (.ref p)) ∧ fp i p ∧ H p = some (.dK kv) ∧ Cis K F kv kvs := by
  obtain ⟨v, e1, e2⟩ := s.ow i _ h
  cases e2 with
  | I hp h1 h2 => exact ⟨_, _, e1, hp, h1, h2⟩
omit o in
theorem s_dI {pos : Pos} : PE X (.Dict [] [] pos) (tX X.K T G .dI) :=
  (pe_dnewK).mono fun σ H Q ⟨F, ρ, fp, z, ρ', s, hd, k⟩ => by
    cases hd
    intro p hp
    have n0 : Nw F H F (upd H p (.dK [])) := ⟨s.le.trans (Ex.new hp), Ex.refl _, Ex.new hp, fun _ _ q => .inl q⟩
    have hf := fresh_back s.le hp
    refine k _ _ _ _ (fun a => a = p) (n0.st s) n0.xt ⟨.I rfl upd_same .nil, fun a ha => by subst ha; exact hf, fun a ha => by subst ha; exact ⟨_, upd_same, rfl⟩, fun a ha i hi => by subst ha; exact (s.kn i a hi).ne hp⟩ fun a ha => ?_
    subst ha
    exact .inr hp
theorem s_ixI {i : Nat} {y : E} {a b : Expr} {pos : Pos} (hp : chkN N i sc a = true) (hb : PE X b (tX X.K T G y)) (hpl : NoSl b) : PE X (.Subscript a b pos) (tX X.K T G (.ixI i y)) :=
  (pe_dget (dunits o) (nm_ok o hp).1 hb hpl).mono fun σ H Q ⟨F, ρ, fp, z, ρ', s, hd, k⟩ => by
    simp only [den] at hd
    split at hd
    · cases hd
    rename_i x0 hx0
    obtain ⟨⟨x1, ρ1⟩, h1, hd⟩ := Res.bind_inv hd
    dsimp only at hd
    obtain ⟨v, e1, e2⟩ := s.ow i _ hx0
    refine ⟨v, e1, F, ρ, fp, x1, ρ1, s, h1, fun w H1 F1 fp1 P1 s1 t1 hd1 sub => ?_⟩
    split at hd
    · rename_i kvs k0 hxs
      split at hd
      · rename_i kk hky
        split at hd
        · rename_i x hx
          cases hd
          obtain ⟨p, kv, f1, f2, f3, f4⟩ := s1.idict hxs
          rw [e1] at f1
          cases f1
          obtain ⟨u, h3, h4⟩ := f4.get hx
          refine ⟨p, u, rfl, ?_, fin0 k s1 t1 rfl h4⟩
          rw [kyV hd1.ow.dat hky, ← h3]
          exact DGet.k (k := kk) f3
        · cases hd
      · cases hd
    · cases hd
theorem s_srtI {i : Nat} {a : Expr} {f : Str} {p pos : Pos} (hf : f = "sorted") (hg : glo sc f = true) (hp : chkN N i sc a = true) : PE X (.Call (.Name f p) [a] [] pos) (tX X.K T G (.srtI i)) := by
  obtain ⟨g1, g2, g3⟩ := glo_ok o hg
  subst hf
  obtain ⟨n1, n2⟩ := nm_ok o hp
  refine (pe_callB (call_sortedDI o.calm) g1 (o.blt _ (by decide +kernel)) (by decide +kernel) (pa_cons n1 pa_nil (star_ok n2)) g3 g2 (star_ok n2) rfl).mono fun σ H Q ⟨F, ρ, fp, z, ρ', s, hd, k⟩ => ?_
  simp only [den] at hd
  split at hd
  · rename_i kvs hxs
    split at hd
    · rename_i ns hns
      obtain ⟨_, h2, hd⟩ := Res.bind_inv hd
      cases hd
      have h64 := of_decide_eq_true (Res.guard_inv h2)
      obtain ⟨q, kv, f1, f2, f3, f4⟩ := s.idict hxs
      have e0 := kyInts_inl hns
      have hlen : ns.length = kvs.length := by rw [← List.length_map (f := (Sum.inl : Int → Ky)), ← e0, List.length_map]
      refine ⟨.ref q, f1, q, kv, ns, rfl, .inl f3, by rw [f4.keys]; exact e0, by omega, fun ys p hperm hsort hpn => ?_⟩
      have e : ys = sortI ns := srt_uniq (hperm.trans (sortI_perm _).symm) hsort (sortI_srt _)
      subst e
      refine fin k s (Xt.refl s.le) (Rs.newL s.le hpn ?_)
      generalize sortI ns = ns
      induction ns with
      | nil => exact .nil
      | cons n ns ih => exact .cons (.int n) ih
    · cases hd
  · cases hd
def tInI (X : Cx) (T : Tab) (G : Gls) (neg : Bool) (i : Nat) (y : E) : TE := fun σ H Q => tX X.K T G y σ H fun u H1 => ∃ v, σ[i]? = some (some v) ∧ ∃ a o, v = .ref a ∧ DGet H1 a u o ∧ Q (.bl (if neg = true then !o.isSome else o.isSome)) H1
theorem c_inI {neg : Bool} {i : Nat} {y : E} {a b : Expr} (hp : chkN N i sc b = true) (ha : PE X a (tX X.K T G y)) : PC X (if neg = true then .NotIn else .In) a b (tInI X T G neg i y) ∧ ∀ op, behindInMarks op b = false := by
  refine ⟨?_, ?_⟩
  · cases neg with
    | false => exact pc_din (dunits o) ha (nm_ok o hp).1
    | true => exact pc_dnotin (dunits o) ha (nm_ok o hp).1
  · unfold chkN at hp
    split at hp
    · intro op; cases op <;> rfl
    · cases hp
omit o in
theorem k_inI {neg : Bool} {i : Nat} {y : E} {F H : Hp} {σ : L2.St} {ρ ρ' : Ro} {fp : Nat → As} {z : PV} (s : St X.K F H σ ρ fp) (hd : den T G (.inI neg i y) ρ = .ok (z, ρ')) {Q : VK}
    (k : ∀ b, z = .d (.bool b) → ∀ H' F' fp', St X.K F' H' σ ρ' fp' → Xt F H fp F' H' fp' → Q (.bl b) H') : tInI X T G neg i y σ H Q := by
  simp only [den] at hd
  obtain ⟨⟨x1, ρ1⟩, h1, hd⟩ := Res.bind_inv hd
  dsimp only at hd
  refine ⟨F, ρ, fp, x1, ρ1, s, h1, fun w H1 F1 fp1 P1 s1 t1 hd1 sub => ?_⟩
  split at hd
  · rename_i kvs k0 hxs
    split at hd
    · rename_i kk hky
      cases hd
      obtain ⟨p, kv, f1, f2, f3, f4⟩ := s1.idict hxs
      refine ⟨.ref p, f1, p, valV kv (kk : Key), rfl, ?_, ?_⟩
      · rw [kyV hd1.ow.dat hky]
        exact DGet.k (k := kk) f3
      · rw [f4.isSome]
        exact k _ rfl _ _ _ s1 t1
    · cases hd
  · cases hd
theorem s_inI {neg : Bool} {i : Nat} {y : E} {a b : Expr} {pos : Pos} (hp : chkN N i sc b = true) (ha : PE X a (tX X.K T G y)) : PE X (.Compare a [if neg = true then .NotIn else .In] [b] pos) (tX X.K T G (.inI neg i y)) :=
  (pe_cmp (c_inI o hp ha).1 ((c_inI (neg := neg) o hp ha).2 _)).mono fun σ H Q ⟨F, ρ, fp, z, ρ', s, hd, k⟩ => k_inI s hd fun b e H' F' fp' s' t' => by
    subst e
    exact fin0 k s' t' rfl (.bl _)
theorem t_inI {neg : Bool} {i : Nat} {y : E} {a b : Expr} {pos : Pos} (hp : chkN N i sc b = true) (ha : PE X a (tX X.K T G y)) : PT X (.Compare a [if neg = true then .NotIn else .In] [b] pos) (tT X.K T G (.inI neg i y)) :=
  (pt_cmp (c_inI o hp ha).1 ((c_inI (neg := neg) o hp ha).2 _)).mono fun σ H Q ⟨F, ρ, fp, z, ρ', c, s, hd, hc, k⟩ => k_inI s hd fun b e H' F' fp' s' t' => by
    subst e
    cases hc
    exact ⟨_, rfl, k _ _ _ s' t'⟩
theorem s_cpI {i : Nat} {a : Expr} {f : Str} {p pos : Pos} (hf : f = "dict") (hg : glo sc f = true) (hp : chkN N i sc a = true) : PE X (.Call (.Name f p) [a] [] pos) (tX X.K T G (.cpI i)) := by
  obtain ⟨g1, g2, g3⟩ := glo_ok o hg
  subst hf
  obtain ⟨n1, n2⟩ := nm_ok o hp
  refine (pe_callTy call_dictD g1 (o.blt _ (by decide +kernel)) (by decide +kernel) (pa_cons n1 pa_nil (star_ok n2)) g3 g2 (star_ok n2) rfl).mono fun σ H Q ⟨F, ρ, fp, z, ρ', s, hd, k⟩ => ?_
  simp only [den] at hd
  split at hd
  · rename_i kvs hxs
    cases hd
    obtain ⟨q, kv, f1, f2, f3, f4⟩ := s.idict hxs
    refine ⟨.ref q, f1, q, kv, rfl, .inl f3, fun p hp => ?_⟩
    have n0 : Nw F H F (upd H p (.dK kv)) := ⟨s.le.trans (Ex.new hp), Ex.refl _, Ex.new hp, fun _ _ q => .inl q⟩
    have hf := fresh_back s.le hp
    refine k _ _ _ _ (fun a => a = p) (n0.st s) n0.xt ⟨.I rfl upd_same f4, fun a ha => by subst ha; exact hf, fun a ha => by subst ha; exact ⟨_, upd_same, rfl⟩, fun a ha i hi => by subst ha; exact (s.kn i a hi).ne hp⟩ fun a ha => ?_
    subst ha
    exact .inr hp
  · cases hd
theorem s_lenI {i : Nat} {a : Expr} {f : Str} {p pos : Pos} (hf : f = "len") (hg : glo sc f = true) (hp : chkN N i sc a = true) : PE X (.Call (.Name f p) [a] [] pos) (tX X.K T G (.lenI i)) := by
  obtain ⟨g1, g2, g3⟩ := glo_ok o hg
  subst hf
  obtain ⟨n1, n2⟩ := nm_ok o hp
  refine (pe_callB call_lenD g1 (o.blt _ (by decide +kernel)) (by decide +kernel) (pa_cons n1 pa_nil (star_ok n2)) g3 g2 (star_ok n2) rfl).mono fun σ H Q ⟨F, ρ, fp, z, ρ', s, hd, k⟩ => ?_
  simp only [den] at hd
  split at hd
  · rename_i kvs hxs
    cases hd
    obtain ⟨q, kv, f1, f2, f3, f4⟩ := s.idict hxs
    refine ⟨.ref q, f1, q, kv, rfl, f3, ?_⟩
    rw [f4.length]
    exact fin0 k s (Xt.refl s.le) rfl (.int _)
  · cases hd
theorem s_lsI {i : Nat} {a : Expr} {f : Str} {p pos : Pos} (hf : f = "list") (hg : glo sc f = true) (hp : chkN N i sc a = true) : PE X (.Call (.Name f p) [a] [] pos) (tX X.K T G (.lsI i)) := by
  obtain ⟨g1, g2, g3⟩ := glo_ok o hg
  subst hf
  obtain ⟨n1, n2⟩ := nm_ok o hp
  refine (pe_callTy (call_list_dK o.calm) g1 (o.blt _ (by decide +kernel)) (by decide +kernel) (pa_cons n1 pa_nil (star_ok n2)) g3 g2 (star_ok n2) rfl).mono fun σ H Q ⟨F, ρ, fp, z, ρ', s, hd, k⟩ => ?_
  simp only [den] at hd
  split at hd
  · rename_i kvs hxs
    cases hd
    obtain ⟨q, kv, f1, f2, f3, f4⟩ := s.idict hxs
    refine ⟨.ref q, f1, q, kv, rfl, f3, fun p hp => ?_⟩
    exact fin k s (Xt.refl s.le) (Rs.newL s.le hp f4.rpk)
  · cases hd
theorem s_asI {x : E} {a : Expr} (ha : PE X a (tX X.K T G x)) : PE X a (tX X.K T G (.asI x)) :=
  ha.mono fun σ H Q ⟨F, ρ, fp, z, ρ', s, hd, k⟩ => by
    simp only [den] at hd
    obtain ⟨⟨x1, ρ1⟩, h1, hd⟩ := Res.bind_inv hd
    dsimp only at hd
    refine ⟨F, ρ, fp, x1, ρ1, s, h1, fun w H1 F1 fp1 P1 s1 t1 hd1 sub => ?_⟩
    split at hd
    · rename_i kvs
      split at hd
      · rename_i r hr
        cases hd
        refine k w H1 F1 fp1 P1 s1 t1 ⟨?_, hd1.nf, hd1.kn, hd1.dj⟩ sub
        cases hd1.ow with
        | M hp h1 h2 h3 h4 h5 => exact .I hp h1 (cvs_cis h2 hr)
      · cases hd
    · cases hd
omit o in
theorem _root_.Rf.St.llist {K : Frag} {F H : Hp} {σ : L2.St} {ρ : Ro} {fp : Nat → As} (s : St K F H σ ρ fp) {i : Nat} {xss : List (List PyData)} (h : getRo ρ i = some (.LL xss)) : ∃ (p : Addr) (qs : List Addr), σ[i]? = some (some (.ref p)) ∧ fp i p ∧ H p = some (.lst (qs.map V.ref)) ∧ Lls K F H qs xss ∧ p ∉ qs ∧ ∀ q ∈ qs, fp i q := by
  obtain ⟨v, e1, e2⟩ := s.ow i _ h
  cases e2 with
  | LL hp h1 h2 h3 h4 => exact ⟨_, _, e1, hp, h1, h2, h3, h4⟩
omit o in
theorem set_same {σ : L2.St} {i : Nat} {v : V} (h : σ[i]? = some (some v)) : σ.set i (some v) = σ := by
  refine List.ext_getElem? fun n => ?_
  by_cases hn : i = n
  · subst hn
    have hl := (List.getElem?_eq_some_iff.mp h).1
    rw [List.getElem?_set_self hl, h]
  · rw [List.getElem?_set_ne hn]
omit o in
theorem fpSet_same {fp : Nat → As} {i : Nat} {P : As} : fpSet fp i P i = P := by
  unfold fpSet
  simp
omit o in
/-- what is in hand goes back to its name, with more or with less to own -/
theorem _root_.Rf.Hd.back {K : Frag} {F H F1 H1 : Hp} {σ : L2.St} {ρ1 : Ro} {fp fp1 : Nat → As} {v : V} {x : PV} {P : As} {i : Nat} (s : St K F1 H1 σ ρ1 fp1) (h : Hd K F1 H1 fp1 v x P) (e : σ[i]? = some (some v)) (t : Xt F H fp F1 H1 fp1) (hp : ∀ a, P a → (∃ j, fp j a) ∨ H a = none) :
    St K F1 H1 σ (ρ1.set i (some x)) (fpSet fp1 i P) ∧ Xt F H fp F1 H1 (fpSet fp1 i P) := by
  have s2 := s.put h i
  rw [set_same e] at s2
  refine ⟨s2, ⟨t.ff, t.fr, t.le, t.nw, fun n a hn => ?_, t.kn⟩⟩
  rcases fpSet_cases hn with ⟨_, h1⟩ | ⟨_, h1⟩
  · exact hp a h1
  · exact t.sub n a h1
omit o in
theorem s_llN0 {pos : Pos} : PE X (.List [] pos) (tX X.K T G (.llN 0)) :=
  (pe_lst pa_nil).mono fun σ H Q ⟨F, ρ, fp, z, ρ', s, hd, k⟩ => by
    cases hd
    refine ⟨by decide, fun p hp => ?_⟩
    have n0 : Nw F H F (upd H p (.lst [])) := ⟨s.le.trans (Ex.new hp), Ex.refl _, Ex.new hp, fun _ _ q => .inl q⟩
    have hf := fresh_back s.le hp
    refine k _ _ _ _ (fun a => a = p) (n0.st s) n0.xt ⟨.LL (qs := []) rfl upd_same .nil (by simp) (fun _ h => by cases h), fun a ha => by subst ha; exact hf, fun a ha => by subst ha; exact ⟨_, upd_same, rfl⟩, fun a ha i hi => by subst ha; exact (s.kn i a hi).ne hp⟩ fun a ha => ?_
    subst ha
    exact .inr hp
omit o in
theorem s_llN2 {p1 p2 pos : Pos} : PE X (.List [.List [] p1, .List [] p2] pos) (tX X.K T G (.llN 2)) :=
  (pe_lst (pa_cons (pe_lst pa_nil) (pa_cons (pe_lst pa_nil) pa_nil (by rfl)) (by rfl))).mono fun σ H Q ⟨F, ρ, fp, z, ρ', s, hd, k⟩ => by
    cases hd
    refine ⟨by decide, fun a ha => ⟨by decide, fun b hb => ⟨Nat.le_trans (show 2 ≤ 3 by decide) (by decide), fun p hp => ?_⟩⟩⟩
    have fa := fresh_back s.le ha
    have hb0 : H b = none ∧ b ≠ a := by
      by_cases e : b = a
      · subst e; rw [upd_same] at hb; cases hb
      · rw [upd_ne e] at hb; exact ⟨hb, e⟩
    have hp0 : H p = none ∧ p ≠ a ∧ p ≠ b := by
      by_cases e : p = b
      · subst e; rw [upd_same] at hp; cases hp
      · rw [upd_ne e] at hp
        by_cases e2 : p = a
        · subst e2; rw [upd_same] at hp; cases hp
        · rw [upd_ne e2] at hp; exact ⟨hp, e2, e⟩
    have fb := fresh_back s.le hb0.1
    have fpp := fresh_back s.le hp0.1
    have x3 : Ex H (upd (upd (upd H a (.lst [])) b (.lst [])) p (.lst [.ref a, .ref b])) := (Ex.new ha).trans ((Ex.new hb).trans (Ex.new hp))
    have n0 : Nw F H F (upd (upd (upd H a (.lst [])) b (.lst [])) p (.lst [.ref a, .ref b])) := ⟨s.le.trans x3, Ex.refl _, x3, fun _ _ q => .inl q⟩
    have ga : (upd (upd (upd H a (.lst [])) b (.lst [])) p (.lst [.ref a, .ref b])) a = some (.lst []) := by rw [upd_ne (Ne.symm hp0.2.1), upd_ne (Ne.symm hb0.2), upd_same]
    have gb : (upd (upd (upd H a (.lst [])) b (.lst [])) p (.lst [.ref a, .ref b])) b = some (.lst []) := by rw [upd_ne (Ne.symm hp0.2.2), upd_same]
    have own : ∀ c, (c = p ∨ c = a ∨ c = b) → H c = none ∧ F c = none := fun c hc => by
      rcases hc with rfl | rfl | rfl
      · exact ⟨hp0.1, fpp⟩
      · exact ⟨ha, fa⟩
      · exact ⟨hb0.1, fb⟩
    refine k _ _ _ _ (fun c => c = p ∨ c = a ∨ c = b) (n0.st s) n0.xt ⟨.LL (qs := [a, b]) (.inl rfl) upd_same (.cons ga .nil (by simpa using Ne.symm hb0.2) (.cons gb .nil (by simp) .nil)) (by simp [hp0.2.1, hp0.2.2]) (fun q h => by simp at h; exact .inr h), fun c hc => (own c hc).2, fun c hc => ?_, fun c hc i hi => (s.kn i c hi).ne (own c hc).1⟩ fun c hc => .inr (own c hc).1
    rcases hc with rfl | rfl | rfl
    · exact ⟨_, upd_same, rfl⟩
    · exact ⟨_, ga, rfl⟩
    · exact ⟨_, gb, rfl⟩
theorem s_llE {i : Nat} {a : Expr} {x : Str} {ap cp p1 : Pos} (hp : chkN N i sc a = true) (hx : x = "append") (hline : (ap.endLine == cp.line) = true) : PE X (.Call (.Attribute a x ap) [.List [] p1] [] cp) (tX X.K T G (.llE i)) := by
  have hbase : attributeBase a x X.env (eval a X.env) = eval a X.env := by
    unfold chkN at hp
    split at hp
    · rfl
    · cases hp
  subst hx
  refine (pe_bm PySem.F.plainAttrs_list PySem.F.slot_list_append PySem.F.type_list_append (mt_all .append) (nm_ok o hp).1 (pa_cons (pe_lst pa_nil) pa_nil (by rfl)) hbase (few_ok (es := []) rfl (by simp)) hline rfl rfl).mono fun σ H Q ⟨F, ρ, fp, z, ρ', s, hd, k⟩ => ?_
  simp only [den] at hd
  split at hd
  · rename_i xss hxs
    obtain ⟨_, g, hd⟩ := Res.bind_inv hd
    cases hd
    have hlen := of_decide_eq_true (Res.guard_inv g)
    obtain ⟨p, qs, f1, f2, f3, f4, f5, f6⟩ := s.llist hxs
    refine ⟨_, f1, .inl ⟨rfl, _, sq_of f3⟩, by decide, fun q hq => ?_⟩
    have hqp : q ≠ p := fun e => by subst e; rw [f3] at hq; cases hq
    have hqs : q ∉ qs := fun hm => by
      have := (s.kn i q (f6 q hm)).ne
      exact this hq
    have hF := fresh_back s.le hq
    have f3' : upd H q (.lst []) p = some (.lst (qs.map V.ref)) := by rw [upd_ne (Ne.symm hqp)]; exact f3
    refine ⟨p, qs.map V.ref, .ref q, rfl, rfl, f3', by rw [List.length_map, f4.length]; exact mil_lt hlen, ?_⟩
    obtain ⟨v, e1, s0, t0, h0⟩ := s.take hxs
    rw [f1] at e1
    cases e1
    have n0 : Nw F H F (upd H q (.lst [])) := ⟨s.le.trans (Ex.new hq), Ex.refl _, Ex.new hq, fun _ _ z => .inl z⟩
    have s1 := n0.st s0
    have hh1 := h0.keep n0.xt
    have hh2 : Hd X.K F (upd H q (.lst [])) (fpSet fp i none0) (.ref p) (.LL xss) (fun c => fp i c ∨ c = q) := ⟨hh1.ow.up (Ex.refl _) (fun _ _ _ z => z) (fun _ z => .inl z), fun c hc => by
      rcases hc with hc | rfl
      · exact hh1.nf c hc
      · exact hF, fun c hc => by
      rcases hc with hc | rfl
      · exact hh1.kn c hc
      · exact ⟨_, upd_same, rfl⟩, fun c hc j hj => by
      rcases hc with hc | rfl
      · exact hh1.dj c hc j hj
      · exact (s0.kn j c hj).ne hq⟩
    obtain ⟨s2, t2⟩ := Hd.back (F := F) (H := H) (fp := fp) s1 hh2 f1 (t0.trans n0.xt) fun c hc => by
      rcases hc with hc | rfl
      · exact .inl ⟨i, hc⟩
      · exact .inr hq
    have f4' : Lls X.K F (upd H q (.lst [])) qs xss := f4.up (Ex.refl _) fun c hc u hu => by
      rw [upd_ne]
      · exact hu
      · rintro rfl; exact hqs hc
    have ow' : Ow X.K F (upd (upd H q (.lst [])) p (.lst (qs.map V.ref ++ [.ref q]))) (.ref p) (.LL (xss ++ [[]])) (fpSet (fpSet fp i none0) i (fun c => fp i c ∨ c = q) i) := by
      rw [fpSet_same]
      have e3 : qs.map V.ref ++ [.ref q] = (qs ++ [q]).map V.ref := by simp
      rw [e3]
      refine .LL (.inl f2) upd_same ((f4'.snoc upd_same .nil hqs).up (Ex.refl _) fun c hc u hu => ?_) ?_ fun c hc => ?_
      · rw [upd_ne]
        · exact hu
        · rintro rfl
          rcases List.mem_append.mp hc with g | g
          · exact f5 g
          · exact hqp (List.mem_singleton.mp g).symm
      · intro hc
        rcases List.mem_append.mp hc with g | g
        · exact f5 g
        · exact hqp (List.mem_singleton.mp g).symm
      · rcases List.mem_append.mp hc with g | g
        · exact .inl (f6 c g)
        · exact .inr (List.mem_singleton.mp g)
    obtain ⟨s3, t3⟩ := s2.mutG (i := i) (r := p) (by rw [fpSet_same]; exact .inl f2) rfl f1 ow'
    have er : (ρ.set i none).set i (some (PV.LL xss)) = ρ.set i (some (.LL xss)) := by rw [List.set_set]
    rw [er, List.set_set] at s3
    exact fin0 k s3 (t2.trans t3) rfl .non
  · cases hd
theorem s_llO {i : Nat} {a : Expr} {x : Str} {ap cp : Pos} (hp : chkN N i sc a = true) (hx : x = "pop") (hline : (ap.endLine == cp.line) = true) : PE X (.Call (.Attribute a x ap) [] [] cp) (tX X.K T G (.llO i)) := by
  have hbase : attributeBase a x X.env (eval a X.env) = eval a X.env := by
    unfold chkN at hp
    split at hp
    · rfl
    · cases hp
  subst hx
  refine (pe_bm0 PySem.F.plainAttrs_list PySem.F.slot_list_pop PySem.F.type_list_pop (mt_all .pop) (nm_ok o hp).1 hbase hline).mono fun σ H Q ⟨F, ρ, fp, z, ρ', s, hd, k⟩ => ?_
  simp only [den] at hd
  split at hd
  · rename_i xss hxs
    split at hd
    · rename_i xs hl
      cases hd
      obtain ⟨p, qs, f1, f2, f3, f4, f5, f6⟩ := s.llist hxs
      obtain ⟨yss, hy⟩ := List.getLast?_eq_some_iff.mp hl
      have hlen : xss.length = yss.length + 1 := by rw [hy]; simp
      obtain ⟨q, ys, g1, g2, g3⟩ := f4.get (m := yss.length) (by omega)
      have hget : xss.getD yss.length [] = xs := by rw [hy]; simp
      rw [hget] at g3
      have hq := List.mem_of_getElem? g1
      refine ⟨_, f1, .inl ⟨rfl, _, sq_of f3⟩, p, qs.map V.ref, .ref q, rfl, rfl, f3, ?_, ?_⟩
      · rw [List.length_map, f4.length, show xss.length - 1 = yss.length by omega, List.getElem?_map, g1]; rfl
      have hqp : q ≠ p := fun e => f5 (e ▸ hq)
      have hql : q ∉ qs.dropLast := fun hm => by
        have nd := f4.nodup
        have e : qs = qs.dropLast ++ [q] := by
          have hl2 := f4.length
          have h2 := (List.getElem?_eq_some_iff.mp g1)
          obtain ⟨h3, h4⟩ := h2
          have hne : qs ≠ [] := fun e => by rw [e] at h3; cases h3
          conv => lhs; rw [← List.dropLast_concat_getLast hne]
          congr 2
          rw [List.getLast_eq_getElem, ← h4]
          congr 1
          omega
        rw [e] at nd
        exact (List.nodup_append.mp nd).2.2 q hm q (by simp) rfl
      have ow' : Ow X.K F (upd H p (.lst (qs.map V.ref).dropLast)) (.ref p) (.LL xss.dropLast) (fp i) := by
        rw [← List.map_dropLast]
        refine .LL f2 upd_same (f4.dropLast.up (Ex.refl _) fun c hc u hu => ?_) (fun hc => f5 ((List.dropLast_sublist _).subset hc)) fun c hc => f6 c ((List.dropLast_sublist _).subset hc)
        rw [upd_ne]
        · exact hu
        · rintro rfl; exact f5 ((List.dropLast_sublist _).subset hc)
      obtain ⟨s1, t1⟩ := s.mutG f2 rfl f1 ow'
      have gi : getRo (ρ.set i (some (PV.LL xss.dropLast))) i = some (.LL xss.dropLast) := by
        have hi : i < ρ.length := by
          have := (List.getElem?_eq_some_iff.mp f1).1
          rw [← s.len]; exact this
        unfold getRo
        rw [List.getElem?_set_self hi]
        rfl
      obtain ⟨v, e1, s2, t2, h2⟩ := s1.take gi
      rw [f1] at e1
      cases e1
      have hh : Hd X.K F (upd H p (.lst (qs.map V.ref).dropLast)) (fpSet fp i none0) (.ref p) (.LL xss.dropLast) (fun c => fp i c ∧ c ≠ q) := by
        refine ⟨?_, fun c hc => h2.nf c hc.1, fun c hc => h2.kn c hc.1, fun c hc => h2.dj c hc.1⟩
        rw [← List.map_dropLast]
        refine .LL ⟨f2, Ne.symm hqp⟩ upd_same (f4.dropLast.up (Ex.refl _) fun c hc u hu => ?_) (fun hc => f5 ((List.dropLast_sublist _).subset hc)) fun c hc => ⟨f6 c ((List.dropLast_sublist _).subset hc), fun e => hql (e ▸ hc)⟩
        rw [upd_ne]
        · exact hu
        · rintro rfl; exact f5 ((List.dropLast_sublist _).subset hc)
      obtain ⟨s3, t3⟩ := Hd.back (F := F) (H := H) (fp := fp) s2 hh f1 (t1.trans t2) fun c hc => .inl ⟨i, hc.1⟩
      rw [List.set_set, List.set_set] at s3
      have gq : upd H p (.lst (qs.map V.ref).dropLast) q = some (.lst ys) := by rw [upd_ne hqp]; exact g2
      refine k (.ref q) _ F _ (fun c => c = q) s3 t3 ⟨.L rfl gq g3, fun c hc => ?_, fun c hc => ?_, fun c hc j hj => ?_⟩ fun c hc => ?_
      · subst hc; exact s.nf i c (f6 c hq)
      · subst hc; exact ⟨_, gq, rfl⟩
      · subst hc
        rcases fpSet_cases hj with ⟨_, h1⟩ | ⟨e, h1⟩
        · exact h1.2 rfl
        · exact h2.dj c (f6 c hq) j h1
      · subst hc; exact .inl ⟨i, f6 c hq⟩
    · cases hd
  · cases hd
theorem s_llA {i : Nat} {ix x : E} {l r e : Expr} {m : Str} {sp ap cp : Pos} (hp : chkN N i sc l = true) (hr : PE X r (tX X.K T G ix)) (hpl : PlainIx r) (he : PE X e (tX X.K T G x)) (hs : noStar e = true) (hm : m = "append") (hline : (ap.endLine == cp.line) = true) :
    PE X (.Call (.Attribute (.Subscript l r sp) m ap) [e] [] cp) (tX X.K T G (.llA i ix x)) := by
  subst hm
  refine (pe_bm PySem.F.plainAttrs_list PySem.F.slot_list_append PySem.F.type_list_append (mt_all .append) (pe_ix ix_list (nm_ok o hp).1 hr hpl) (pa_cons he pa_nil (star_ok hs)) rfl (few_ok (es := []) (by simp [hs]) (by simp)) hline (star_ok hs) rfl).mono fun σ H Q ⟨F, ρ, fp, z, ρ', s, hd, k⟩ => ?_
  simp only [den] at hd
  split at hd
  · rename_i xss0 hx0
    obtain ⟨⟨y, ρ1⟩, h1, hd⟩ := Res.bind_inv hd
    dsimp only at hd
    split at hd
    · rename_i xss kk hxs
      split at hd
      · rename_i m hm
        obtain ⟨⟨z2, ρ2⟩, h2, hd⟩ := Res.bind_inv hd
        obtain ⟨z', h3, hd⟩ := Res.bind_inv hd
        obtain ⟨_, hg, hd⟩ := Res.bind_inv hd
        cases hd
        have hlen := of_decide_eq_true (Res.guard_inv hg)
        dsimp only at h2 h3
        obtain ⟨v, e1, e2⟩ := s.ow i _ hx0
        refine ⟨v, e1, F, ρ, fp, _, ρ1, s, h1, fun w H1 F1 fp1 P1 s1 t1 hd1 sub1 => ?_⟩
        obtain ⟨p, qs, f1, f2, f3, f4, f5, f6⟩ := s1.llist hxs
        rw [e1] at f1
        cases f1
        have hmm : ixN xss.length kk = some m ∧ m < xss.length := by
          unfold atI at hm
          rw [List.length_range] at hm
          cases hj : ixN xss.length kk with
          | none => rw [hj] at hm; cases hm
          | some j =>
            rw [hj] at hm
            have hm' : (List.range xss.length)[j]? = some m := hm
            obtain ⟨g1, g2⟩ := List.getElem?_eq_some_iff.mp hm'
            rw [List.length_range] at g1
            rw [List.getElem_range] at g2
            subst g2
            exact ⟨rfl, g1⟩
        obtain ⟨q, ys, g1, g2, g3⟩ := f4.get hmm.2
        have hq := List.mem_of_getElem? g1
        have hat : atI (qs.map V.ref) kk = some (.ref q) := by
          unfold atI
          rw [List.length_map, f4.length, hmm.1]
          show (qs.map V.ref)[m]? = _
          rw [List.getElem?_map, g1]; rfl
        obtain ⟨v0, e0, s0, t0, h0⟩ := s1.take hxs
        rw [e1] at e0
        cases e0
        refine ⟨p, qs.map V.ref, kk, .ref q, rfl, hd1.ow.dat.int_inv, sq_of f3, hat, .inl ⟨rfl, ys, sq_of g2⟩, F1, ρ1.set i none, _, z2, ρ2, s0, h2, fun w2 H2 F2 fp2 P2 s2 t2 hd2 sub2 => ?_⟩
        obtain ⟨F3, s3, e3, q3, d3⟩ := hd2.settle s2 h3
        have hh := (h0.keep t2).grow e3 q3 fun a ha h2' => by
          rcases sub2 a h2' with ⟨j, hj⟩ | hj
          · exact h0.dj a ha j hj
          · exact (h0.kn a ha).ne hj
        have T1 := t1.trans t0
        have T2 := (T1.trans t2).grow (P := P2) (T1.subP sub2) e3 s3.le q3
        obtain ⟨s4, t4⟩ := Hd.back s3 hh e1 T2 fun a ha => t1.sub i a ha
        have pq : q ≠ p := fun e => f5 (e ▸ hq)
        have k1' := t2.fr p _ f3 (h0.dj p f2)
        cases hh.ow with
        | @LL _ qs' _ _ k0 k1 k2 k3 k4 =>
          rw [k1'] at k1
          have hqq : qs.map V.ref = qs'.map V.ref := by injection k1 with k1; injection k1
          have hqs : qs = qs' := by
            have := congrArg (List.map fun v : V => match v with | .ref a => a | _ => 0) hqq
            simpa [List.map_map, Function.comp_def] using this
          subst hqs
          obtain ⟨q', ys', r1, r2, r3⟩ := k2.get hmm.2
          rw [g1] at r1
          cases r1
          refine ⟨q, ys', w2, rfl, rfl, r2, by rw [r3.length]; exact mil_lt hlen, ?_⟩
          have ow' : Ow X.K F3 (upd H2 q (.lst (ys' ++ [w2]))) (.ref p) (.LL (xss.set m (xss.getD m [] ++ [z']))) (fpSet fp2 i (fp1 i) i) := by
            rw [fpSet_same]
            refine .LL k0 ?_ (k2.set g1 (r3.append (.cons d3 .nil))) k3 k4
            rw [upd_ne (Ne.symm pq)]
            exact k1'
          obtain ⟨s5, t5⟩ := s4.mutG (i := i) (r := q) (by rw [fpSet_same]; exact f6 q hq) rfl e1 ow'
          rw [List.set_set] at s5
          exact fin0 k s5 (t4.trans t5) rfl .non
      · cases hd
    · cases hd
  · cases hd
end
end Rf
set_option maxRecDepth 100000
set_option maxHeartbeats 4000000
namespace Rf
open PySem PySem.Spec PyProof.Rows L2 Evl
theorem wipe_get {σ : L2.St} {i : Nat} : ∀ {vs : List Nat}, i ∉ vs → (wipe σ vs)[i]? = σ[i]?
  | [], _ => rfl
  | v :: vs, h => by
    have h' : i ≠ v ∧ i ∉ vs := by simpa using h
    unfold wipe
    rw [List.getElem?_set_ne (Ne.symm h'.1), wipe_get h'.2]
theorem wipeR_get {ρ : Ro} {i : Nat} : ∀ {vs : List Nat}, i ∉ vs → getRo (wipeR ρ vs) i = getRo ρ i
  | [], _ => rfl
  | v :: vs, h => by
    have h' : i ≠ v ∧ i ∉ vs := by simpa using h
    unfold wipeR
    rw [getRo_set_ne (Ne.symm h'.1), wipeR_get h'.2]
theorem wipeR_in {ρ : Ro} {i : Nat} {x : PV} : ∀ {vs : List Nat}, i ∈ vs → getRo (wipeR ρ vs) i ≠ some x
  | [], h => by simp at h
  | v :: vs, h => by
    unfold wipeR
    intro e
    rcases getRo_set e with ⟨_, e2⟩ | ⟨ne, e2⟩
    · cases e2
    · rcases List.mem_cons.mp h with q | q
      · exact ne q.symm
      · exact wipeR_in q e2
theorem wipeR_length (ρ : Ro) : ∀ vs : List Nat, (wipeR ρ vs).length = ρ.length
  | [] => rfl
  | v :: vs => by unfold wipeR; rw [List.length_set, wipeR_length ρ vs]
theorem wipeBack_length (ρ ρ' : Ro) : ∀ vs : List Nat, (wipeBack ρ ρ' vs).length = ρ'.length
  | [] => rfl
  | v :: vs => by unfold wipeBack; rw [List.length_set, wipeBack_length ρ ρ' vs]
theorem wipeBack_out {ρ ρ' : Ro} {i : Nat} : ∀ {vs : List Nat}, i ∉ vs → getRo (wipeBack ρ ρ' vs) i = getRo ρ' i
  | [], _ => rfl
  | v :: vs, h => by
    have h' : i ≠ v ∧ i ∉ vs := by simpa using h
    unfold wipeBack
    rw [getRo_set_ne (Ne.symm h'.1), wipeBack_out h'.2]
theorem wipeBack_in {ρ ρ' : Ro} {i : Nat} {x : PV} : ∀ {vs : List Nat}, i ∈ vs → getRo (wipeBack ρ ρ' vs) i = some x → getRo ρ i = some x
  | [], h, _ => by simp at h
  | v :: vs, h, e => by
    unfold wipeBack at e
    rcases getRo_set e with ⟨q, e2⟩ | ⟨ne, e2⟩
    · rw [← q]; exact e2
    · rcases List.mem_cons.mp h with q | q
      · exact absurd q.symm ne
      · exact wipeBack_in q e2
theorem wipe_none {σ : L2.St} {i : Nat} {x : V} : ∀ {vs : List Nat}, i ∈ vs → (wipe σ vs)[i]? ≠ some (some x) := fun {vs} h e => (wipe_some e).2 h
/-- what is done to wiped slots is forgotten -/
theorem wipe_same {σ σ2 : L2.St} {vs : List Nat} (hl : σ2.length = σ.length) (h : ∀ i, i ∉ vs → σ2[i]? = σ[i]?) : wipe σ2 vs = wipe σ vs := by
  apply List.ext_getElem?
  intro i
  by_cases hi : i ∈ vs
  · have nn : ∀ τ : L2.St, (wipe τ vs)[i]? = if i < τ.length then some none else none := fun τ => by
      cases q : (wipe τ vs)[i]? with
      | none =>
        have : ¬ i < τ.length := by
          have := List.getElem?_eq_none_iff.mp q
          rw [wipe_length] at this
          omega
        rw [if_neg this]
      | some o =>
        cases o with
        | none =>
          have : i < τ.length := by
            have := (List.getElem?_eq_some_iff.mp q).1
            rwa [wipe_length] at this
          rw [if_pos this]
        | some x => exact absurd q (wipe_none hi)
    rw [nn, nn, hl]
  · rw [wipe_get hi, wipe_get hi, h i hi]
section
variable {K : Frag} {F H : Hp} {σ : L2.St} {ρ : Ro} {fp : Nat → As} {vs : List Nat}
theorem St.wipe (s : St K F H σ ρ fp) : St K F H (wipe σ vs) (wipeR ρ vs) fp where
  le := s.le
  len := by rw [wipe_length, wipeR_length]; exact s.len
  ow := fun i x h => by
    by_cases hi : i ∈ vs
    · exact absurd h (wipeR_in hi)
    · rw [wipeR_get hi] at h
      rw [wipe_get hi]
      exact s.ow i x h
  dj := s.dj
  kn := s.kn
  nf := s.nf
/-- a list in hand is changed -/
theorem St.mutH (s : St K F H σ ρ fp) {p : Addr} {ys ys' : List V} (hH : H p = some (.lst ys)) (hf : F p = none) (hp : ∀ i, ¬ fp i p) : St K F (upd H p (.lst ys')) σ ρ fp where
  le := fun a u ha => by rw [upd_ne (ne_of_none ha hf)]; exact s.le a u ha
  len := s.len
  ow := fun i x hx => by
    obtain ⟨v, e1, e2⟩ := s.ow i x hx
    refine ⟨v, e1, e2.up (Ex.refl _) (fun a ha u hu => ?_) fun _ z => z⟩
    rw [upd_ne]
    · exact hu
    · rintro rfl; exact hp i ha
  dj := s.dj
  kn := fun i a ha => by
    rw [upd_ne]
    · exact s.kn i a ha
    · rintro rfl; exact hp i ha
  nf := s.nf
end
theorem Xt.mutH {F H F1 H1 : Hp} {fp fp1 : Nat → As} (x : Xt F H fp F1 H1 fp1) {p : Addr} {o : HO} (h0 : H p = none) (hf : F1 p = none) : Xt F H fp F1 (upd H1 p o) fp1 where
  ff := x.ff
  fr := fun a u ha hn => by
    rw [upd_ne (ne_of_none ha h0)]
    exact x.fr a u ha hn
  le := fun a u ha => by rw [upd_ne (ne_of_none ha hf)]; exact x.le a u ha
  nw := x.nw
  sub := x.sub
  kn := fun a ha => by
    by_cases q : a = p
    · subst q; rw [upd_same]; simp
    · rw [upd_ne q]; exact x.kn a ha
theorem drop_cons {α : Type} {xs : List α} {i : Nat} {x : α} (h : xs[i]? = some x) : xs.drop i = x :: xs.drop (i + 1) := by
  have hl := (List.getElem?_eq_some_iff.mp h).1
  rw [List.drop_eq_getElem_cons hl]
  congr 1
  exact (List.getElem?_eq_some_iff.mp h).2
section
variable {K : Frag} {T : Tab} {G : Gls}
theorem le_lc {g : Tg} {it c e : E} {vs : List Nat} {tt : TT} (hg : (slots g).all vs.contains = true) (ht : ∀ σ H Q, tT K T G c σ H Q → tt σ H Q) :
    ∀ σ H Q, tX K T G (.lc g it c e vs) σ H Q → tLc (tI K T G it) (tG K g) tt (tX K T G e) vs σ H Q := fun σ H Q ⟨F, ρ, fp, z, ρ', s, hd, k⟩ => by
  simp only [den] at hd
  obtain ⟨⟨xs, ρ1⟩, h1, hd⟩ := Res.bind_inv hd
  obtain ⟨_, h2, hd⟩ := Res.bind_inv hd
  have hw := Res.guard_inv h2
  obtain ⟨⟨ys, ρ2⟩, h3, hd⟩ := Res.bind_inv hd
  obtain ⟨_, h4, hd⟩ := Res.bind_inv hd
  have hz := of_decide_eq_true (Res.guard_inv h4)
  cases hd
  dsimp only at h3
  generalize hbody : (fun (x : PyData) (ρ : Ro) => (do
      let ρ3 ← stTg g x ρ
      let (t, ρ4) ← den T G c ρ3
      let b ← asBool t
      if b then (do let (y, ρ5) ← den T G e ρ4; let y' ← y.fz; Res.ok (some y', wipeR ρ5 vs)) else Res.ok (none, wipeR ρ4 vs) : Res (Option PyData × Ro))) = body at h3
  refine ⟨F, ρ, fp, xs, ρ1, s, h1, fun J H1 F1 fp1 s1 t1 items D hD => ?_⟩
  have s1w : St K F1 H1 (wipe σ vs) (wipeR ρ1 vs) fp1 := s1.wipe
  refine ⟨fun i m H' => i ≤ xs.length ∧ m = xs.length - i ∧ ∃ F' fp' ρ' acc done rest, St K F' H' (wipe σ vs) ρ' fp' ∧ Xt F1 H1 fp1 F' H' fp' ∧ H' D = some (.lst acc) ∧ F' D = none ∧ (∀ i, ¬ fp' i D) ∧ Rps K F' acc done ∧
      lcF body (xs.drop i) ρ' = .ok (rest, ρ2) ∧ ys = done ++ rest, ⟨xs.length, Nat.zero_le _, by omega, F1, fp1, wipeR ρ1 vs, [], [], ys, ?_, ?_, upd_same, fresh_back s1.le hD, ?_, .nil, by simpa using h3, rfl⟩, ?_⟩
  · have n : Nw F1 H1 F1 (upd H1 D (.lst [])) := ⟨s1.le.trans (Ex.new hD), Ex.refl _, Ex.new hD, fun _ _ q => .inl q⟩
    exact n.st s1w
  · have n : Nw F1 H1 F1 (upd H1 D (.lst [])) := ⟨s1.le.trans (Ex.new hD), Ex.refl _, Ex.new hD, fun _ _ q => .inl q⟩
    exact n.xt
  · intro i hi
    exact (s1.kn i D hi).ne hD
  rintro i m H' ⟨hi, hm, F', fp', ρ'', acc, done, rest, s', t', e1, e2, e3, hr, hl, hys⟩
  obtain ⟨hgo, hstop⟩ := items i H' F' t'.ff s'.le
  by_cases hlt : i < xs.length
  · refine .inr ?_
    have hx : xs[i]? = some xs[i] := List.getElem?_eq_getElem hlt
    obtain ⟨g1, g2⟩ := hgo _ hx
    rw [drop_cons hx] at hl
    simp only [lcF] at hl
    obtain ⟨⟨oy, ρ3⟩, l1, hl⟩ := Res.bind_inv hl
    obtain ⟨⟨rest', ρ4⟩, l2, hl⟩ := Res.bind_inv hl
    have hl' := Res.ok.inj hl
    have er : oCons oy rest' = rest := congrArg Prod.fst hl'
    have eρ : ρ4 = ρ2 := congrArg Prod.snd hl'
    subst eρ
    refine ⟨g1, fun H4 => ∃ F4 fp4 acc4 done4, St K F4 H4 (wipe σ vs) ρ3 fp4 ∧ Xt F1 H1 fp1 F4 H4 fp4 ∧ H4 D = some (.lst acc4) ∧ F4 D = none ∧ (∀ i, ¬ fp4 i D) ∧ Rps K F4 acc4 done4 ∧ ys = done4 ++ rest',
      fun H4 ⟨F4, fp4, acc4, done4, q1, q2, q3, q4, q5, q6, q7⟩ => ⟨xs.length - (i + 1), by omega, by omega, rfl, F4, fp4, ρ3, acc4, done4, rest', q1, q2, q3, q4, q5, q6, l2, q7⟩, fun x H3 hy => ?_⟩
    obtain ⟨F3, nw, rx⟩ := g2 x H3 hy
    have s3 := nw.st s'
    have t3 := t'.trans nw.xt
    -- the list under way stays in hand
    have hD3 : Hd K F' H' fp' (.ref D) (.L done) (fun a => a = D) := ⟨.L rfl e1 hr, fun a ha => by subst ha; exact e2, fun a ha => by subst ha; exact ⟨_, e1, rfl⟩, fun a ha => by subst ha; exact e3⟩
    have hD3' := hD3.keep (nw.xt (fp := fp'))
    rw [← hbody] at l1
    obtain ⟨ρ5, b1, l1⟩ := Res.bind_inv l1
    obtain ⟨⟨tv, ρ6⟩, b2, l1⟩ := Res.bind_inv l1
    obtain ⟨b, b3, l1⟩ := Res.bind_inv l1
    refine ⟨F3, ρ'', fp', _, ρ5, s3, rx, b1, fun σ2 fp2 s4 hk hf => ⟨?_, ?_⟩⟩
    · have : wipe σ2 vs = wipe (wipe σ vs) vs := wipe_same (by rw [s4.len, s3.len]; exact stTg_length b1) fun j hj => hk j fun hjs => hj (by
        have := List.all_eq_true.mp hg j hjs
        simpa using this)
      rw [this]
      exact wipe_same (wipe_length _ _) fun j hj => wipe_get hj
    · have hwσ : wipe σ2 vs = wipe σ vs := by
        have : wipe σ2 vs = wipe (wipe σ vs) vs := wipe_same (by rw [s4.len, s3.len]; exact stTg_length b1) fun j hj => hk j fun hjs => hj (by
          have := List.all_eq_true.mp hg j hjs
          simpa using this)
        rw [this]
        exact wipe_same (wipe_length _ _) fun j hj => wipe_get hj
      have t4 : Xt F1 H1 fp1 F3 H3 fp2 := t3.lower fun j a ha => ⟨j, hf j a ha⟩
      have hD4 : Hd K F3 H3 fp2 (.ref D) (.L done) (fun a => a = D) := ⟨hD3'.ow, hD3'.nf, hD3'.kn, fun a ha j hj => hD3'.dj a ha j (hf j a hj)⟩
      refine ht σ2 H3 _ ⟨F3, ρ5, fp2, tv, ρ6, b, s4, b2, b3, fun H5 F5 fp5 s5 t5 => ?_⟩
      have hD5 := hD4.keep t5
      cases b with
      | false =>
        dsimp only
        rw [if_neg Bool.false_ne_true] at l1 ⊢
        cases l1
        cases hD5.ow with
        | L _ g3 g4 =>
          refine ⟨F5, fp5, _, done, by rw [← hwσ]; exact s5.wipe, t4.trans t5, g3, hD5.nf D rfl, fun j => hD5.dj D rfl j, g4, ?_⟩
          rw [hys, ← er]
          rfl
      | true =>
        dsimp only
        rw [if_pos rfl] at l1 ⊢
        obtain ⟨⟨yv, ρ7⟩, b4, l1⟩ := Res.bind_inv l1
        obtain ⟨y', b5, l1⟩ := Res.bind_inv l1
        cases l1
        refine ⟨F5, ρ6, fp5, yv, ρ7, s5, b4, fun w H6 F6 fp6 P6 s6 t6 hd6 sub6 => ?_⟩
        have hD6 := hD5.keep t6
        obtain ⟨F7, s7, e7, q7, d7⟩ := hd6.settle s6 b5
        have dj6 : ∀ a, a = D → ¬ P6 a := fun a ha hp => by
          subst ha
          rcases sub6 a hp with ⟨j, hj⟩ | hj
          · exact hD5.dj a rfl j hj
          · exact (hD5.kn a rfl).ne hj
        have hD7 := hD6.grow e7 q7 dj6
        have t7 : Xt F1 H1 fp1 F7 H6 fp6 := ((t4.trans t5).trans t6).grow (P := P6) (fun a ha => (t4.trans t5).subP sub6 a ha) e7 s7.le q7
        cases hD7.ow with
        | @L _ ys7 _ _ _ g3 g4 =>
          have hF7 := hD7.nf D rfl
          have hl7 : ys7.length = done.length := g4.length
          refine ⟨ys7, g3, mil_lt ?_, F7, fp6, ys7 ++ [w], done ++ [y'], ?_, t7.mutH hD hF7, upd_same, hF7, fun j => hD7.dj D rfl j, g4.append (.cons d7 .nil), ?_⟩
          · rw [hl7]
            rw [hys, ← er] at hz
            simp [oCons] at hz
            omega
          · rw [← hwσ]
            exact (s7.wipe).mutH g3 hF7 fun j => hD7.dj D rfl j
          · rw [hys, ← er]
            simp [oCons]
  · refine .inl ⟨hstop (by omega), ?_⟩
    have hi' : i = xs.length := by omega
    subst hi'
    rw [List.drop_length] at hl
    simp only [lcF] at hl
    cases hl
    rw [List.append_nil] at hys
    subst hys
    -- the block's own slots come back
    have wd : ∀ j, j ∈ vs → ∀ x, getRo ρ1 j = some x → ∃ y, x = .d y := fun j hj x hx => by
      have := List.all_eq_true.mp hw j hj
      rw [hx] at this
      cases x with
      | d y => exact ⟨y, rfl⟩
      | L => cases this
      | M => cases this
      | I => cases this
      | LL => cases this
    have sB : St K F' H' σ (wipeBack ρ1 ρ2 vs) fp' := {
      le := s'.le
      len := by
        have := s'.len
        rw [wipe_length] at this
        rw [wipeBack_length]; exact this
      ow := fun j x hx => by
        by_cases hj : j ∈ vs
        · have h5 := wipeBack_in hj hx
          obtain ⟨y, rfl⟩ := wd j hj x h5
          obtain ⟨v, q1, q2⟩ := s1.ow j _ h5
          exact ⟨v, q1, .d (q2.dat.up t'.ff)⟩
        · rw [wipeBack_out hj] at hx
          obtain ⟨v, q1, q2⟩ := s'.ow j x hx
          exact ⟨v, (wipe_some q1).1, q2⟩
      dj := s'.dj
      kn := s'.kn
      nf := s'.nf }
    exact k (.ref D) H' F' fp' (fun a => a = D) sB (t1.trans t') ⟨.L rfl e1 hr, fun a ha => by subst ha; exact e2, fun a ha => by subst ha; exact ⟨_, e1, rfl⟩, fun a ha => by subst ha; exact e3⟩ fun a ha => by
      subst ha
      exact .inr (t1.back hD)
end
end Rf
set_option maxRecDepth 100000
set_option maxHeartbeats 4000000
namespace RY
open PySem PySem.Spec PyProof.Rows L2
section
variable {prog : Program} {w : World} {A : Around} {E : Value → Shared → Prop} {s : Shared}
theorem adjust_rev (n : Nat) : Builtin.Slice.sliceAdjust none none (-1) (n : Int) = ((n : Int) - 1, -1) := rfl
theorem places_rev (n : Nat) : Builtin.Slice.slicePlaces ((n : Int) - 1) (-1) (-1) = n := by
  unfold Builtin.Slice.slicePlaces
  rw [if_neg (by decide)]
  split
  · rw [show (- -1 : Int) = 1 by decide, Int.ediv_one]; omega
  · have : n = 0 := by omega
    rw [this]; rfl
theorem sliceApplied_rev {sl : Addr} {vl vu vs : Value} {n : Nat} {Q : Int × Int × Nat → Shared → Prop} (hs : s.heap.IsSliceOf sl vl vu vs) (pl : IsPart vl none) (pu : IsPart vu none) (ps : IsPart vs (some (-1)))
    (h : Q ((n : Int) - 1, -1, n) s) : wpAny (model prog w) A (Builtin.Slice.sliceApplied (.ref sl) (pure (n : Int))) Q E s := by
  obtain ⟨os, hos, hcs, hds⟩ := id hs
  unfold Builtin.Slice.sliceApplied Builtin.Slice.sliceFields
  refine wpAny_bind (wpAny_bind (wpAny_field hos hds (x := vl) rfl (wpAny_bind (wpAny_field hos hds (x := vu) rfl (wpAny_bind (wpAny_field hos hds (x := vs) rfl (wpAny_pure ?_)))))))
  refine wpAny_bind (HT.slicePart_ ps ?_)
  show wpAny _ _ (if ((-1 : Int) == 0) = true then _ else _) _ _ s
  rw [if_neg (by decide)]
  refine wpAny_bind (HT.slicePart_ pl (wpAny_bind (HT.slicePart_ pu (wpAny_bind (wpAny_pure ?_)))))
  show wpAny _ _ (match Builtin.Slice.sliceAdjust none none (-1) (n : Int) with | (lo, hi) => pure (lo, (-1 : Int), Builtin.Slice.slicePlaces lo hi (-1))) _ _ s
  rw [adjust_rev n]
  show wpAny _ _ (pure ((n : Int) - 1, (-1 : Int), Builtin.Slice.slicePlaces ((n : Int) - 1) (-1) (-1))) _ _ s
  rw [places_rev]
  exact wpAny_pure h
theorem fm_congr {α β : Type} {f g : α → Option β} : ∀ {l : List α}, (∀ m ∈ l, f m = g m) → l.filterMap f = l.filterMap g
  | [], _ => rfl
  | a :: l, h => by
    rw [List.filterMap_cons, List.filterMap_cons, h a (by simp), fm_congr fun m hm => h m (List.mem_cons_of_mem _ hm)]
theorem pick_rev (xs : Array Value) : ((List.range xs.size).filterMap fun (m : Nat) => xs[((xs.size : Int) - 1 + (m : Int) * (-1)).toNat]?).toArray = xs.toList.reverse.toArray := by
  have e : ∀ m ∈ List.range xs.size, xs[((xs.size : Int) - 1 + (m : Int) * (-1)).toNat]? = xs[xs.size - 1 - m]? := fun m hm => by
    have := List.mem_range.mp hm
    congr 1
    omega
  rw [fm_congr e]
  have h2 : (List.range xs.size).filterMap (fun m => xs[xs.size - 1 - m]?) = ((List.range xs.size).map fun k => xs.size - 1 - k).filterMap (xs[·]?) := by
    rw [List.filterMap_map]; rfl
  rw [h2, PySem.W.krv_range, List.filterMap_reverse, PySem.W.krv_all]
theorem getItem_tuple_rev {t sl : Addr} {items : Array Value} {vl vu vs : Value} {Q : Value → Shared → Prop} (ht : IsTup s.heap t items) (hs : s.heap.IsSliceOf sl vl vu vs) (pl : IsPart vl none) (pu : IsPart vu none) (ps : IsPart vs (some (-1)))
    (h : Q (.ref s.heap.objs.size) { s with heap := s.heap.push { cls := .type "tuple", data := .seq items.toList.reverse.toArray } })
    (hsz : items.size ≤ sizeLine) : wpAny (model prog w) A (getItem (.ref t) (.ref sl)) Q E s := by
  have htake : sizeOk (.seq items.toList.reverse.toArray) := by
    show items.toList.reverse.toArray.size ≤ sizeLine
    rw [List.size_toArray, List.length_reverse, Array.length_toList]
    exact hsz
  obtain ⟨os, hos, hcs, hds⟩ := id hs
  have hTs : s.TypeIs (.ref sl) "slice" := ⟨os, hos, hcs⟩
  unfold getItem
  try with_reducible refine wpAny_holding ?_
  first | refine wpAny_bind (wpAny_pure ?_) | skip
  refine wpAny_bind (wpAny_sequenceKey ht.typeIs (by decide) ?_)
  refine wpAny_bind (wpAny_callSpecial?_slot (name := Str.ofString "__getitem__") ht.typeIs PyProof.Rows.slot_tuple_getitem
    (wpAny_call_entry PyProof.Rows.slot_tuple_getitem ht.typeIs entry_tuple_getitem ?_ (args_tuple_getitem _ _)))
  show wpAny _ _ (Builtin.Tuple.tupleItemsOf (.ref t) >>= _) _ _ s
  refine wpAny_bind (PyProof.Rows.tupleItemsOf_ ht ?_)
  refine wpAny_bind (wpAny_typeOf hTs ?_)
  rw [if_pos (by decide)]
  refine wpAny_bind (sliceApplied_rev hs pl pu ps ?_)
  have hno : ¬ ((((items.size : Int) - 1) == 0 && (-1 : Int) == 1 && items.size == items.size) = true) := by
    intro q
    rw [Bool.and_eq_true, Bool.and_eq_true] at q
    exact absurd q.1.2 (by decide)
  show wpAny _ _ (if ((((items.size : Int) - 1) == 0 && (-1 : Int) == 1 && items.size == items.size) = true) then _ else _) _ _ s
  rw [if_neg hno, pick_rev]
  first
    | exact wpAny_bind (m := Builtin.Tuple.tupleExact _) (wpAny_newObj_type (wpAny_pure ⟨_, rfl, wpAny_pure h⟩) htake)
    | exact wpAny_bind (m := Builtin.Tuple.tupleExact _) (wpAny_newObj_type (wpAny_bind (wpAny_pure (wpAny_pure ⟨_, rfl, wpAny_pure h⟩))) htake)
    | exact wpAny_bind (wpAny_bind (m := Builtin.Tuple.tupleExact _) (wpAny_newObj_type (wpAny_pure (wpAny_pure ⟨_, rfl, wpAny_pure h⟩)) htake))
    | exact wpAny_bind (wpAny_bind (m := Builtin.Tuple.tupleExact _) (wpAny_newObj_type (wpAny_pure ⟨_, rfl, wpAny_pure h⟩) htake))
end
theorem rev_str (z : Str) (u : Tok) : Txt.sliceBy z none none (-1, u) = ⟨z.cps.reverse⟩ := by
  have h := PyProof.Rows.step_rev_list z u
  generalize Txt.sliceBy z none none (-1, u) = y at h
  cases y with
  | mk cs =>
    refine congrArg Str.mk (Array.toList_inj.mp ?_)
    rw [Array.toList_reverse]
    refine h.trans (List.ext_getElem (by simp [Str.length]) fun i h1 h2 => ?_)
    have hi : i < z.cps.size := by simpa [Str.length] using h1
    simp only [List.getElem_map, List.getElem_range, List.getElem_reverse, Array.length_toList, Array.getElem_toList]
    have : z.cps.size - 1 - i < z.cps.size := by omega
    show z.cps.getD (z.cps.size - 1 - i) 0 = _
    simp [Array.getD, this]
/-- xs[::-1], a list or a tuple or a text -/
def tRevA (K : PySem.W.Frag) (te : TE) : TE := fun σ H Q => te σ H fun x H1 => (∃ z, x = .str z ∧ z.length ≤ sizeLine ∧ Q (.str ⟨z.cps.reverse⟩) H1) ∨ (∃ a xs, x = .ref a ∧ SqL K H1 a xs ∧ ∀ p, H1 p = none → Q (.ref p) (upd H1 p (.lst xs.reverse))) ∨ ∃ a xs, x = .ref a ∧ SqT K H1 a xs ∧ ∀ p, H1 p = none → Q (.ref p) (upd H1 p (.tup xs.reverse))
theorem pe_revA {X : Cx} {e : Expr} {te : TE} {k : Nat} {p1 p2 p3 pos : Pos} (he : PE X e te) : PE X (.Subscript e (.Slice none none (some (.UnaryOp .USub (.Constant (.int 1) k p1) p2)) p3) pos) (tRevA X.K te) := by
  refine ⟨fun pins s σ H Q I h => ?_⟩
  refine Subscript_ (thn (he.run pins s σ H _ I h) fun v s1 ⟨x, H1, I1, r1, q1⟩ => ?_)
  have hst : PO X (some (.UnaryOp .USub (.Constant (.int 1) k p1) p2)) (tPart (tUn (rU fun i => .int (-i)) (tC (.int 1)))) := po_some (pe_un un_neg pe_int)
  refine wpAny_Slice (thn (po_none.run pins s1 σ H1 (fun o H2 => o = none ∧ H2 = H1) I1 ⟨rfl, rfl⟩) fun vl s2 ⟨l, H2, I2, pl, el, e2⟩ => ?_)
  subst el e2
  refine thn (po_none.run pins s2 σ H2 (fun o H3 => o = none ∧ H3 = H2) I2 ⟨rfl, rfl⟩) fun vu s3 ⟨u, H3, I3, pu, eu, e3⟩ => ?_
  subst eu e3
  refine thn (hst.run pins s3 σ H3 (fun o H4 => o = some (-1) ∧ H4 = H3) I3 ⟨1, rfl, -1, rfl, rfl, rfl⟩) fun vs s4 ⟨o, H4, I4, ps, eo, e4⟩ => ?_
  subst eo e4
  have I5 : Inv X pins σ H4 { s4 with heap := s4.heap.push { cls := .type "slice", data := .fields #[vl, vu, vs] } } := I4.kept (t' := s4.toks) fun b ob q => Heap.get?_push_of_some _ q
  rcases q1 with ⟨z, ex, hz, q⟩ | ⟨a, xs, ex, hx, q⟩ | ⟨a, xs, ex, hx, q⟩
  · subst ex
    obtain ⟨t, rfl⟩ := r1
    cases pl
    cases pu
    cases ps with
    | int _ tk =>
    show wpAny (model X.prog X.w) X.A (subscriptTail e (.Slice none none (some (.UnaryOp .USub (.Constant (.int 1) k p1) p2)) p3) (.str z t) (.ref s4.heap.objs.size)) (EP X pins σ Q) X.xe { s4 with heap := s4.heap.push { cls := .type "slice", data := .fields #[.none, .none, .int (-1) tk] } }
    refine tail_any (ops := [.str z t, .ref s4.heap.objs.size]) (typeIs_str _ _ _) F.slot_str_getitem.lookup ?_ (by with_unfolding_all rfl)
    refine wpAny_getItem_str_slice (l := none) (u := none) (st := some (-1, tk)) ⟨_, Heap.get?_push_size _ rfl, rfl, rfl⟩ rfl ?_
    have e1 : sliceMade z t none none (some (-1, tk)) = .str (Txt.sliceBy z none none (-1, tk)) := by
      unfold sliceMade Txt.sliceBy
      have h1 : ((((some ((-1 : Int), tk)).map (·.1)).getD 1 == 1)) = false := rfl
      rw [h1, Bool.false_and, if_neg (by decide), if_neg (by decide)]
    rw [e1, rev_str]
    refine ⟨?_, .str ⟨z.cps.reverse⟩, _, I5.tok _, ⟨_, rfl⟩, q⟩
    show z.cps.reverse.size ≤ sizeLine
    rw [Array.size_reverse]
    exact hz
  · subst ex
    cases r1
    obtain ⟨its, r, ht, hz⟩ := I5.list hx
    show wpAny (model X.prog X.w) X.A (subscriptTail e (.Slice none none (some (.UnaryOp .USub (.Constant (.int 1) k p1) p2)) p3) (.ref a) (.ref s4.heap.objs.size)) (EP X pins σ Q) X.xe { s4 with heap := s4.heap.push { cls := .type "slice", data := .fields #[vl, vu, vs] } }
    refine tail_any (ops := [.ref a, .ref s4.heap.objs.size]) ht.isList.typeIs (PySem.slot_list_getitem.lookup) ?_ (by with_unfolding_all rfl)
    refine wpAny_getItem_list_slice ht.isList (Heap.IsSliceOf.new _ vl vu vs) pl pu ps (by decide) ?_ (by rw [List.size_toArray]; have := r.length; omega)
    rw [PySem.W.krv_pick]
    refine ⟨.ref _, _, I5.laid (t' := s4.toks) (o := .lst xs.reverse) (fun b ob q => Heap.get?_push_of_some _ q) (Nat.le_refl _) ?_, rfl, q _ (I5.hok.fresh (Nat.le_refl _))⟩
    exact ⟨by rw [List.length_reverse]; exact hz, _, 0, r.reverse, Heap.get?_push_size _ rfl⟩
  · subst ex
    cases r1
    obtain ⟨its, r, ht, hz⟩ := I5.tuple hx
    show wpAny (model X.prog X.w) X.A (subscriptTail e (.Slice none none (some (.UnaryOp .USub (.Constant (.int 1) k p1) p2)) p3) (.ref a) (.ref s4.heap.objs.size)) (EP X pins σ Q) X.xe { s4 with heap := s4.heap.push { cls := .type "slice", data := .fields #[vl, vu, vs] } }
    refine tail_any (ops := [.ref a, .ref s4.heap.objs.size]) ht.typeIs (PyProof.Rows.slot_tuple_getitem.lookup) ?_ (by with_unfolding_all rfl)
    refine getItem_tuple_rev ht (Heap.IsSliceOf.new _ vl vu vs) pl pu ps ?_ (by rw [List.size_toArray]; have := r.length; omega)
    refine ⟨.ref _, _, I5.laid (t' := s4.toks) (o := .tup xs.reverse) (fun b ob q => Heap.get?_push_of_some _ q) (Nat.le_refl _) ?_, rfl, q _ (I5.hok.fresh (Nat.le_refl _))⟩
    exact ⟨by rw [List.length_reverse]; exact hz, _, r.reverse, IsTup.new _ _⟩
end RY
namespace Rf
open PySem PySem.Spec PyProof.Rows L2 Evl
theorem ents_find {K : Frag} : ∀ {es : List DictEntry} {kvs : List (PyData × PyData)}, Ents K es kvs → ∀ k : Str, (∀ d, dget k kvs = some d → ∃ e v, es.find? (·.key.isStr k) = some e ∧ RelV v e.val ∧ ∀ H, Rp K H v d) ∧ es.any (·.refKey) = false ∧ (dget k kvs = none → es.find? (·.key.isStr k) = none)
  | [], [], _, k => ⟨(fun _ h => by cases h), rfl, fun _ => rfl⟩
  | [], _ :: _, h, _ => by simp [Ents] at h
  | e :: es, [], h, _ => by simp [Ents] at h
  | e :: es, (x, d) :: r, h, k => by
    cases x with
    | str a =>
      obtain ⟨⟨t, h1⟩, ⟨v, h2, h3⟩, h4⟩ := h
      obtain ⟨i2, i3, i4⟩ := ents_find h4 k
      have hk : e.key.isStr k = decide (a = k) := by
        rw [h1]
        show (a == k) = _
        by_cases z : a = k
        · simp [z]
        · rw [decide_eq_false z]; exact beq_eq_false_iff_ne.mpr z
      have hr : e.refKey = false := by
        unfold DictEntry.refKey
        rw [h1]
      by_cases z : a = k
      · have hk' : e.key.isStr k = true := by rw [hk]; exact decide_eq_true z
        refine ⟨fun d' hd => ?_, by simp [hr, i3], fun hd => by simp [dget, z] at hd⟩
        simp only [dget, z, if_true] at hd
        cases hd
        exact ⟨e, v, by simp [List.find?_cons, hk'], h2, h3⟩
      · have hk' : e.key.isStr k = false := by rw [hk]; exact decide_eq_false z
        refine ⟨fun d' hd => ?_, by simp [hr, i3], fun hd => ?_⟩
        · simp only [dget, if_neg z] at hd
          obtain ⟨e', v', q1, q2, q3⟩ := i2 d' hd
          exact ⟨e', v', by simp [List.find?_cons, hk', q1], q2, q3⟩
        · simp only [dget, if_neg z] at hd
          simp [List.find?_cons, hk', i4 hd]
    | _ => simp [Ents] at h
/-- a constant dict: a key that is there -/
theorem gdct_get {K : Frag} {w : World} {v : V} {kvs : List (PyData × PyData)} (g : GOk K w v (.dict kvs)) {k : Str} {d : PyData} (hd : dget k kvs = some d) : ∃ p r, v = .ref p ∧ KDct K w p k r ∧ ∀ H, Rp K H r d := by
  obtain ⟨p, es, n, rfl, h1, h2, h3, h4⟩ := g
  obtain ⟨e, r, q1, q2, q3⟩ := (ents_find h4 k).1 d hd
  refine ⟨p, r, rfl, ⟨es, n, e.val, h1, h2, ?_, q2⟩, q3⟩
  unfold PySem.W.nsIn
  rw [h1]
  dsimp only
  rw [q1]
def KIn (K : Frag) (w : World) (p : Addr) (k : Str) (b : Bool) : Prop :=
  ∃ es n o, K.lookup p = some ⟨.type "dict", none, .dict es n, #[]⟩ ∧ PySem.W.KeysLit w.params es.toList ∧ (p == sysModules) = false ∧ PySem.W.nsIn K p k = some o ∧ o.isSome = b
theorem gdct_in {K : Frag} {w : World} {v : V} {kvs : List (PyData × PyData)} (g : GOk K w v (.dict kvs)) (k : Str) : ∃ p, v = .ref p ∧ KIn K w p k (dget k kvs).isSome := by
  obtain ⟨p, es, n, rfl, h1, h2, h3, h4⟩ := g
  obtain ⟨q1, q2, q3⟩ := ents_find h4 k
  cases hd : dget k kvs with
  | some d =>
    obtain ⟨e, r, z1, _⟩ := q1 d hd
    refine ⟨p, rfl, es, n, some e.val, h1, h2, h3, ?_, rfl⟩
    unfold PySem.W.nsIn
    rw [h1]
    dsimp only
    rw [z1]
  | none =>
    refine ⟨p, rfl, es, n, none, h1, h2, h3, ?_, rfl⟩
    unfold PySem.W.nsIn
    rw [h1]
    dsimp only
    rw [q3 hd]
    dsimp only
    rw [q2]
    rfl
def rInK (K : Frag) (w : World) : R2 := fun x y H Q => ∃ p z b, x = .str z ∧ y = .ref p ∧ KIn K w p z b ∧ Q (.bl b) H
theorem op_inK {X : Cx} : OpR X (compareOp .In) (rInK X.K X.w) := by
  intro pins s σ H x y v u Q I rx ry h
  obtain ⟨p, z, b, rfl, rfl, ⟨es, n, o, h1, h2, h3, h4, h5⟩, q⟩ := h
  obtain ⟨t, rfl⟩ := (show ∃ t, v = Value.str z t from rx)
  obtain rfl : u = Value.ref p := ry
  have hm := PySem.W.mapOf_K (prog := X.prog) (w := X.w) I.kIn h1 h2
  refine wpAny_in_of (strKind_is X.prog X.w z t) h3 hm ?_
  rw [PySem.W.find_K h1 h4, h5]
  exact ⟨.bl b, H, I.tok _, rfl, q⟩
section
variable {P : Prg} {G : Gls} {T : Tab} {n : Nat} {N : List Str} {sc : Scope} {top : Bool} {X : Cx}
variable (o : XOk P G T n N sc top X)
theorem s_bitl {x : E} {a : Expr} {m : Str} {ap cp : Pos} (hc : noCall a = true) (he : PE X a (tX X.K T G x)) (hm : m = "bit_length") (hline : (ap.endLine == cp.line) = true) : PE X (.Call (.Attribute a m ap) [] [] cp) (tX X.K T G (.op1 .bitl x)) := by
  subst hm
  exact (pe_bits he (base_ok hc) hline).mono fun σ H Q ⟨F, ρ, fp, z, ρ', s, hd, k⟩ => by
    simp only [den] at hd
    obtain ⟨⟨x1, ρ1⟩, h1, hd⟩ := Res.bind_inv hd
    obtain ⟨d1, h2, hd⟩ := Res.bind_inv hd
    obtain ⟨r, h3, hd⟩ := Res.bind_inv hd
    cases hd
    unfold opS1 at h3
    split at h3
    · cases h3
      refine ⟨F, ρ, fp, x1, _, s, h1, fun v H1 F1 fp1 P1 s1 t1 hd1 sub => ?_⟩
      exact ⟨_, (hd1.ow.opd h2).int_inv, fin0 k s1 t1 rfl (.int _)⟩
    · cases h3
theorem rps_evs {K : Frag} {F : Hp} : ∀ {vs : List V} {ds : List PyData}, Rps K F vs ds → Rps K F (RX.evs vs) (RX.evs ds)
  | _, _, .nil => .nil
  | _, _, .cons r .nil => .cons r .nil
  | _, _, .cons r (.cons _ q) => .cons r (rps_evs q)
theorem rps_evn {K : Frag} {F : Hp} {vs : List V} {ds : List PyData} (o : Bool) (r : Rps K F vs ds) : Rps K F (RX.evn o vs) (RX.evn o ds) := by
  unfold RX.evn
  cases o
  · exact rps_evs r
  · refine rps_evs ?_
    cases r with
    | nil => exact .nil
    | cons a b => exact b
theorem s_ev0 {x : E} {a : Expr} {k k2 : Nat} {p1 p2 p3 pos : Pos} (he : PE X a (tX X.K T G x)) : PE X (.Subscript a (.Slice none none (some (.Constant (.int 2) k p1)) p3) pos) (tX X.K T G (.evn false x)) :=
  (RX.pe_ev0 he).mono fun σ H Q ⟨F, ρ, fp, z, ρ', s, hd, k⟩ => by
    simp only [den] at hd
    obtain ⟨⟨x1, ρ1⟩, h1, hd⟩ := Res.bind_inv hd
    obtain ⟨d1, h2, hd⟩ := Res.bind_inv hd
    dsimp only at hd
    split at hd
    · cases hd
      refine ⟨F, ρ, fp, x1, _, s, h1, fun v H1 F1 fp1 P1 s1 t1 hd1 sub => ?_⟩
      obtain ⟨a, ys, rfl, e2, e3⟩ := (hd1.ow.opd h2).lst_inv s1.le
      exact ⟨a, ys, rfl, e2.sq, fun q hq => fin k s1 t1 (Rs.newL s1.le hq (rps_evn _ e3))⟩
    · cases hd
theorem s_ev1 {x : E} {a : Expr} {k k2 : Nat} {p1 p2 p3 pos : Pos} (he : PE X a (tX X.K T G x)) : PE X (.Subscript a (.Slice (some (.Constant (.int 1) k2 p2)) none (some (.Constant (.int 2) k p1)) p3) pos) (tX X.K T G (.evn true x)) :=
  (RX.pe_ev1 he).mono fun σ H Q ⟨F, ρ, fp, z, ρ', s, hd, k⟩ => by
    simp only [den] at hd
    obtain ⟨⟨x1, ρ1⟩, h1, hd⟩ := Res.bind_inv hd
    obtain ⟨d1, h2, hd⟩ := Res.bind_inv hd
    dsimp only at hd
    split at hd
    · cases hd
      refine ⟨F, ρ, fp, x1, _, s, h1, fun v H1 F1 fp1 P1 s1 t1 hd1 sub => ?_⟩
      obtain ⟨a, ys, rfl, e2, e3⟩ := (hd1.ow.opd h2).lst_inv s1.le
      exact ⟨a, ys, rfl, e2.sq, fun q hq => fin k s1 t1 (Rs.newL s1.le hq (rps_evn _ e3))⟩
    · cases hd
theorem s_rev {x : E} {a : Expr} {k : Nat} {p1 p2 p3 pos : Pos} (he : PE X a (tX X.K T G x)) : PE X (.Subscript a (.Slice none none (some (.UnaryOp .USub (.Constant (.int 1) k p1) p2)) p3) pos) (tX X.K T G (.rev x)) :=
  (RY.pe_revA he).mono fun σ H Q ⟨F, ρ, fp, z, ρ', s, hd, k⟩ => by
    simp only [den] at hd
    obtain ⟨⟨x1, ρ1⟩, h1, hd⟩ := Res.bind_inv hd
    obtain ⟨d1, h2, hd⟩ := Res.bind_inv hd
    dsimp only at hd
    split at hd
    · cases hd
      refine ⟨F, ρ, fp, x1, _, s, h1, fun v H1 F1 fp1 P1 s1 t1 hd1 sub => ?_⟩
      obtain ⟨a, ys, rfl, e2, e3⟩ := (hd1.ow.opd h2).lst_inv s1.le
      exact .inr (.inl ⟨a, ys, rfl, e2.sq, fun q hq => fin k s1 t1 (Rs.newL s1.le hq e3.reverse)⟩)
    · cases hd
      refine ⟨F, ρ, fp, x1, _, s, h1, fun v H1 F1 fp1 P1 s1 t1 hd1 sub => ?_⟩
      obtain ⟨a, ys, rfl, e2, e3⟩ := (hd1.ow.opd h2).tup_inv s1.le
      exact .inr (.inr ⟨a, ys, rfl, e2, fun q hq => fin k s1 t1 (Rs.newT s1.le hq e3.reverse)⟩)
    · obtain ⟨_, g, hd⟩ := Res.bind_inv hd
      cases hd
      refine ⟨F, ρ, fp, x1, _, s, h1, fun v H1 F1 fp1 P1 s1 t1 hd1 sub => ?_⟩
      exact .inl ⟨_, (hd1.ow.opd h2).str_inv, mil (of_decide_eq_true (Res.guard_inv g)), fin0 k s1 t1 rfl (.str _)⟩
    · cases hd
theorem rps_of {K : Frag} {F : Hp} : ∀ {vs : List V} {ds : List PyData}, vs.length = ds.length → (∀ (j : Nat) (v : V) (d : PyData), vs[j]? = some v → ds[j]? = some d → Rp K F v d) → Rps K F vs ds
  | [], [], _, _ => .nil
  | v :: vs, d :: ds, hl, h => .cons (h 0 v d rfl rfl) (rps_of (by simpa using hl) fun j v d h1 h2 => h (j + 1) v d (by simpa using h1) (by simpa using h2))
  | [], _ :: _, hl, _ => by simp at hl
  | _ :: _, [], hl, _ => by simp at hl
theorem zip2_length : ∀ xs ys : List PyData, (zip2 xs ys).length = min xs.length ys.length
  | [], _ => by simp [zip2]
  | _ :: _, [] => by simp [zip2]
  | x :: xs, y :: ys => by simp [zip2, zip2_length xs ys]
open Classical in
theorem rs_zip {K : Frag} {F H H3 : Hp} {q : Addr} {us ws ts : List V} {xs ys : List PyData} (e : Ex F H) (hq : H q = none) (r1 : Rps K F us xs) (r2 : Rps K F ws ys) (hu : ∀ c u, H c = some u → H3 c = some u) (hS : H3 q = some (.lst ts)) (hp : RX.Prs H H3 us ws ts (min us.length ws.length)) :
    ∃ F3, Rs K F H F3 H3 (.ref q) (.L (zip2 xs ys)) := by
  refine ⟨fun c => if c ≠ q ∧ H c = none ∧ V.ref c ∈ ts then H3 c else F c, ?_⟩
  have ff : Ex F (fun c => if c ≠ q ∧ H c = none ∧ V.ref c ∈ ts then H3 c else F c) := fun c u hc => by
    show (if _ then _ else _) = _
    rw [if_neg, hc]
    rintro ⟨_, h, _⟩
    rw [e c u hc] at h
    cases h
  refine ⟨⟨fun c u hc => ?_, ff, hu, fun c u hc => ?_⟩, .L ⟨hq, ?_, ⟨_, hS, rfl⟩⟩ hS (rps_of ?_ fun j v d hv hd => ?_)⟩
  · by_cases h : c ≠ q ∧ H c = none ∧ V.ref c ∈ ts
    · have : H3 c = some u := by simpa [if_pos h] using hc
      exact this
    · have : F c = some u := by simpa [if_neg h] using hc
      exact hu c u (e c u this)
  · by_cases h : c ≠ q ∧ H c = none ∧ V.ref c ∈ ts
    · exact .inr (.inl h.2.1)
    · exact .inl (by simpa [if_neg h] using hc)
  · show (if _ then _ else _) = _
    rw [if_neg (fun h => h.1 rfl)]
    exact fresh_back e hq
  · rw [hp.1, zip2_length, r1.length, r2.length]
  · obtain ⟨T, x, y, rfl, h1, h2, h3, h4⟩ := hp.2 j v hv
    obtain ⟨a, b, g1, g2, rfl⟩ := zip2_get hd
    obtain ⟨v1, k1, k2⟩ := r1.get g1
    obtain ⟨v2, k3, k4⟩ := r2.get g2
    rw [h1] at k1
    rw [h2] at k3
    cases k1
    cases k3
    have hT : (fun c => if c ≠ q ∧ H c = none ∧ V.ref c ∈ ts then H3 c else F c) T = some (.tup [x, y]) := by
      show (if _ then _ else _) = _
      rw [if_pos ⟨fun z => (by rw [z, hS] at h3; cases h3), h4, List.mem_of_getElem? hv⟩]
      exact h3
    exact .tup (st_of hT) (.cons (k2.up ff) (.cons (k4.up ff) .nil))
include o in
theorem s_zipL {x y : E} {a b : Expr} {f g : Str} {p p2 pos pos2 : Pos} (ha : PE X a (tX X.K T G x)) (hs : noStar a = true) (hb : PE X b (tX X.K T G y)) (hs2 : noStar b = true) (hf : f = "list") (hgf : glo sc f = true) (hg : g = "zip") (hgg : glo sc g = true) :
    PE X (.Call (.Name f p) [.Call (.Name g p2) [a, b] [] pos2] [] pos) (tX X.K T G (.op2 .zipL x y)) := by
  obtain ⟨g1, g2, g3⟩ := glo_ok o hgf
  obtain ⟨k1, k2, k3⟩ := glo_ok o hgg
  subst hf
  subst hg
  exact (RX.pe_listZip o.calm g1 (o.blt _ (by decide +kernel)) k1 (o.blt _ (by decide +kernel)) (pa_cons ha (pa_cons hb pa_nil (star_ok hs2)) (star_ok hs)) (star_ok hs) (by rw [star_ok hs2] <;> rfl)).mono fun σ H Q ⟨F, ρ, fp, z, ρ', s, hd, k⟩ => by
    simp only [den] at hd
    obtain ⟨⟨x1, ρ1⟩, h1, hd⟩ := Res.bind_inv hd
    obtain ⟨⟨x2, ρ2⟩, h2, hd⟩ := Res.bind_inv hd
    obtain ⟨d1, h3, hd⟩ := Res.bind_inv hd
    obtain ⟨d2, h4, hd⟩ := Res.bind_inv hd
    obtain ⟨r, h5, hd⟩ := Res.bind_inv hd
    cases hd
    unfold opS2 at h5
    split at h5
    · obtain ⟨_, gd, h5⟩ := Res.bind_inv h5
      cases h5
      have hl := of_decide_eq_true (Res.guard_inv gd)
      refine two s h1 h2 fun v w H2 F2 fp2 P1 P2 s2 t2 hd1 hd2 sub1 sub2 dj => ?_
      obtain ⟨a, ys, rfl, e2, e3⟩ := (hd1.ow.opd h3).lst_inv s2.le
      obtain ⟨b, zs, rfl, e4, e5⟩ := (hd2.ow.opd h4).lst_inv s2.le
      refine ⟨a, b, ys, zs, rfl, e2.sq, e4.sq, by rw [e3.length]; exact Nat.le_trans (Nat.min_le_left _ _) hl, fun q ts H3 hu hq hS hp => ?_⟩
      obtain ⟨F3, r⟩ := rs_zip s2.le hq e3 e5 hu hS hp
      exact fin k s2 t2 r
    · cases h5
include o in
theorem s_ixM {x y : E} {a b : Expr} {pos : Pos} (ha : PE X a (tX X.K T G x)) (hb : PE X b (tX X.K T G y)) (hpl : NoSl b) : PE X (.Subscript a b pos) (tX X.K T G (.ixM x y)) :=
  (pe_dget (dunits o) ha hb hpl).mono fun σ H Q ⟨F, ρ, fp, z, ρ', s, hd, k⟩ => by
    simp only [den] at hd
    obtain ⟨⟨x1, ρ1⟩, h1, hd⟩ := Res.bind_inv hd
    obtain ⟨⟨x2, ρ2⟩, h2, hd⟩ := Res.bind_inv hd
    dsimp only at hd
    split at hd
    · rename_i kvs kk hdx
      split at hd
      · rename_i u hx
        cases hd
        exact two s h1 h2 fun v w H2 F2 fp2 P1 P2 s2 t2 hd1 hd2 _ _ _ => by
          have ho := hd1.ow
          cases ho with
          | @M p kv _ las _ hp1 g1 g2 g3 g4 g5 =>
            obtain ⟨u', h3, h4⟩ := g2.getD hx
            refine ⟨p, u', rfl, ?_, fin0 k s2 t2 rfl h4⟩
            rw [hd2.ow.dat.str_inv, ← h3]
            exact DGet.k (k := .inr kk) g1
      · cases hd
    · cases hd
theorem den_ixG {x : Str} {y : E} {ρ ρ' : Ro} {z : PV} (hd : den T G (.ixG x y) ρ = .ok (z, ρ')) : ∃ kvs kk d, G x = some (.dict kvs) ∧ den T G y ρ = .ok (.d (.str kk), ρ') ∧ dget kk kvs = some d ∧ z = .d d := by
  simp only [den] at hd
  obtain ⟨⟨x1, ρ1⟩, h1, h2⟩ := Res.bind_inv hd
  cases hG : G x with
  | none => rw [hG] at h2; cases h2
  | some d =>
    rw [hG] at h2
    cases d with
    | dict kvs =>
      cases x1 with
      | d y =>
        cases y with
        | str kk =>
          dsimp only at h2
          cases hk : dget kk kvs with
          | none => rw [hk] at h2; cases h2
          | some d => rw [hk] at h2; cases h2; exact ⟨kvs, kk, d, rfl, h1, hk, rfl⟩
        | _ => cases h2
      | _ => cases h2
    | _ => cases h2
theorem den_inG {x : Str} {y : E} {ρ ρ' : Ro} {z : PV} (hd : den T G (.inG x y) ρ = .ok (z, ρ')) : ∃ kvs kk, G x = some (.dict kvs) ∧ den T G y ρ = .ok (.d (.str kk), ρ') ∧ z = .d (.bool (dget kk kvs).isSome) := by
  simp only [den] at hd
  obtain ⟨⟨x1, ρ1⟩, h1, h2⟩ := Res.bind_inv hd
  cases hG : G x with
  | none => rw [hG] at h2; cases h2
  | some d =>
    rw [hG] at h2
    cases d with
    | dict kvs =>
      cases x1 with
      | d y =>
        cases y with
        | str kk => cases h2; exact ⟨kvs, kk, rfl, h1, rfl⟩
        | _ => cases h2
      | _ => cases h2
    | _ => cases h2
include o in
theorem s_callL {f g : Nat} {d d' : Fn} {b as : E} {x y : Str} {px py pl ps pos : Pos} {r : Expr} {es : List Expr} (hf : P[f]? = some d) (hg' : P[g]? = some d') (hb : PE X r (tX X.K T G b)) (hs : PlainIx r) (ha : PA X es (tA X.K T G as)) (hst : es.all noStar = true)
    (hx : x = d.name) (hgx : glo sc x = true) (hy : y = d'.name) (hgy : glo sc y = true) (nd : ((ios as).filterMap id).Nodup) (hp : isPos 0 (ios as) d.io = true) (hp' : isPos 0 (ios as) d'.io = true) (hl : alen as = d.np) (hl' : alen as = d'.np) (hne : es ≠ []) :
    PE X (.Call (.Subscript (.List [.Name x px, .Name y py] pl) r ps) es [] pos) (tX X.K T G (.callL f g b as)) := by
  obtain ⟨x1, x2, _⟩ := glo_ok o hgx
  obtain ⟨y1, y2, _⟩ := glo_ok o hgy
  obtain ⟨a1, fd1, m1, m2, m3, m4⟩ := (o.fns f d hf).ok
  obtain ⟨a2, fd2, n1, n2, n3, n4⟩ := (o.fns g d' hg').ok
  subst hx
  subst hy
  have pel : PE X (.List [.Name d.name px, .Name d'.name py] pl) (tLst (tCons (tC (.ref a1)) (tCons (tC (.ref a2)) tNil))) :=
    pe_lst (pa_cons (pe_glob x1 m1 rfl x2) (pa_cons (pe_glob y1 n1 rfl y2) pa_nil))
  cases es with
  | nil => exact absurd rfl hne
  | cons e es =>
    rw [List.all_cons, Bool.and_eq_true] at hst
    refine ⟨fun pins s σ H Q I ⟨F, ρ, fp, z, ρ', st, hd, k⟩ => ?_⟩
    simp only [den] at hd
    obtain ⟨⟨w, ρ1⟩, h1, hd⟩ := Res.bind_inv hd
    refine Call_ (thn ((pe_ix ix_list pel hb hs).run pins s σ H (fun v H2 => ∃ F2 fp2, St X.K F2 H2 σ ρ1 fp2 ∧ Xt F H fp F2 H2 fp2 ∧ ((w = .d (.int 0) ∧ v = .ref a1) ∨ (w = .d (.int 1) ∧ v = .ref a2))) I ?_) fun u s1 ⟨v, H1, I1, r1, F2, fp2, st2, xt2, q⟩ => ?_)
    · refine ⟨by show 2 ≤ sizeLine; decide, fun p hp => ?_⟩
      have n0 : Nw F H F (upd H p (.lst [.ref a1, .ref a2])) := ⟨st.le.trans (Ex.new hp), Ex.refl _, Ex.new hp, fun _ _ q => .inl q⟩
      have s0 := n0.st st
      refine ⟨F, ρ, fp, w, ρ1, s0, h1, fun v H1 F1 fp1 P1 s1 t1 hd1 sub => ?_⟩
      have hpl : H1 p = some (.lst [.ref a1, .ref a2]) := t1.fr p _ upd_same fun i hi => (st.kn i p hi).ne hp
      have key : ∀ i : Int, w = .d (.int i) → (i = 0 ∨ i = 1) → ∃ pp xs ii vv, (V.ref p : V) = .ref pp ∧ v = .int ii ∧ SqL X.K H1 pp xs ∧ atI xs ii = some vv ∧ ∃ F2 fp2, St X.K F2 H1 σ ρ1 fp2 ∧ Xt F H fp F2 H1 fp2 ∧ ((w = .d (.int 0) ∧ vv = .ref a1) ∨ (w = .d (.int 1) ∧ vv = .ref a2)) := fun i e hi => by
        subst e
        rcases hi with rfl | rfl
        · exact ⟨p, [.ref a1, .ref a2], 0, .ref a1, rfl, hd1.ow.dat.int_inv, SqL.of hpl, rfl, F1, fp1, s1, n0.xt.trans t1, .inl ⟨rfl, rfl⟩⟩
        · exact ⟨p, [.ref a1, .ref a2], 1, .ref a2, rfl, hd1.ow.dat.int_inv, SqL.of hpl, rfl, F1, fp1, s1, n0.xt.trans t1, .inr ⟨rfl, rfl⟩⟩
      cases w with
      | d w =>
        cases w with
        | int i =>
          dsimp only at hd
          by_cases h0 : i = 0
          · exact key i rfl (.inl h0)
          · rw [if_neg h0] at hd
            by_cases hi1 : i = 1
            · exact key i rfl (.inr hi1)
            · rw [if_neg hi1] at hd
              cases hd
        | _ => cases hd
      | _ => cases hd
    · rcases q with ⟨rfl, rfl⟩ | ⟨rfl, rfl⟩
      · obtain rfl : u = Value.ref a1 := r1
        have hd' : den T G (.call f as) ρ1 = .ok (z, ρ') := by simp only [den]; exact hd
        have hc := le_call (X := X) nd hp hl σ H1 Q ⟨F2, ρ1, fp2, z, ρ', st2, hd', fun v H' F' fp' P' s' t' hh sub => k v H' F' fp' P' s' (xt2.trans t') hh (xt2.subP sub)⟩
        refine PySem.W.callWith_K (h₀ := X.base) I1.ok.mod.kin m2 (thn (ha.run pos pins s1 σ H1 _ I1 hc) fun us s2 ⟨vs, H2, I2, r, q⟩ => ⟨I2.kIn, ?_⟩) (star_ok hst.1) (plain_tail hst.2)
        exact run_fn (E := E0) m4 o.room m3 .nil pass0 I2 r q
      · obtain rfl : u = Value.ref a2 := r1
        have hd' : den T G (.call g as) ρ1 = .ok (z, ρ') := by simp only [den]; exact hd
        have hc := le_call (X := X) nd hp' hl' σ H1 Q ⟨F2, ρ1, fp2, z, ρ', st2, hd', fun v H' F' fp' P' s' t' hh sub => k v H' F' fp' P' s' (xt2.trans t') hh (xt2.subP sub)⟩
        refine PySem.W.callWith_K (h₀ := X.base) I1.ok.mod.kin n2 (thn (ha.run pos pins s1 σ H1 _ I1 hc) fun us s2 ⟨vs, H2, I2, r, q⟩ => ⟨I2.kIn, ?_⟩) (star_ok hst.1) (plain_tail hst.2)
        exact run_fn (E := E0) n4 o.room n3 .nil pass0 I2 r q
include o in
theorem s_ixG {x : Str} {y : E} {a : Expr} {p pos : Pos} (he : PE X a (tX X.K T G y)) (hg : glo sc x = true) (hp : PlainIx a) : PE X (.Subscript (.Name x p) a pos) (tX X.K T G (.ixG x y)) := by
  obtain ⟨g1, g2, g3⟩ := glo_ok o hg
  cases hG : G x with
  | none =>
    refine ⟨fun pins s σ H Q I ⟨F, ρ, fp, z, ρ', s', hd, k⟩ => ?_⟩
    obtain ⟨_, _, _, e, _⟩ := den_ixG hd
    rw [hG] at e
    cases e
  | some d =>
    obtain ⟨u, v, m1, m2, m3⟩ := o.gls x d hG
    refine (pe_ix ix_kdict (pe_glob g1 m1 m2 g2) he hp).mono fun σ H Q ⟨F, ρ, fp, z, ρ', s, hd, k⟩ => ?_
    obtain ⟨kvs, kk, d', e, h1, hk, rfl⟩ := den_ixG hd
    rw [hG] at e
    cases e
    obtain ⟨q, r, rfl, q1, q2⟩ := gdct_get m3 hk
    refine ⟨F, ρ, fp, _, _, s, h1, fun v H1 F1 fp1 P1 s1 t1 hd1 sub => ?_⟩
    exact ⟨q, kk, r, rfl, hd1.ow.dat.str_inv, q1, fin0 k s1 t1 rfl (q2 F1)⟩
include o in
theorem s_inG {x : Str} {y : E} {a : Expr} {p pos : Pos} (he : PE X a (tX X.K T G y)) (hg : glo sc x = true) : PE X (.Compare a [.In] [.Name x p] pos) (tX X.K T G (.inG x y)) := by
  obtain ⟨g1, g2, g3⟩ := glo_ok o hg
  cases hG : G x with
  | none =>
    refine ⟨fun pins s σ H Q I ⟨F, ρ, fp, z, ρ', s', hd, k⟩ => ?_⟩
    obtain ⟨_, _, e, _⟩ := den_inG hd
    rw [hG] at e
    cases e
  | some d =>
    obtain ⟨u, v, m1, m2, m3⟩ := o.gls x d hG
    refine (pe_cmpR op_inK he (pe_glob g1 m1 m2 g2) rfl).mono fun σ H Q ⟨F, ρ, fp, z, ρ', s, hd, k⟩ => ?_
    obtain ⟨kvs, kk, e, h1, rfl⟩ := den_inG hd
    rw [hG] at e
    cases e
    obtain ⟨q, rfl, q1⟩ := gdct_in m3 kk
    refine ⟨F, ρ, fp, _, _, s, h1, fun v H1 F1 fp1 P1 s1 t1 hd1 sub => ?_⟩
    exact ⟨q, kk, _, hd1.ow.dat.str_inv, rfl, q1, fin0 k s1 t1 rfl (.bl _)⟩
include o in
theorem t_inG {x : Str} {y : E} {a : Expr} {p pos : Pos} (he : PE X a (tX X.K T G y)) (hg : glo sc x = true) : PT X (.Compare a [.In] [.Name x p] pos) (tT X.K T G (.inG x y)) := by
  obtain ⟨g1, g2, g3⟩ := glo_ok o hg
  cases hG : G x with
  | none =>
    refine ⟨fun pins s σ H Q I ⟨F, ρ, fp, z, ρ', b, s', hd, _, k⟩ => ?_⟩
    obtain ⟨_, _, e, _⟩ := den_inG hd
    rw [hG] at e
    cases e
  | some d =>
    obtain ⟨u, v, m1, m2, m3⟩ := o.gls x d hG
    refine (pt_cmpR op_inK he (pe_glob g1 m1 m2 g2) rfl).mono fun σ H Q ⟨F, ρ, fp, z, ρ', c, s, hd, hc, k⟩ => ?_
    obtain ⟨kvs, kk, e, h1, rfl⟩ := den_inG hd
    cases hc
    rw [hG] at e
    cases e
    obtain ⟨q, rfl, q1⟩ := gdct_in m3 kk
    refine ⟨F, ρ, fp, _, _, s, h1, fun v H1 F1 fp1 P1 s1 t1 hd1 sub => ?_⟩
    exact ⟨q, kk, _, hd1.ow.dat.str_inv, rfl, q1, ⟨_, rfl, k _ _ _ s1 t1⟩⟩
end
end Rf
set_option maxRecDepth 100000
set_option maxHeartbeats 4000000
namespace Rf
open PySem PySem.Spec PyProof.Rows L2 Evl
section
theorem noCall_chkN {N : List Str} {j : Nat} {sc : Scope} {a : Expr} (h : chkN N j sc a = true) : noCall a = true := by
  unfold chkN at h
  split at h
  · rfl
  · cases h
/-- the turns over a dict of one's own -/
def DIt (t : Bool) (p : Addr) (od : Obj) (kv : List (Key × V)) : It := if t = true then Iti p od kv else Itk p od kv
theorem dit_ok {t : Bool} {p : Addr} {od : Obj} {kv : List (Key × V)} {i : Nat} {H : Hp} (h : H p = some (.frz od (.dK kv))) (hl : i < kv.length) : (DIt t p od kv).go i H := by
  cases t <;> exact ⟨h, hl⟩
theorem dit_end {t : Bool} {p : Addr} {od : Obj} {kv : List (Key × V)} {i : Nat} {H : Hp} (h : H p = some (.frz od (.dK kv))) (hl : kv.length ≤ i) : (DIt t p od kv).stop i H := by
  cases t <;> exact ⟨h, hl⟩
theorem dit_get {K : Frag} {t : Bool} {p : Addr} {od : Obj} {kv : List (Key × V)} {kvs : List (Ky × PyData)} {i : Nat} {F H H' : Hp} {v : V} (e : Ex F H) (hc : Cis K F kv kvs) (hl : i < kvs.length) (hl2 : i < (itD t kvs).length) (h : (DIt t p od kv).yld i H v H') : ∃ F', Nw F H F' H' ∧ Rp K F' v (itD t kvs)[i] := by
  obtain ⟨w, g1, g2⟩ := hc.at (i := i) (k := kvs[i].1) (d := kvs[i].2) (by rw [List.getElem?_eq_getElem hl])
  have ei : (itD t kvs)[i] = if t = true then .tuple [kyD kvs[i].1, kvs[i].2] else kyD kvs[i].1 := by
    simp only [itD, List.getElem_map]
  rw [ei]
  cases t with
  | false =>
    obtain ⟨rfl, k, v', h1, rfl⟩ := h
    rw [g1] at h1
    cases h1
    exact ⟨F, Nw.refl e, kyR _⟩
  | true =>
    obtain ⟨T, k, v', h1, rfl, h2, rfl⟩ := h
    rw [g1] at h1
    cases h1
    have r := Rs.newT (K := K) e h2 (.cons (kyR kvs[i].1) (.cons g2 .nil))
    exact ⟨_, r.nw, r.ow.dat⟩
/-- a dict of one's own that a loop has locked is unlocked -/
theorem thaw {K : Frag} {F H F' H' : Hp} {σ' : L2.St} {ρ1 : Ro} {fp fp' : Nat → As} {j : Nat} {p : Addr} {od : Obj} {kv : List (Key × V)} {kvs : List (Ky × PyData)} (hpj : fp j p) (hH : H p = some (.dK kv)) (hF : F p = none) (hdj : ∀ i, ¬ fpSet fp j none0 i p) (hc : Cis K F kv kvs) (hkn : ∀ i a, fp i a → Mu (H a))
    (t : Xt F (upd H p (.frz od (.dK kv))) (fpSet fp j none0) F' H' fp') (s' : St K F' H' σ' ρ1 fp') (e : σ'[j]? = some (some (.ref p))) :
    H' p = some (.frz od (.dK kv)) ∧ F' p = none ∧ (∀ i, ¬ fp' i p) ∧ St K F' (upd H' p (.dK kv)) σ' (ρ1.set j (some (.I kvs))) (fpSet fp' j (fun a => a = p)) ∧ Xt F H fp F' (upd H' p (.dK kv)) (fpSet fp' j (fun a => a = p)) ∧ St K F' (upd H' p (.dK kv)) σ' ρ1 fp' ∧ Xt F H fp F' (upd H' p (.dK kv)) fp' := by
  have hp1 : H' p = some (.frz od (.dK kv)) := t.fr p _ upd_same hdj
  have hf1 : F' p = none := by
    cases q : F' p with
    | none => rfl
    | some o =>
      rcases t.nw p o q with h1 | h1 | ⟨i, h1⟩ | h1
      · rw [hF] at h1; cases h1
      · rw [upd_same] at h1; cases h1
      · exact absurd h1 (hdj i)
      · have e2 := t.le p o q
        rw [hp1] at e2
        cases e2
        cases h1
  have hn1 : ∀ i, ¬ fp' i p := fun i hi => by
    rcases t.sub i p hi with ⟨j', hj⟩ | h1
    · exact hdj j' hj
    · rw [upd_same] at h1; cases h1
  have s1 := s'.poke hf1 hn1 (.dK kv)
  have sub0 : ∀ i a, fpSet fp j none0 i a → fp i a := fun i a hi => by
    rcases fpSet_cases hi with ⟨_, h1⟩ | ⟨_, h1⟩
    · exact h1.elim
    · exact h1
  have x1 : Xt F H fp F' (upd H' p (.dK kv)) fp' := by
    refine ⟨t.ff, fun a o h n => ?_, s1.le, fun a o h => ?_, fun i a h => ?_, fun a h => ?_⟩
    · have ne : a ≠ p := fun e => n j (by rw [e]; exact hpj)
      rw [upd_ne ne]
      exact t.fr a o (by rw [upd_ne ne]; exact h) fun i hi => n i (sub0 i a hi)
    · have ne : a ≠ p := fun e => by rw [e, hf1] at h; cases h
      rcases t.nw a o h with h1 | h1 | ⟨i, h1⟩ | h1
      · exact .inl h1
      · rw [upd_ne ne] at h1; exact .inr (.inl h1)
      · exact .inr (.inr (.inl ⟨i, sub0 i a h1⟩))
      · exact .inr (.inr (.inr h1))
    · have ne : a ≠ p := fun e => hn1 i (by rw [← e]; exact h)
      rcases t.sub i a h with ⟨j', h1⟩ | h1
      · exact .inl ⟨j', sub0 j' a h1⟩
      · rw [upd_ne ne] at h1; exact .inr h1
    · by_cases ne : a = p
      · rw [ne, upd_same]; simp
      · rw [upd_ne ne]; exact t.kn a (by rw [upd_ne ne]; exact h)
  have h2 : Hd K F' (upd H' p (.dK kv)) fp' (.ref p) (.I kvs) (fun a => a = p) := by
    refine ⟨.I rfl upd_same (hc.up t.ff), fun a ha => by subst ha; exact hf1, fun a ha => by subst ha; exact ⟨_, upd_same, rfl⟩, fun a ha i hi => by subst ha; exact hn1 i hi⟩
  have s2 := s1.put h2 j
  have es : σ'.set j (some (.ref p)) = σ' := by
    refine List.ext_getElem? fun n => ?_
    by_cases hn : j = n
    · subst hn
      have hl := (List.getElem?_eq_some_iff.mp e).1
      rw [List.getElem?_set_self hl, e]
    · rw [List.getElem?_set_ne hn]
  rw [es] at s2
  refine ⟨hp1, hf1, hn1, s2, ⟨x1.ff, x1.fr, x1.le, x1.nw, fun n a hn => ?_, x1.kn⟩, s1, x1⟩
  rcases fpSet_cases hn with ⟨_, h1⟩ | ⟨_, h1⟩
  · exact .inl ⟨j, by rw [h1]; exact hpj⟩
  · exact x1.sub n a h1
theorem prs_cis {K : Frag} {F : Hp} : ∀ {xs : List PyData} {us : List V} {r : List (Ky × PyData)}, Rps K F us xs → prsOf xs = some r → ∃ (ps : List Addr) (kvs : List (Key × V)), us = ps.map V.ref ∧ Paired (fun p kv => SqT K F p [kV kv.1, kv.2]) ps kvs ∧ Cis K F kvs r
  | [], _, r, h, e => by
    cases h
    cases e
    exact ⟨[], [], rfl, .nil, .nil⟩
  | x :: xs, _, r, h, e => by
    cases h with
    | @cons v vs _ _ h1 h2 =>
      unfold prsOf at e
      split at e
      · rename_i heq
        cases heq
      · rename_i k d r' heq
        injection heq with hx hr
        subst hx hr
        split at e
        · rename_i kk s hk hs
          cases e
          obtain ⟨ps, kvs, q1, q2, q3⟩ := prs_cis h2 hs
          obtain ⟨a, ys, rfl, g1, g2⟩ := h1.tup_inv
          cases g2 with
          | @cons kv vs' _ _ g3 g4 =>
            cases g4 with
            | @cons vv vs'' _ _ g5 g6 =>
              cases g6
              have ek := kyV g3 hk
              subst ek
              exact ⟨a :: ps, ((kk : Key), vv) :: kvs, by rw [q1]; rfl, .cons g1 q2, .cons g5 q3⟩
        · cases e
      · cases e
theorem paired_up {K : Frag} {F H : Hp} (e : Ex F H) : ∀ {ps : List Addr} {kvs : List (Key × V)}, Paired (fun p kv => SqT K F p [kV kv.1, kv.2]) ps kvs → Paired (fun p kv => SqT K H p [kV kv.1, kv.2]) ps kvs
  | _, _, .nil => .nil
  | _, _, .cons h r => .cons (ex_t e h) (paired_up e r)
theorem merge_cis {K : Frag} {F : Hp} : ∀ {kvs : List (Key × V)} {r : List (Ky × PyData)} {kv0 : List (Key × V)} {s : List (Ky × PyData)}, Cis K F kvs r → Cis K F kv0 s → Cis K F (mergeK kv0 kvs) (r.foldl (fun a kv => igPut kv.1 kv.2 a) s)
  | _, _, _, _, .nil, h0 => h0
  | _, _, _, _, @Cis.cons _ _ k _ _ _ _ h r, h0 => by
    have := merge_cis r (Cis.put (k := k) h h0)
    exact this
end
section
variable {P : Prg} {G : Gls} {T : Tab} {n : Nat} {N : List Str} {sc : Scope} {top : Bool} {X : Cx} (o : XOk P G T n N sc top X)
include o in
theorem s_dctP {e : E} {a : Expr} {f : Str} {p pos : Pos} (hf : f = "dict") (hg : glo sc f = true) (hs : noStar a = true) (ha : PE X a (tX X.K T G e)) : PE X (.Call (.Name f p) [a] [] pos) (tX X.K T G (.dctP e)) := by
  obtain ⟨g1, g2, g3⟩ := glo_ok o hg
  subst hf
  refine (pe_callTy (call_dictP o.calm) g1 (o.blt _ (by decide +kernel)) (by decide +kernel) (pa_cons ha pa_nil (star_ok hs)) g3 g2 (star_ok hs) rfl).mono fun σ H Q ⟨F, ρ, fp, z, ρ', s, hd, k⟩ => ?_
  simp only [den] at hd
  obtain ⟨⟨x1, ρ1⟩, h1, hd⟩ := Res.bind_inv hd
  obtain ⟨d1, h2, hd⟩ := Res.bind_inv hd
  dsimp only at hd h2
  refine ⟨F, ρ, fp, x1, ρ1, s, h1, fun v H1 F1 fp1 P1 s1 t1 hd1 sub => ?_⟩
  obtain ⟨F2, s2, e2, q2, d2⟩ := hd1.settle s1 h2
  have t2 := t1.grow sub e2 s2.le q2
  split at hd
  · split at hd
    · rename_i xs r hr
      cases hd
      obtain ⟨b, ys, rfl, h4, h5⟩ := d2.lst_inv
      obtain ⟨ps, kvs, c1, c2, c3⟩ := prs_cis h5 hr
      subst c1
      have c2' : Paired (fun p kv => SqT X.K H1 p [kV kv.1, kv.2]) ps kvs := paired_up s2.le c2
      refine ⟨b, ps, kvs, rfl, (h4.up s2.le).sq, c2', fun p hp => ?_⟩
      have n0 : Nw F2 H1 F2 (upd H1 p (.dK (mergeK [] kvs))) := ⟨s2.le.trans (Ex.new hp), Ex.refl _, Ex.new hp, fun _ _ q => .inl q⟩
      have hf := fresh_back s2.le hp
      refine k _ _ _ _ (fun a => a = p) (n0.st s2) (t2.trans n0.xt) ⟨.I rfl upd_same (merge_cis c3 .nil), fun a ha => by subst ha; exact hf, fun a ha => by subst ha; exact ⟨_, upd_same, rfl⟩, fun a ha i hi => by subst ha; exact (s2.kn i a hi).ne hp⟩ fun a ha => ?_
      subst ha
      exact .inr (t2.back hp)
    · cases hd
  · cases hd
end
section
variable {K : Frag} {T : Tab} {G : Gls}
theorem den_dcI {g : Tg} {j : Nat} {e : E} {vs : List Nat} {ρ : Ro} : den T G (.dcI g j e vs) ρ = den T G (.dctP (.lcI g j e vs)) ρ := by
  simp only [den]
theorem le_dcI {g : Tg} {j : Nat} {e : E} {vs : List Nat} : ∀ σ H Q, tX K T G (.dcI g j e vs) σ H Q → tX K T G (.dctP (.lcI g j e vs)) σ H Q := fun σ H Q ⟨F, ρ, fp, z, ρ', s, hd, k⟩ => ⟨F, ρ, fp, z, ρ', s, by rw [← den_dcI]; exact hd, k⟩
/-- a comprehension over a dict of one's own, which is locked meanwhile -/
theorem le_lcI {g : Tg} {j : Nat} {e : E} {vs : List Nat} {tt : TT} {wi : TI} (hg : (slots g).all vs.contains = true) (ht : ∀ σ H (Q : Bool → Hp → Prop), Q true H → tt σ H Q)
    (hti : ∀ (σ : L2.St) (H : Hp) (R : It → Hp → Prop) (p : Addr) (od : Obj) (kvs : List (Key × V)), σ[j]? = some (some (.ref p)) → H p = some (.frz od (.dK kvs)) → R (DIt true p od kvs) H → wi σ H R) :
    ∀ σ H Q, tX K T G (.lcI g j e vs) σ H Q → tLockE (tLc wi (tG K g) tt (tX K T G e) vs) σ H Q := fun σ H Q ⟨F, ρ, fp, z, ρ', s, hd, k⟩ => by
  simp only [den] at hd
  split at hd
  · rename_i kvs hr
    obtain ⟨_, h2, hd⟩ := Res.bind_inv hd
    have hw2 := Res.guard_inv h2
    rw [Bool.and_eq_true] at hw2
    obtain ⟨hw, hjv⟩ := hw2
    have hjv' : j ∉ vs := by simpa using hjv
    obtain ⟨⟨ys, ρ2⟩, h3, hd⟩ := Res.bind_inv hd
    obtain ⟨_, h4, hd⟩ := Res.bind_inv hd
    have hz := of_decide_eq_true (Res.guard_inv h4)
    cases hd
    try dsimp only at h3
    generalize hbody : (fun (x : PyData) (ρ : Ro) => (do
      let ρ3 ← stTg g x ρ
      let (y, ρ5) ← den T G e ρ3
      let y' ← y.fz
      Res.ok (some y', wipeR ρ5 vs) : Res (Option PyData × Ro))) = body at h3
    obtain ⟨p, kv, hv, hpj, hH, hc⟩ := s.idict hr
    obtain ⟨v0, hv', s0, t0, h0⟩ := s.take hr
    have hF := s.nf j p hpj
    have hdj : ∀ i, ¬ fpSet fp j none0 i p := h0.dj p hpj
    refine ⟨p, .dK kv, hH, trivial, fun od => ?_⟩
    have s1 := s0.poke hF hdj (.frz od (.dK kv))
    refine hti _ _ _ p od kv hv upd_same fun D hD => ?_
    have neD : D ≠ p := fun e' => by rw [e', upd_same] at hD; cases hD
    have hlen : kv.length = kvs.length := hc.length
    have hlen2 : (itD true kvs).length = kvs.length := by unfold itD; simp
    generalize hF1 : F = F1 at s1
    generalize hH1 : upd H p (.frz od (.dK kv)) = H1 at s1 hD ⊢
    generalize hfp1 : fpSet fp j none0 = fp1 at s1 hdj
    have s1w := s1.wipe (vs := vs)
    have hp1 : H1 p = some (.frz od (.dK kv)) := by rw [← hH1]; exact upd_same
    have hc1 : Cis K F1 kv kvs := by rw [← hF1]; exact hc
    refine ⟨fun i m H' => i ≤ (itD true kvs).length ∧ m = (itD true kvs).length - i ∧ ∃ F' fp' ρ' acc done rest, St K F' H' (wipe σ vs) ρ' fp' ∧ Xt F1 H1 fp1 F' H' fp' ∧ H' D = some (.lst acc) ∧ F' D = none ∧ (∀ i, ¬ fp' i D) ∧ Rps K F' acc done ∧
      lcF body ((itD true kvs).drop i) ρ' = .ok (rest, ρ2) ∧ ys = done ++ rest, ⟨(itD true kvs).length, Nat.zero_le _, by omega, F1, fp1, _, [], [], ys, ?_, ?_, upd_same, fresh_back s1.le hD, ?_, .nil, by simpa using h3, rfl⟩, ?_⟩
    · have n : Nw F1 H1 F1 (upd H1 D (.lst [])) := ⟨s1.le.trans (Ex.new hD), Ex.refl _, Ex.new hD, fun _ _ q => .inl q⟩
      exact n.st s1w
    · have n : Nw F1 H1 F1 (upd H1 D (.lst [])) := ⟨s1.le.trans (Ex.new hD), Ex.refl _, Ex.new hD, fun _ _ q => .inl q⟩
      exact n.xt
    · intro i hi
      exact (s1.kn i D hi).ne hD
    rintro i m H' ⟨hi, hm, F', fp', ρ'', acc, done, rest, s', t', e1, e2, e3, hr', hl, hys⟩
    have hp2 : H' p = some (.frz od (.dK kv)) := t'.fr p _ hp1 hdj
    by_cases hlt : i < (itD true kvs).length
    · refine .inr ?_
      have hx : (itD true kvs)[i]? = some (itD true kvs)[i] := List.getElem?_eq_getElem hlt
      rw [drop_cons hx] at hl
      simp only [lcF] at hl
      obtain ⟨⟨oy, ρ3⟩, l1, hl⟩ := Res.bind_inv hl
      obtain ⟨⟨rest', ρ4⟩, l2, hl⟩ := Res.bind_inv hl
      have hl' := Res.ok.inj hl
      have er : oCons oy rest' = rest := congrArg Prod.fst hl'
      have eρ : ρ4 = ρ2 := congrArg Prod.snd hl'
      subst eρ
      refine ⟨dit_ok hp2 (by omega), fun H4 => ∃ F4 fp4 acc4 done4, St K F4 H4 (wipe σ vs) ρ3 fp4 ∧ Xt F1 H1 fp1 F4 H4 fp4 ∧ H4 D = some (.lst acc4) ∧ F4 D = none ∧ (∀ i, ¬ fp4 i D) ∧ Rps K F4 acc4 done4 ∧ ys = done4 ++ rest',
        fun H4 ⟨F4, fp4, acc4, done4, q1, q2, q3, q4, q5, q6, q7⟩ => ⟨(itD true kvs).length - (i + 1), by omega, by omega, rfl, F4, fp4, ρ3, acc4, done4, rest', q1, q2, q3, q4, q5, q6, l2, q7⟩, fun x H3 hy => ?_⟩
      obtain ⟨F3, nw, rx⟩ := dit_get s'.le (hc1.up t'.ff) (by omega) hlt hy
      have s3 := nw.st s'
      have t3 := t'.trans nw.xt
      have hD3 : Hd K F' H' fp' (.ref D) (.L done) (fun a => a = D) := ⟨.L rfl e1 hr', fun a ha => by subst ha; exact e2, fun a ha => by subst ha; exact ⟨_, e1, rfl⟩, fun a ha => by subst ha; exact e3⟩
      have hD3' := hD3.keep (nw.xt (fp := fp'))
      rw [← hbody] at l1
      obtain ⟨ρ5, b1, l1⟩ := Res.bind_inv l1
      obtain ⟨⟨yv, ρ7⟩, b4, l1⟩ := Res.bind_inv l1
      obtain ⟨y', b5, l1⟩ := Res.bind_inv l1
      cases l1
      refine ⟨F3, ρ'', fp', _, ρ5, s3, rx, b1, fun σ2 fp2 s4 hk hf => ?_⟩
      have hwσ : wipe σ2 vs = wipe σ vs := by
        have : wipe σ2 vs = wipe (wipe σ vs) vs := wipe_same (by rw [s4.len, s3.len]; exact stTg_length b1) fun j hj => hk j fun hjs => hj (by
          have := List.all_eq_true.mp hg j hjs
          simpa using this)
        rw [this]
        exact wipe_same (wipe_length _ _) fun j hj => wipe_get hj
      refine ⟨hwσ, ?_⟩
      have t4 : Xt F1 H1 fp1 F3 H3 fp2 := t3.lower fun j a ha => ⟨j, hf j a ha⟩
      have hD4 : Hd K F3 H3 fp2 (.ref D) (.L done) (fun a => a = D) := ⟨hD3'.ow, hD3'.nf, hD3'.kn, fun a ha j hj => hD3'.dj a ha j (hf j a hj)⟩
      refine ht σ2 H3 _ ?_
      dsimp only
      rw [if_pos rfl]
      refine ⟨F3, ρ5, fp2, yv, ρ7, s4, b4, fun w H6 F6 fp6 P6 s6 t6 hd6 sub6 => ?_⟩
      have hD6 := hD4.keep t6
      obtain ⟨F7, s7, e7, q7, d7⟩ := hd6.settle s6 b5
      have dj6 : ∀ a, a = D → ¬ P6 a := fun a ha hp => by
        subst ha
        rcases sub6 a hp with ⟨j, hj⟩ | hj
        · exact hD4.dj a rfl j hj
        · exact (hD4.kn a rfl).ne hj
      have hD7 := hD6.grow e7 q7 dj6
      have t7 : Xt F1 H1 fp1 F7 H6 fp6 := (t4.trans t6).grow (P := P6) (fun a ha => t4.subP sub6 a ha) e7 s7.le q7
      cases hD7.ow with
      | @L _ ys7 _ _ _ g3 g4 =>
        have hF7 := hD7.nf D rfl
        have hl7 : ys7.length = done.length := g4.length
        refine ⟨ys7, g3, mil_lt ?_, F7, fp6, ys7 ++ [w], done ++ [y'], ?_, t7.mutH hD hF7, upd_same, hF7, fun j => hD7.dj D rfl j, g4.append (.cons d7 .nil), ?_⟩
        · rw [hl7]
          rw [hys, ← er] at hz
          simp [oCons] at hz
          omega
        · rw [← hwσ]
          exact (s7.wipe).mutH g3 hF7 fun j => hD7.dj D rfl j
        · rw [hys, ← er]
          simp [oCons]
    · refine .inl ⟨dit_end hp2 (by omega), ?_⟩
      have hi' : i = (itD true kvs).length := by omega
      subst hi'
      rw [List.drop_length] at hl
      simp only [lcF] at hl
      cases hl
      rw [List.append_nil] at hys
      subst hys
      have wd : ∀ j', j' ∈ vs → ∀ x, getRo (ρ.set j none) j' = some x → ∃ y, x = .d y := fun j' hj' x hx => by
        have := List.all_eq_true.mp hw j' hj'
        rw [hx] at this
        cases x with
        | d y => exact ⟨y, rfl⟩
        | L => cases this
        | M => cases this
        | I => cases this
        | LL => cases this
      have sB : St K F' H' σ (wipeBack (ρ.set j none) ρ2 vs) fp' := {
        le := s'.le
        len := by
          have := s'.len
          rw [wipe_length] at this
          rw [wipeBack_length]; exact this
        ow := fun j' x hx => by
          by_cases hj' : j' ∈ vs
          · have h5 := wipeBack_in hj' hx
            obtain ⟨y, rfl⟩ := wd j' hj' x h5
            obtain ⟨v, q1, q2⟩ := s1.ow j' _ h5
            exact ⟨v, q1, .d (q2.dat.up t'.ff)⟩
          · rw [wipeBack_out hj'] at hx
            obtain ⟨v, q1, q2⟩ := s'.ow j' x hx
            exact ⟨v, (wipe_some q1).1, q2⟩
        dj := s'.dj
        kn := s'.kn
        nf := s'.nf }
      subst hF1 hH1 hfp1
      obtain ⟨a1, a2, a3, a4, a5, a6, a7⟩ := thaw (kvs := kvs) hpj hH hF hdj hc s.kn t' sB hv
      refine ⟨a1, k (.ref D) _ F' _ (fun a => a = D) a4 a5 ⟨.L rfl (by rw [upd_ne neD]; exact e1) hr', fun a ha => by subst ha; exact e2, fun a ha => by subst ha; exact ⟨_, by rw [upd_ne neD]; exact e1, rfl⟩, fun a ha i hi => ?_⟩ fun a ha => ?_⟩
      · subst ha
        rcases fpSet_cases hi with ⟨_, h1⟩ | ⟨_, h1⟩
        · exact neD h1
        · exact e3 i h1
      · subst ha
        rw [upd_ne neD] at hD
        exact .inr hD
  · cases hd
end
end Rf
set_option maxRecDepth 100000
set_option maxHeartbeats 8000000
namespace Rf
open PySem PySem.Spec PyProof.Rows L2 Evl
section
variable {P : Prg} {G : Gls} {T : Tab} {n : Nat} {N : List Str}
theorem le_bwT {K : Frag} {e : E} : ∀ σ H Q, tT K T G (.bw e) σ H Q → tT K T G e σ H Q := fun σ H Q ⟨F, ρ, fp, x, ρ', b, s, hd, hb, k⟩ => by
  simp only [den] at hd
  obtain ⟨⟨y, ρ1⟩, h1, h2⟩ := Res.bind_inv hd
  obtain ⟨_, h3, h4⟩ := Res.bind_inv h2
  cases h4
  refine ⟨H, frzRo ρ, _, y, ρ1, b, lent_st s, h1, hb, fun H' F' fp' s1 t1 => ?_⟩
  have hh' : Ex H H' := fun a u q => t1.fr a u q fun _ z => z
  have nw : Nw F H F H' := ⟨s.le.trans hh', Ex.refl F, hh', fun _ _ q => .inl q⟩
  exact k H' F fp (nw.st s) nw.xt
theorem le_frzT {K : Frag} {e : E} : ∀ σ H Q, tT K T G (.frz e) σ H Q → tT K T G e σ H Q := fun σ H Q ⟨F, ρ, fp, x, ρ', b, s, hd, hb, k⟩ => by
  simp only [den] at hd
  obtain ⟨⟨y, ρ1⟩, h1, h2⟩ := Res.bind_inv hd
  obtain ⟨z, h3, h4⟩ := Res.bind_inv h2
  cases h4
  cases y with
  | d y => cases h3; exact ⟨F, ρ, fp, _, _, b, s, h1, hb, k⟩
  | L xs => cases h3; cases hb
  | M => cases h3
  | I => cases h3
  | LL => cases h3
def isBO : E → Bool
  | .and _ _ => true
  | .or _ _ => true
  | _ => false
/-- the pairs of a dict display -/
def trs (K : Frag) (T : Tab) (G : Gls) : List Str → E → List (TE × TE)
  | k :: ks, .cons a r => (tC (.str k), tX K T G a) :: trs K T G ks r
  | _, _ => []
structure Snd (P : Prg) (G : Gls) (T : Tab) (n : Nat) (N : List Str) (e : E) : Prop where
  pe : ∀ sc top X, XOk P G T n N sc top X → ∀ a, chkE P N e sc top a = true → PE X a (tX X.K T G e)
  pt : ∀ sc top X, XOk P G T n N sc top X → ∀ a, chkE P N e sc top a = true → PT X a (tT X.K T G e)
  pw : isBO e = true → ∀ sc top X, XOk P G T n N sc top X → ∀ a, chkE P N e sc top a = true → PW X a (tT X.K T G e)
  pa : ∀ sc top X, XOk P G T n N sc top X → ∀ es, chkA P N e sc top es = true → PA X es (tA X.K T G e) ∧ es.all noStar = true ∧ es.length = alen e ∧ (es = [] → e = .nil)
  pi : ∀ sc top X, XOk P G T n N sc top X → ∀ tg a, chkI P N e sc top tg a = true → PI X tg a (tI X.K T G e) ∧ ∀ x, foldedSetIterable a X.env x = pure x
  pp : ∀ sc top X, XOk P G T n N sc top X → ∀ pos ks keys es, keysAre ks keys = true → chkA P N e sc top es = true → noIo e = true → ks.length = es.length → PPs X pos keys es (trs X.K T G ks e)
/-- a term that is no argument list, no iterator, no and, or; whose text is no and, or, not, comparison -/
theorem Snd.of {e : E} (hb : isBO e = false) (ha : ∀ sc top es, chkA P N e sc top es = false) (hi : ∀ sc top tg a, chkI P N e sc top tg a = false)
    (pe : ∀ sc top X, XOk P G T n N sc top X → ∀ a, chkE P N e sc top a = true → PE X a (tX X.K T G e)) (pt : ∀ sc top X, XOk P G T n N sc top X → ∀ a, chkE P N e sc top a = true → PT X a (tT X.K T G e)) : Snd P G T n N e :=
  ⟨pe, pt, fun h => by (rw [hb] at h; cases h), fun sc top X _ es h => (by rw [ha] at h; cases h), fun sc top X _ tg a h => (by rw [hi] at h; cases h), fun sc top X _ _ _ _ _ _ h => (by rw [ha] at h; cases h)⟩
/-- .. a value as a test -/
theorem Snd.ofV {e : E} (hb : isBO e = false) (ha : ∀ sc top es, chkA P N e sc top es = false) (hi : ∀ sc top tg a, chkI P N e sc top tg a = false)
    (pe : ∀ sc top X, XOk P G T n N sc top X → ∀ a, chkE P N e sc top a = true → PE X a (tX X.K T G e) ∧ ∀ whole, isTrue a X.env whole = (do let v ← whole; standAt a.pos; holding [v] (truthy v))) : Snd P G T n N e :=
  Snd.of hb ha hi (fun sc top X o a h => (pe sc top X o a h).1) fun sc top X o a h => t_val (pe sc top X o a h).1 (pe sc top X o a h).2
theorem Snd.ofI {e : E} (hb : isBO e = false) (he : ∀ sc top a, chkE P N e sc top a = false) (ha : ∀ sc top es, chkA P N e sc top es = false)
    (pi : ∀ sc top X, XOk P G T n N sc top X → ∀ tg a, chkI P N e sc top tg a = true → PI X tg a (tI X.K T G e) ∧ ∀ x, foldedSetIterable a X.env x = pure x) : Snd P G T n N e :=
  ⟨fun sc top X _ a h => (by rw [he] at h; cases h), fun sc top X _ a h => (by rw [he] at h; cases h), fun h => (by rw [hb] at h; cases h), fun sc top X _ es h => (by rw [ha] at h; cases h), pi, fun sc top X _ _ _ _ _ _ h => (by rw [ha] at h; cases h)⟩
theorem Snd.no {e : E} (hb : isBO e = false) (he : ∀ sc top a, chkE P N e sc top a = false) (ha : ∀ sc top es, chkA P N e sc top es = false) (hi : ∀ sc top tg a, chkI P N e sc top tg a = false) : Snd P G T n N e :=
  Snd.of hb ha hi (fun sc top X _ a h => (by rw [he] at h; cases h)) fun sc top X _ a h => (by rw [he] at h; cases h)
theorem name_true {i : Nat} {sc : Scope} {a : Expr} {env : Env} (h : chkN N i sc a = true) : ∀ whole, isTrue a env whole = (do let v ← whole; standAt a.pos; holding [v] (truthy v)) := by
  unfold chkN at h
  split at h
  · intro _; rfl
  · cases h
theorem and3 {a b c : Bool} (h : (a && b && c) = true) : a = true ∧ b = true ∧ c = true := by
  rw [Bool.and_eq_true, Bool.and_eq_true] at h
  exact ⟨h.1.1, h.1.2, h.2⟩
theorem and2 {a b : Bool} (h : (a && b) = true) : a = true ∧ b = true := by
  rw [Bool.and_eq_true] at h
  exact h
theorem blk_ok {sc scope : Scope} {top : Bool} {X : Cx} (o : XOk P G T n N sc top X) (hk : scope.kind = .function) (s : Shared) (H : Hp) (C : Addr) (cl : List (Str × Addr)) (fp : List Addr) :
    XOk P G T n N (relS scope sc) false (X.blk s H scope (compEnvC scope cl C X.env) fp) where
  hN := o.hN
  hsc := by
    show (compEnvC scope cl C X.env).scope = _
    have : (compEnvC scope cl C X.env).scope = relS scope X.env.scope := rfl
    rw [this, o.hsc]
  nd := o.nd
  kind := hk
  calm := o.calm
  room := o.room
  fns := fun f d h => ⟨(o.fns f d h).ok⟩
  fnx := fun f d h => ⟨(o.fnx f d h).ok⟩
  blt := o.blt
  gls := o.gls
  fn := fun h => by cases h
theorem foldedSet_ok {a : Expr} {env : Env} (h : (match a with | .Set .. => false | _ => true) = true) : ∀ x, foldedSetIterable a env x = pure x := by
  intro x
  cases a <;> first | rfl | (cases h)
def tIfT (t ta tb : TT) : TT := fun σ H Q => t σ H fun c H1 => if c = true then ta σ H1 Q else tb σ H1 Q
theorem pt_ifE {X : Cx} {c a b : Expr} {tA ta tb : TT} {pos : Pos} (hc : PT X c tA) (ha : PT X a ta) (hb : PT X b tb) : PT X (.IfExp c a b pos) (tIfT tA ta tb) := by
  refine ⟨fun pins s σ H Q I h => ?_⟩
  refine PyProof.Rows.isTrue_IfExp (thn (hc.run pins s σ H _ I h) fun d s1 ⟨H1, I1, q1⟩ => ?_)
  cases d with
  | true => exact ha.run pins s1 σ H1 Q I1 q1
  | false => exact hb.run pins s1 σ H1 Q I1 q1
theorem t_ife {X : Cx} {c x y : E} {t a b : Expr} {pos : Pos} (hc : PT X t (tT X.K T G c)) (ha : PT X a (tT X.K T G x)) (hb : PT X b (tT X.K T G y)) : PT X (.IfExp t a b pos) (tT X.K T G (.ife c x y)) :=
  (pt_ifE hc ha hb).mono fun σ H Q ⟨F, ρ, fp, z, ρ', b', s, hd, hb', k⟩ => by
    simp only [den] at hd
    obtain ⟨⟨x1, ρ1⟩, h1, hd⟩ := Res.bind_inv hd
    obtain ⟨b, h2, hd⟩ := Res.bind_inv hd
    refine ⟨F, ρ, fp, _, _, b, s, h1, h2, fun H' F' fp' s1 t1 => ?_⟩
    cases b with
    | true => exact ⟨F', _, fp', _, _, _, s1, hd, hb', fun H2 F2 fp2 s2 t2 => k H2 F2 fp2 s2 (t1.trans t2)⟩
    | false => exact ⟨F', _, fp', _, _, _, s1, hd, hb', fun H2 F2 fp2 s2 t2 => k H2 F2 fp2 s2 (t1.trans t2)⟩
theorem keysAre_len : ∀ {ks : List Str} {keys : List (Option Expr)}, keysAre ks keys = true → keys.length = ks.length ∧ keys.all (·.isSome) = true
  | [], [], _ => ⟨rfl, rfl⟩
  | [], _ :: _, h => by simp [keysAre] at h
  | _ :: _, [], h => by simp [keysAre] at h
  | k :: ks, e :: es, h => by
    unfold keysAre at h
    split at h
    · rename_i q _; cases q
    · rename_i q1 q2
      cases q1
      cases q2
      obtain ⟨h1, h2⟩ := and2 h
      obtain ⟨q1, q2⟩ := keysAre_len h2
      exact ⟨by simp [q1], by simp [q2]⟩
    · cases h
theorem dens_len : ∀ (as : E) {ρ ρ1 : Ro} {xs : List PV}, noIo as = true → dens T G as ρ = .ok (xs, ρ1) → xs.length = alen as := fun as => by
  induction as with
  | nil => intro ρ ρ1 xs _ h; simp only [dens] at h; cases h; rfl
  | cons a r _ ih =>
    intro ρ ρ1 xs hio h
    have hn : ∀ i, a ≠ .io i := fun i q => by rw [q] at hio; cases hio
    have hio' : noIo r = true := by cases a <;> first | exact hio | exact absurd rfl (hn _)
    have hd' : (do
      let (x, ρ1) ← den T G a ρ
      let (ys, ρ2) ← dens T G r ρ1
      Res.ok (x :: ys, ρ2) : Res (List PV × Ro)) = Res.ok (xs, ρ1) := by
      rw [← h]
      cases a <;> first | rfl | exact absurd rfl (hn _)
    obtain ⟨⟨x, ρ2⟩, h1, h2⟩ := Res.bind_inv hd'
    obtain ⟨⟨ys, ρ3⟩, h3, h4⟩ := Res.bind_inv h2
    cases h4
    simp [alen, ih hio' h3]
  | _ => intros; rename_i h; cases h
/-- the values of a display, one behind another -/
theorem le_pairs {K : Frag} : ∀ (ks : List Str) (as : E) {F H : Hp} {ρ ρ1 : Ro} {fp : Nat → As} {σ : L2.St} {xs : List PV} {R : List (V × V) → Hp → Prop}, noIo as = true → ks.length = alen as → St K F H σ ρ fp → dens T G as ρ = .ok (xs, ρ1) →
    (∀ vs H' F' fp' P, St K F' H' σ ρ1 fp' → Xt F H fp F' H' fp' → HdA K F' H' σ ρ1 fp' as vs xs P → (∀ a, P a → (∃ j, fp j a) ∨ H a = none) → R ((ks.map V.str).zip vs) H') → tPairs (trs K T G ks as) σ H R
  | [], .nil, F, H, ρ, ρ1, fp, σ, xs, R, _, _, s, hd, k => by
    simp only [dens] at hd
    cases hd
    exact k [] H F fp none0 s (Xt.refl s.le) ⟨.nil, fun _ z => z.elim, fun _ z => z.elim, fun _ z => z.elim⟩ fun _ z => z.elim
  | _ :: _, .nil, F, H, ρ, ρ1, fp, σ, xs, R, _, h, _, _, _ => by simp [alen] at h
  | [], .cons _ _, F, H, ρ, ρ1, fp, σ, xs, R, _, h, _, _, _ => by simp [alen] at h
  | k0 :: ks, .cons a r, F, H, ρ, ρ1, fp, σ, xs, R, hio, hl, s, hd, k => by
    have hn : ∀ i, a ≠ .io i := fun i q => by rw [q] at hio; cases hio
    have hio' : noIo r = true := by cases a <;> first | exact hio | exact absurd rfl (hn _)
    have hd' : (do
      let (x, ρ1) ← den T G a ρ
      let (ys, ρ2) ← dens T G r ρ1
      Res.ok (x :: ys, ρ2) : Res (List PV × Ro)) = Res.ok (xs, ρ1) := by
      rw [← hd]
      cases a <;> first | rfl | exact absurd rfl (hn _)
    obtain ⟨⟨x, ρ2⟩, h1, h2⟩ := Res.bind_inv hd'
    obtain ⟨⟨ys, ρ3⟩, h3, h4⟩ := Res.bind_inv h2
    cases h4
    refine ⟨F, ρ, fp, x, ρ2, s, h1, fun v H1 F1 fp1 P1 s1 t1 hd1 sub1 => ?_⟩
    refine le_pairs ks r hio' (by simpa [alen] using hl) s1 h3 fun vs H2 F2 fp2 P2 s2 t2 hd2 sub2 => ?_
    have hd1' := hd1.keep t2
    have dj : ∀ c, P1 c → ¬ P2 c := fun c h3 h4 => by
      rcases sub2 c h4 with ⟨j, hj⟩ | h5
      · exact hd1.dj c h3 j hj
      · exact (hd1.kn c h3).ne h5
    refine k (v :: vs) H2 F2 fp2 (fun c => P1 c ∨ P2 c) s2 (t1.trans t2) ⟨.cons hn hd1'.ow hd2.ow dj, fun c h => h.elim (hd1'.nf c) (hd2.nf c), fun c h => h.elim (hd1'.kn c) (hd2.kn c), fun c h => h.elim (hd1'.dj c) (hd2.dj c)⟩ fun c h => ?_
    rcases h with h | h
    · exact sub1 c h
    · exact t1.subP sub2 c h
  | _, .nm _, _, _, _, _, _, _, _, _, _, _, _, hd, _ => by cases hd
  | _, .mv _, _, _, _, _, _, _, _, _, _, _, _, hd, _ => by cases hd
  | _, .fz _, _, _, _, _, _, _, _, _, _, _, _, hd, _ => by cases hd
  | _, .frz _, _, _, _, _, _, _, _, _, _, _, _, hd, _ => by cases hd
  | _, .bw _, _, _, _, _, _, _, _, _, _, _, _, hd, _ => by cases hd
  | _, .gl _, _, _, _, _, _, _, _, _, _, _, _, hd, _ => by cases hd
  | _, .int _, _, _, _, _, _, _, _, _, _, _, _, hd, _ => by cases hd
  | _, .bl _, _, _, _, _, _, _, _, _, _, _, _, hd, _ => by cases hd
  | _, .non, _, _, _, _, _, _, _, _, _, _, _, hd, _ => by cases hd
  | _, .str _, _, _, _, _, _, _, _, _, _, _, _, hd, _ => by cases hd
  | _, .bin _ _ _, _, _, _, _, _, _, _, _, _, _, _, hd, _ => by cases hd
  | _, .neg _, _, _, _, _, _, _, _, _, _, _, _, hd, _ => by cases hd
  | _, .not _, _, _, _, _, _, _, _, _, _, _, _, hd, _ => by cases hd
  | _, .and _ _, _, _, _, _, _, _, _, _, _, _, _, hd, _ => by cases hd
  | _, .or _ _, _, _, _, _, _, _, _, _, _, _, _, hd, _ => by cases hd
  | _, .cmp _ _ _, _, _, _, _, _, _, _, _, _, _, _, hd, _ => by cases hd
  | _, .chain _ _ _ _ _, _, _, _, _, _, _, _, _, _, _, _, hd, _ => by cases hd
  | _, .isN _, _, _, _, _, _, _, _, _, _, _, _, hd, _ => by cases hd
  | _, .notN _, _, _, _, _, _, _, _, _, _, _, _, hd, _ => by cases hd
  | _, .ife _ _ _, _, _, _, _, _, _, _, _, _, _, _, hd, _ => by cases hd
  | _, .io _, _, _, _, _, _, _, _, _, _, _, _, hd, _ => by cases hd
  | _, .tup _, _, _, _, _, _, _, _, _, _, _, _, hd, _ => by cases hd
  | _, .lst _, _, _, _, _, _, _, _, _, _, _, _, hd, _ => by cases hd
  | _, .dct _ _, _, _, _, _, _, _, _, _, _, _, _, hd, _ => by cases hd
  | _, .ix _ _, _, _, _, _, _, _, _, _, _, _, _, hd, _ => by cases hd
  | _, .sl _ _ _, _, _, _, _, _, _, _, _, _, _, _, hd, _ => by cases hd
  | _, .ixP _ _, _, _, _, _, _, _, _, _, _, _, _, hd, _ => by cases hd
  | _, .lenP _, _, _, _, _, _, _, _, _, _, _, _, hd, _ => by cases hd
  | _, .bi _ _, _, _, _, _, _, _, _, _, _, _, _, hd, _ => by cases hd
  | _, .isi _ _, _, _, _, _, _, _, _, _, _, _, _, hd, _ => by cases hd
  | _, .call _ _, _, _, _, _, _, _, _, _, _, _, _, hd, _ => by cases hd
  | _, .mt _ _ _, _, _, _, _, _, _, _, _, _, _, _, hd, _ => by cases hd
  | _, .mtv _ _ _, _, _, _, _, _, _, _, _, _, _, _, hd, _ => by cases hd
  | _, .lc _ _ _ _ _, _, _, _, _, _, _, _, _, _, _, _, hd, _ => by cases hd
  | _, .lrev _, _, _, _, _, _, _, _, _, _, _, _, hd, _ => by cases hd
  | _, .rev _, _, _, _, _, _, _, _, _, _, _, _, hd, _ => by cases hd
  | _, .evn _ _, _, _, _, _, _, _, _, _, _, _, _, hd, _ => by cases hd
  | _, .ixG _ _, _, _, _, _, _, _, _, _, _, _, _, hd, _ => by cases hd
  | _, .ixM _ _, _, _, _, _, _, _, _, _, _, _, _, hd, _ => by cases hd
  | _, .dI, _, _, _, _, _, _, _, _, _, _, _, hd, _ => by cases hd
  | _, .llN _, _, _, _, _, _, _, _, _, _, _, _, hd, _ => by cases hd
  | _, .llA _ _ _, _, _, _, _, _, _, _, _, _, _, _, hd, _ => by cases hd
  | _, .llE _, _, _, _, _, _, _, _, _, _, _, _, hd, _ => by cases hd
  | _, .llO _, _, _, _, _, _, _, _, _, _, _, _, hd, _ => by cases hd
  | _, .ixI _ _, _, _, _, _, _, _, _, _, _, _, _, hd, _ => by cases hd
  | _, .srtI _, _, _, _, _, _, _, _, _, _, _, _, hd, _ => by cases hd
  | _, .inI _ _ _, _, _, _, _, _, _, _, _, _, _, _, hd, _ => by cases hd
  | _, .cpI _, _, _, _, _, _, _, _, _, _, _, _, hd, _ => by cases hd
  | _, .lcI _ _ _ _, _, _, _, _, _, _, _, _, _, _, _, hd, _ => by cases hd
  | _, .dcI _ _ _ _, _, _, _, _, _, _, _, _, _, _, _, hd, _ => by cases hd
  | _, .dctP _, _, _, _, _, _, _, _, _, _, _, _, hd, _ => by cases hd
  | _, .asI _, _, _, _, _, _, _, _, _, _, _, _, hd, _ => by cases hd
  | _, .lenI _, _, _, _, _, _, _, _, _, _, _, _, hd, _ => by cases hd
  | _, .lsI _, _, _, _, _, _, _, _, _, _, _, _, hd, _ => by cases hd
  | _, .callL _ _ _ _, _, _, _, _, _, _, _, _, _, _, _, hd, _ => by cases hd
  | _, .inG _ _, _, _, _, _, _, _, _, _, _, _, _, hd, _ => by cases hd
  | _, .itL _, _, _, _, _, _, _, _, _, _, _, _, hd, _ => by cases hd
  | _, .op1 _ _, _, _, _, _, _, _, _, _, _, _, _, hd, _ => by cases hd
  | _, .op2 _ _ _, _, _, _, _, _, _, _, _, _, _, _, hd, _ => by cases hd
  | _, .op3 _ _ _ _, _, _, _, _, _, _, _, _, _, _, _, hd, _ => by cases hd
  | _, .itDown _ _, _, _, _, _, _, _, _, _, _, _, _, hd, _ => by cases hd
  | _, .itZip3 _ _ _, _, _, _, _, _, _, _, _, _, _, _, hd, _ => by cases hd
  | _, .itR1 _, _, _, _, _, _, _, _, _, _, _, _, hd, _ => by cases hd
  | _, .itR2 _ _, _, _, _, _, _, _, _, _, _, _, _, hd, _ => by cases hd
  | _, .itEn _, _, _, _, _, _, _, _, _, _, _, _, hd, _ => by cases hd
  | _, .itZip _ _, _, _, _, _, _, _, _, _, _, _, _, hd, _ => by cases hd
  | _, .itEnZ _ _, _, _, _, _, _, _, _, _, _, _, _, hd, _ => by cases hd
  | _, .itZipN _ _, _, _, _, _, _, _, _, _, _, _, _, hd, _ => by cases hd
theorem cvs_of {K : Frag} {F H : Hp} {σ : L2.St} {ρ : Ro} : ∀ {as : E} {vs : List V} {xs : List PV} {P : As} {ks : List Str} {ys : List CV}, Args K F H σ ρ as vs xs P → noIo as = true → ks.length = alen as → xs.mapM PV.cv = some ys →
    ∃ las, Cvs K F H ((ks.zip vs).map fun kv => ((.inr kv.1 : Key), kv.2)) (ks.zip ys) las ∧ (∀ a ∈ las, P a)
  | _, _, _, _, [], ys, .nil, _, _, e => by
    simp at e
    subst e
    exact ⟨[], .nil, fun _ h => by cases h⟩
  | _, _, _, _, _ :: _, _, .nil, _, h, _ => by simp [alen] at h
  | _, _, _, _, _, _, .io _ _ _, h, _, _ => by cases h
  | _, _, _, _, [], _, .cons _ _ _ _, _, h, _ => by simp [alen] at h
  | _, _, _, _, k :: ks, ys, .cons (P := P1) (P' := P2) h1 h2 r h3, hio, hl, e => by
    have hio' := noIo_tail h1 hio
    rw [List.mapM_cons] at e
    obtain ⟨c, e1, e⟩ := Option.bind_eq_some_iff.mp e
    obtain ⟨cs, e2, e⟩ := Option.bind_eq_some_iff.mp e
    cases e
    obtain ⟨las, q1, q2⟩ := cvs_of (ks := ks) r hio' (by simpa [alen] using hl) e2
    cases h2 with
    | d hd =>
      cases e1
      exact ⟨las, .d hd q1, fun a ha => .inr (q2 a ha)⟩
    | @L p _ _ _ hp g1 g2 =>
      cases e1
      refine ⟨p :: las, .L g1 g2 (fun z => h3 p hp (q2 p z)) q1, fun a ha => ?_⟩
      rcases List.mem_cons.mp ha with z | z
      · rw [z]; exact .inl hp
      · exact .inr (q2 a z)
    | M => cases e1
    | I => cases e1
    | LL => cases e1
theorem merge_new : ∀ (kvs acc : List (Key × V)), (acc.map (·.1) ++ kvs.map (·.1)).Nodup → mergeK acc kvs = acc ++ kvs
  | [], acc, _ => by simp [mergeK]
  | kv :: kvs, acc, nd => by
    have hno : (acc.any fun x => decide (x.1 = kv.1)) = false := by
      rw [List.any_eq_false]
      intro x hx
      simp only [decide_eq_true_eq]
      intro e
      rw [List.nodup_append] at nd
      exact nd.2.2 x.1 (List.mem_map.mpr ⟨x, hx, rfl⟩) kv.1 (by simp) e
    have h := merge_new kvs (acc ++ [kv]) (by simpa using nd)
    show mergeK (putK acc kv.1 kv.2) kvs = _
    have : putK acc kv.1 kv.2 = acc ++ [kv] := by
      unfold putK
      rw [if_neg (by rw [hno]; simp)]
    rw [this, h]
    simp
theorem s_dct {X : Cx} {pos : Pos} {ks : List Str} {keys : List (Option Expr)} {values : List Expr} {as : E} (h : PPs X pos keys values (trs X.K T G ks as)) (hk : keysAre ks keys = true) (hl : ks.length = values.length) (h15 : ks.length ≤ 15) (h0 : ks ≠ []) (nd : ks.Nodup) (hio : noIo as = true) :
    PE X (.Dict keys values pos) (tX X.K T G (.dct ks as)) := by
  obtain ⟨l1, l2⟩ := keysAre_len hk
  refine (pe_disp h l2 (by rw [l1, hl]) (fun e => h0 (List.eq_nil_of_length_eq_zero (by rw [← l1, e]; rfl))) (by rw [l1]; exact h15)).mono fun σ H Q ⟨F, ρ, fp, z, ρ', s, hd, k⟩ => ?_
  simp only [den] at hd
  obtain ⟨⟨xs, ρ1⟩, h1, hd⟩ := Res.bind_inv hd
  obtain ⟨_, h2, hd⟩ := Res.bind_inv hd
  dsimp only at h2 hd
  obtain ⟨hlen, _⟩ := of_decide_eq_true (Res.guard_inv h2)
  split at hd
  · rename_i ys hys
    cases hd
    intro p hp
    have hf := fresh_back s.le hp
    have n0 : Nw F H F (upd H p (.dK [])) := ⟨s.le.trans (Ex.new hp), Ex.refl _, Ex.new hp, fun _ _ q => .inl q⟩
    have s0 := n0.st s
    have hal : ks.length = alen as := by
      rw [hlen]
      exact dens_len as hio h1
    refine le_pairs ks as hio hal s0 h1 fun vs H1 F1 fp1 P1 s1 t1 hd1 sub1 => ?_
    -- the dict in hand
    have hD : Hd X.K F (upd H p (.dK [])) fp (.ref p) (.M []) (fun a => a = p) :=
      ⟨.M rfl upd_same .nil (by simp) (fun _ h => by cases h) (by simp), fun a ha => by subst ha; exact hf, fun a ha => by subst ha; exact ⟨_, upd_same, rfl⟩, fun a ha i hi => by subst ha; exact (s.kn i a hi).ne hp⟩
    have hD1 := hD.keep t1
    cases hD1.ow with
    | @M _ kv0 _ las0 _ hp1 g1 g2 g3 g4 g5 =>
      cases g2
      have hvl := hd1.ow.len.1
      refine ⟨g1, (ks.zip vs).map (fun kv => ((.inr kv.1 : Key), kv.2)), ?_, by simp; omega, ?_⟩
      · rw [List.map_map, List.zip_map_left]
        rfl
      rw [merge_new _ [] (by
        simp only [List.map_nil, List.nil_append, List.map_map]
        have e1 : (ks.zip vs).map ((fun x => x.1) ∘ fun kv : Str × V => ((.inr kv.1 : Key), kv.2)) = ks.map (fun k => (.inr k : Key)) := by
          rw [show ((fun x : Key × V => x.1) ∘ fun kv : Str × V => ((.inr kv.1 : Key), kv.2)) = (fun k : Str => (.inr k : Key)) ∘ Prod.fst from rfl, ← List.map_map, List.map_fst_zip (by omega)]
        rw [e1]
        exact List.Pairwise.map _ (fun a b h e => h (by cases e; rfl)) nd)]
      rw [List.nil_append]
      obtain ⟨las, c1, c2⟩ := cvs_of hd1.ow hio hal hys
      have hpP : ¬ P1 p := fun z => by
        rcases sub1 p z with ⟨j, hj⟩ | hj
        · exact (s.kn j p hj).ne hp
        · rw [upd_same] at hj; cases hj
      have hF1 := hD1.nf p rfl
      have hfp1 : ∀ i, ¬ fp1 i p := fun i => hD1.dj p rfl i
      have keepH : ∀ a, a ≠ p → ∀ u, H1 a = some u → upd H1 p (.dK ((ks.zip vs).map fun kv => ((.inr kv.1 : Key), kv.2))) a = some u := fun a ha u hu => by rw [upd_ne ha]; exact hu
      have st2 : St X.K F1 (upd H1 p (.dK ((ks.zip vs).map fun kv => ((.inr kv.1 : Key), kv.2)))) σ ρ' fp1 :=
        ⟨fun a u ha => by rw [upd_ne (ne_of_none ha hF1)]; exact s1.le a u ha, s1.len, fun i x hx => by
          obtain ⟨v, e1, e2⟩ := s1.ow i x hx
          exact ⟨v, e1, e2.up (Ex.refl _) (fun a ha u hu => keepH a (fun e => hfp1 i (e ▸ ha)) u hu) fun _ z => z⟩, s1.dj, fun i a ha => by
          obtain ⟨u, e1, e2⟩ := s1.kn i a ha
          exact ⟨u, keepH a (fun e => hfp1 i (e ▸ ha)) u e1, e2⟩, s1.nf⟩
      have xt2 : Xt F H fp F1 (upd H1 p (.dK ((ks.zip vs).map fun kv => ((.inr kv.1 : Key), kv.2)))) fp1 :=
        (n0.xt.trans t1).mutH hp hF1
      refine k (.ref p) _ F1 fp1 (fun a => a = p ∨ P1 a) st2 xt2 ⟨.M (.inl rfl) upd_same (c1.up (Ex.refl _) fun a ha u hu => keepH a (fun e => hpP (e ▸ c2 a ha)) u hu) (fun z => hpP (c2 p z)) (fun a ha => .inr (c2 a ha)) ?_, fun a ha => ?_, fun a ha => ?_, fun a ha i hi => ?_⟩ fun a ha => ?_
      · rw [List.map_fst_zip]
        · exact nd
        · have := mapM_len hys
          omega
      · rcases ha with rfl | ha
        · exact hF1
        · exact hd1.nf a ha
      · rcases ha with rfl | ha
        · exact ⟨_, upd_same, rfl⟩
        · obtain ⟨u, e1, e2⟩ := hd1.kn a ha
          exact ⟨u, keepH a (fun e => hpP (e ▸ ha)) u e1, e2⟩
      · rcases ha with rfl | ha
        · exact hfp1 i hi
        · exact hd1.dj a ha i hi
      · rcases ha with rfl | ha
        · exact .inr hp
        · rcases sub1 a ha with z | z
          · exact .inl z
          · refine .inr ?_
            by_cases e : a = p
            · rw [e]; exact hp
            · rw [upd_ne e] at z; exact z
  · cases hd
where
  mapM_len : ∀ {xs : List PV} {ys : List CV}, xs.mapM PV.cv = some ys → ys.length = xs.length
    | [], ys, h => by simp at h; subst h; rfl
    | x :: xs, ys, e => by
      rw [List.mapM_cons] at e
      obtain ⟨c, e1, e⟩ := Option.bind_eq_some_iff.mp e
      obtain ⟨cs, e2, e⟩ := Option.bind_eq_some_iff.mp e
      cases e
      simp [mapM_len e2]
theorem snd : ∀ e : E, Snd P G T n N e
  | .nm i => Snd.ofV rfl (fun _ _ _ => rfl) (fun _ _ _ _ => rfl) fun sc top X o a h => ⟨s_nm o h, name_true h⟩
  | .mv i => Snd.ofV rfl (fun _ _ _ => rfl) (fun _ _ _ _ => rfl) fun sc top X o a h => ⟨s_mv o h, name_true h⟩
  | .fz i => Snd.ofV rfl (fun _ _ _ => rfl) (fun _ _ _ _ => rfl) fun sc top X o a h => ⟨s_fz o h, name_true h⟩
  | .frz e => Snd.of rfl (fun _ _ _ => rfl) (fun _ _ _ _ => rfl) (fun sc top X o a h => s_frz o ((snd e).pe sc top X o a h)) fun sc top X o a h => ((snd e).pt sc top X o a h).mono le_frzT
  | .bw e => Snd.of rfl (fun _ _ _ => rfl) (fun _ _ _ _ => rfl) (fun sc top X o a h => ((snd e).pe sc top X o a h).mono le_bw) fun sc top X o a h => ((snd e).pt sc top X o a h).mono le_bwT
  | .gl x => Snd.ofV rfl (fun _ _ _ => rfl) (fun _ _ _ _ => rfl) fun sc top X o a h => by
    simp only [chkE] at h
    split at h
    · obtain ⟨h1, h2⟩ := and2 h
      have e : _ = _ := eq_of_beq h1
      subst e
      obtain ⟨g1, g2, g3⟩ := glo_ok o h2
      refine ⟨?_, fun _ => rfl⟩
      cases hg : G x with
      | none =>
        refine ⟨fun pins s σ H Q I ⟨F, ρ, fp, z, ρ', s', hd, k⟩ => ?_⟩
        simp only [den, hg] at hd
        cases hd
      | some d =>
        obtain ⟨u, v, m1, m2, m3⟩ := o.gls x d hg
        refine (pe_glob g1 m1 m2 g2).mono fun σ H Q ⟨F, ρ, fp, z, ρ', s', hd, k⟩ => ?_
        simp only [den, hg] at hd
        cases d <;> first | (cases hd; exact fin0 k s' (Xt.refl s'.le) rfl (m3 F)) | cases hd
    · cases h
  | .int i => Snd.ofV rfl (fun _ _ _ => rfl) (fun _ _ _ _ => rfl) fun sc top X o a h => by
    simp only [chkE] at h
    split at h
    · have e := eq_of_beq h
      subst e
      exact ⟨pe_int.mono fun σ H Q ⟨F, ρ, fp, z, ρ', s', hd, k⟩ => by (simp only [den] at hd; cases hd; exact fin0 k s' (Xt.refl s'.le) rfl (.int _)), fun _ => rfl⟩
    · cases h
  | .bl b => Snd.ofV rfl (fun _ _ _ => rfl) (fun _ _ _ _ => rfl) fun sc top X o a h => by
    simp only [chkE] at h
    split at h
    · have e := eq_of_beq h
      subst e
      exact ⟨pe_bl.mono fun σ H Q ⟨F, ρ, fp, z, ρ', s', hd, k⟩ => by (simp only [den] at hd; cases hd; exact fin0 k s' (Xt.refl s'.le) rfl (.bl _)), fun _ => rfl⟩
    · cases h
  | .non => Snd.ofV rfl (fun _ _ _ => rfl) (fun _ _ _ _ => rfl) fun sc top X o a h => by
    simp only [chkE] at h
    split at h
    · exact ⟨pe_non.mono fun σ H Q ⟨F, ρ, fp, z, ρ', s', hd, k⟩ => by (simp only [den] at hd; cases hd; exact fin0 k s' (Xt.refl s'.le) rfl .non), fun _ => rfl⟩
    · cases h
  | .str x => Snd.ofV rfl (fun _ _ _ => rfl) (fun _ _ _ _ => rfl) fun sc top X o a h => by
    simp only [chkE] at h
    split at h
    · have e := eq_of_beq h
      subst e
      exact ⟨pe_str.mono fun σ H Q ⟨F, ρ, fp, z, ρ', s', hd, k⟩ => by (simp only [den] at hd; cases hd; exact fin0 k s' (Xt.refl s'.le) rfl (.str _)), fun _ => rfl⟩
    · cases h
  | .bin op x y => Snd.ofV rfl (fun _ _ _ => rfl) (fun _ _ _ _ => rfl) fun sc top X o a h => by
    simp only [chkE] at h
    split at h
    · obtain ⟨h1, h2, h3⟩ := and3 h
      have e := of_decide_eq_true h1
      subst e
      exact ⟨s_bin ((snd x).pe sc top X o _ h2) ((snd y).pe sc top X o _ h3), fun _ => rfl⟩
    · cases h
  | .neg x => Snd.ofV rfl (fun _ _ _ => rfl) (fun _ _ _ _ => rfl) fun sc top X o a h => by
    simp only [chkE] at h
    split at h
    · exact ⟨s_neg ((snd x).pe sc top X o _ h), fun _ => rfl⟩
    · cases h
  | .not x => Snd.of rfl (fun _ _ _ => rfl) (fun _ _ _ _ => rfl) (fun sc top X o a h => by
      simp only [chkE] at h
      split at h
      · exact s_not ((snd x).pe sc top X o _ h)
      · cases h) fun sc top X o a h => by
      simp only [chkE] at h
      split at h
      · exact t_not ((snd x).pt sc top X o _ h)
      · cases h
  | .and x y => by
    have pw : ∀ sc top X, XOk P G T n N sc top X → ∀ a, chkE P N (.and x y) sc top a = true → PW X a (tT X.K T G (.and x y)) := fun sc top X o a h => by
      simp only [chkE] at h
      split at h
      · rename_i l m r p
        obtain ⟨h1, h2⟩ := and2 h
        refine (pw_and ((snd x).pt sc top X o _ h1) (tB' := tT X.K T G y) ?_).mono le_andT
        cases r with
        | nil => exact pw_and1 ((snd y).pt sc top X o _ h2)
        | cons q r =>
          obtain ⟨h3, h4⟩ := and2 h2
          exact (snd y).pw (by cases y <;> first | rfl | cases h3) sc top X o _ h4
      · cases h
    refine ⟨fun sc top X o a h => ?_, fun sc top X o a h => (pw sc top X o a h).pt, fun _ => pw, fun _ _ _ _ _ h => (by cases h), fun _ _ _ _ _ _ h => (by cases h), fun _ _ _ _ _ _ _ _ _ h => (by cases h)⟩
    simp only [chkE] at h
    split at h
    · rename_i l m r p
      obtain ⟨h1, h2⟩ := and2 h
      refine (pe_and ((snd x).pe sc top X o _ h1) (tb := tX X.K T G y) ?_).mono le_and
      cases r with
      | nil => exact pe_one ((snd y).pe sc top X o _ h2)
      | cons q r => exact (snd y).pe sc top X o _ (and2 h2).2
    · cases h
  | .or x y => by
    have pw : ∀ sc top X, XOk P G T n N sc top X → ∀ a, chkE P N (.or x y) sc top a = true → PW X a (tT X.K T G (.or x y)) := fun sc top X o a h => by
      simp only [chkE] at h
      split at h
      · rename_i l m r p
        obtain ⟨h1, h2⟩ := and2 h
        refine (pw_or ((snd x).pt sc top X o _ h1) (tB' := tT X.K T G y) ?_).mono le_orT
        cases r with
        | nil => exact pw_or1 ((snd y).pt sc top X o _ h2)
        | cons q r =>
          obtain ⟨h3, h4⟩ := and2 h2
          exact (snd y).pw (by cases y <;> first | rfl | cases h3) sc top X o _ h4
      · cases h
    refine ⟨fun sc top X o a h => ?_, fun sc top X o a h => (pw sc top X o a h).pt, fun _ => pw, fun _ _ _ _ _ h => (by cases h), fun _ _ _ _ _ _ h => (by cases h), fun _ _ _ _ _ _ _ _ _ h => (by cases h)⟩
    simp only [chkE] at h
    split at h
    · rename_i l m r p
      obtain ⟨h1, h2⟩ := and2 h
      refine (pe_or ((snd x).pe sc top X o _ h1) (tb := tX X.K T G y) ?_).mono le_or
      cases r with
      | nil => exact pe_one ((snd y).pe sc top X o _ h2)
      | cons q r => exact (snd y).pe sc top X o _ (and2 h2).2
    · cases h
  | .cmp op x y => by
    have key : ∀ sc top X, XOk P G T n N sc top X → ∀ a, chkE P N (.cmp op x y) sc top a = true → PE X a (tX X.K T G (.cmp op x y)) ∧ PT X a (tT X.K T G (.cmp op x y)) := fun sc top X o a h => by
      simp only [chkE] at h
      split at h
      · obtain ⟨h0, h2, h3⟩ := and3 h
        obtain ⟨h0, h1⟩ := and2 h0
        have e := of_decide_eq_true h0
        subst e
        have hm := by simpa using h1
        exact ⟨s_cmp o ((snd x).pe sc top X o _ h2) ((snd y).pe sc top X o _ h3) hm, t_cmp o ((snd x).pe sc top X o _ h2) ((snd y).pe sc top X o _ h3) hm⟩
      · cases h
    exact Snd.of rfl (fun _ _ _ => rfl) (fun _ _ _ _ => rfl) (fun sc top X o a h => (key sc top X o a h).1) fun sc top X o a h => (key sc top X o a h).2
  | .chain op op' x y z => by
    have key : ∀ sc top X, XOk P G T n N sc top X → ∀ a, chkE P N (.chain op op' x y z) sc top a = true → PE X a (tX X.K T G (.chain op op' x y z)) ∧ PT X a (tT X.K T G (.chain op op' x y z)) := fun sc top X o a h => by
      simp only [chkE] at h
      split at h
      · rename_i l o1 o2 m r p
        obtain ⟨h0, h4, h5⟩ := and3 h
        obtain ⟨h0, h2, h3⟩ := and3 h0
        obtain ⟨h0, h1⟩ := and2 h0
        have e := of_decide_eq_true h0
        subst e
        have e := of_decide_eq_true h1
        subst e
        have hm : lastMarks [o1, o2] [m, r] = false := by
          show behindInMarks o2 r = false
          simpa using h2
        have pe := pe_chain (op_cmp (units_ok o) o1) (op_cmp (units_ok o) o2) ((snd x).pe sc top X o _ h3) ((snd y).pe sc top X o _ h4) ((snd z).pe sc top X o _ h5) hm (pos := p)
        have pt := pt_chain (op_cmp (units_ok o) o1) (op_cmp (units_ok o) o2) ((snd x).pe sc top X o _ h3) ((snd y).pe sc top X o _ h4) ((snd z).pe sc top X o _ h5) hm (pos := p)
        refine ⟨pe.mono (le_chain o), pt.mono fun σ H Q ⟨F, ρ, fp, w, ρ', b, s, hd, hb, k⟩ => ?_⟩
        refine le_chain (top := top) o σ H _ ⟨F, ρ, fp, w, ρ', s, hd, fun v H' F' fp' P' s1 t1 hh _ => ⟨b, (hh.bool hb).1, k H' F' fp' s1 t1⟩⟩
      · cases h
    exact Snd.of rfl (fun _ _ _ => rfl) (fun _ _ _ _ => rfl) (fun sc top X o a h => (key sc top X o a h).1) fun sc top X o a h => (key sc top X o a h).2
  | .isN x => by
    have key : ∀ sc top X, XOk P G T n N sc top X → ∀ a, chkE P N (.isN x) sc top a = true → PE X a (tX X.K T G (.isN x)) ∧ PT X a (tT X.K T G (.isN x)) := fun sc top X o a h => by
      simp only [chkE] at h
      split at h
      · have hx := (snd x).pe sc top X o _ h
        refine ⟨s_isN hx, (pt_cmp (pc_isN hx) rfl).mono fun σ H Q ⟨F, ρ, fp, w, ρ', b, s, hd, hb, k⟩ => ?_⟩
        simp only [den] at hd
        obtain ⟨⟨x1, ρ1⟩, h1, hd⟩ := Res.bind_inv hd
        cases hd
        cases hb
        refine ⟨F, ρ, fp, _, _, s, h1, fun v H' F' fp' P' s1 t1 hh _ => ⟨_, rfl, ?_⟩⟩
        cases hh.ow with
        | d hq => cases hq <;> exact k H' F' fp' s1 t1
        | L => exact k H' F' fp' s1 t1
        | M => exact k H' F' fp' s1 t1
        | I => exact k H' F' fp' s1 t1
        | LL => exact k H' F' fp' s1 t1
      · cases h
    exact Snd.of rfl (fun _ _ _ => rfl) (fun _ _ _ _ => rfl) (fun sc top X o a h => (key sc top X o a h).1) fun sc top X o a h => (key sc top X o a h).2
  | .notN x => by
    have key : ∀ sc top X, XOk P G T n N sc top X → ∀ a, chkE P N (.notN x) sc top a = true → PE X a (tX X.K T G (.notN x)) ∧ PT X a (tT X.K T G (.notN x)) := fun sc top X o a h => by
      simp only [chkE] at h
      split at h
      · have hx := (snd x).pe sc top X o _ h
        refine ⟨s_notN hx, (pt_cmp (pc_notN hx) rfl).mono fun σ H Q ⟨F, ρ, fp, w, ρ', b, s, hd, hb, k⟩ => ?_⟩
        simp only [den] at hd
        obtain ⟨⟨x1, ρ1⟩, h1, hd⟩ := Res.bind_inv hd
        cases hd
        cases hb
        refine ⟨F, ρ, fp, _, _, s, h1, fun v H' F' fp' P' s1 t1 hh _ => ⟨_, rfl, ?_⟩⟩
        cases hh.ow with
        | d hq => cases hq <;> exact k H' F' fp' s1 t1
        | L => exact k H' F' fp' s1 t1
        | M => exact k H' F' fp' s1 t1
        | I => exact k H' F' fp' s1 t1
        | LL => exact k H' F' fp' s1 t1
      · cases h
    exact Snd.of rfl (fun _ _ _ => rfl) (fun _ _ _ _ => rfl) (fun sc top X o a h => (key sc top X o a h).1) fun sc top X o a h => (key sc top X o a h).2
  | .ife c x y => Snd.of rfl (fun _ _ _ => rfl) (fun _ _ _ _ => rfl) (fun sc top X o a h => by
      simp only [chkE] at h
      split at h
      · obtain ⟨h1, h2, h3⟩ := and3 h
        exact s_ife ((snd c).pt sc top X o _ h1) ((snd x).pe sc top X o _ h2) ((snd y).pe sc top X o _ h3)
      · cases h) fun sc top X o a h => by
      simp only [chkE] at h
      split at h
      · obtain ⟨h1, h2, h3⟩ := and3 h
        exact t_ife ((snd c).pt sc top X o _ h1) ((snd x).pt sc top X o _ h2) ((snd y).pt sc top X o _ h3)
      · cases h
  | .tup as => Snd.ofV rfl (fun _ _ _ => rfl) (fun _ _ _ _ => rfl) fun sc top X o a h => by
    simp only [chkE] at h
    split at h
    · obtain ⟨h1, h2, h3⟩ := and3 h
      exact ⟨s_tup ((snd as).pa sc top X o _ h1).1 h2 (of_decide_eq_true h3), fun _ => rfl⟩
    · cases h
  | .lst as => Snd.ofV rfl (fun _ _ _ => rfl) (fun _ _ _ _ => rfl) fun sc top X o a h => by
    simp only [chkE] at h
    split at h
    · obtain ⟨h1, h2, h3⟩ := and3 h
      exact ⟨s_lst ((snd as).pa sc top X o _ h1).1 h2 (of_decide_eq_true h3), fun _ => rfl⟩
    · cases h
  | .ix x y => Snd.ofV rfl (fun _ _ _ => rfl) (fun _ _ _ _ => rfl) fun sc top X o a h => by
    simp only [chkE] at h
    split at h
    · obtain ⟨h1, h2, h3⟩ := and3 h
      exact ⟨s_ix ((snd x).pe sc top X o _ h2) ((snd y).pe sc top X o _ h3) (slice_ok h1), fun _ => rfl⟩
    · cases h
  | .sl x lo hi => Snd.ofV rfl (fun _ _ _ => rfl) (fun _ _ _ _ => rfl) fun sc top X o a h => by
    simp only [chkE] at h
    split at h
    · rename_i l l1 h1 p2 p
      obtain ⟨g1, g2, g3⟩ := and3 h
      refine ⟨s_sl ((snd x).pe sc top X o _ g1) (po_of ?_) (po_of ?_), fun _ => rfl⟩
      · cases l1 with
        | none => exact .inl ⟨rfl, g2⟩
        | some e =>
          obtain ⟨q1, q2⟩ := and2 g2
          exact .inr ⟨e, rfl, by simpa using q2, (snd lo).pe sc top X o _ q1⟩
      · cases h1 with
        | none => exact .inl ⟨rfl, g3⟩
        | some e =>
          obtain ⟨q1, q2⟩ := and2 g3
          exact .inr ⟨e, rfl, by simpa using q2, (snd hi).pe sc top X o _ q1⟩
    · cases h
  | .ixP p y => Snd.ofV rfl (fun _ _ _ => rfl) (fun _ _ _ _ => rfl) fun sc top X o a h => by
    simp only [chkE] at h
    split at h
    · obtain ⟨h1, h2, h3⟩ := and3 h
      cases p with
      | s i => exact ⟨s_ixP o h3 ((snd y).pe sc top X o _ h2) (slice_ok h1), fun _ => rfl⟩
      | k i key => exact ⟨s_ixK o h3 ((snd y).pe sc top X o _ h2) (nosl o h1), fun _ => rfl⟩
    · cases h
  | .lenP p => Snd.ofV rfl (fun _ _ _ => rfl) (fun _ _ _ _ => rfl) fun sc top X o a h => by
    simp only [chkE] at h
    split at h
    · obtain ⟨h0, h2, h3⟩ := and3 h
      obtain ⟨h0, h1⟩ := and2 h0
      cases p with
      | s i => exact ⟨s_lenP o h3 (eq_of_beq h0) h1, fun _ => rfl⟩
      | k i key => exact ⟨s_lenK o h3 (eq_of_beq h0) h1, fun _ => rfl⟩
    · cases h
  | .bi b as => Snd.ofV rfl (fun _ _ _ => rfl) (fun _ _ _ _ => rfl) fun sc top X o a h => by
    simp only [chkE] at h
    split at h
    · obtain ⟨h0, h3, h4⟩ := and3 h
      obtain ⟨h0, h1, h2⟩ := and3 h0
      obtain ⟨p1, p2, p3, p4⟩ := (snd as).pa sc top X o _ h2
      exact ⟨s_bi o p1 p3 p2 (eq_of_beq h0) h1 h3 h4, fun _ => rfl⟩
    · cases h
  | .isi x t => Snd.ofV rfl (fun _ _ _ => rfl) (fun _ _ _ _ => rfl) fun sc top X o a h => by
    simp only [chkE] at h
    split at h
    · obtain ⟨h0, h4, h5⟩ := and3 h
      obtain ⟨h0, h2, h3⟩ := and3 h0
      obtain ⟨h0, h1⟩ := and2 h0
      exact ⟨s_isi o ((snd x).pe sc top X o _ h5) h4 (eq_of_beq h0) h1 (eq_of_beq h2) h3, fun _ => rfl⟩
    · cases h
  | .call f as => Snd.ofV rfl (fun _ _ _ => rfl) (fun _ _ _ _ => rfl) fun sc top X o a h => by
    simp only [chkE] at h
    split at h
    · split at h
      · rename_i d hf
        obtain ⟨h0, h4, h5⟩ := and3 h
        obtain ⟨h0, h2, h3⟩ := and3 h0
        obtain ⟨h0, h1⟩ := and2 h0
        obtain ⟨p1, p2, p3, p4⟩ := (snd as).pa sc top X o _ h2
        exact ⟨s_call o hf p1 p2 (eq_of_beq h0) h1 (of_decide_eq_true h4) h3 (of_decide_eq_true h5) p4, fun _ => rfl⟩
      · cases h
    · cases h
  | .mt m p as => Snd.ofV rfl (fun _ _ _ => rfl) (fun _ _ _ _ => rfl) fun sc top X o a h => by
    simp only [chkE] at h
    split at h
    · obtain ⟨k0, h5, h6⟩ := and3 h
      obtain ⟨k1, h3, h4⟩ := and3 k0
      obtain ⟨h0, h1, h2⟩ := and3 k1
      obtain ⟨p1, p2, p3, p4⟩ := (snd as).pa sc top X o _ h2
      cases p with
      | s i => exact ⟨s_mt o h1 p1 p2 (by rw [p3]; exact of_decide_eq_true h4) p4 h3 (eq_of_beq h0) h6, fun _ => rfl⟩
      | k i key =>
        have hl0 := p3.trans (of_decide_eq_true h5)
        have hes := List.eq_nil_of_length_eq_zero hl0
        obtain rfl := p4 hes
        subst hes
        exact ⟨s_mtK o h1 (eq_of_beq h0) h6, fun _ => rfl⟩
    · cases h
  | .lc g it c e vs => Snd.ofV rfl (fun _ _ _ => rfl) (fun _ _ _ _ => rfl) fun sc top X o a h => by
    simp only [chkE] at h
    split at h
    · rename_i elt tg iter ifs asy scope p
      obtain ⟨k0, h7, h8⟩ := and3 h
      obtain ⟨k1, h5, h6⟩ := and3 k0
      obtain ⟨k2, h3, h4⟩ := and3 k1
      obtain ⟨h0, h2⟩ := and2 k2
      clear h k0 k1 k2
      have e0 := of_decide_eq_true h0
      subst e0
      obtain ⟨pi1, pi2⟩ := (snd it).pi sc top X o _ _ h2
      have hown : (ownOf N vs).map (·.2) = vs := by
        unfold ownOf
        rw [List.map_map]
        exact List.map_id' vs
      have ok : BlkOk X.N X.env.scope scope (ownOf N vs) := by
        rw [o.hN, o.hsc]
        exact blkOk_by h4
      cases ifs with
      | nil =>
        have hc : c = .bl true := by
          cases c with
          | bl b => exact congrArg E.bl h7
          | _ => cases h7
        subst hc
        have q := pe_lc (pos := p) (g := tG X.K g) (te := tX X.K T G e) o.calm (by rw [o.hN]; exact o.nd) pi1 ok (fun s H C cl fp => pg_of (blk_ok o ok.kind s H C cl fp) g tg h5) (fun _ _ _ _ _ => pts_nil) (fun s H C cl fp => (snd e).pe _ _ _ (blk_ok o ok.kind s H C cl fp) _ h6) pi2
        rw [hown] at q
        refine ⟨q.mono (le_lc h3 fun σ H Q ⟨F, ρ, fp, w, ρ', b, s, hd, hb, k⟩ => ?_), fun _ => rfl⟩
        simp only [den] at hd
        cases hd
        cases hb
        exact k H F fp s (Xt.refl s.le)
      | cons t r =>
        cases r with
        | cons _ _ => cases h7
        | nil =>
          have q := pe_lc (pos := p) (g := tG X.K g) (tt := tT X.K T G c) (te := tX X.K T G e) o.calm (by rw [o.hN]; exact o.nd) pi1 ok (fun s H C cl fp => pg_of (blk_ok o ok.kind s H C cl fp) g tg h5) (fun s H C cl fp => pts_one ((snd c).pt _ _ _ (blk_ok o ok.kind s H C cl fp) _ h7)) (fun s H C cl fp => (snd e).pe _ _ _ (blk_ok o ok.kind s H C cl fp) _ h6) pi2
          rw [hown] at q
          exact ⟨q.mono (le_lc h3 fun σ H Q q => q), fun _ => rfl⟩
    · cases h
  | .nil => ⟨fun _ _ _ _ _ h => (by cases h), fun _ _ _ _ _ h => (by cases h), fun h => (by cases h), fun sc top X o es h => by
      simp only [chkA] at h
      have : es = [] := by simpa using h
      subst this
      exact ⟨pa_nil.mono le_nilA, rfl, rfl, fun _ => rfl⟩, fun _ _ _ _ _ _ h => (by cases h), fun sc top X o pos ks keys es hk h _ hl => by
      simp only [chkA] at h
      have : es = [] := by simpa using h
      subst this
      cases ks with
      | cons _ _ => simp at hl
      | nil =>
        cases keys with
        | cons _ _ => simp [keysAre] at hk
        | nil => exact pps_nil⟩
  | .cons a r => ⟨fun _ _ _ _ _ h => (by cases h), fun _ _ _ _ _ h => (by cases h), fun h => (by cases h), fun sc top X o es h => by
      cases es with
      | nil => cases h
      | cons e es =>
        unfold chkA at h
        obtain ⟨h1, h2, h3⟩ := and3 h
        obtain ⟨p1, p2, p3, p4⟩ := (snd r).pa sc top X o _ h3
        refine ⟨?_, by rw [List.all_cons, h1, p2] <;> rfl, by simp [alen, p3], fun q => by cases q⟩
        by_cases hi : ∃ i, a = .io i
        · obtain ⟨i, rfl⟩ := hi
          exact (pa_cons (nm_ok o h2).1 p1 (star_ok h1)).mono le_ioA
        · have hn : ∀ i, a ≠ .io i := fun i q => hi ⟨i, q⟩
          have h2' : chkE P N a sc top e = true := by
            cases a <;> first | exact h2 | exact absurd rfl (hn _)
          exact (pa_cons ((snd a).pe sc top X o _ h2') p1 (star_ok h1)).mono (le_consA hn), fun _ _ _ _ _ _ h => (by cases h), fun sc top X o pos ks keys es hk h hio hl => by
      cases es with
      | nil => cases h
      | cons e es =>
        cases ks with
        | nil => simp at hl
        | cons k ks =>
          cases keys with
          | nil => simp [keysAre] at hk
          | cons k0 keys =>
            unfold keysAre at hk
            split at hk
            · rename_i q _; cases q
            · rename_i q1 q2
              cases q1
              cases q2
              obtain ⟨g1, g2⟩ := and2 hk
              have e0 := eq_of_beq g1
              subst e0
              unfold chkA at h
              obtain ⟨h1, h2, h3⟩ := and3 h
              have hn : ∀ i, a ≠ .io i := fun i q => by rw [q] at hio; cases hio
              have h2' : chkE P N a sc top e = true := by
                cases a <;> first | exact h2 | exact absurd rfl (hn _)
              have hio' : noIo r = true := by
                cases a <;> first | exact hio | exact absurd rfl (hn _)
              exact pps_cons pe_str ((snd a).pe sc top X o _ h2') ((snd r).pp sc top X o pos _ _ es g2 h3 hio' (by simpa using hl))
            · cases hk⟩
  | .itL e => Snd.ofI rfl (fun _ _ _ => rfl) (fun _ _ _ => rfl) fun sc top X o tg a h => by
      simp only [chkI] at h
      obtain ⟨h1, h2⟩ := and2 h
      exact ⟨i_itL ((snd e).pe sc top X o _ h1), foldedSet_ok h2⟩
  | .itR1 x => Snd.ofI rfl (fun _ _ _ => rfl) (fun _ _ _ => rfl) fun sc top X o tg a h => by
      simp only [chkI] at h
      split at h
      · obtain ⟨h0, h2, h3⟩ := and3 h
        obtain ⟨h0, h1⟩ := and2 h0
        exact ⟨i_itR1 o ((snd x).pe sc top X o _ h3) h2 (eq_of_beq h0) h1, fun _ => rfl⟩
      · cases h
  | .itR2 x y => Snd.ofI rfl (fun _ _ _ => rfl) (fun _ _ _ => rfl) fun sc top X o tg a h => by
      simp only [chkI] at h
      split at h
      · obtain ⟨h0, h4, h5⟩ := and3 h
        obtain ⟨h0, h2, h3⟩ := and3 h0
        obtain ⟨h0, h1⟩ := and2 h0
        exact ⟨i_itR2 o ((snd x).pe sc top X o _ h3) h2 ((snd y).pe sc top X o _ h5) h4 (eq_of_beq h0) h1, fun _ => rfl⟩
      · cases h
  | .itDown x y => Snd.ofI rfl (fun _ _ _ => rfl) (fun _ _ _ => rfl) fun sc top X o tg a h => by
      simp only [chkI] at h
      split at h
      · obtain ⟨h0, h4, h5⟩ := and3 h
        obtain ⟨h0, h2, h3⟩ := and3 h0
        obtain ⟨h0, h1⟩ := and2 h0
        exact ⟨i_itDown o ((snd x).pe sc top X o _ h3) h2 ((snd y).pe sc top X o _ h5) h4 (eq_of_beq h0) h1, fun _ => rfl⟩
      · cases h
  | .itZip3 x y z => Snd.ofI rfl (fun _ _ _ => rfl) (fun _ _ _ => rfl) fun sc top X o tg a h => by
      simp only [chkI] at h
      split at h
      · obtain ⟨h0, h6, h7⟩ := and3 h
        obtain ⟨h0, h4, h5⟩ := and3 h0
        obtain ⟨h0, h2, h3⟩ := and3 h0
        obtain ⟨h0, h1⟩ := and2 h0
        exact ⟨i_itZip3 o ((snd x).pe sc top X o _ h3) h2 ((snd y).pe sc top X o _ h5) h4 ((snd z).pe sc top X o _ h7) h6 (eq_of_beq h0) h1, fun _ => rfl⟩
      · cases h
  | .op1 k x => Snd.ofV rfl (fun _ _ _ => rfl) (fun _ _ _ _ => rfl) fun sc top X o a h => by
    simp only [chkE] at h
    split at h
    · obtain ⟨h0, h3, h4⟩ := and3 h
      obtain ⟨h1, h2⟩ := and2 h0
      exact ⟨s_bitl h2 ((snd x).pe sc top X o _ h3) (eq_of_beq h1) h4, fun _ => rfl⟩
    · cases h
  | .op2 k x y => Snd.ofV rfl (fun _ _ _ => rfl) (fun _ _ _ _ => rfl) fun sc top X o a h => by
    simp only [chkE] at h
    split at h
    · obtain ⟨h0, h7, h8⟩ := and3 h
      obtain ⟨h0, h5, h6⟩ := and3 h0
      obtain ⟨h0, h3, h4⟩ := and3 h0
      obtain ⟨h1, h2⟩ := and2 h0
      exact ⟨s_zipL o ((snd x).pe sc top X o _ h6) h5 ((snd y).pe sc top X o _ h8) h7 (eq_of_beq h1) h2 (eq_of_beq h3) h4, fun _ => rfl⟩
    · cases h
  | .op3 k x y z => Snd.ofV rfl (fun _ _ _ => rfl) (fun _ _ _ _ => rfl) fun sc top X o a h => by
    simp only [chkE] at h
    cases h
  | .itEn x => Snd.ofI rfl (fun _ _ _ => rfl) (fun _ _ _ => rfl) fun sc top X o tg a h => by
      simp only [chkI] at h
      split at h
      · obtain ⟨h0, h2, h3⟩ := and3 h
        obtain ⟨h0, h1⟩ := and2 h0
        exact ⟨i_itEn o ((snd x).pe sc top X o _ h3) h2 (eq_of_beq h0) h1, fun _ => rfl⟩
      · cases h
  | .itEnZ x y => Snd.ofI rfl (fun _ _ _ => rfl) (fun _ _ _ => rfl) fun sc top X o tg a h => by
      simp only [chkI] at h
      split at h
      · obtain ⟨h0, h4, h5⟩ := and3 h
        obtain ⟨h0, h2, h3⟩ := and3 h0
        obtain ⟨h0, h6, h1⟩ := and3 h0
        obtain ⟨h0, h7⟩ := and2 h0
        exact ⟨i_itEnZ o ((snd x).pe sc top X o _ h3) h2 ((snd y).pe sc top X o _ h5) h4 (eq_of_beq h0) h7 (eq_of_beq h6) h1, fun _ => rfl⟩
      · cases h
  | .itZip x y => Snd.ofI rfl (fun _ _ _ => rfl) (fun _ _ _ => rfl) fun sc top X o tg a h => by
      simp only [chkI] at h
      split at h
      · obtain ⟨h0, h4, h5⟩ := and3 h
        obtain ⟨h0, h2, h3⟩ := and3 h0
        obtain ⟨h0, h1⟩ := and2 h0
        exact ⟨i_itZip o ((snd x).pe sc top X o _ h3) h2 ((snd y).pe sc top X o _ h5) h4 (eq_of_beq h0) h1, fun _ => rfl⟩
      · cases h
  | .itZipN x y => Snd.ofI rfl (fun _ _ _ => rfl) (fun _ _ _ => rfl) fun sc top X o tg a h => by
      simp only [chkI] at h
      split at h
      · obtain ⟨h0, h4, h5⟩ := and3 h
        obtain ⟨h0, h2, h3⟩ := and3 h0
        obtain ⟨h0, h1⟩ := and2 h0
        exact ⟨i_itZipN o ((snd x).pe sc top X o _ h3) h2 ((snd y).pe sc top X o _ h5) h4 (eq_of_beq h0) h1, fun _ => rfl⟩
      · cases h
  | .io _ => Snd.no rfl (fun _ _ _ => rfl) (fun _ _ _ => rfl) (fun _ _ _ _ => rfl)
  | .dct ks as => Snd.ofV rfl (fun _ _ _ => rfl) (fun _ _ _ _ => rfl) fun sc top X o a h => by
    simp only [chkE] at h
    split at h
    · rename_i keys values pos
      rcases (Bool.or_eq_true _ _).mp h with h | h
      · obtain ⟨k0, h3, h4⟩ := and3 h
        obtain ⟨h1, h2⟩ := and2 k0
        have e1 : ks = [] := by simpa using h1
        have e2 : keys = [] := by simpa using h2
        have e3 : values = [] := by simpa using h3
        subst e1 e2 e3
        have e4 : as = .nil := by cases as <;> first | rfl | cases h4
        subst e4
        refine ⟨(pe_dnewK).mono fun σ H Q ⟨F, ρ, fp, z, ρ', s, hd, k⟩ => ?_, fun _ => rfl⟩
        cases hd
        intro p hp
        have n0 : Nw F H F (upd H p (.dK [])) := ⟨s.le.trans (Ex.new hp), Ex.refl _, Ex.new hp, fun _ _ q => .inl q⟩
        have hf := fresh_back s.le hp
        refine k _ _ _ _ (fun a => a = p) (n0.st s) n0.xt ⟨.M rfl upd_same .nil (by simp) (fun _ h => by cases h) (by simp), fun a ha => by subst ha; exact hf, fun a ha => by subst ha; exact ⟨_, upd_same, rfl⟩, fun a ha i hi => by subst ha; exact (s.kn i a hi).ne hp⟩ fun a ha => ?_
        subst ha
        exact .inr hp
      obtain ⟨k0, h6, h7⟩ := and3 h
      obtain ⟨k1, h4, h5⟩ := and3 k0
      obtain ⟨k2, h2, h3⟩ := and3 k1
      have h1 := k2
      clear h k0 k1 k2
      have hl : ks.length = values.length := of_decide_eq_true h2
      have hkl := keysAre_len h1
      exact ⟨s_dct ((snd as).pp sc top X o pos ks keys values h1 h6 h7 hl) h1 hl (of_decide_eq_true h3) (by simpa using h4) (of_decide_eq_true h5) h7, fun _ => rfl⟩
    · cases h
  | .lrev e => Snd.ofV rfl (fun _ _ _ => rfl) (fun _ _ _ _ => rfl) fun sc top X o a h => by
    simp only [chkE] at h
    split at h
    · obtain ⟨k0, h5, h6⟩ := and3 h
      obtain ⟨k1, h3, h4⟩ := and3 k0
      obtain ⟨h1, h2⟩ := and2 k1
      exact ⟨s_lrev o ((snd e).pe sc top X o _ h6) h5 (eq_of_beq h1) h2 (eq_of_beq h3) h4, fun _ => rfl⟩
    · cases h
  | .evn o' e => Snd.ofV rfl (fun _ _ _ => rfl) (fun _ _ _ _ => rfl) fun sc top X o a h => by
    simp only [chkE] at h
    split at h
    · exact ⟨s_ev0 (k2 := 0) (p2 := default) ((snd e).pe sc top X o _ h), fun _ => rfl⟩
    · exact ⟨s_ev1 ((snd e).pe sc top X o _ h), fun _ => rfl⟩
    · cases h
  | .rev e => Snd.ofV rfl (fun _ _ _ => rfl) (fun _ _ _ _ => rfl) fun sc top X o a h => by
    simp only [chkE] at h
    split at h
    · exact ⟨s_rev ((snd e).pe sc top X o _ h), fun _ => rfl⟩
    · cases h
  | .callL f g b as => Snd.ofV rfl (fun _ _ _ => rfl) (fun _ _ _ _ => rfl) fun sc top X o a h => by
    simp only [chkE] at h
    split at h
    · split at h
      · rename_i d d' hf hg
        obtain ⟨h, q11⟩ := and2 h
        obtain ⟨h, q9, q10⟩ := and3 h
        obtain ⟨h, q7, q8⟩ := and3 h
        obtain ⟨h, q5, q6⟩ := and3 h
        obtain ⟨h, q3, q4⟩ := and3 h
        obtain ⟨q1, q2⟩ := and2 h
        obtain ⟨q3, q3'⟩ := and2 q3
        obtain ⟨q4, q4'⟩ := and2 q4
        obtain ⟨p1, p2, p3, p4⟩ := (snd as).pa sc top X o _ q5
        exact ⟨s_callL o hf hg ((snd b).pe sc top X o _ q4') (slice_ok q4) p1 p2 (eq_of_beq q1) q2 (eq_of_beq q3) q3' (of_decide_eq_true q8) q6 q7 (of_decide_eq_true q9) (of_decide_eq_true q10) (fun z => by rw [z] at q11; cases q11), fun _ => rfl⟩
      · cases h
    · cases h
  | .llN n => Snd.ofV rfl (fun _ _ _ => rfl) (fun _ _ _ _ => rfl) fun sc top X o a h => by
    simp only [chkE] at h
    split at h
    · obtain rfl := eq_of_beq h
      exact ⟨s_llN0, fun _ => rfl⟩
    · obtain rfl := eq_of_beq h
      exact ⟨s_llN2, fun _ => rfl⟩
    · cases h
  | .llA i ix x => Snd.ofV rfl (fun _ _ _ => rfl) (fun _ _ _ _ => rfl) fun sc top X o a h => by
    simp only [chkE] at h
    split at h
    · obtain ⟨h0, h7⟩ := and2 h
      obtain ⟨h0, h5⟩ := and2 h0
      obtain ⟨h5, h6⟩ := and2 h5
      obtain ⟨h0, h3⟩ := and2 h0
      obtain ⟨h3, h4⟩ := and2 h3
      obtain ⟨h0, h1⟩ := and2 h0
      obtain ⟨h1, h2⟩ := and2 h1
      exact ⟨s_llA o h1 ((snd ix).pe sc top X o _ h3) (slice_ok h2) ((snd x).pe sc top X o _ h4) h5 (eq_of_beq h0) h6, fun _ => rfl⟩
    · cases h
  | .llE i => Snd.ofV rfl (fun _ _ _ => rfl) (fun _ _ _ _ => rfl) fun sc top X o a h => by
    simp only [chkE] at h
    split at h
    · obtain ⟨h0, h1, h2⟩ := and3 h
      exact ⟨s_llE o h1 (eq_of_beq h0) h2, fun _ => rfl⟩
    · cases h
  | .llO i => Snd.ofV rfl (fun _ _ _ => rfl) (fun _ _ _ _ => rfl) fun sc top X o a h => by
    simp only [chkE] at h
    split at h
    · obtain ⟨h0, h1, h2⟩ := and3 h
      exact ⟨s_llO o h1 (eq_of_beq h0) h2, fun _ => rfl⟩
    · cases h
  | .dI => Snd.ofV rfl (fun _ _ _ => rfl) (fun _ _ _ _ => rfl) fun sc top X o a h => by
    simp only [chkE] at h
    split at h
    · exact ⟨s_dI, fun _ => rfl⟩
    · cases h
  | .ixI i y => Snd.ofV rfl (fun _ _ _ => rfl) (fun _ _ _ _ => rfl) fun sc top X o a h => by
    simp only [chkE] at h
    split at h
    · obtain ⟨h1, h2, h3⟩ := and3 h
      exact ⟨s_ixI o h3 ((snd y).pe sc top X o _ h2) (nosl o h1), fun _ => rfl⟩
    · cases h
  | .srtI i => Snd.ofV rfl (fun _ _ _ => rfl) (fun _ _ _ _ => rfl) fun sc top X o a h => by
    simp only [chkE] at h
    split at h
    · obtain ⟨h1, h2, h3⟩ := and3 h
      exact ⟨s_srtI o (eq_of_beq h1) h2 h3, fun _ => rfl⟩
    · cases h
  | .inI neg i y => Snd.of rfl (fun _ _ _ => rfl) (fun _ _ _ _ => rfl) (fun sc top X o a h => by
    simp only [chkE] at h
    split at h
    · obtain ⟨h1, h2, h3⟩ := and3 h
      cases neg with
      | true => cases h1
      | false => exact s_inI (neg := false) o h3 ((snd y).pe sc top X o _ h2)
    · obtain ⟨h1, h2, h3⟩ := and3 h
      cases neg with
      | false => cases h1
      | true => exact s_inI (neg := true) o h3 ((snd y).pe sc top X o _ h2)
    · cases h) fun sc top X o a h => by
    simp only [chkE] at h
    split at h
    · obtain ⟨h1, h2, h3⟩ := and3 h
      cases neg with
      | true => cases h1
      | false => exact t_inI (neg := false) o h3 ((snd y).pe sc top X o _ h2)
    · obtain ⟨h1, h2, h3⟩ := and3 h
      cases neg with
      | false => cases h1
      | true => exact t_inI (neg := true) o h3 ((snd y).pe sc top X o _ h2)
    · cases h
  | .dctP x => Snd.ofV rfl (fun _ _ _ => rfl) (fun _ _ _ _ => rfl) fun sc top X o a h => by
    simp only [chkE] at h
    split at h
    · obtain ⟨h, h4⟩ := and2 h
      obtain ⟨h1, h2, h3⟩ := and3 h
      exact ⟨s_dctP o (eq_of_beq h1) h2 h3 ((snd x).pe sc top X o _ h4), fun _ => rfl⟩
    · cases h
  | .lcI g j e vs => Snd.ofV rfl (fun _ _ _ => rfl) (fun _ _ _ _ => rfl) fun sc top X o a h => by
    simp only [chkE] at h
    cases h
  | .dcI g j e vs => Snd.ofV rfl (fun _ _ _ => rfl) (fun _ _ _ _ => rfl) fun sc top X o a h => by
    simp only [chkE] at h
    split at h
    · rename_i f fp elt us kk tp ob m ap cp asy scope p pos
      obtain ⟨k0, h8⟩ := and2 h
      obtain ⟨k0, h6⟩ := and2 k0
      obtain ⟨k0, h5⟩ := and2 k0
      obtain ⟨k0, h4⟩ := and2 k0
      obtain ⟨k0, h3⟩ := and2 k0
      obtain ⟨k0, h2⟩ := and2 k0
      obtain ⟨k0, h1⟩ := and2 k0
      obtain ⟨k0, h0⟩ := and2 k0
      obtain ⟨hf, hgl⟩ := and2 k0
      obtain ⟨h1, h9⟩ := and2 h1
      have k6 := eq_of_beq h1
      subst k6
      clear h k0 h1
      have e0 := of_decide_eq_true h0
      subst e0
      have hown : (ownOf N vs).map (·.2) = vs := by
        unfold ownOf
        rw [List.map_map]
        exact List.map_id' vs
      have ok : BlkOk X.N X.env.scope scope (ownOf N vs) := by
        rw [o.hN, o.hsc]
        exact blkOk_by h4
      have pi1 := pi_items (X := X) (elts := us) (kk := kk) (tpos := tp) (cpos := cp) (apos := ap) (nm_ok o h2).1 (base_ok (noCall_chkN h2)) h9
      have q := pe_lc (pos := p) (g := tG X.K g) (te := tX X.K T G e) o.calm (by rw [o.hN]; exact o.nd) pi1 ok (fun s H C cl fp => pg_of (blk_ok o ok.kind s H C cl fp) g _ h5) (fun _ _ _ _ _ => pts_nil) (fun s H C cl fp => (snd e).pe _ _ _ (blk_ok o ok.kind s H C cl fp) _ h6) (fun _ => rfl)
      rw [hown] at q
      have q2 := (pe_lock q).mono (le_lcI h3 (fun σ H Q h => h) fun σ H R p od kvs e1 e2 r => ⟨.ref p, e1, p, od, kvs, rfl, e2, r⟩)
      exact ⟨(s_dctP o (eq_of_beq hf) hgl rfl q2).mono le_dcI, fun _ => rfl⟩
    · cases h
  | .cpI i => Snd.ofV rfl (fun _ _ _ => rfl) (fun _ _ _ _ => rfl) fun sc top X o a h => by
    simp only [chkE] at h
    split at h
    · obtain ⟨h1, h2, h3⟩ := and3 h
      exact ⟨s_cpI o (eq_of_beq h1) h2 h3, fun _ => rfl⟩
    · cases h
  | .asI x => Snd.ofV rfl (fun _ _ _ => rfl) (fun _ _ _ _ => rfl) fun sc top X o a h => by
    simp only [chkE] at h
    split at h
    · exact ⟨s_asI o ((snd x).pe sc top X o _ h), fun _ => rfl⟩
    · cases h
  | .lenI i => Snd.ofV rfl (fun _ _ _ => rfl) (fun _ _ _ _ => rfl) fun sc top X o a h => by
    simp only [chkE] at h
    split at h
    · obtain ⟨h1, h2, h3⟩ := and3 h
      exact ⟨s_lenI o (eq_of_beq h1) h2 h3, fun _ => rfl⟩
    · cases h
  | .lsI i => Snd.ofV rfl (fun _ _ _ => rfl) (fun _ _ _ _ => rfl) fun sc top X o a h => by
    simp only [chkE] at h
    split at h
    · obtain ⟨h1, h2, h3⟩ := and3 h
      exact ⟨s_lsI o (eq_of_beq h1) h2 h3, fun _ => rfl⟩
    · cases h
  | .ixM x y => Snd.ofV rfl (fun _ _ _ => rfl) (fun _ _ _ _ => rfl) fun sc top X o a h => by
    simp only [chkE] at h
    split at h
    · obtain ⟨h1, h2, h3⟩ := and3 h
      exact ⟨s_ixM o ((snd x).pe sc top X o _ h2) ((snd y).pe sc top X o _ h3) (nosl o h1), fun _ => rfl⟩
    · cases h
  | .ixG x e => Snd.ofV rfl (fun _ _ _ => rfl) (fun _ _ _ _ => rfl) fun sc top X o a h => by
    simp only [chkE] at h
    split at h
    · obtain ⟨k0, h3, h4⟩ := and3 h
      obtain ⟨h1, h2⟩ := and2 k0
      have e := eq_of_beq h1
      subst e
      exact ⟨s_ixG o ((snd _).pe sc top X o _ h4) h2 (slice_ok h3), fun _ => rfl⟩
    · cases h
  | .inG x y => by
    have key : ∀ sc top X, XOk P G T n N sc top X → ∀ a, chkE P N (.inG x y) sc top a = true → PE X a (tX X.K T G (.inG x y)) ∧ PT X a (tT X.K T G (.inG x y)) := fun sc top X o a h => by
      simp only [chkE] at h
      split at h
      · obtain ⟨h1, h2, h3⟩ := and3 h
        have e := eq_of_beq h1
        subst e
        exact ⟨s_inG o ((snd y).pe sc top X o _ h3) h2, t_inG o ((snd y).pe sc top X o _ h3) h2⟩
      · cases h
    exact Snd.of rfl (fun _ _ _ => rfl) (fun _ _ _ _ => rfl) (fun sc top X o a h => (key sc top X o a h).1) fun sc top X o a h => (key sc top X o a h).2
  | .mtv m ob as => Snd.ofV rfl (fun _ _ _ => rfl) (fun _ _ _ _ => rfl) fun sc top X o a h => by
    simp only [chkE] at h
    split at h
    · obtain ⟨k0, h7, h8⟩ := and3 h
      obtain ⟨k1, h5, h6⟩ := and3 k0
      obtain ⟨k2, h3, h4⟩ := and3 k1
      obtain ⟨h1, h2⟩ := and2 k2
      obtain ⟨p1, p2, p3, p4⟩ := (snd as).pa sc top X o _ h4
      exact ⟨s_mtv o h2 ((snd ob).pe sc top X o _ h3) p1 p2 (by rw [p3]; exact of_decide_eq_true h6) (fun z => by rw [z] at h7; cases h7) h5 (eq_of_beq h1) h8, fun _ => rfl⟩
    · cases h
end
end Rf
set_option maxRecDepth 100000
set_option maxHeartbeats 8000000
namespace Rf
open PySem PySem.Spec PyProof.Rows L2 Evl
theorem _root_.L2.PE.or {X : Cx} {e : Expr} {t t' : TE} (h : PE X e t) (h' : PE X e t') : PE X e (fun σ H Q => t σ H Q ∨ t' σ H Q) := ⟨fun pins s σ H Q I q => q.elim (h.run pins s σ H Q I) (h'.run pins s σ H Q I)⟩
theorem _root_.L2.PA.or {X : Cx} {e : List Expr} {t t' : TA} (h : PA X e t) (h' : PA X e t') : PA X e (fun σ H Q => t σ H Q ∨ t' σ H Q) := ⟨fun p pins s σ H Q I q => q.elim (h.run p pins s σ H Q I) (h'.run p pins s σ H Q I)⟩
theorem pe_no {X : Cx} {e : Expr} {t : TE} (h : ∀ σ H Q, ¬ t σ H Q) : PE X e t := ⟨fun pins s σ H Q I q => (h σ H Q q).elim⟩
theorem pa_no {X : Cx} {e : List Expr} {t : TA} (h : ∀ σ H Q, ¬ t σ H Q) : PA X e t := ⟨fun p pins s σ H Q I q => (h σ H Q q).elim⟩
section
variable (K : Frag) (mg : Str → Option Value) (T : Tab) (G : Gls) (W : WX) (io : List Nat)
/-- what is wanted where an error flies -/
def Fly (F H : Hp) (σ : L2.St) (fp : Nat → As) (c : Str) (d : PyData) (ρ' : Ro) : Prop := ∀ cls dd σ' H' F' fp', St K F' H' σ' ρ' fp' → Xt F H fp F' H' fp' → (∀ j ∈ io, σ'[j]? = σ[j]?) → ExP K mg c d cls dd H' → W cls dd σ' H'
/-- a term raises -/
def tR (e : E) : TE := fun σ H _ => ∃ F ρ fp c d ρ', St K F H σ ρ fp ∧ denX T G e ρ = some (c, d, ρ') ∧ Fly K mg W io F H σ fp c d ρ'
def tRA (e : E) : TA := fun σ H _ => ∃ F ρ fp c d ρ', St K F H σ ρ fp ∧ densX T G e ρ = some (c, d, ρ') ∧ Fly K mg W io F H σ fp c d ρ'
end
theorem Fly.later {K : Frag} {mg : Str → Option Value} {W : WX} {io : List Nat} {F H F1 H1 : Hp} {σ σ1 : L2.St} {fp fp1 : Nat → As} {c : Str} {d : PyData} {ρ' : Ro} (k : Fly K mg W io F H σ fp c d ρ') (t : Xt F H fp F1 H1 fp1) (hi : ∀ j ∈ io, σ1[j]? = σ[j]?) : Fly K mg W io F1 H1 σ1 fp1 c d ρ' :=
  fun cls dd σ' H' F' fp' s t' h e => k cls dd σ' H' F' fp' s (t.trans t') (fun j hj => (h j hj).trans (hi j hj)) e
theorem noIo_ios : ∀ {as : E}, noIo as = true → (∀ x ∈ ios as, x = none)
  | .cons a r, h => by
    cases a <;> first | (cases h; done) | skip
    all_goals
      intro x hx
      rcases List.mem_cons.mp hx with rfl | hx
      · rfl
      · exact noIo_ios (as := r) h x hx
  | .nm _, h => fun x hx => by cases hx
  | .mv _, h => fun x hx => by cases hx
  | .fz _, h => fun x hx => by cases hx
  | .frz _, h => fun x hx => by cases hx
  | .bw _, h => fun x hx => by cases hx
  | .gl _, h => fun x hx => by cases hx
  | .int _, h => fun x hx => by cases hx
  | .bl _, h => fun x hx => by cases hx
  | .non, h => fun x hx => by cases hx
  | .str _, h => fun x hx => by cases hx
  | .bin _ _ _, h => fun x hx => by cases hx
  | .neg _, h => fun x hx => by cases hx
  | .not _, h => fun x hx => by cases hx
  | .and _ _, h => fun x hx => by cases hx
  | .or _ _, h => fun x hx => by cases hx
  | .cmp _ _ _, h => fun x hx => by cases hx
  | .chain _ _ _ _ _, h => fun x hx => by cases hx
  | .isN _, h => fun x hx => by cases hx
  | .notN _, h => fun x hx => by cases hx
  | .ife _ _ _, h => fun x hx => by cases hx
  | .nil, h => fun x hx => by cases hx
  | .io _, h => fun x hx => by cases hx
  | .tup _, h => fun x hx => by cases hx
  | .lst _, h => fun x hx => by cases hx
  | .dct _ _, h => fun x hx => by cases hx
  | .ix _ _, h => fun x hx => by cases hx
  | .sl _ _ _, h => fun x hx => by cases hx
  | .ixP _ _, h => fun x hx => by cases hx
  | .lenP _, h => fun x hx => by cases hx
  | .bi _ _, h => fun x hx => by cases hx
  | .isi _ _, h => fun x hx => by cases hx
  | .call _ _, h => fun x hx => by cases hx
  | .mt _ _ _, h => fun x hx => by cases hx
  | .mtv _ _ _, h => fun x hx => by cases hx
  | .lc _ _ _ _ _, h => fun x hx => by cases hx
  | .lrev _, h => fun x hx => by cases hx
  | .callL _ _ _ _, h => fun x hx => by cases hx
  | .ixM _ _, h => fun x hx => by cases hx
  | .dI, h => fun x hx => by cases hx
  | .llN _, h => fun x hx => by cases hx
  | .llA _ _ _, h => fun x hx => by cases hx
  | .llE _, h => fun x hx => by cases hx
  | .llO _, h => fun x hx => by cases hx
  | .ixI _ _, h => fun x hx => by cases hx
  | .srtI _, h => fun x hx => by cases hx
  | .inI _ _ _, h => fun x hx => by cases hx
  | .cpI _, h => fun x hx => by cases hx
  | .lcI _ _ _ _, h => fun x hx => by cases hx
  | .dctP _, h => fun x hx => by cases hx
  | .dcI _ _ _ _, h => fun x hx => by cases hx
  | .asI _, h => fun x hx => by cases hx
  | .lenI _, h => fun x hx => by cases hx
  | .lsI _, h => fun x hx => by cases hx
  | .ixG _ _, h => fun x hx => by cases hx
  | .inG _ _, h => fun x hx => by cases hx
  | .rev _, h => fun x hx => by cases hx
  | .evn _ _, h => fun x hx => by cases hx
  | .itL _, h => fun x hx => by cases hx
  | .op1 _ _, h => fun x hx => by cases hx
  | .op2 _ _ _, h => fun x hx => by cases hx
  | .op3 _ _ _ _, h => fun x hx => by cases hx
  | .itDown _ _, h => fun x hx => by cases hx
  | .itZip3 _ _ _, h => fun x hx => by cases hx
  | .itR1 _, h => fun x hx => by cases hx
  | .itR2 _ _, h => fun x hx => by cases hx
  | .itEn _, h => fun x hx => by cases hx
  | .itZip _ _, h => fun x hx => by cases hx
  | .itEnZ _ _, h => fun x hx => by cases hx
  | .itZipN _ _, h => fun x hx => by cases hx
theorem isPos_none : ∀ {l : List (Option Nat)} {m : Nat} {io : List Nat}, (∀ x ∈ l, x = none) → isPos m l io = true
  | [], _, _, _ => by simp [isPos]
  | none :: l, m, io, h => by
    simp only [isPos]
    exact isPos_none fun x hx => h x (List.mem_cons_of_mem _ hx)
  | some i :: l, _, _, h => by cases h _ List.mem_cons_self
theorem fm_none0 : ∀ {l : List (Option Nat)}, (∀ x ∈ l, x = none) → l.filterMap id = []
  | [], _ => rfl
  | none :: l, h => by
    rw [List.filterMap_cons_none rfl]
    exact fm_none0 fun x hx => h x (List.mem_cons_of_mem _ hx)
  | some i :: l, h => by cases h _ List.mem_cons_self
theorem ioSet_none : ∀ {l : List (Option Nat)} {ρ os : Ro}, (∀ x ∈ l, x = none) → ioSet ρ l os = ρ
  | [], _, _, _ => by simp [ioSet]
  | none :: l, ρ, [], _ => by simp [ioSet]
  | none :: l, ρ, o :: os, h => by
    show ioSet ρ l os = ρ
    exact ioSet_none fun x hx => h x (List.mem_cons_of_mem _ hx)
  | some i :: l, _, _, h => by cases h _ List.mem_cons_self
section
variable {P : Prg} {G : Gls} {T : Tab} {n : Nat} {N : List Str} {sc : Scope} {top : Bool} {X : Cx} {W : WX} {io : List Nat} (o : XOk P G T n N sc top X) (tk : Takes X W)
include o tk
theorem r_call {f : Nat} {d : Fn} {as : E} {x : Str} {p pos : Pos} {es : List Expr} (hf : P[f]? = some d) (ha : PA X es (tA X.K T G as)) (hr : PA X es (tRA X.K X.mg T G W io as)) (hs : es.all noStar = true) (hx : x = d.name) (hg : glo sc x = true)
    (hl : alen as = d.np) (hl2 : es.length = alen as) : PE X (.Call (.Name x p) es [] pos) (tR X.K X.mg T G W io (.call f as)) := by
  obtain ⟨g1, g2, g3⟩ := glo_ok o hg
  obtain ⟨a, fd, m1, m2, m3, m4⟩ := (o.fnx f d hf).ok
  subst hx
  cases es with
  | nil =>
    refine pe_no fun σ H Q ⟨F, ρ, fp, c, z, ρ', s, hd, k⟩ => ?_
    simp only [denX] at hd
    split at hd
    · rename_i hc
      exact hc.2 hl2.symm
    · cases hd
  | cons e es =>
    rw [List.all_cons, Bool.and_eq_true] at hs
    refine (pe_callS m4 o.room g1 m1 m2 m3 (E := WE W) (fun σ => passAt tk σ) (hr.or ha) g2 (star_ok hs.1) (plain_tail hs.2)).mono fun σ H Q ⟨F, ρ, fp, c, z, ρ', s, hd, k⟩ => ?_
    simp only [denX] at hd
    split at hd
    · rename_i hc
      obtain ⟨hn, h0⟩ := hc
      split at hd
      · rename_i y hy
        cases hd
        exact .inl ⟨F, ρ, fp, c, z, ρ', s, hy, k⟩
      · split at hd
        · rename_i xs ρ1 hxs
          split at hd
          · rename_i c' d' hT
            cases hd
            refine .inr ⟨F, ρ, fp, xs, _, s, hxs, fun vs H1 F1 fp1 P1 s1 t1 hd1 sub1 => ?_⟩
            have hio := noIo_ios hn
            obtain ⟨ap, sa, hlen, aft⟩ := call_after (io := []) (by rw [fm_none0 hio]; exact List.nodup_nil) (isPos_none hio) s1 t1 hd1 sub1
            refine ⟨by omega, F1, ap, xs, c, z, sa, hT, fun cls dd H' F' ap' s' t' ex => ?_⟩
            obtain ⟨fp2, q1, q2, _, _⟩ := aft _ .non (.d .none) H' F' ap' none0 s' t' ⟨.d .non, fun _ z => z.elim, fun _ z => z.elim, fun _ z => z.elim⟩ (fun _ z => z.elim)
            rw [ioSet_none hio] at q1
            exact k cls dd σ H' F' fp2 q1 q2 (fun _ _ => rfl) ex
          · cases hd
        · cases hd
    · cases hd
theorem sndX (e : E) : (∀ a, chkE P N e sc top a = true → PE X a (tR X.K X.mg T G W io e)) ∧ ∀ es, chkA P N e sc top es = true → noIo e = true → PA X es (tRA X.K X.mg T G W io e) := by
  induction e with
  | call f as ih =>
    refine ⟨fun a h => ?_, (fun es h => by cases h)⟩
    simp only [chkE] at h
    split at h
    · split at h
      · rename_i d hf
        obtain ⟨k0, h5, h6⟩ := and3 h
        obtain ⟨k1, h3, h4⟩ := and3 k0
        obtain ⟨h1, h2⟩ := and2 k1
        obtain ⟨p1, p2, p3, p4⟩ := (snd as).pa sc top X o _ h3
        by_cases hn : noIo as = true
        · exact r_call o tk hf p1 (ih.2 _ h3 hn) p2 (eq_of_beq h1) h2 (of_decide_eq_true h6) p3
        · refine pe_no fun σ H Q ⟨F, ρ, fp, c, z, ρ', s, hd, k⟩ => ?_
          simp only [denX] at hd
          rw [if_neg fun q => hn q.1] at hd
          cases hd
      · cases h
    · cases h
  | frz e ih =>
    refine ⟨fun a h => ?_, (fun es h => by cases h)⟩
    refine (ih.1 a h).mono fun σ H Q ⟨F, ρ, fp, c, z, ρ', s, hd, k⟩ => ?_
    simp only [denX] at hd
    exact ⟨F, ρ, fp, c, z, ρ', s, hd, k⟩
  | tup as ih =>
    refine ⟨fun a h => ?_, (fun es h => by cases h)⟩
    simp only [chkE] at h
    split at h
    · obtain ⟨h1, h2, h3⟩ := and3 h
      refine (pe_tup (ih.2 _ h1 h2)).mono fun σ H Q ⟨F, ρ, fp, c, z, ρ', s, hd, k⟩ => ?_
      simp only [denX] at hd
      rw [if_pos h2] at hd
      exact ⟨F, ρ, fp, c, z, ρ', s, hd, k⟩
    · cases h
  | cons a r iha ihr =>
    refine ⟨(fun a h => by cases h), fun es h hn => ?_⟩
    cases es with
    | nil => cases h
    | cons e es =>
      unfold chkA at h
      obtain ⟨h1, h2, h3⟩ := and3 h
      have hi : ∀ i, a ≠ .io i := fun i q => by subst q; cases hn
      have h2' : chkE P N a sc top e = true := by
        cases a <;> first | exact h2 | exact absurd rfl (hi _)
      have hn' : noIo r = true := by
        cases a <;> first | exact hn | exact absurd rfl (hi _)
      refine (pa_cons (((iha.1 e h2').or ((snd a).pe sc top X o e h2'))) (ihr.2 es h3 hn') (star_ok h1)).mono fun σ H Q ⟨F, ρ, fp, c, z, ρ', s, hd, k⟩ => ?_
      simp only [densX] at hd
      split at hd
      · rename_i y hy
        cases hd
        exact .inl ⟨F, ρ, fp, c, z, ρ', s, hy, k⟩
      · split at hd
        · rename_i x ρ1 hx
          exact .inr ⟨F, ρ, fp, _, ρ1, s, hx, fun v H1 F1 fp1 P1 s1 t1 hd1 sub1 => ⟨F1, ρ1, fp1, c, z, ρ', s1, hd, k.later t1 fun _ _ => rfl⟩⟩
        · cases hd
  | nil =>
    refine ⟨(fun a h => by cases h), fun es h hn => pa_no fun σ H Q ⟨F, ρ, fp, c, z, ρ', s, hd, k⟩ => ?_⟩
    simp only [densX] at hd
    cases hd
  | _ =>
    refine ⟨fun a h => pe_no fun σ H Q ⟨F, ρ, fp, c, z, ρ', s, hd, k⟩ => ?_, (fun es h => by cases h)⟩
    simp only [denX] at hd
    cases hd
end
end Rf
set_option maxRecDepth 100000
set_option maxHeartbeats 8000000
namespace Rf
open PySem PySem.Spec PyProof.Rows L2 Evl
def gSetSl (K : Frag) (to tl th : TE) : TG := fun v σ H Q => to σ H fun x H1 => tl σ H1 fun a H2 => th σ H2 fun c H3 => ∃ p b xs ys, ∃ i j : Int, x = .ref p ∧ v = .ref b ∧ a = .int i ∧ c = .int j ∧ H3 p = some (.lst xs) ∧ RdL K H3 b ys ∧ (p ≠ b ∨ (K.lookup b).isSome) ∧ 0 ≤ i ∧ i ≤ j ∧ j ≤ xs.length ∧
  xs.length + ys.length ≤ sizeLine ∧ Q σ (upd H3 p (.lst (xs.take i.toNat ++ ys ++ xs.drop j.toNat)))
theorem pg_setSl {X : Cx} {o l h : Expr} {p2 pos : Pos} {to tl th : TE} (ho : PE X o to) (hl : PE X l tl) (hh : PE X h th) : PG X (.Subscript o (.Slice (some l) (some h) none p2) pos) (gSetSl X.K to tl th) := by
  refine ⟨fun pins s σ H v u Q I r h' => ?_⟩
  rw [arm_assign_Subscript]
  refine wpAny_bind (wpAny_holding (thn (ho.run pins s σ H _ I h') fun ov s1 ⟨x, H1, I1, r1, q1⟩ => ?_))
  refine wpAny_bind (wpAny_holding (wpAny_Slice (thn (hl.run pins s1 σ H1 _ I1 q1) fun vl s2 ⟨a, H2, I2, ra, q2⟩ => thn (hh.run pins s2 σ H2 _ I2 q2) fun vu s3 ⟨c, H3, I3, rc, q3⟩ => ?_)))
  rw [evalPart_none]
  refine wpAny_pure ?_
  have I4 : Inv X pins σ H3 { s3 with heap := s3.heap.push { cls := .type "slice", data := .fields #[vl, vu, .none] } } := I3.kept (t' := s3.toks) fun b ob q => Heap.get?_push_of_some _ q
  obtain ⟨p, b, xs, ys, i, j, rfl, rfl, rfl, rfl, hp, hb, hne, h0, h1, h2, hz, q⟩ := q3
  cases r1
  cases r
  obtain ⟨ta, rfl⟩ := ra
  obtain ⟨tc, rfl⟩ := rc
  refine wpAny_bind (wpAny_standAt (wpAny_bind (wpAny_holding ?_)))
  obtain ⟨i', rfl⟩ := Int.eq_ofNat_of_zero_le h0
  obtain ⟨j', rfl⟩ := Int.eq_ofNat_of_zero_le (Int.le_trans h0 h1)
  simp only [Int.toNat_natCast] at q
  have hne : p ≠ b := hne.elim id fun z w => by
    obtain ⟨ob, ez⟩ := Option.isSome_iff_exists.mp z
    have nb := (I4.bs b ob (I4.ok.mod.kin b ob ez)).2
    rw [← w, hp] at nb
    cases nb
  obtain ⟨z, its, n, rr, hl', e⟩ := I4.lstM hp
  obtain ⟨z2, its2, n2, r2, hl2, e2⟩ := I4.lstR hb
  refine setItem_slice (a := i') (c := j') e e2 hne (Heap.IsSliceOf.new ..) (.int _ _) (.int _ _) (by omega) (by rw [List.size_toArray]; omega) (by rw [List.size_toArray, List.size_toArray]; omega) ?_
  refine wpAny_release ⟨σ, _, I4.lset (its' := its.take i' ++ its2 ++ its.drop j') (t' := s3.toks) hp e ?_ (Vals.append (Vals.append (rr.take _) r2) (rr.drop _)) ?_, q⟩
  · exact splice_eq its its2 i' j'
  · rw [List.length_append, List.length_append, List.length_take, List.length_drop]
    omega
section
variable (K : Frag) (T : Tab) (G : Gls) (io : List Nat)
/-- what is wanted behind a statement, by its end -/
def Fin (K : Frag) (io : List Nat) (D : Ends) (F H : Hp) (σ : L2.St) (fp : Nat → As) (ρ' : Ro) : Fl → Prop
  | .nx => ∀ σ' H' F' fp', St K F' H' σ' ρ' fp' → Xt F H fp F' H' fp' → (∀ i ∈ io, σ'[i]? = σ[i]?) → D.nx σ' H'
  | .bk => ∀ σ' H' F' fp', St K F' H' σ' ρ' fp' → Xt F H fp F' H' fp' → (∀ i ∈ io, σ'[i]? = σ[i]?) → D.bk σ' H'
  | .ct => ∀ σ' H' F' fp', St K F' H' σ' ρ' fp' → Xt F H fp F' H' fp' → (∀ i ∈ io, σ'[i]? = σ[i]?) → D.ct σ' H'
  | .rt x => ∀ v σ' H' F' fp' P, St K F' H' σ' ρ' fp' → Xt F H fp F' H' fp' → (∀ i ∈ io, σ'[i]? = σ[i]?) → Hd K F' H' fp' v x P → (∀ a, P a → (∃ j, fp j a) ∨ H a = none) → D.rt v H'
def tS (s : S) : TS := fun D σ H => ∃ F ρ fp f ρ', St K F H σ ρ fp ∧ denS T G s ρ = .ok (f, ρ') ∧ Fin K io D F H σ fp ρ' f
end
theorem Fin.later {K : Frag} {io : List Nat} {D : Ends} {F H F1 H1 : Hp} {σ σ1 : L2.St} {fp fp1 : Nat → As} {ρ' : Ro} {f : Fl} (k : Fin K io D F H σ fp ρ' f) (t : Xt F H fp F1 H1 fp1) (hi : ∀ i ∈ io, σ1[i]? = σ[i]?) : Fin K io D F1 H1 σ1 fp1 ρ' f := by
  cases f with
  | nx => exact fun σ' H' F' fp' s' t' h => k σ' H' F' fp' s' (t.trans t') fun i q => (h i q).trans (hi i q)
  | bk => exact fun σ' H' F' fp' s' t' h => k σ' H' F' fp' s' (t.trans t') fun i q => (h i q).trans (hi i q)
  | ct => exact fun σ' H' F' fp' s' t' h => k σ' H' F' fp' s' (t.trans t') fun i q => (h i q).trans (hi i q)
  | rt x => exact fun v σ' H' F' fp' P s' t' h hh sub => k v σ' H' F' fp' P s' (t.trans t') (fun i q => (h i q).trans (hi i q)) hh (t.subP sub)
section
variable {P : Prg} {G : Gls} {T : Tab} {n : Nat} {N : List Str} {sc : Scope} {X : Cx} {io : List Nat} (o : XOk P G T n N sc true X)
theorem set_ne_io {σ : L2.St} {i : Nat} {x : Option V} (h : io.contains i = false) : ∀ j ∈ io, (σ.set i x)[j]? = σ[j]? := fun j hj => by
  rw [List.getElem?_set_ne]
  rintro rfl
  have : io.contains i = true := by simpa using hj
  rw [h] at this; cases this
theorem le_peel (e : E) : ∀ σ H Q, tX X.K T G e σ H Q → tX X.K T G (peel e) σ H Q := by
  induction e with
  | frz e ih => exact fun σ H Q h => ih σ H Q (le_frz σ H Q h)
  | bw e ih => exact fun σ H Q h => ih σ H Q (le_bw σ H Q h)
  | _ => exact fun _ _ _ h => h
theorem chk_peel (e : E) : ∀ (sc : Scope) (top : Bool) (a : Expr), chkE P N e sc top a = true → chkE P N (peel e) sc top a = true := by
  induction e with
  | frz e ih => exact fun sc top a h => ih sc top a h
  | bw e ih => exact fun sc top a h => ih sc top a h
  | _ => exact fun _ _ _ h => h
theorem peel_lc (e : E) : ∀ {sc : Scope} {top : Bool} {elt : Expr} {gs : List Comprehension} {scope : Scope} {p : Pos}, chkE P N e sc top (.ListComp elt gs scope p) = true → ∃ g it c e2 vs, peel e = .lc g it c e2 vs := by
  induction e with
  | frz e ih => exact fun h => ih (show chkE P N e _ _ _ = true from h)
  | bw e ih => exact fun h => ih (show chkE P N e _ _ _ = true from h)
  | lc g it c e vs => exact fun _ => ⟨g, it, c, e, vs, rfl⟩
  | _ =>
    intro _ _ _ _ _ _ h
    first
    | (cases h; done)
    | (simp only [chkE] at h; cases h; done)
theorem swap_no {v : Expr} {t : Option Expr} {l : Nat} {env : Env} (h : isLc v = false) : swapsWith v t l env = pure false := by
  cases v <;> first | rfl | (cases h)
theorem swap_cell {elt : Expr} {gs : List Comprehension} {scope : Scope} {p : Pos} {x : Str} {px : Pos} {l : Nat} {env : Env} (h : env.scope.names.lookup x = some .cell) : swapsWith (.ListComp elt gs scope p) (some (.Name x px)) l env = pure false := by
  have k : env.kindOf x = some .cell := h
  unfold swapsWith
  simp only [k]
  have : (some NameKind.cell == some NameKind.local) = false := rfl
  simp only [this, Bool.and_false, Bool.false_and]
theorem asgOk_lc {sc : Scope} {y : Str} {py spos pos : Pos} {el : Expr} {gs : List Comprehension} {scope : Scope} : asgOk sc y py spos (.ListComp el gs scope pos) = (match sc.names.lookup y with
    | some .cell => true
    | some .local => py.line == pos.line && !(scope.names.any fun (n, k) => n == y && (k == .local || k == .cell))
    | _ => false) := rfl
include o in
theorem s_asg {i : Nat} {e : E} {a : Stmt} (h : chkS P N (.asg i e) sc io a = true) : PS X a (tS X.K T G io (.asg i e)) := by
  simp only [chkS] at h
  split at h
  · rename_i x px v pos
    obtain ⟨k0, h4, h5⟩ := and3 h
    obtain ⟨h1, h2, h3⟩ := and3 k0
    clear h k0
    obtain ⟨l1, l2⟩ := sto_ok o h2
    have hi : X.N[i]? = some x := by rw [o.hN]; simpa using h1
    have hN : X.N.Nodup := by rw [o.hN]; exact o.nd
    have hio : io.contains i = false := by simpa using h3
    have le : ∀ {te : TE}, (∀ σ H Q, tX X.K T G e σ H Q → te σ H Q) → ∀ D σ H, tS X.K T G io (.asg i e) D σ H → tAsg te (gName i) D σ H := fun {te} hle D σ H ⟨F, ρ, fp, f, ρ', s, hd, k⟩ => by
      simp only [denS] at hd
      obtain ⟨⟨y, ρ1⟩, g1, hd⟩ := Res.bind_inv hd
      cases hd
      refine hle σ H _ ⟨F, ρ, fp, y, ρ1, s, g1, fun w H1 F1 fp1 P1 s1 t1 hd1 sub => ?_⟩
      have s2 := s1.put hd1 i
      refine k _ H1 F1 _ s2 ⟨t1.ff, t1.fr, t1.le, t1.nw, fun j a hj => ?_, t1.kn⟩ (set_ne_io hio)
      rcases fpSet_cases hj with ⟨_, z⟩ | ⟨_, z⟩
      · exact sub a z
      · exact t1.sub j a z
    have plain : swapsWith v (some (.Name x px)) pos.line X.env = pure false → PS X (.Assign [.Name x px] v pos) (tS X.K T G io (.asg i e)) := fun hs =>
      (ps_set hN hi l1 ((snd e).pe sc true X o v h4) hs l2).mono (le fun _ _ _ q => q)
    cases hb : isLc v with
    | false => exact plain (swap_no hb)
    | true =>
      cases v <;> first | (cases hb; done) | (exact absurd (show false = true from h5) (by decide)) | skip
      rename_i elt gs scope pos2
      rw [asgOk_lc] at h5
      split at h5
      · rename_i hc
        exact plain (swap_cell (by rw [o.hsc]; exact hc))
      · rename_i hl
        obtain ⟨q1, q2⟩ := and2 h5
        obtain ⟨g, it, c, e2, vs, hp⟩ := peel_lc e h4
        have hcp := chk_peel e sc true _ h4
        have hpe : ∀ σ H Q, tX X.K T G e σ H Q → tX X.K T G (peel e) σ H Q := le_peel e
        rw [hp] at hcp hpe
        simp only [chkE] at hcp
        split at hcp
        · rename_i elt' tg iter ifs asy scope' p' heq
          cases heq
          obtain ⟨k0, h7, h8⟩ := and3 hcp
          obtain ⟨k1, h5', h6⟩ := and3 k0
          obtain ⟨k2, h3', h4'⟩ := and3 k1
          obtain ⟨h0, h2'⟩ := and2 k2
          clear hcp k0 k1 k2
          have e0 := of_decide_eq_true h0
          subst e0
          obtain ⟨pi1, pi2⟩ := (snd it).pi sc true X o _ _ h2'
          have hown : (ownOf N vs).map (·.2) = vs := by
            unfold ownOf
            rw [List.map_map]
            exact List.map_id' vs
          have ok : BlkOk X.N X.env.scope scope (ownOf N vs) := by
            rw [o.hN, o.hsc]
            exact blkOk_by h4'
          have hyl : X.env.scope.names.lookup x = some .local := by rw [o.hsc]; exact hl
          have hk : X.env.scope.kind = .function := by rw [o.hsc]; exact o.kind
          have hsw := sw_true (elt := elt) (gs := [⟨tg, iter, ifs, 0⟩]) (scope := scope) (pos := pos2) (py := px) (y := x) (l := pos.line) hk hyl q1 (by simpa using q2)
          cases ifs with
          | nil =>
            have hc : c = .bl true := by
              cases c with
              | bl b => exact congrArg E.bl h7
              | _ => cases h7
            subst hc
            have q := ps_setLc (spos := pos) (g := tG X.K g) (te := tX X.K T G e2) o.calm hN hi hyl hsw pi1 ok (fun s H C cl fp => pg_of (blk_ok o ok.kind s H C cl fp) g tg h5') (fun _ _ _ _ _ => pts_nil) (fun s H C cl fp => (snd e2).pe _ _ _ (blk_ok o ok.kind s H C cl fp) _ h6) pi2
            rw [hown] at q
            refine q.mono (le fun σ H Q z => le_lc h3' (fun σ H Q ⟨F, ρ, fp, w, ρ', b, s, hd, hb, k⟩ => ?_) σ H Q (hpe σ H Q z))
            simp only [den] at hd
            cases hd
            cases hb
            exact k H F fp s (Xt.refl s.le)
          | cons t r =>
            cases r with
            | cons _ _ => cases h7
            | nil =>
              have q := ps_setLc (spos := pos) (g := tG X.K g) (te := tX X.K T G e2) (tt := tT X.K T G c) o.calm hN hi hyl hsw pi1 ok (fun s H C cl fp => pg_of (blk_ok o ok.kind s H C cl fp) g tg h5') (fun s H C cl fp => pts_one ((snd c).pt _ _ _ (blk_ok o ok.kind s H C cl fp) _ h7)) (fun s H C cl fp => (snd e2).pe _ _ _ (blk_ok o ok.kind s H C cl fp) _ h6) pi2
              rw [hown] at q
              exact q.mono (le fun σ H Q z => le_lc h3' (fun _ _ _ q => q) σ H Q (hpe σ H Q z))
        · cases hcp
      · cases h5
  · cases h
end
end Rf
set_option maxRecDepth 100000
set_option maxHeartbeats 8000000
namespace Rf
open PySem PySem.Spec PyProof.Rows L2 Evl
theorem rd_ne {F : Hp} {b : Addr} {u : HO} (h : Rd F b u) : F b ≠ none := by
  rcases h with h | ⟨_, h⟩ <;> rw [h] <;> simp
theorem swap_unp {t v : Expr} {l : Nat} {env : Env} (h : isTupE t = true) : swapsWithSole [t] v l env = pure false := by
  cases t <;> first | (cases h; done) | skip
  cases v <;> rfl
theorem stores_nest {t v : Expr} {env : Env} (h : nestT t = true) : swappedStores [t] v env = pure none := by
  unfold nestT at h
  split at h
  · rename_i a b c r k p
    cases v <;> first | rfl | skip
    rename_i vs k2 p2
    unfold swappedStores
    simp only [List.filterMap_cons]
    split
    · rfl
    · split
      · rfl
      · refine if_pos ?_
        refine (Bool.or_eq_true _ _).mpr (.inl (bne_iff_ne.mpr fun z => ?_))
        have h2 := Nat.le_of_eq z.symm
        rw [List.length_cons] at h2
        exact absurd (Nat.le_trans h2 (List.length_filterMap_le _ r)) (by omega)
  · cases h
theorem stores_unp {t v : Expr} {env : Env} (ht : isTupE t = true) (h : (!isTupE v || (foldV v || nestT t)) = true) : swappedStores [t] v env = pure none := by
  by_cases hn : nestT t = true
  · exact stores_nest hn
  have hn : nestT t = false := by simpa using hn
  rw [hn, Bool.or_false] at h
  cases t <;> first | (cases ht; done) | skip
  rename_i ts k p
  cases v <;> first | rfl | skip
  rename_i vs k2 p2
  have hf : vs.all (foldedForSure 8) = true := by simpa [isTupE, foldV] using h
  unfold swappedStores
  simp only [hf]
  split
  · rfl
  · split
    · rfl
    · split
      · rfl
      · rfl
section
variable {P : Prg} {G : Gls} {T : Tab} {n : Nat} {N : List Str} {sc : Scope} {X : Cx} {io : List Nat} (o : XOk P G T n N sc true X)
theorem tS_next {K : Frag} {D : Ends} {F H F' H' : Hp} {σ σ' : L2.St} {fp fp' : Nat → As} {ρ' : Ro} (k : Fin K io D F H σ fp ρ' .nx) (s : St K F' H' σ' ρ' fp') (t : Xt F H fp F' H' fp') (hi : ∀ i ∈ io, σ'[i]? = σ[i]?) : D.nx σ' H' := k σ' H' F' fp' s t hi
include o
theorem s_unp {g : Tg} {e : E} {a : Stmt} (h : chkS P N (.unp g e) sc io a = true) : PS X a (tS X.K T G io (.unp g e)) := by
  simp only [chkS] at h
  split at h
  · rename_i t v pos
    obtain ⟨k0, h5, h6⟩ := and3 h
    obtain ⟨k1, h3, h4⟩ := and3 k0
    obtain ⟨h1, h2⟩ := and2 k1
    clear h k0 k1
    have hs : swapsWithSole [t] v pos.line X.env = pure false := swap_unp h1
    have hw : swappedStores [t] v X.env = pure none := stores_unp h1 h2
    have ha : (assignEach [t] X.env).map (·.2) = [assign t X.env] := by
      cases t <;> first | rfl | (cases h1; done)
    refine (ps_asg ((snd e).pe sc true X o v h6) (pg_of o g t h4) hs hw ha).mono fun D σ H ⟨F, ρ, fp, f, ρ', s, hd, k⟩ => ?_
    simp only [denS] at hd
    obtain ⟨⟨y, ρ1⟩, g1, hd⟩ := Res.bind_inv hd
    obtain ⟨y', g2, hd⟩ := Res.bind_inv hd
    obtain ⟨ρ2, g3, hd⟩ := Res.bind_inv hd
    cases hd
    refine ⟨F, ρ, fp, y, ρ1, s, g1, fun w H1 F1 fp1 P1 s1 t1 hd1 sub => ?_⟩
    obtain ⟨F2, s2, e2, q2, d2⟩ := hd1.settle s1 g2
    refine ⟨F2, ρ1, fp1, y', _, s2, d2, g3, fun σ' fp' s3 fr sb => ?_⟩
    refine tS_next k s3 ((t1.grow sub e2 s2.le q2).lower fun i a z => ⟨i, sb i a z⟩) fun i hi => fr i fun hm => ?_
    have := List.all_eq_true.mp h5 i hm
    simp [hi] at this
  · cases h
theorem s_aug {i : Nat} {op : Operator} {e : E} {a : Stmt} (h : chkS P N (.aug i op e) sc io a = true) : PS X a (tS X.K T G io (.aug i op e)) := by
  simp only [chkS] at h
  split at h
  · rename_i x px op2 v pos
    obtain ⟨k0, h5, h6⟩ := and3 h
    obtain ⟨k1, h3, h4⟩ := and3 k0
    obtain ⟨h1, h2⟩ := and2 k1
    clear h k0 k1
    have e0 := of_decide_eq_true h4
    subst e0
    obtain ⟨l1, l2⟩ := sto_ok o h2
    have hi : X.N[i]? = some x := by rw [o.hN]; simpa using h1
    have hN : X.N.Nodup := by rw [o.hN]; exact o.nd
    have hio : io.contains i = false := by simpa using h3
    have le : ∀ (fn : Int → Int → Int), (∀ (x : PyData) (y : PV) (z : Int), augS op2 x y = .ok z → ∃ a b, x = .int a ∧ y = .d (.int b) ∧ z = fn a b) →
        ∀ D σ H, tS X.K T G io (.aug i op2 e) D σ H → tAug i (tX X.K T G e) (ipI fn) D σ H := fun fn hfn D σ H ⟨F, ρ, fp, f, ρ', s, hd, k⟩ => by
      simp only [denS] at hd
      obtain ⟨x0, g0, hd⟩ := Res.bind_inv hd
      obtain ⟨⟨y, ρ1⟩, g1, hd⟩ := Res.bind_inv hd
      obtain ⟨z, g2, hd⟩ := Res.bind_inv hd
      cases hd
      obtain ⟨a, b, r1, r2, r3⟩ := hfn x0 y z g2
      subst r1; subst r2; subst r3
      unfold getD at g0
      split at g0
      · rename_i z hz
        cases g0
        obtain ⟨u, u1, u2⟩ := s.ow i _ hz
        have hu := u2.dat.int_inv
        subst hu
        refine ⟨_, u1, F, ρ, fp, _, ρ1, s, g1, fun w H1 F1 fp1 P1 s1 t1 hd1 sub => ?_⟩
        have hw := hd1.ow.dat.int_inv
        subst hw
        refine ⟨a, b, rfl, rfl, ?_⟩
        refine tS_next k (s1.putD (.int (fn a b)) i) (t1.trans ?_) (set_ne_io hio)
        exact (Xt.refl s1.le).lower fun j c hj => by
          rcases fpSet_cases hj with ⟨_, z⟩ | ⟨_, z⟩
          · exact z.elim
          · exact ⟨j, z⟩
      · cases g0
    cases op2 <;> first | (cases h5; done) | skip
    · refine (ps_aug hN hi l1 ((snd e).pe sc true X o v h6) ip_add l2).mono (le _ fun x y z hq => ?_)
      unfold augS at hq
      split at hq
      · cases hq; exact ⟨_, _, rfl, rfl, rfl⟩
      · rename_i hh; cases hh
      · cases hq
    · refine (ps_aug hN hi l1 ((snd e).pe sc true X o v h6) ip_sub l2).mono (le _ fun x y z hq => ?_)
      unfold augS at hq
      split at hq
      · rename_i hh; cases hh
      · cases hq; exact ⟨_, _, rfl, rfl, rfl⟩
      · cases hq
  · cases h
theorem s_setP {p : Pl} {ke ve : E} {a : Stmt} (h : chkS P N (.setP p ke ve) sc io a = true) : PS X a (tS X.K T G io (.setP p ke ve)) := by
  simp only [chkS] at h
  split at h
  · rename_i i o1 j1 p1 w1 pos
    obtain ⟨k0, h4, h5⟩ := and3 h
    obtain ⟨k1, h2, h3⟩ := and3 k0
    have h1 := k1
    clear h k0 k1
    have hl : isLc w1 = false := by simpa using h3
    have ha : ∀ v, assign (.Subscript o1 j1 p1) X.env v = (do
      let ov ← holding [v] (eval o1 X.env)
      let iv ← holding [v, ov] (eval j1 X.env)
      standAt p1
      holding [v, ov, iv] (setItem ov iv v)
      release [v, ov, iv] []) := by
      intro v
      cases j1 <;> first | rfl | (cases h2; done)
    have hs0 : swapsWith w1 (some (.Subscript o1 j1 p1)) pos.line X.env = pure false := swap_no hl
    refine (ps_asg (tg := .Subscript o1 j1 p1) ((snd ve).pe sc true X o w1 h5) (pg_sub (nm_ok o h1).1 ((snd ke).pe sc true X o j1 h4) set_list ha) (show swapsWithSole [_] w1 pos.line X.env = pure false from hs0) rfl rfl).mono fun D σ H ⟨F, ρ, fp, f, ρ', s, hd, k⟩ => ?_
    simp only [denS] at hd
    obtain ⟨⟨y, ρ1⟩, g1, hd⟩ := Res.bind_inv hd
    dsimp only at hd
    split at hd
    · cases hd
    rename_i x0 hx0
    obtain ⟨⟨kk, ρ2⟩, g2, hd⟩ := Res.bind_inv hd
    dsimp only at hd
    split at hd
    · rename_i xs j hxs
      obtain ⟨y', g3, hd⟩ := Res.bind_inv hd
      split at hd
      · rename_i m hm
        cases hd
        refine ⟨F, ρ, fp, y, ρ1, s, g1, fun w H1 F1 fp1 P1 s1 t1 hd1 sub1 => ?_⟩
        obtain ⟨u, e1, e2⟩ := s1.ow i _ hx0
        refine ⟨u, e1, F1, ρ1, fp1, _, ρ2, s1, g2, fun kv H2 F2 fp2 P2 s2 t2 hd2 sub2 => ?_⟩
        have hk := hd2.ow.dat.int_inv
        subst hk
        have hd1' := hd1.keep t2
        obtain ⟨F3, s3, e3, q3, d3⟩ := hd1'.settle s2 g3
        obtain ⟨q, ys, f1, f2, f3, f4⟩ := s3.list hxs
        rw [e1] at f1
        cases f1
        have hst := s3.mut hxs (by exact e1) f2 f3 (f4.set d3 m)
        have t12 := t1.trans t2
        refine ⟨q, ys, j, m, rfl, rfl, f3, by rw [f4.length]; exact hm, ?_⟩
        refine tS_next k hst.1 ((t12.grow (P := P1) (fun a ha => ?_) e3 s3.le q3).trans hst.2) fun _ _ => rfl
        exact sub1 a ha
      · cases hd
    · cases hd
  · rename_i i key o1 j1 p1 w1 pos
    obtain ⟨k0, h4, h5⟩ := and3 h
    obtain ⟨h1, h2, h3⟩ := and3 k0
    clear h k0
    have hl : isLc w1 = false := by simpa using h3
    refine (ps_dput (dunits o) (nm_ok o h1).1 ((snd ke).pe sc true X o j1 h4) ((snd ve).pe sc true X o w1 h5) (swap_no hl)).mono fun D σ H ⟨F, ρ, fp, f, ρ', s, hd, k⟩ => ?_
    simp only [denS] at hd
    obtain ⟨⟨y, ρ1⟩, g1, hd⟩ := Res.bind_inv hd
    dsimp only at hd
    split at hd
    · cases hd
    rename_i x0 hx0
    obtain ⟨⟨kk, ρ2⟩, g2, hd⟩ := Res.bind_inv hd
    dsimp only at hd
    split at hd
    · rename_i kvs sk hxs
      obtain ⟨y', g3, hd⟩ := Res.bind_inv hd
      split at hd
      · rename_i c hk hc
        cases hd
        obtain ⟨hke, hsm⟩ := of_decide_eq_true hk
        subst hke
        refine ⟨F, ρ, fp, y, ρ1, s, g1, fun w H1 F1 fp1 P1 s1 t1 hd1 sub1 => ?_⟩
        obtain ⟨u, e1, e2⟩ := s1.ow i _ hx0
        refine ⟨u, e1, F1, ρ1, fp1, _, ρ2, s1, g2, fun kv H2 F2 fp2 P2 s2 t2 hd2 sub2 => ?_⟩
        have hk := hd2.ow.dat.str_inv
        subst hk
        have hd1' := hd1.keep t2
        obtain ⟨F3, s3, e3, q3, d3⟩ := hd1'.settle s2 g3
        obtain ⟨q, kv, as, f1, f2, f3, f4, f5, f6, f7⟩ := s3.dict hxs
        rw [e1] at f1
        cases f1
        obtain ⟨as', c1, c2⟩ := f4.putD (key := sk) d3 f7
        have hput : putK kv (.inr sk : Key) w = mapK kv (.inr sk) w := by
          unfold putK
          rw [if_pos (f4.any hc)]
          rfl
        have ow' : Ow X.K F3 (upd H2 q (.dK (putK kv (.inr sk : Key) w))) (.ref q) (.M (kvSet sk (.d y') kvs)) (fp2 i) := by
          rw [hput]
          refine .M f2 upd_same (c1.up (Ex.refl _) fun a ha o ho => ?_) (fun z => f5 (c2 q z)) (fun a ha => f6 a (c2 a ha)) (by rw [kvSet_keys]; exact f7)
          rw [upd_ne]
          · exact ho
          · rintro rfl; exact f5 (c2 _ ha)
        obtain ⟨s4, t4⟩ := s3.mutG f2 rfl e1 ow'
        have t12 := t1.trans t2
        have hlen : kv.length < sizeLine := mil_lt (by rw [f4.length]; exact hsm)
        refine ⟨q, _, rfl, DPut.k (k := .inr sk) f3 hlen, ?_⟩
        refine tS_next k s4 ((t12.grow (P := P1) sub1 e3 s3.le q3).trans t4) fun _ _ => rfl
      · cases hd
    · cases hd
  · cases h
theorem s_stI {i : Nat} {ke ve : E} {a : Stmt} (h : chkS P N (.stI i ke ve) sc io a = true) : PS X a (tS X.K T G io (.stI i ke ve)) := by
  simp only [chkS] at h
  split at h
  · rename_i o1 j1 p1 w1 pos
    obtain ⟨k0, h4, h5⟩ := and3 h
    obtain ⟨h1, h2, h3⟩ := and3 k0
    clear h k0
    have hl : isLc w1 = false := by simpa using h3
    refine (ps_dput (dunits o) (nm_ok o h1).1 ((snd ke).pe sc true X o j1 h4) ((snd ve).pe sc true X o w1 h5) (swap_no hl)).mono fun D σ H ⟨F, ρ, fp, f, ρ', s, hd, k⟩ => ?_
    simp only [denS] at hd
    obtain ⟨⟨y, ρ1⟩, g1, hd⟩ := Res.bind_inv hd
    dsimp only at hd
    split at hd
    · cases hd
    rename_i x0 hx0
    obtain ⟨⟨kk, ρ2⟩, g2, hd⟩ := Res.bind_inv hd
    dsimp only at hd
    split at hd
    · rename_i kvs k0 hxs
      split at hd
      · rename_i sk hky
        obtain ⟨y', g3, hd⟩ := Res.bind_inv hd
        obtain ⟨_, hk, hd⟩ := Res.bind_inv hd
        cases hd
        have hsm := of_decide_eq_true (Res.guard_inv hk)
        refine ⟨F, ρ, fp, y, ρ1, s, g1, fun w H1 F1 fp1 P1 s1 t1 hd1 sub1 => ?_⟩
        obtain ⟨u, e1, e2⟩ := s1.ow i _ hx0
        refine ⟨u, e1, F1, ρ1, fp1, _, ρ2, s1, g2, fun kv H2 F2 fp2 P2 s2 t2 hd2 sub2 => ?_⟩
        have hk := kyV hd2.ow.dat hky
        subst hk
        have hd1' := hd1.keep t2
        obtain ⟨F3, s3, e3, q3, d3⟩ := hd1'.settle s2 g3
        obtain ⟨q, kv, f1, f2, f3, f4⟩ := s3.idict hxs
        rw [e1] at f1
        cases f1
        have ow' : Ow X.K F3 (upd H2 q (.dK (putK kv (sk : Key) w))) (.ref q) (.I (igPut sk y' kvs)) (fp2 i) := .I f2 upd_same (f4.put d3)
        obtain ⟨s4, t4⟩ := s3.mutG f2 rfl e1 ow'
        have t12 := t1.trans t2
        have hlen : kv.length < sizeLine := mil_lt (by rw [f4.length]; exact hsm)
        refine ⟨q, _, rfl, DPut.k (k := sk) f3 hlen, ?_⟩
        exact tS_next k s4 ((t12.grow (P := P1) sub1 e3 s3.le q3).trans t4) fun _ _ => rfl
      · cases hd
    · cases hd
  · cases h
theorem s_setSl {p : Pl} {le he ve : E} {a : Stmt} (h : chkS P N (.setSl p le he ve) sc io a = true) : PS X a (tS X.K T G io (.setSl p le he ve)) := by
  simp only [chkS] at h
  split at h
  · rename_i i o1 l1 h1' p1 p2 w1 pos
    obtain ⟨k0, h4, h5⟩ := and3 h
    obtain ⟨k1, h2, h3⟩ := and3 k0
    have h1 := k1
    clear h k0 k1
    have hl : isLc w1 = false := by simpa using h2
    have hs0 : swapsWith w1 (some (.Subscript o1 (.Slice (some l1) (some h1') none p1) p2)) pos.line X.env = pure false := swap_no hl
    refine (ps_asg (tg := .Subscript o1 (.Slice (some l1) (some h1') none p1) p2) ((snd ve).pe sc true X o w1 h5) (pg_setSl (nm_ok o h1).1 ((snd le).pe sc true X o l1 h3) ((snd he).pe sc true X o h1' h4)) (show swapsWithSole [_] w1 pos.line X.env = pure false from hs0) rfl rfl).mono fun D σ H ⟨F, ρ, fp, f, ρ', s, hd, k⟩ => ?_
    simp only [denS] at hd
    obtain ⟨⟨y, ρ1⟩, g1, hd⟩ := Res.bind_inv hd
    dsimp only at hd
    split at hd
    · cases hd
    rename_i x0 hx0
    obtain ⟨⟨lv, ρ2⟩, g2, hd⟩ := Res.bind_inv hd
    obtain ⟨⟨hv, ρ3⟩, g3, hd⟩ := Res.bind_inv hd
    obtain ⟨y', g4, hd⟩ := Res.bind_inv hd
    dsimp only at hd
    split at hd
    · rename_i xs a b ys hxs _ _
      obtain ⟨_, g5, hd⟩ := Res.bind_inv hd
      cases hd
      obtain ⟨c1, c2, c3, c4⟩ := of_decide_eq_true (Res.guard_inv g5)
      refine ⟨F, ρ, fp, y, ρ1, s, g1, fun w H1 F1 fp1 P1 s1 t1 hd1 sub1 => ?_⟩
      obtain ⟨u, e1, e2⟩ := s1.ow i _ hx0
      refine ⟨u, e1, F1, ρ1, fp1, _, ρ2, s1, g2, fun kv H2 F2 fp2 P2 s2 t2 hd2 sub2 => ?_⟩
      have hk := hd2.ow.dat.int_inv
      subst hk
      have hd1' := hd1.keep t2
      refine ⟨F2, ρ2, fp2, _, ρ3, s2, g3, fun kv H3 F3 fp3 P3 s3 t3 hd3 sub3 => ?_⟩
      have hk := hd3.ow.dat.int_inv
      subst hk
      have hd1'' := hd1'.keep t3
      obtain ⟨F4, s4, e4, q4, d4⟩ := hd1''.settle s3 g4
      obtain ⟨q, zs, f1, f2, f3, f4⟩ := s4.list hxs
      rw [e1] at f1
      cases f1
      obtain ⟨b1, vs, rfl, v1, v2⟩ := d4.lst_inv
      have hne : q ≠ b1 ∨ (X.K.lookup b1).isSome := by
        rcases v1 with v1 | ⟨_, _, v1, _, _⟩
        · exact .inl fun z => rd_ne v1 (z ▸ s4.nf i q f2)
        · exact .inr (by rw [v1]; rfl)
      have hst := s4.mut hxs (by exact e1) f2 f3 (((f4.take a.toNat).append v2).append (f4.drop b.toNat))
      have t12 := (t1.trans t2).trans t3
      refine ⟨q, b1, zs, vs, a, b, rfl, rfl, rfl, rfl, f3, v1.up s4.le, hne, c1, c2, by rw [f4.length]; exact c3, by rw [f4.length, v2.length]; exact Nat.le_trans c4 (by decide), ?_⟩
      refine tS_next k hst.1 ((t12.grow (P := P1) (fun a ha => ?_) e4 s4.le q4).trans hst.2) fun _ _ => rfl
      exact sub1 a ha
    · cases hd
  · cases h
theorem s_ex {e : E} {a : Stmt} (h : chkS P N (.ex e) sc io a = true) : PS X a (tS X.K T G io (.ex e)) := by
  simp only [chkS] at h
  split at h
  · obtain ⟨h1, h2⟩ := and2 h
    refine (ps_expr ((snd e).pe sc true X o _ h1) (swap_no (by simpa using h2))).mono fun D σ H ⟨F, ρ, fp, f, ρ', s, hd, k⟩ => ?_
    simp only [denS] at hd
    obtain ⟨⟨y, ρ1⟩, g1, hd⟩ := Res.bind_inv hd
    cases hd
    exact ⟨F, ρ, fp, y, ρ1, s, g1, fun w H1 F1 fp1 P1 s1 t1 hd1 sub => tS_next k s1 t1 fun _ _ => rfl⟩
  · cases h
theorem s_ret {e : E} {a : Stmt} (h : chkS P N (.ret e) sc io a = true) : PS X a (tS X.K T G io (.ret e)) := by
  simp only [chkS] at h
  split at h
  · refine (ps_ret ((snd e).pe sc true X o _ h)).mono fun D σ H ⟨F, ρ, fp, f, ρ', s, hd, k⟩ => ?_
    simp only [denS] at hd
    obtain ⟨⟨y, ρ1⟩, g1, hd⟩ := Res.bind_inv hd
    cases hd
    exact ⟨F, ρ, fp, y, ρ1, s, g1, fun w H1 F1 fp1 P1 s1 t1 hd1 sub => k w σ H1 F1 fp1 P1 s1 t1 (fun _ _ => rfl) hd1 sub⟩
  · cases h
omit o in
theorem Fin.seq {K : Frag} {D : Ends} {F H : Hp} {σ : L2.St} {fp : Nat → As} {ρ1 : Ro} {r : S} {f : Fl} {ρ' : Ro} (e : denS T G r ρ1 = .ok (f, ρ')) (k : Fin K io D F H σ fp ρ' f) : Fin K io { D with nx := tS K T G io r D } F H σ fp ρ1 .nx :=
  fun σ' H' F' fp' s' t' hi => ⟨F', ρ1, fp', f, ρ', s', e, k.later t' hi⟩
theorem s_ite {c : E} {x y : S} {t : Expr} {b r : List Stmt} {pos : Pos} (hc : chkE P N c sc true t = true) (hb : PSs X b (tS X.K T G io x)) (hr : PSs X r (tS X.K T G io y)) : PS X (.If t b r pos) (tS X.K T G io (.ife c x y)) := by
  refine (ps_if ((snd c).pt sc true X o t hc) hb hr).mono fun D σ H ⟨F, ρ, fp, f, ρ', s, hd, k⟩ => ?_
  simp only [denS] at hd
  obtain ⟨⟨z, ρ1⟩, g1, hd⟩ := Res.bind_inv hd
  obtain ⟨u, g2, hd⟩ := Res.bind_inv hd
  dsimp only at hd
  refine ⟨F, ρ, fp, z, ρ1, u, s, g1, g2, fun H1 F1 fp1 s1 t1 => ?_⟩
  cases u with
  | true => exact ⟨F1, ρ1, fp1, f, ρ', s1, hd, k.later t1 fun _ _ => rfl⟩
  | false => exact ⟨F1, ρ1, fp1, f, ρ', s1, hd, k.later t1 fun _ _ => rfl⟩
theorem s_whl (hx : PassesOwn (model X.prog X.w) X.A X.env X.xe) {c : E} {x : S} {t : Expr} {b : List Stmt} {pos : Pos} (hc : chkE P N c sc true t = true) (hb : PSs X b (tS X.K T G io x)) : PS X (.While t b [] pos) (tS X.K T G io (.whl c x)) := by
  refine (ps_while hx ((snd c).pt sc true X o t hc) hb).mono fun D σ H ⟨F, ρ, fp, f, ρ', s, hd, k⟩ => ?_
  simp only [denS] at hd
  obtain ⟨m0, hm0⟩ := whl_inv hd
  refine ⟨fun m σ1 H1 => ∃ F1 ρ1 fp1, St X.K F1 H1 σ1 ρ1 fp1 ∧ loopN (fun ρ => do let (x, ρ1) ← den T G c ρ; let t ← asBool x; .ok (t, ρ1)) (fun ρ => denS T G x ρ) m ρ1 = some (.ok (f, ρ')) ∧ Fin X.K io D F1 H1 σ1 fp1 ρ' f,
    ⟨m0, F, ρ, fp, s, hm0, k⟩, fun m σ1 H1 ⟨F1, ρ1, fp1, s1, hl, k1⟩ => ?_⟩
  cases m with
  | zero => cases hl
  | succ m =>
    unfold loopN at hl
    split at hl
    · rename_i ρ2 hc2
      obtain ⟨⟨z, ρ2'⟩, g1, g2⟩ := Res.bind_inv hc2
      obtain ⟨u, g3, g4⟩ := Res.bind_inv g2
      cases g4
      refine ⟨F1, ρ1, fp1, z, _, true, s1, g1, g3, fun H2 F2 fp2 s2 t2 => ?_⟩
      dsimp only
      rw [if_pos rfl]
      have k2 := k1.later t2 fun _ _ => rfl
      refine ⟨fun σ3 H3 => ∃ F3 ρ3 fp3, St X.K F3 H3 σ3 ρ3 fp3 ∧ loopN (fun ρ => do let (x, ρ1) ← den T G c ρ; let t ← asBool x; .ok (t, ρ1)) (fun ρ => denS T G x ρ) m ρ3 = some (.ok (f, ρ')) ∧ Fin X.K io D F3 H3 σ3 fp3 ρ' f, fun σ3 H3 w => ⟨m, Nat.lt_succ_self m, w⟩, ?_⟩
      split at hl
      · rename_i ρ3 hb3
        exact ⟨F2, _, fp2, .nx, ρ3, s2, hb3, fun σ4 H4 F4 fp4 s4 t4 h4 => ⟨F4, ρ3, fp4, s4, hl, k2.later t4 h4⟩⟩
      · rename_i ρ3 hb3
        exact ⟨F2, _, fp2, .ct, ρ3, s2, hb3, fun σ4 H4 F4 fp4 s4 t4 h4 => ⟨F4, ρ3, fp4, s4, hl, k2.later t4 h4⟩⟩
      · rename_i ρ3 hb3
        cases hl
        exact ⟨F2, _, fp2, .bk, _, s2, hb3, k2⟩
      · rename_i x3 ρ3 hb3
        cases hl
        exact ⟨F2, _, fp2, .rt x3, _, s2, hb3, k2⟩
      · cases hl
      · cases hl
    · rename_i ρ2 hc2
      cases hl
      obtain ⟨⟨z, ρ2'⟩, g1, g2⟩ := Res.bind_inv hc2
      obtain ⟨u, g3, g4⟩ := Res.bind_inv g2
      cases g4
      refine ⟨F1, ρ1, fp1, z, _, false, s1, g1, g3, fun H2 F2 fp2 s2 t2 => ?_⟩
      dsimp only
      rw [if_neg Bool.false_ne_true]
      exact k1 σ1 H2 F2 fp2 s2 t2 fun _ _ => rfl
    · cases hl
    · cases hl
theorem s_for (hx : PassesOwn (model X.prog X.w) X.A X.env X.xe) {g : Tg} {it : E} {x : S} {t i : Expr} {b : List Stmt} {pos : Pos} (hi : chkI P N it sc true t i = true) (hg : chkT N g sc true t = true) (hio : (slots g).all (fun i => !io.contains i) = true) (hb : PSs X b (tS X.K T G io x)) :
    PS X (.For t i b [] pos) (tS X.K T G io (.for_ g it x)) := by
  obtain ⟨p1, p2⟩ := (snd it).pi sc true X o _ _ hi
  refine (ps_for hx o.calm p1 (pg_of o g t hg) hb p2).mono fun D σ H ⟨F, ρ, fp, f, ρ', s, hd, k⟩ => ?_
  simp only [denS] at hd
  obtain ⟨⟨xs, ρ1⟩, g1, hd⟩ := Res.bind_inv hd
  dsimp only at hd
  refine ⟨F, ρ, fp, xs, ρ1, s, g1, fun J H1 F1 fp1 s1 t1 its => ?_⟩
  refine ⟨fun i m σ2 H2 => m = xs.length - i ∧ i ≤ xs.length ∧ ∃ F2 ρ2 fp2, Ex F1 F2 ∧ St X.K F2 H2 σ2 ρ2 fp2 ∧ forF (fun x' ρ => do let ρ2 ← stTg g x' ρ; denS T G x ρ2) (xs.drop i) ρ2 = .ok (f, ρ') ∧ Fin X.K io D F2 H2 σ2 fp2 ρ' f,
    ⟨_, rfl, Nat.zero_le _, F1, ρ1, fp1, Ex.refl F1, s1, by simpa using hd, k.later t1 fun _ _ => rfl⟩, ?_⟩
  rintro i m σ2 H2 ⟨rfl, hil, F2, ρ2, fp2, e2, s2, hf, k2⟩
  obtain ⟨j1, j2⟩ := its i H2 F2 e2 s2.le
  by_cases hlt : i < xs.length
  · have hx0 : xs[i]? = some xs[i] := List.getElem?_eq_getElem hlt
    obtain ⟨j3, j4⟩ := j1 _ hx0
    refine .inr ⟨j3, fun σ3 H3 => ∃ F3 ρ3 fp3, Ex F1 F3 ∧ St X.K F3 H3 σ3 ρ3 fp3 ∧ forF (fun x' ρ => do let ρ2 ← stTg g x' ρ; denS T G x ρ2) (xs.drop (i + 1)) ρ3 = .ok (f, ρ') ∧ Fin X.K io D F3 H3 σ3 fp3 ρ' f,
      fun σ3 H3 w => ⟨_, by omega, rfl, hlt, w⟩, fun v H3 hy => ?_⟩
    obtain ⟨F3, nw, r3⟩ := j4 v H3 hy
    have s3 := nw.st s2
    rw [List.drop_eq_getElem_cons hlt] at hf
    unfold forF at hf
    have step : ∀ {fl : Fl} {ρ4 : Ro}, (do let ρ2 ← stTg g xs[i] ρ2; denS T G x ρ2) = .ok (fl, ρ4) → ∃ ρ3, stTg g xs[i] ρ2 = .ok ρ3 ∧ denS T G x ρ3 = .ok (fl, ρ4) := fun hq => Res.bind_inv hq
    have k3 := k2.later (nw.xt (fp := fp2)) fun _ _ => rfl
    have go : ∀ {fl : Fl} {ρ4 : Ro} {D' : Ends}, (do let ρ2 ← stTg g xs[i] ρ2; denS T G x ρ2) = .ok (fl, ρ4) → Fin X.K io D' F3 H3 σ2 fp2 ρ4 fl → tG X.K g v σ2 H3 fun σ4 H4 => tS X.K T G io x D' σ4 H4 := fun {fl ρ4 D'} hq kk => by
      obtain ⟨ρ3, q1, q2⟩ := step hq
      refine ⟨F3, ρ2, fp2, _, ρ3, s3, r3, q1, fun σ5 fp5 s5 fr sb => ⟨F3, ρ3, fp5, fl, ρ4, s5, q2, ?_⟩⟩
      refine kk.later ((Xt.refl s5.le).lower fun i a z => ⟨i, sb i a z⟩) fun j hj => fr j fun hm => ?_
      have := List.all_eq_true.mp hio j hm
      simp [hj] at this
    split at hf
    · rename_i ρ4 hq
      exact go hq fun σ5 H5 F5 fp5 s5 t5 h5 => ⟨F5, ρ4, fp5, (e2.trans nw.ff).trans t5.ff, s5, hf, k3.later t5 h5⟩
    · rename_i ρ4 hq
      exact go hq fun σ5 H5 F5 fp5 s5 t5 h5 => ⟨F5, ρ4, fp5, (e2.trans nw.ff).trans t5.ff, s5, hf, k3.later t5 h5⟩
    · rename_i ρ4 hq
      cases hf
      exact go hq k3
    · rename_i x4 ρ4 hq
      cases hf
      exact go hq k3
    · cases hf
    · cases hf
  · refine .inl ⟨j2 (by omega), ?_⟩
    rw [List.drop_eq_nil_of_le (by omega)] at hf
    cases hf
    exact k2 σ2 H2 F2 fp2 s2 (Xt.refl s2.le) fun _ _ => rfl
theorem s_forO (hx : PassesOwn (model X.prog X.w) X.A X.env X.xe) {j : Nat} {g : Tg} {x : S} {t i : Expr} {b : List Stmt} {pos : Pos} (hi : chkN N j sc i = true) (hg : chkT N g sc true t = true) (hio : (slots g).all (fun i => !(j :: io).contains i) = true) (hb : PSs X b (tS X.K T G (j :: io) x)) :
    PS X (.For t i b [] pos) (tS X.K T G io (.forO j g x)) := by
  have hf : ∀ x, foldedSetIterable i X.env x = pure x := by
    unfold chkN at hi
    split at hi
    · intro _; rfl
    · cases hi
  refine (ps_for hx o.calm (pi_list (nm_ok o hi).1) (pg_of o g t hg) hb hf).mono fun D σ H ⟨F, ρ, fp, f, ρ', s, hd, k⟩ => ?_
  simp only [denS] at hd
  split at hd
  · rename_i xs hr
    obtain ⟨⟨f0, ρ0⟩, hl, hd⟩ := Res.bind_inv hd
    obtain ⟨v, hv, s0, t0, h0⟩ := s.take hr
    have k0 : Fin X.K (j :: io) D F H σ (fpSet fp j none0) ρ0 f0 := by
      cases f0 with
      | nx =>
        cases hd
        refine fun σ' H' F' fp' s' t' hh => ?_
        have s2 := s'.put (h0.keep t') j
        have e : σ'.set j (some v) = σ' := by
          have := hh j List.mem_cons_self
          rw [hv] at this
          refine List.ext_getElem? fun n => ?_
          by_cases hn : j = n
          · subst hn
            have hl := (List.getElem?_eq_some_iff.mp this).1
            rw [List.getElem?_set_self hl, this]
          · rw [List.getElem?_set_ne hn]
        rw [e] at s2
        have t2 := t0.trans t'
        refine k σ' H' F' _ s2 ⟨t2.ff, t2.fr, t2.le, t2.nw, fun n a hn => ?_, t2.kn⟩ fun i hi => hh i (List.mem_cons_of_mem _ hi)
        rcases fpSet_cases hn with ⟨_, h1⟩ | ⟨_, h1⟩
        · exact .inl ⟨j, h1⟩
        · exact t2.sub n a h1
      | bk => cases hd; exact fun σ' H' F' fp' s' t' hh => k σ' H' F' fp' s' (t0.trans t') fun i hi => hh i (List.mem_cons_of_mem _ hi)
      | ct => cases hd; exact fun σ' H' F' fp' s' t' hh => k σ' H' F' fp' s' (t0.trans t') fun i hi => hh i (List.mem_cons_of_mem _ hi)
      | rt y => cases hd; exact fun v σ' H' F' fp' P s' t' hh hd sub => k v σ' H' F' fp' P s' (t0.trans t') (fun i hi => hh i (List.mem_cons_of_mem _ hi)) hd (t0.subP sub)
    clear hd k
    cases h0.ow with
    | @L p ys _ _ hp h1 h2 =>
      refine ⟨.ref p, hv, p, rfl, ⟨ys, .inl (.inl h1)⟩, fun i m σ2 H2 => m = xs.length - i ∧ i ≤ xs.length ∧ ∃ F2 ρ2 fp2, Xt F H (fpSet fp j none0) F2 H2 fp2 ∧ St X.K F2 H2 σ2 ρ2 fp2 ∧ forF (fun x' ρ => do let ρ2 ← stTg g x' ρ; denS T G x ρ2) (xs.drop i) ρ2 = .ok (f0, ρ0) ∧ Fin X.K (j :: io) D F2 H2 σ2 fp2 ρ0 f0,
        ⟨_, rfl, Nat.zero_le _, F, _, _, Xt.refl s0.le, s0, by simpa using hl, k0⟩, ?_⟩
      rintro i m σ2 H2 ⟨rfl, hil, F2, ρ2, fp2, tt, s2, hf, k2⟩
      have hp2 : H2 p = some (.lst ys) := tt.fr p _ h1 (h0.dj p hp)
      have sq : SqL X.K H2 p ys := .inl (.inl hp2)
      by_cases hlt : i < xs.length
      · have hx0 : xs[i]? = some xs[i] := List.getElem?_eq_getElem hlt
        obtain ⟨w, hw, hwr⟩ := h2.get hx0
        refine .inr ⟨⟨ys, w, sq, hw⟩, fun σ3 H3 => ∃ F3 ρ3 fp3, Xt F H (fpSet fp j none0) F3 H3 fp3 ∧ St X.K F3 H3 σ3 ρ3 fp3 ∧ forF (fun x' ρ => do let ρ2 ← stTg g x' ρ; denS T G x ρ2) (xs.drop (i + 1)) ρ3 = .ok (f0, ρ0) ∧ Fin X.K (j :: io) D F3 H3 σ3 fp3 ρ0 f0,
          fun σ3 H3 w => ⟨_, by omega, rfl, hlt, w⟩, fun v H3 hy => ?_⟩
        obtain ⟨rfl, fy⟩ := hy
        have : v = w := Option.some.inj ((fy ys sq).symm.trans hw)
        subst this
        have r3 := hwr.up tt.ff
        rw [List.drop_eq_getElem_cons hlt] at hf
        unfold forF at hf
        have step : ∀ {fl : Fl} {ρ4 : Ro}, (do let ρ2 ← stTg g xs[i] ρ2; denS T G x ρ2) = .ok (fl, ρ4) → ∃ ρ3, stTg g xs[i] ρ2 = .ok ρ3 ∧ denS T G x ρ3 = .ok (fl, ρ4) := fun hq => Res.bind_inv hq
        have go : ∀ {fl : Fl} {ρ4 : Ro} {D' : Ends}, (do let ρ2 ← stTg g xs[i] ρ2; denS T G x ρ2) = .ok (fl, ρ4) → Fin X.K (j :: io) D' F2 H3 σ2 fp2 ρ4 fl → tG X.K g v σ2 H3 fun σ4 H4 => tS X.K T G (j :: io) x D' σ4 H4 := fun {fl ρ4 D'} hq kk => by
          obtain ⟨ρ3, q1, q2⟩ := step hq
          refine ⟨F2, ρ2, fp2, _, ρ3, s2, r3, q1, fun σ5 fp5 s5 fr sb => ⟨F2, ρ3, fp5, fl, ρ4, s5, q2, ?_⟩⟩
          refine kk.later ((Xt.refl s5.le).lower fun i a z => ⟨i, sb i a z⟩) fun j' hj => fr j' fun hm => ?_
          have := List.all_eq_true.mp hio j' hm
          rw [List.contains_iff_mem.mpr hj] at this
          cases this
        split at hf
        · rename_i ρ4 hq
          exact go hq fun σ5 H5 F5 fp5 s5 t5 h5 => ⟨F5, ρ4, fp5, tt.trans t5, s5, hf, k2.later t5 h5⟩
        · rename_i ρ4 hq
          exact go hq fun σ5 H5 F5 fp5 s5 t5 h5 => ⟨F5, ρ4, fp5, tt.trans t5, s5, hf, k2.later t5 h5⟩
        · rename_i ρ4 hq
          cases hf
          exact go hq k2
        · rename_i x4 ρ4 hq
          cases hf
          exact go hq k2
        · cases hf
        · cases hf
      · refine .inl ⟨⟨ys, sq, by rw [h2.length]; omega⟩, ?_⟩
        rw [List.drop_eq_nil_of_le (by omega)] at hf
        cases hf
        exact k2 σ2 H2 F2 fp2 s2 (Xt.refl s2.le) fun _ _ => rfl
  · cases hd
theorem s_forD (hx : PassesOwn (model X.prog X.w) X.A X.env X.xe) {j : Nat} {tt : Bool} {g : Tg} {x : S} {t i : Expr} {b : List Stmt} {pos : Pos} {ti : TI} (hti : ∀ (σ : L2.St) (H : Hp) (R : It → Hp → Prop) (p : Addr) (od : Obj) (kvs : List (Key × V)), σ[j]? = some (some (.ref p)) → H p = some (.frz od (.dK kvs)) → R (DIt tt p od kvs) H → ti σ H R)
    (hi : PI X t i ti) (hf : ∀ x, foldedSetIterable i X.env x = pure x) (hg : chkT N g sc true t = true) (hio : (slots g).all (fun i => !(j :: io).contains i) = true) (hb : PSs X b (tS X.K T G (j :: io) x)) :
    PS X (.For t i b [] pos) (tS X.K T G io (.forD tt j g x)) := by
  refine (ps_lock (ps_for hx o.calm hi (pg_of o g t hg) hb hf)).mono fun D σ H ⟨F, ρ, fp, f, ρ', s, hd, k⟩ => ?_
  simp only [denS] at hd
  split at hd
  · rename_i kvs hr
    obtain ⟨⟨f0, ρ0⟩, hl, hd⟩ := Res.bind_inv hd
    obtain ⟨p, kv, hv, hpj, hH, hc⟩ := s.idict hr
    obtain ⟨v, hv', s0, t0, h0⟩ := s.take hr
    have hF := s.nf j p hpj
    have hdj : ∀ i, ¬ fpSet fp j none0 i p := h0.dj p hpj
    refine ⟨p, .dK kv, hH, trivial, fun od => ?_⟩
    have s0f := s0.poke hF hdj (.frz od (.dK kv))
    have key : ∀ {σ' : L2.St} {H' F' : Hp} {fp' : Nat → As} {ρ1 : Ro}, St X.K F' H' σ' ρ1 fp' → Xt F (upd H p (.frz od (.dK kv))) (fpSet fp j none0) F' H' fp' → (∀ i ∈ j :: io, σ'[i]? = σ[i]?) → _ := fun {σ' H' F' fp' ρ1} s' t' hh =>
      thaw (kvs := kvs) hpj hH hF hdj hc s.kn t' s' ((hh j List.mem_cons_self).trans hv)
    have k0 : Fin X.K (j :: io) ⟨fun σ' H' => H' p = some (.frz od (.dK kv)) ∧ D.nx σ' (upd H' p (.dK kv)), fun v H' => H' p = some (.frz od (.dK kv)) ∧ D.rt v (upd H' p (.dK kv)), fun σ' H' => H' p = some (.frz od (.dK kv)) ∧ D.bk σ' (upd H' p (.dK kv)), fun σ' H' => H' p = some (.frz od (.dK kv)) ∧ D.ct σ' (upd H' p (.dK kv))⟩ F (upd H p (.frz od (.dK kv))) σ (fpSet fp j none0) ρ0 f0 := by
      cases f0 with
      | nx =>
        cases hd
        intro σ' H' F' fp' s' t' hh
        obtain ⟨a1, a2, a3, a4, a5, a6, a7⟩ := key s' t' hh
        exact ⟨a1, k σ' _ F' _ a4 a5 fun i hi => hh i (List.mem_cons_of_mem _ hi)⟩
      | bk =>
        cases hd
        intro σ' H' F' fp' s' t' hh
        obtain ⟨a1, a2, a3, a4, a5, a6, a7⟩ := key s' t' hh
        exact ⟨a1, k σ' _ F' _ a6 a7 fun i hi => hh i (List.mem_cons_of_mem _ hi)⟩
      | ct =>
        cases hd
        intro σ' H' F' fp' s' t' hh
        obtain ⟨a1, a2, a3, a4, a5, a6, a7⟩ := key s' t' hh
        exact ⟨a1, k σ' _ F' _ a6 a7 fun i hi => hh i (List.mem_cons_of_mem _ hi)⟩
      | rt y =>
        cases hd
        intro v σ' H' F' fp' P s' t' hh hd sub
        obtain ⟨a1, a2, a3, a4, a5, a6, a7⟩ := key s' t' hh
        have np : ¬ P p := fun hp => by
          rcases sub p hp with ⟨j', h1⟩ | h1
          · exact hdj j' h1
          · rw [upd_same] at h1; cases h1
        refine ⟨a1, k v σ' _ F' _ P a4 a5 (fun i hi => hh i (List.mem_cons_of_mem _ hi)) ⟨hd.ow.up (Ex.refl F') (fun a ha o e => ?_) fun _ z => z, hd.nf, fun a ha => ?_, fun a ha i hi => ?_⟩ fun a ha => ?_⟩
        · have ne : a ≠ p := fun e' => np (by rw [← e']; exact ha)
          rw [upd_ne ne]; exact e
        · have ne : a ≠ p := fun e' => np (by rw [← e']; exact ha)
          rw [upd_ne ne]; exact hd.kn a ha
        · rcases fpSet_cases hi with ⟨_, h1⟩ | ⟨_, h1⟩
          · exact np (by rw [← h1]; exact ha)
          · exact hd.dj a ha i h1
        · rcases sub a ha with ⟨j', h1⟩ | h1
          · rcases fpSet_cases h1 with ⟨_, h1⟩ | ⟨_, h1⟩
            · exact h1.elim
            · exact .inl ⟨j', h1⟩
          · have ne : a ≠ p := fun e' => np (by rw [← e']; exact ha)
            rw [upd_ne ne] at h1
            exact .inr h1
    clear hd k
    have hlen : kv.length = kvs.length := hc.length
    have hlen2 : (itD tt kvs).length = kvs.length := by unfold itD; simp
    refine hti _ _ _ p od kv hv upd_same ?_
    refine ⟨fun i m σ2 H2 => m = (itD tt kvs).length - i ∧ i ≤ (itD tt kvs).length ∧ ∃ F2 ρ2 fp2, Xt F (upd H p (.frz od (.dK kv))) (fpSet fp j none0) F2 H2 fp2 ∧ St X.K F2 H2 σ2 ρ2 fp2 ∧ forF (fun x' ρ => do let ρ2 ← stTg g x' ρ; denS T G x ρ2) ((itD tt kvs).drop i) ρ2 = .ok (f0, ρ0) ∧ Fin X.K (j :: io) _ F2 H2 σ2 fp2 ρ0 f0,
      ⟨_, rfl, Nat.zero_le _, F, _, _, Xt.refl s0f.le, s0f, by simpa using hl, k0⟩, ?_⟩
    rintro i m σ2 H2 ⟨rfl, hil, F2, ρ2, fp2, tt2, s2, hf, k2⟩
    have hp2 : H2 p = some (.frz od (.dK kv)) := tt2.fr p _ upd_same hdj
    by_cases hlt : i < (itD tt kvs).length
    · refine .inr ⟨dit_ok hp2 (by omega), fun σ3 H3 => ∃ F3 ρ3 fp3, Xt F (upd H p (.frz od (.dK kv))) (fpSet fp j none0) F3 H3 fp3 ∧ St X.K F3 H3 σ3 ρ3 fp3 ∧ forF (fun x' ρ => do let ρ2 ← stTg g x' ρ; denS T G x ρ2) ((itD tt kvs).drop (i + 1)) ρ3 = .ok (f0, ρ0) ∧ Fin X.K (j :: io) _ F3 H3 σ3 fp3 ρ0 f0,
        fun σ3 H3 w => ⟨_, by omega, rfl, hlt, w⟩, fun v H3 hy => ?_⟩
      obtain ⟨F3, nw, r3⟩ := dit_get s2.le (hc.up tt2.ff) (by omega) hlt hy
      have s3 := nw.st s2
      have t3 := tt2.trans (nw.xt (fp := fp2))
      have k3 := k2.later (nw.xt (fp := fp2)) fun _ _ => rfl
      rw [List.drop_eq_getElem_cons hlt] at hf
      unfold forF at hf
      have step : ∀ {fl : Fl} {ρ4 : Ro}, (do let ρ2 ← stTg g (itD tt kvs)[i] ρ2; denS T G x ρ2) = .ok (fl, ρ4) → ∃ ρ3, stTg g (itD tt kvs)[i] ρ2 = .ok ρ3 ∧ denS T G x ρ3 = .ok (fl, ρ4) := fun hq => Res.bind_inv hq
      have go : ∀ {fl : Fl} {ρ4 : Ro} {D' : Ends}, (do let ρ2 ← stTg g (itD tt kvs)[i] ρ2; denS T G x ρ2) = .ok (fl, ρ4) → Fin X.K (j :: io) D' F3 H3 σ2 fp2 ρ4 fl → tG X.K g v σ2 H3 fun σ4 H4 => tS X.K T G (j :: io) x D' σ4 H4 := fun {fl ρ4 D'} hq kk => by
        obtain ⟨ρ3, q1, q2⟩ := step hq
        refine ⟨F3, ρ2, fp2, _, ρ3, s3, r3, q1, fun σ5 fp5 s5 fr sb => ⟨F3, ρ3, fp5, fl, ρ4, s5, q2, ?_⟩⟩
        refine kk.later ((Xt.refl s5.le).lower fun i a z => ⟨i, sb i a z⟩) fun j' hj => fr j' fun hm => ?_
        have := List.all_eq_true.mp hio j' hm
        rw [List.contains_iff_mem.mpr hj] at this
        cases this
      split at hf
      · rename_i ρ4 hq
        exact go hq fun σ5 H5 F5 fp5 s5 t5 h5 => ⟨F5, ρ4, fp5, t3.trans t5, s5, hf, k3.later t5 h5⟩
      · rename_i ρ4 hq
        exact go hq fun σ5 H5 F5 fp5 s5 t5 h5 => ⟨F5, ρ4, fp5, t3.trans t5, s5, hf, k3.later t5 h5⟩
      · rename_i ρ4 hq
        cases hf
        exact go hq k3
      · rename_i x4 ρ4 hq
        cases hf
        exact go hq k3
      · cases hf
      · cases hf
    · refine .inl ⟨dit_end hp2 (by omega), ?_⟩
      rw [List.drop_eq_nil_of_le (by omega)] at hf
      cases hf
      exact k2 σ2 H2 F2 fp2 s2 (Xt.refl s2.le) fun _ _ => rfl
  · cases hd
end
end Rf
set_option maxRecDepth 100000
set_option maxHeartbeats 8000000
namespace Rf
open PySem PySem.Spec PyProof.Rows L2 Evl
/-- the state of a suite: the error at a in slot i, its own dict at dx -/
structure SC (K : Frag) (F H : Hp) (σ : L2.St) (ρ : Ro) (i : Nat) (a dx : Addr) (v : V) : Prop where
  le : Ex F H
  nm : ∀ j y, getRo ρ j = some (.d y) → ∃ u, σ[j]? = some (some u) ∧ Rp K F u y
  ex : σ[i]? = some (some (.ref a))
  dx : H dx = some (.xd [(("at" : Str), v)])
theorem SC.up {K : Frag} {F H F' H' : Hp} {σ : L2.St} {ρ : Ro} {i : Nat} {a dx : Addr} {v : V} (s : SC K F H σ ρ i a dx v) (n : Nw F H F' H') : SC K F' H' σ ρ i a dx v :=
  ⟨n.le, fun j y h => let ⟨u, h1, h2⟩ := s.nm j y h; ⟨u, h1, h2.up n.ff⟩, s.ex, n.hh _ _ s.dx⟩
theorem Nw.trans {F H F1 H1 F2 H2 : Hp} (n : Nw F H F1 H1) (m : Nw F1 H1 F2 H2) : Nw F H F2 H2 :=
  ⟨m.le, n.ff.trans m.ff, n.hh.trans m.hh, fun a o h => by
    rcases m.nw a o h with h1 | h1 | h1
    · exact n.nw a o h1
    · refine .inr (.inl ?_)
      cases q : H a with
      | none => rfl
      | some u => rw [n.hh a u q] at h1; cases h1
    · exact .inr (.inr h1)⟩
section
variable (K : Frag) (i : Nat) (a dx : Addr) (v : V) (c : Str) (d : PyData)
def tH (h : HE) : TE := fun σ H Q => ∃ F ρ x, SC K F H σ ρ i a dx v ∧ denH c d h ρ = .ok x ∧ ∀ w F' H', Nw F H F' H' → Rp K F' w x → Q w H'
def tHA (h : HE) : TA := fun σ H Q => ∃ F ρ xs, SC K F H σ ρ i a dx v ∧ densH c d h ρ = .ok xs ∧ ∀ ws F' H', Nw F H F' H' → Rps K F' ws xs → Q ws H'
def tHT (h : HE) : TT := fun σ H Q => ∃ F ρ b, SC K F H σ ρ i a dx v ∧ denH c d h ρ = .ok (.bool b) ∧ ∀ F' H', Nw F H F' H' → Q b H'
end
/-- the context of a suite -/
structure HOk (N : List Str) (sc : Scope) (X : Cx) (i : Nat) (a dx : Addr) (v : V) (c : Str) (d : PyData) (C : Addr) (oe : Obj) : Prop where
  hN : X.N = N
  hsc : X.env.scope = sc
  nd : N.Nodup
  isi : X.mg "isinstance" = none
  fn : ∀ x, X.fn x = true
  ex : ExAt X.K X.mg c C
  exs : ∀ k ∈ errOwn, ∃ D, X.mg k = some (.ref D)
  hp : (a, oe) ∈ X.pn
  hz : Zc (.ref C) (some dx) oe
  hf : ∃ vs, oe.data = .fields vs
  pl : PlV v d
theorem addH_inv {x y z : PyData} (h : (match x, y with
    | .tuple xs, .tuple ys => (do Res.guard (decide (xs.length + ys.length ≤ 1000)); Res.ok (.tuple (xs ++ ys)))
    | _, _ => Res.bad) = Res.ok z) : ∃ xs ys, x = .tuple xs ∧ y = .tuple ys ∧ xs.length + ys.length ≤ 1000 ∧ z = .tuple (xs ++ ys) := by
  split at h
  · obtain ⟨_, g, h⟩ := Res.bind_inv h
    cases h
    exact ⟨_, _, rfl, rfl, of_decide_eq_true (Res.guard_inv g), rfl⟩
  · cases h
theorem densH_len {N : List Str} {sc : Scope} {i : Nat} {c : Str} {d : PyData} : ∀ (as : HE) {es : List Expr} {ρ : Ro} {xs : List PyData}, chkHA N i as sc es = true → densH c d as ρ = .ok xs → xs.length = es.length
  | .nil, es, ρ, xs, h, hd => by
    unfold chkHA at h
    cases hd
    have : es = [] := by simpa using h
    subst this
    rfl
  | .cons a r, [], ρ, xs, h, hd => by unfold chkHA at h; cases h
  | .cons a r, e :: es, ρ, xs, h, hd => by
    unfold chkHA at h
    obtain ⟨_, _, h3⟩ := and3 h
    simp only [densH] at hd
    obtain ⟨x1, h1, hd⟩ := Res.bind_inv hd
    obtain ⟨y1, h2, hd⟩ := Res.bind_inv hd
    cases hd
    have := densH_len r h3 h2
    simp [this]
  | .fld, _, _, _, h, _ => by unfold chkHA at h; cases h
  | .is1 _, _, _, _, h, _ => by unfold chkHA at h; cases h
  | .isi _, _, _, _, h, _ => by unfold chkHA at h; cases h
  | .nm _, _, _, _, h, _ => by unfold chkHA at h; cases h
  | .str _, _, _, _, h, _ => by unfold chkHA at h; cases h
  | .not _, _, _, _, h, _ => by unfold chkHA at h; cases h
  | .and _ _, _, _, _, h, _ => by unfold chkHA at h; cases h
  | .add _ _, _, _, _, h, _ => by unfold chkHA at h; cases h
  | .tup _, _, _, _, h, _ => by unfold chkHA at h; cases h
theorem hB_inv {x : PyData} {b : Bool} (h : hB x = .ok b) : x = .bool b := by
  cases x <;> first | (cases h; rfl) | cases h
section
variable {N : List Str} {sc : Scope} {X : Cx} {i : Nat} {a dx : Addr} {v : V} {c : Str} {d : PyData} {C : Addr} {oe : Obj} (o : HOk N sc X i a dx v c d C oe)
include o
theorem h_nm {j : Nat} {e : Expr} (h : chkN N j sc e = true) : PE X e (tVar j) ∧ noStar e = true := by
  unfold chkN at h
  split at h
  · rename_i x p
    rw [Bool.and_eq_true] at h
    obtain ⟨h1, h2⟩ := h
    unfold vis at h2
    rw [Bool.and_eq_true, Bool.and_eq_true] at h2
    obtain ⟨⟨h3, h4⟩, h5⟩ := h2
    refine ⟨pe_var (by rw [o.hN]; simpa using h1) ?_ (by simpa using h4) (by simpa using h5), rfl⟩
    rw [o.hsc]
    unfold Vis
    split at h3 <;> simp_all
  · cases h
theorem h_glo {x : Str} (h : glo sc x = true) : Gl X x ∧ (x == ("__debug__" : Str)) = false ∧ x ≠ ("__name__" : Str) := by
  unfold glo at h
  rw [Bool.and_eq_true, Bool.and_eq_true] at h
  obtain ⟨⟨h1, h2⟩, h3⟩ := h
  refine ⟨?_, by simpa using h2, by simpa using h3⟩
  show X.env.scope.names.lookup x = _
  rw [o.hsc]
  split at h1 <;> simp_all
theorem h_cls {k : Str} {p : Pos} (hk : k ∈ errNames) (hg : glo sc k = true) : ∃ cv w, ClsV w cv ∧ PySem.W.kitOne X.K (.ref C) cv = some (isC c k) ∧ PE X (.Name k p) (tC w) := by
  obtain ⟨g1, g2, g3⟩ := h_glo o hg
  obtain ⟨cv, h1, h2, _⟩ := (o.ex.cls k hk).resolve_left fun ⟨n1, n2⟩ => by
    have hm : k ∈ errOwn := by
      have key : ∀ k ∈ errNames, k = "ValueError" ∨ k ∈ errOwn := by decide +kernel
      exact (key k hk).resolve_left n1
    obtain ⟨D, e⟩ := o.exs k hm
    rw [n2] at e
    cases e
  rcases h1 with ⟨D, m, rfl⟩ | ⟨rfl, m, rfl⟩
  · exact ⟨_, .ref D, .own D, h2, pe_glob g1 m rfl g2⟩
  · exact ⟨_, .ty "ValueError", .ty _, h2, pe_bltn g1 m (by decide +kernel) rfl g3 g2⟩
theorem h_clss : ∀ {ks : List Str} {es : List Expr}, namesAre sc ks es = true → (∀ k ∈ ks, k ∈ errNames) → ∃ us ws, Paired ClsV ws us ∧ ws.length = ks.length ∧ PySem.W.kitAny X.K (.ref C) us = some (ks.any (isC c)) ∧ PA X es (fun _ H Q => Q ws H)
  | [], [], _, _ => ⟨[], [], .nil, rfl, rfl, pa_nil⟩
  | k :: ks, e :: es, h, hk => by
    cases e <;> first | (cases h; done) | skip
    rename_i x p
    simp only [namesAre, Bool.and_eq_true] at h
    obtain ⟨⟨h1, h2⟩, h3⟩ := h
    obtain rfl := eq_of_beq h1
    obtain ⟨cv, w, q1, q2, q3⟩ := h_cls (p := p) o (hk _ List.mem_cons_self) h2
    obtain ⟨us, ws, r1, r2, r3, r4⟩ := h_clss h3 fun k h => hk k (List.mem_cons_of_mem _ h)
    refine ⟨cv :: us, w :: ws, .cons q1 r1, by simp [r2], ?_, pa_cons q3 r4 (star_ok rfl)⟩
    refine kitAny_cons q2 (fun hb => ?_) fun hb => ?_
    · rw [r3, List.any_cons, hb, Bool.false_or]
    · rw [List.any_cons, hb, Bool.true_or]
  | [], _ :: _, h, _ => by cases h
  | _ :: _, [], h, _ => by cases h
theorem sndH : ∀ (h : HE), (∀ e, chkH N i h sc e = true → PE X e (tH X.K i a dx v c d h)) ∧ ∀ es, chkHA N i h sc es = true → PA X es (tHA X.K i a dx v c d h) := by
  intro h
  induction h with
  | fld =>
    refine ⟨fun e q => ?_, (fun es q => by cases q)⟩
    simp only [chkH] at q
    split at q
    · obtain ⟨q1, q2⟩ := and2 q
      obtain rfl := eq_of_beq q1
      obtain ⟨q0, fI, T⟩ := o.ex.low
      obtain ⟨p1, p2⟩ := h_nm o q2
      refine (pe_atX T o.hp o.hz o.hf p1 (by cases ‹Expr› <;> first | rfl | cases q2)).mono fun σ H Q ⟨F, ρ, x, s, hd, k⟩ => ?_
      cases hd
      exact ⟨_, s.ex, rfl, rfl, dx, v, rfl, s.dx, k v F H (Nw.refl s.le) o.pl.rp⟩
    · cases q
  | is1 k =>
    refine ⟨fun e q => ?_, (fun es q => by cases q)⟩
    simp only [chkH] at q
    split at q
    · obtain ⟨k0, h5, h6⟩ := and3 q
      obtain ⟨k1, h3, h4⟩ := and3 k0
      obtain ⟨h1, h2⟩ := and2 k1
      obtain rfl := eq_of_beq h1
      obtain rfl := eq_of_beq h4
      obtain ⟨g1, g2, g3⟩ := h_glo o h2
      obtain ⟨p1, p2⟩ := h_nm o h3
      rename_i x p3 _
      obtain ⟨cv, w, q1, q2, q3⟩ := h_cls (p := p3) o (by simpa using h6) h5
      refine (pe_callB (call_isX o.ex.exc o.hp o.hz o.hf) g1 o.isi (by decide +kernel) (pa_cons p1 (pa_cons q3 pa_nil (star_ok rfl)) (star_ok p2)) g3 g2 (star_ok p2) rfl).mono fun σ H Q ⟨F, ρ, x, s, hd, k⟩ => ?_
      cases hd
      exact ⟨_, s.ex, _, _, rfl, ⟨v, s.dx⟩, .inl ⟨cv, q1, q2⟩, k _ F H (Nw.refl s.le) (.bl _)⟩
    · cases q
  | isi ks =>
    refine ⟨fun e q => ?_, (fun es q => by cases q)⟩
    simp only [chkH] at q
    split at q
    · obtain ⟨k0, h6, h7⟩ := and3 q
      obtain ⟨k1, h3, h4⟩ := and3 k0
      obtain ⟨h1, h2⟩ := and2 k1
      obtain rfl := eq_of_beq h1
      obtain ⟨g1, g2, g3⟩ := h_glo o h2
      obtain ⟨p1, p2⟩ := h_nm o h3
      obtain ⟨us, ws, r1, r2, r3, r4⟩ := h_clss o h4 fun k hk => by have := List.all_eq_true.mp h6 k hk; simpa using this
      have h7 := of_decide_eq_true h7
      refine (pe_callB (call_isX o.ex.exc o.hp o.hz o.hf) g1 o.isi (by decide +kernel) (pa_cons p1 (pa_cons (pe_tup r4) pa_nil (star_ok rfl)) (star_ok p2)) g3 g2 (star_ok p2) rfl).mono fun σ H Q ⟨F, ρ, x, s, hd, k⟩ => ?_
      cases hd
      refine ⟨_, s.ex, mil (by omega), fun tp htp => ?_⟩
      have e2 : Ex H (upd H tp (.tup ws)) := Ex.new htp
      exact ⟨_, _, rfl, ⟨v, e2 _ _ s.dx⟩, .inr ⟨tp, ws, us, rfl, upd_same, r1, r3⟩, k _ F _ ⟨s.le.trans e2, Ex.refl F, e2, fun _ _ z => .inl z⟩ (.bl _)⟩
    · cases q
  | nm j =>
    refine ⟨fun e q => ?_, (fun es q => by cases q)⟩
    simp only [chkH] at q
    obtain ⟨q1, q2⟩ := and2 q
    obtain ⟨p1, p2⟩ := h_nm o q1
    refine p1.mono fun σ H Q ⟨F, ρ, x, s, hd, k⟩ => ?_
    simp only [denH, getD] at hd
    split at hd
    · rename_i y hy
      cases hd
      obtain ⟨u, e1, e2⟩ := s.nm _ _ hy
      exact ⟨u, e1, k u F H (Nw.refl s.le) e2⟩
    · cases hd
  | str x =>
    refine ⟨fun e q => ?_, (fun es q => by cases q)⟩
    simp only [chkH] at q
    split at q
    · obtain rfl := eq_of_beq q
      refine pe_str.mono fun σ H Q ⟨F, ρ, x, s, hd, k⟩ => ?_
      cases hd
      exact k _ F H (Nw.refl s.le) (.str _)
    · cases q
  | not h ih =>
    refine ⟨fun e q => ?_, (fun es q => by cases q)⟩
    simp only [chkH] at q
    split at q
    · refine (pe_not (ih.1 _ q)).mono fun σ H Q ⟨F, ρ, x, s, hd, k⟩ => ?_
      simp only [denH] at hd
      obtain ⟨y, h1, hd⟩ := Res.bind_inv hd
      obtain ⟨b, h2, hd⟩ := Res.bind_inv hd
      cases hd
      obtain rfl := hB_inv h2
      refine ⟨F, ρ, _, s, h1, fun w F' H' n r => ?_⟩
      obtain rfl := r.bl_inv
      exact ⟨b, rfl, k _ F' H' n (.bl _)⟩
    · cases q
  | and x y ihx ihy =>
    refine ⟨fun e q => ?_, (fun es q => by cases q)⟩
    simp only [chkH] at q
    split at q
    · rename_i l m r p
      obtain ⟨q1, q2⟩ := and2 q
      have hy : PE X (.BoolOp .And (m :: r) p) (tH X.K i a dx v c d y) := by
        cases r with
        | nil => exact pe_one (ihy.1 _ q2)
        | cons z r => exact ihy.1 _ (and2 q2).2
      refine (pe_and (ihx.1 _ q1) hy).mono fun σ H Q ⟨F, ρ, z, s, hd, k⟩ => ?_
      simp only [denH] at hd
      obtain ⟨x1, h1, hd1⟩ := Res.bind_inv hd
      obtain ⟨b, h2, hd2⟩ := Res.bind_inv hd1
      obtain rfl := hB_inv h2
      refine ⟨F, ρ, _, s, h1, fun w F' H' n r => ⟨b, r.bl_inv, ?_⟩⟩
      cases b with
      | true =>
        rw [if_pos rfl] at hd2 ⊢
        obtain ⟨y1, h3, hd3⟩ := Res.bind_inv hd2
        obtain ⟨b2, h4, hd4⟩ := Res.bind_inv hd3
        obtain rfl := hB_inv h4
        cases hd4
        exact ⟨F', ρ, _, s.up n, h3, fun w F2 H2 n2 r2 => k w F2 H2 (n.trans n2) r2⟩
      | false =>
        rw [if_neg Bool.false_ne_true] at hd2 ⊢
        cases hd2
        exact k _ F' H' n (.bl _)
    · cases q
  | add x y ihx ihy =>
    refine ⟨fun e q => ?_, (fun es q => by cases q)⟩
    simp only [chkH] at q
    split at q
    · obtain ⟨q1, q2⟩ := and2 q
      refine (pe_op (op_bin .Add) (ihx.1 _ q1) (ihy.1 _ q2)).mono fun σ H Q ⟨F, ρ, z, s, hd, k⟩ => ?_
      simp only [denH] at hd
      obtain ⟨x1, h1, hd⟩ := Res.bind_inv hd
      obtain ⟨y1, h2, hd⟩ := Res.bind_inv hd
      refine ⟨F, ρ, _, s, h1, fun w1 F1 H1 n1 r1 => ⟨F1, ρ, _, s.up n1, h2, fun w2 F2 H2 n2 r2 => ?_⟩⟩
      obtain ⟨xs, ys, e1, e2, g', e3⟩ := addH_inv hd
      subst e1 e2 e3
      have hz : binS .Add (.tuple xs) (.tuple ys) = .ok (.d (.tuple (xs ++ ys))) := by
        show (do Res.guard (decide (xs.length + ys.length ≤ 1000000)); Res.ok (PV.d (.tuple (xs ++ ys))) : Res PV) = _
        rw [decide_eq_true (by omega)]
        rfl
      exact bin_rs .Add n2.le (.d (r1.up n2.ff)) (.d r2) hz fun v' F' H' r => k v' F' H' ((n1.trans n2).trans r.nw) r.ow.dat
    · cases q
  | tup as ih =>
    refine ⟨fun e q => ?_, (fun es q => by cases q)⟩
    simp only [chkH] at q
    split at q
    · obtain ⟨q1, q2⟩ := and2 q
      have q2 := of_decide_eq_true q2
      refine (pe_tup (ih.2 _ q1)).mono fun σ H Q ⟨F, ρ, z, s, hd, k⟩ => ?_
      simp only [denH] at hd
      obtain ⟨xs, h1, hd⟩ := Res.bind_inv hd
      cases hd
      refine ⟨F, ρ, xs, s, h1, fun ws F' H' n r => ⟨?_, fun p hp => ?_⟩⟩
      · have e1 := densH_len as q1 h1
        exact mil (by rw [r.length]; omega)
      · have r2 := Rs.newT n.le hp r
        exact k _ _ _ (n.trans r2.nw) r2.ow.dat
    · cases q
  | nil =>
    refine ⟨(fun e q => by cases q), fun es q => ?_⟩
    have : es = [] := by
      unfold chkHA at q
      simpa using q
    subst this
    refine pa_nil.mono fun σ H Q ⟨F, ρ, xs, s, hd, k⟩ => ?_
    cases hd
    exact k [] F H (Nw.refl s.le) .nil
  | cons x r ihx ihr =>
    refine ⟨(fun e q => by cases q), fun es q => ?_⟩
    cases es with
    | nil => unfold chkHA at q; cases q
    | cons e es =>
      unfold chkHA at q
      obtain ⟨q1, q2, q3⟩ := and3 q
      refine (pa_cons (ihx.1 _ q2) (ihr.2 _ q3) (star_ok q1)).mono fun σ H Q ⟨F, ρ, xs, s, hd, k⟩ => ?_
      simp only [densH] at hd
      obtain ⟨x1, h1, hd⟩ := Res.bind_inv hd
      obtain ⟨y1, h2, hd⟩ := Res.bind_inv hd
      cases hd
      exact ⟨F, ρ, _, s, h1, fun w1 F1 H1 n1 r1 => ⟨F1, ρ, _, s.up n1, h2, fun w2 F2 H2 n2 r2 => k _ F2 H2 (n1.trans n2) (.cons (r1.up n2.ff) r2)⟩⟩
theorem h_cond : ∀ (h : HE), condH h = true → ∀ e, chkH N i h sc e = true → PT X e (tHT X.K i a dx v c d h) ∧ (isAndH h = true → PW X e (tHT X.K i a dx v c d h)) := by
  have leaf : ∀ (h : HE) e, chkH N i h sc e = true → (∀ whole, isTrue e X.env whole = (do let v ← whole; standAt e.pos; holding [v] (truthy v))) → PT X e (tHT X.K i a dx v c d h) := fun h e q he =>
    (pt_val ((sndH o h).1 e q) he).mono fun σ H Q ⟨F, ρ, b, s, hd, k⟩ => ⟨F, ρ, _, s, hd, fun w F' H' n r => ⟨b, r.bl_inv, k F' H' n⟩⟩
  intro h
  induction h with
  | is1 k =>
    intro _ e q
    refine ⟨leaf _ e q ?_, fun z => by cases z⟩
    simp only [chkH] at q
    split at q
    · exact fun _ => rfl
    · cases q
  | isi ks =>
    intro _ e q
    refine ⟨leaf _ e q ?_, fun z => by cases z⟩
    simp only [chkH] at q
    split at q
    · exact fun _ => rfl
    · cases q
  | nm j =>
    intro _ e q
    refine ⟨leaf _ e q ?_, fun z => by cases z⟩
    simp only [chkH] at q
    have q1 := (and2 q).1
    unfold chkN at q1
    split at q1
    · exact fun _ => rfl
    · cases q1
  | and x y ihx ihy =>
    intro hc e q
    obtain ⟨c1, c2⟩ := and2 (show (condH x && condH y) = true from hc)
    have pw : PW X e (tHT X.K i a dx v c d (.and x y)) := by
      simp only [chkH] at q
      split at q
      · rename_i l m r p
        obtain ⟨q1, q2⟩ := and2 q
        have hy : PW X (.BoolOp .And (m :: r) p) (tHT X.K i a dx v c d y) := by
          cases r with
          | nil => exact pw_and1 (ihy c2 _ q2).1
          | cons z r => exact (ihy c2 _ (and2 q2).2).2 (and2 q2).1
        refine (pw_and (ihx c1 _ q1).1 hy).mono fun σ H Q ⟨F, ρ, b, s, hd, k⟩ => ?_
        simp only [denH] at hd
        obtain ⟨x1, h1, hd1⟩ := Res.bind_inv hd
        obtain ⟨b1, h2, hd2⟩ := Res.bind_inv hd1
        obtain rfl := hB_inv h2
        refine ⟨F, ρ, b1, s, h1, fun F' H' n => ?_⟩
        cases b1 with
        | true =>
          rw [if_pos rfl] at hd2 ⊢
          obtain ⟨y1, h3, hd3⟩ := Res.bind_inv hd2
          obtain ⟨b2, h4, hd4⟩ := Res.bind_inv hd3
          obtain rfl := hB_inv h4
          cases hd4
          exact ⟨F', ρ, _, s.up n, h3, fun F2 H2 n2 => k F2 H2 (n.trans n2)⟩
        | false =>
          rw [if_neg Bool.false_ne_true] at hd2 ⊢
          cases hd2
          exact k F' H' n
      · cases q
    exact ⟨pw.pt, fun _ => pw⟩
  | _ => exact fun z => by cases z
end
section
variable (K : Frag) (io : List Nat) (i : Nat) (a dx : Addr) (v : V) (c : Str) (d : PyData)
def tHS (h : HS) : TS := fun D σ H => ∃ F ρ ρ' fp, St K F H σ ρ fp ∧ σ[i]? = some (some (.ref a)) ∧ H dx = some (.xd [(("at" : Str), v)]) ∧ denHS c d h ρ = .ok ρ' ∧
  ∀ σ' H' F' fp', St K F' H' σ' ρ' fp' → Xt F H fp F' H' fp' → (∀ j ∈ io, σ'[j]? = σ[j]?) → D.nx σ' H'
def tH1 (j : Nat) (h : HE) : TS := fun D σ H => ∃ F ρ x fp, St K F H σ ρ fp ∧ σ[i]? = some (some (.ref a)) ∧ H dx = some (.xd [(("at" : Str), v)]) ∧ denH c d h ρ = .ok x ∧
  ∀ σ' H' F' fp', St K F' H' σ' (ρ.set j (some (.d x))) fp' → Xt F H fp F' H' fp' → (∀ k ∈ io, σ'[k]? = σ[k]?) → σ'[i]? = some (some (.ref a)) → H' dx = some (.xd [(("at" : Str), v)]) → D.nx σ' H'
end
theorem sc_of {K : Frag} {F H : Hp} {σ : L2.St} {ρ : Ro} {fp : Nat → As} {i : Nat} {a dx : Addr} {v : V} (s : St K F H σ ρ fp) (h1 : σ[i]? = some (some (.ref a))) (h2 : H dx = some (.xd [(("at" : Str), v)])) : SC K F H σ ρ i a dx v :=
  ⟨s.le, fun j y h => let ⟨u, e1, e2⟩ := s.ow j _ h; ⟨u, e1, e2.dat⟩, h1, h2⟩
section
variable {N : List Str} {sc : Scope} {X : Cx} {i : Nat} {a dx : Addr} {v : V} {c : Str} {d : PyData} {C : Addr} {oe : Obj} {io : List Nat} (o : HOk N sc X i a dx v c d C oe)
include o
theorem h_asg {j : Nat} {h : HE} {st : Stmt} (q : chkHA1 N i j h sc io st = true) : PS X st (tH1 X.K io i a dx v c d j h) := by
  unfold chkHA1 at q
  split at q
  · rename_i x px w pos
    obtain ⟨k0, h5, h6⟩ := and3 q
    obtain ⟨k1, h3, h4⟩ := and3 k0
    obtain ⟨h1, h2⟩ := and2 k1
    have l : Loc X.env.scope x ∧ (X.fn x = true ∨ X.env.scope.names.lookup x = some .local) := by
      unfold sto at h2
      rw [o.hsc]
      split at h2
      · rename_i q; exact ⟨.inl q, .inr q⟩
      · rename_i q; exact ⟨.inr q, .inl (o.fn x)⟩
      · cases h2
    have hj : X.N[j]? = some x := by rw [o.hN]; simpa using h1
    have hN : X.N.Nodup := by rw [o.hN]; exact o.nd
    have hio : io.contains j = false := by simpa using h3
    have hne : j ≠ i := of_decide_eq_true h4
    refine (ps_set hN hj l.1 ((sndH o h).1 w h5) (swap_no (by simpa using h6)) l.2).mono fun D σ H ⟨F, ρ, x, fp, s, e1, e2, hd, k⟩ => ?_
    refine ⟨F, ρ, x, sc_of s e1 e2, hd, fun u F' H' n r => ?_⟩
    have s1 := n.st s
    refine k _ H' F' _ (s1.putD r j) ((n.xt (fp := fp)).trans ?_) (set_ne_io hio) (by rw [List.getElem?_set_ne hne]; exact e1) (n.hh _ _ e2)
    exact (Xt.refl s1.le).lower fun j c hj => by
      rcases fpSet_cases hj with ⟨_, z⟩ | ⟨_, z⟩
      · exact z.elim
      · exact ⟨j, z⟩
  · cases q
theorem sndHS : ∀ (h : HS) (b : List Stmt), chkHS N i h sc io b = true → PSs X b (tHS X.K io i a dx v c d h)
  | .nil, b, q => by
    have : b = [] := by
      unfold chkHS at q
      simpa using q
    subst this
    refine pss_nil.mono fun D σ H ⟨F, ρ, ρ', fp, s, e1, e2, hd, k⟩ => ?_
    cases hd
    exact k σ H F fp s (Xt.refl s.le) fun _ _ => rfl
  | .asg j h r, b, q => by
    cases b with
    | nil => unfold chkHS at q; cases q
    | cons st b =>
      unfold chkHS at q
      obtain ⟨q1, q2⟩ := and2 q
      refine (pss_cons (h_asg o q1) (sndHS r b q2)).mono fun D σ H ⟨F, ρ, ρ', fp, s, e1, e2, hd, k⟩ => ?_
      simp only [denHS] at hd
      obtain ⟨x, h1, hd⟩ := Res.bind_inv hd
      exact ⟨F, ρ, x, fp, s, e1, e2, h1, fun σ1 H1 F1 fp1 s1 t1 i1 e3 e4 => ⟨F1, _, ρ', fp1, s1, e3, e4, hd, fun σ2 H2 F2 fp2 s2 t2 i2 => k σ2 H2 F2 fp2 s2 (t1.trans t2) fun j hj => (i2 j hj).trans (i1 j hj)⟩⟩
  | .ifa cs j h r, b, q => by
    unfold chkHS at q
    split at q
    · rename_i t st pos b
      obtain ⟨k0, q3, q4⟩ := and3 q
      obtain ⟨q1, q2⟩ := and2 k0
      refine (pss_cons (ps_if (h_cond o cs q1 t q2).1 (pss_one (h_asg o q3)) pss_nil) (sndHS r b q4)).mono fun D σ H ⟨F, ρ, ρ', fp, s, e1, e2, hd, k⟩ => ?_
      simp only [denHS] at hd
      obtain ⟨b0, h1, hd1⟩ := Res.bind_inv hd
      obtain ⟨u, h2, hd2⟩ := Res.bind_inv hd1
      obtain rfl := hB_inv h2
      refine ⟨F, ρ, u, sc_of s e1 e2, h1, fun F1 H1 n => ?_⟩
      have s1 := n.st s
      cases u with
      | true =>
        rw [if_pos rfl] at hd2
        dsimp only
        rw [if_pos rfl]
        obtain ⟨x, h3, hd3⟩ := Res.bind_inv hd2
        exact ⟨F1, ρ, x, fp, s1, e1, n.hh _ _ e2, h3, fun σ2 H2 F2 fp2 s2 t2 i2 e3 e4 => ⟨F2, _, ρ', fp2, s2, e3, e4, hd3, fun σ3 H3 F3 fp3 s3 t3 i3 => k σ3 H3 F3 fp3 s3 ((n.xt.trans t2).trans t3) fun j hj => (i3 j hj).trans (i2 j hj)⟩⟩
      | false =>
        rw [if_neg Bool.false_ne_true] at hd2
        dsimp only
        rw [if_neg Bool.false_ne_true]
        exact ⟨F1, ρ, ρ', fp, s1, e1, n.hh _ _ e2, hd2, fun σ3 H3 F3 fp3 s3 t3 i3 => k σ3 H3 F3 fp3 s3 (n.xt.trans t3) i3⟩
    · cases q
end
end Rf
set_option maxRecDepth 100000
set_option maxHeartbeats 8000000
namespace Rf
open PySem PySem.Spec PyProof.Rows L2 Evl
theorem _root_.L2.PS.or {X : Cx} {e : Stmt} {t t' : TS} (h : PS X e t) (h' : PS X e t') : PS X e (fun D σ H => t D σ H ∨ t' D σ H) := ⟨fun pins s σ H D I q => q.elim (h.run pins s σ H D I) (h'.run pins s σ H D I)⟩
theorem _root_.L2.PSs.or {X : Cx} {e : List Stmt} {t t' : TS} (h : PSs X e t) (h' : PSs X e t') : PSs X e (fun D σ H => t D σ H ∨ t' D σ H) := ⟨fun pins s σ H D I q => q.elim (h.run pins s σ H D I) (h'.run pins s σ H D I)⟩
theorem ps_no {X : Cx} {e : Stmt} {t : TS} (h : ∀ D σ H, ¬ t D σ H) : PS X e t := ⟨fun pins s σ H D I q => (h D σ H q).elim⟩
theorem pss_no {X : Cx} {e : List Stmt} {t : TS} (h : ∀ D σ H, ¬ t D σ H) : PSs X e t := ⟨fun pins s σ H D I q => (h D σ H q).elim⟩
theorem pss_ex {α : Type} {X : Cx} {e : List Stmt} {t : α → TS} (h : ∀ x, PSs X e (t x)) : PSs X e (fun D σ H => ∃ x, t x D σ H) := ⟨fun pins s σ H D I ⟨x, q⟩ => (h x).run pins s σ H D I q⟩
theorem pss_and {C : Prop} {X : Cx} {e : List Stmt} {t : TS} (h : C → PSs X e t) : PSs X e (fun D σ H => C ∧ t D σ H) := ⟨fun pins s σ H D I ⟨x, q⟩ => (h x).run pins s σ H D I q⟩
theorem pss_len {X : Cx} {e : List Stmt} {t : TS} {i : Nat} (h : PSs X e t) (hi : i < X.N.length) : PSs X e (fun D σ H => i < σ.length → t D σ H) := ⟨fun pins s σ H D I q => h.run pins s σ H D I (q (by rw [I.len]; exact hi))⟩
/-- a name that the term knows nothing of is set -/
theorem St.free {K : Frag} {F H : Hp} {σ : L2.St} {ρ : Ro} {fp : Nat → As} (s : St K F H σ ρ fp) (i : Nat) (x : Option V) : St K F H (σ.set i x) (ρ.set i none) fp where
  le := s.le
  len := by simp [s.len]
  ow := fun j y h => by
    rcases getRo_set h with ⟨_, z⟩ | ⟨hne, h⟩
    · cases z
    · obtain ⟨v, h1, h2⟩ := s.ow j y h
      exact ⟨v, by rw [List.getElem?_set_ne hne]; exact h1, h2⟩
  dj := s.dj
  kn := s.kn
  nf := s.nf
section
variable (K : Frag) (mg : Str → Option Value) (T : Tab) (G : Gls) (W : WX) (io : List Nat)
/-- the body of a try raises -/
def tRB (b : S) : TS := fun _ σ H => ∃ F ρ fp c d ρ', St K F H σ ρ fp ∧ denB T G b ρ = some (c, d, ρ') ∧ Fly K mg W io F H σ fp c d ρ'
end
section
variable {P : Prg} {G : Gls} {T : Tab} {n : Nat} {N : List Str} {sc : Scope} {X : Cx} {W : WX} {io : List Nat} (o : XOk P G T n N sc true X)
theorem XOk.tr (o : XOk P G T n N sc true X) (pn : List (Addr × Obj)) (xe : Value → Shared → Prop) : XOk P G T n N sc true (X.tr pn xe) :=
  ⟨o.hN, o.hsc, o.nd, o.kind, o.calm, o.room, fun f d h => ⟨(o.fns f d h).ok⟩, fun f d h => ⟨(o.fnx f d h).ok⟩, o.blt, o.gls, o.fn⟩
include o in
theorem r_asg (tk : Takes X W) {i : Nat} {e : E} {a : Stmt} (h : chkS P N (.asg i e) sc io a = true) : PS X a (fun _ σ H => tR X.K X.mg T G W io e σ H fun _ _ => True) := by
  simp only [chkS] at h
  split at h
  · rename_i x px v pos
    obtain ⟨k0, h4, h5⟩ := and3 h
    obtain ⟨h1, h2, h3⟩ := and3 k0
    obtain ⟨l1, l2⟩ := sto_ok o h2
    have hi : X.N[i]? = some x := by rw [o.hN]; simpa using h1
    have hN : X.N.Nodup := by rw [o.hN]; exact o.nd
    cases hb : isLc v with
    | false => exact (ps_set hN hi l1 ((sndX o tk e).1 v h4) (swap_no hb) l2).mono fun D σ H q => q
    | true =>
      refine ps_no fun D σ H ⟨F, ρ, fp, c, d, ρ', s, hd, k⟩ => ?_
      have no : ∀ (e : E), chkE P N e sc true v = true → denX T G e ρ = none := fun e => by
        induction e with
        | call f as => exact fun q => by cases v <;> first | (cases hb; done) | (simp only [chkE] at q; cases q)
        | tup as => exact fun q => by cases v <;> first | (cases hb; done) | (simp only [chkE] at q; cases q)
        | frz e ih => exact fun q => by simp only [denX]; exact ih q
        | _ => exact fun q => by simp only [denX]
      rw [no e h4] at hd
      cases hd
  · cases h
include o in
theorem r_ex (tk : Takes X W) {e : E} {a : Stmt} (h : chkS P N (.ex e) sc io a = true) : PS X a (fun _ σ H => tR X.K X.mg T G W io e σ H fun _ _ => True) := by
  simp only [chkS] at h
  split at h
  · obtain ⟨h1, h2⟩ := and2 h
    exact (ps_expr ((sndX o tk e).1 _ h1) (swap_no (by simpa using h2))).mono fun D σ H q => q
  · cases h
include o in
theorem r_body (tk : Takes X W) {b : S} {a : Stmt} (hb : simpleB b = true) (h : chkS P N b sc io a = true) : PS X a (tRB X.K X.mg T G W io b) := by
  cases b <;> first | (cases hb; done) | skip
  · exact (r_asg o tk h).mono fun D σ H q => q
  · exact (r_ex o tk h).mono fun D σ H q => q
include o in
theorem s_try (hk : X.stack = X.env :: X.outer ∧ X.env.frame = some X.env.locals) {b : S} {k : Str} {i : Nat} {h : HS} {a : Stmt} (hkn : ∃ D, X.mg k = some (.ref D)) (hex : ∀ k ∈ errOwn, ∃ D, X.mg k = some (.ref D)) (q : chkS P N (.try_ b k i h) sc io a = true) : PS X a (tS X.K T G io (.try_ b k i h)) := by
  simp only [chkS] at q
  split at q
  · rename_i st x np nm s0 suite p1 pos
    obtain ⟨k0, q8, q9⟩ := and3 q
    obtain ⟨k1, q6, q7⟩ := and3 k0
    obtain ⟨k2, q4, q5⟩ := and3 k1
    obtain ⟨q1, q2, q3⟩ := and3 k2
    clear q k0 k1 k2
    obtain rfl := eq_of_beq q1
    obtain ⟨g1, g2, g3⟩ := (glo_ok o q2)
    have hin : x ∈ errNames := by simpa using q3
    have hi : X.N[i]? = some nm := by rw [o.hN]; simpa using q4
    have hN : X.N.Nodup := by rw [o.hN]; exact o.nd
    have hln : X.env.kindOf nm = some .local := by
      show X.env.scope.names.lookup nm = _
      rw [o.hsc]; exact of_decide_eq_true q5
    have hio : io.contains i = false := by simpa using q6
    have ok : ∀ {X' : Cx}, XOk P G T n N sc true X' → PS X' st (tS X'.K T G io b) := fun {X'} o' => by
      cases b <;> first | (cases q7; done) | skip
      · exact s_asg o' q8
      · exact s_ex o' q8
    obtain ⟨cv, hn⟩ : ∃ cv, Names X x cv := let ⟨D, m⟩ := hkn; ⟨_, g1, g2, .inl m⟩
    · skip
      let ts : Addr → Value → Option Addr → TS := fun a0 cls dd D σ H => ∃ y : (Str × PyData × Addr × Addr × V), (cls = .ref y.2.2.1 ∧ dd = some y.2.2.2.1 ∧ ExAt X.K X.mg y.1 y.2.2.1 ∧ PlV y.2.2.2.2 y.2.1) ∧ (i < σ.length → tHS X.K io i a0 y.2.2.2.1 y.2.2.2.2 y.1 y.2.1 h D σ H)
      refine (ps_try_as (ts := ts) (tb := fun W D σ H => tS X.K T G io b D σ H ∨ tRB X.K X.mg T G W io b D σ H) hk.1 hk.2 hN hi hln hn takes0 (fun W pn xe tk _ => pss_one ((ok (o.tr pn xe)).or (r_body (o.tr pn xe) tk q7 q8))) (fun a0 oe cls dd pn hz hf => ?_)).mono fun D σ H ⟨F, ρ, fp, f, ρ', s, hd, kf⟩ => ?_
      · refine pss_ex fun y => pss_and fun ⟨e1, e2, e3, e4⟩ => ?_
        obtain ⟨c, d, C, dx, v⟩ := y
        dsimp only at e1 e2 e3 e4 ⊢
        subst e1 e2
        have ho : HOk N sc (X.suite a0 ((a0, oe) :: pn)) i a0 dx v c d C oe := ⟨o.hN, o.hsc, o.nd, o.blt _ (by decide +kernel), o.fn rfl, e3, hex, List.mem_cons_self, hz, hf, e4⟩
        exact pss_len (sndHS ho h _ q9) (List.getElem?_eq_some_iff.mp hi).1
      · simp only [denS] at hd
        split at hd
        · rename_i r hr
          cases hd
          exact .inl ⟨F, ρ, fp, f, ρ', s, hr, kf⟩
        · rename_i hno
          split at hd
          · rename_i c d ρ1 hx
            by_cases hc : isC c x = true
            · rw [if_pos hc] at hd
              obtain ⟨ρ2, h2, hd2⟩ := Res.bind_inv hd
              cases hd2
              refine .inr ⟨F, ρ, fp, c, d, ρ1, s, hx, fun cls dd σ1 H1 F1 fp1 s1 t1 i1 ex => ?_⟩
              obtain ⟨C, dx, v, rfl, rfl, ea, hdx, pl⟩ := ex
              refine ⟨true, ?_, fun _ a0 ha0 => ⟨(c, d, C, dx, v), ⟨rfl, rfl, ea, pl⟩, fun hlt => ?_⟩, fun z => by cases z⟩
              · obtain ⟨cv', m, _, m3⟩ := (ea.cls x hin).resolve_left (fun ⟨_, n2⟩ => let ⟨D, e⟩ := hkn; by rw [n2] at e; cases e)
                rw [hc] at m3
                have : cv' = cv := by
                  obtain ⟨_, _, hm⟩ := hn
                  rcases m with ⟨D0, m1, rfl⟩ | ⟨m0, m1, rfl⟩ <;> rcases hm with hm | ⟨hm, hb, _⟩
                  · rw [m1] at hm; exact Option.some.inj hm
                  · rw [m1] at hm; cases hm
                  · rw [m1] at hm; cases hm
                  · rw [m0] at hb
                    have hb2 : bootBuiltins "ValueError" = some (.type "ValueError") := by decide +kernel
                    rw [hb2] at hb
                    exact Option.some.inj hb
                rw [← this]
                exact m3
              · have hlt : i < σ1.length := by simpa using hlt
                refine ⟨F1, ρ1.set i none, ρ2, fp1, s1.free i _, List.getElem?_set_self hlt, hdx, h2, fun σ2 H2 F2 fp2 s2 t2 i2 => ?_⟩
                refine kf _ H2 F2 fp2 (s2.free i none) (t1.trans t2) fun j hj => ?_
                have hne : i ≠ j := fun z => by
                  have : io.contains j = true := by simpa using hj
                  rw [← z, hio] at this
                  cases this
                rw [List.getElem?_set_ne hne, i2 j hj, List.getElem?_set_ne hne, i1 j hj]
            · rw [if_neg hc] at hd
              cases hd
          · cases hd
  · cases q
end
end Rf
set_option maxRecDepth 100000
set_option maxHeartbeats 8000000
namespace L2
open PySem PySem.Spec PyProof.Rows
section
variable {X : Cx} {pins : List (Addr × Obj)} {σ : St} {H : Hp} {s : Shared}
theorem Inv.keepPin {a : Addr} {q : Addr × Obj} {pn' : List (Addr × Obj)} (I : Inv (X.suite a (q :: (X.pn ++ pins))) pn' σ H s) (ok : X.Ok) : Inv (X.tr (q :: (X.pn ++ pins)) X.xe) [] σ H s :=
  ⟨ok.toTry _ _, I.os, I.bare, I.base, I.loc, I.cell, I.free, I.freeC, fun p hp => I.pin p (by
    have hp : p ∈ q :: (X.pn ++ pins) := by simpa using hp
    exact List.mem_append_left _ hp), I.hok, I.len⟩
theorem Inv.dropPin {q : Addr × Obj} {pn' : List (Addr × Obj)} {xe : Value → Shared → Prop} (I : Inv (X.tr (q :: (X.pn ++ pins)) xe) pn' σ H s) (ok : X.Ok) : Inv X pins σ H s :=
  ⟨ok, I.os, I.bare, I.base, I.loc, I.cell, I.free, I.freeC, fun p hp => I.pin p (List.mem_append_left _ (List.mem_cons_of_mem _ hp)), I.hok, I.len⟩
end
/-- what 'try: body, except x as n: suite, rest' wishes of an exception of the body -/
def wKeep (K : PySem.W.Frag) (c : Value) (i : Nat) (ts : Addr → Value → Option Addr → TS) (tr : Addr → Value → Option Addr → TS) (Wout : WX) (D : Ends) : WX := fun cls d σ H =>
  ∃ b, PySem.W.exmOne K cls c = some b ∧ (b = true → ∀ a, H a = none → ts a cls d { nx := fun σ' H' => tr a cls d D (σ'.set i none) H', rt := fun _ _ => False } (σ.set i (some (.ref a))) H) ∧ (b = false → Wout cls d σ H)
section
variable {X : Cx} {x n : Str} {c : Value} {i : Nat} {body suite rest : List Stmt} {b₀ : Stmt} {np pos pos' : Pos} {tb : WX → TS} {ts tr : Addr → Value → Option Addr → TS} {Wout : WX}
theorem pss_try_keep (hs : X.stack = X.env :: X.outer) (hf : X.env.frame = some X.env.locals) (hN : X.N.Nodup) (hi : X.N[i]? = some n) (hln : X.env.kindOf n = some .local) (hc : Names X x c) (tk : Takes X Wout)
    (hb : ∀ (W : WX) (pn : List (Addr × Obj)) (xe : Value → Shared → Prop), Takes (X.tr pn xe) W → PassesOwn (model X.prog X.w) X.A X.env xe → PSs (X.tr pn xe) body (tb W))
    (hsu : ∀ (a : Addr) (oe : Obj) (cls : Value) (d : Option Addr) (pn : List (Addr × Obj)), Zc cls d oe → (∃ vs, oe.data = .fields vs) → PSs (X.suite a ((a, oe) :: pn)) (b₀ :: suite) (ts a cls d))
    (hr : ∀ (a : Addr) (oe : Obj) (cls : Value) (d : Option Addr) (pn : List (Addr × Obj)), Zc cls d oe → (∃ vs, oe.data = .fields vs) → PSs (X.tr ((a, oe) :: pn) X.xe) rest (tr a cls d)) :
    PSs X (.Try body [.ExceptHandler (some (.Name x np)) (some n) (b₀ :: suite) pos'] [] [] pos :: rest) (fun D σ H => tb (wKeep X.K c i ts tr Wout D) { D with nx := fun _ _ => False } σ H) := by
  refine ⟨fun pins s σ H D I h => ?_⟩
  have ok := I.ok
  have hfr : X.A.frames = some (X.env :: X.outer) := by rw [ok.frames, hs]
  have hloc : Loc X.env.scope n := .inl hln
  refine wpAny_execs_cons (wpAny_Try_except ?_)
  generalize hR : (fun f s' => match f with | Flow.next => wpAny (model X.prog X.w) X.A (execs rest X.env) (SP X pins D) X.xe s' | f => SP X pins D f s' : Flow → Shared → Prop) = R
  refine wpAny_mono ((hb (wKeep X.K c i ts tr Wout D) (X.pn ++ pins) (fun e s₁ => wpAny (model X.prog X.w) X.A (noteFrame e X.env) (fun _ s₂ => wpAny (model X.prog X.w) X.A (setFlight e none) (fun _ s₃ =>
    wpAny (model X.prog X.w) X.A (handleBy e X.env [.ExceptHandler (some (.Name x np)) (some n) (b₀ :: suite) pos']) R X.xe s₃) X.xe s₂) X.xe s₁) (fun u s' xx => ?_) PassesOwn.looking).run [] s σ H { D with nx := fun _ _ => False } (I.toTry _) h) (fun f s1 hsp => ?_) (fun e s1 he => he)
  · -- the catch
    obtain ⟨a, B, sI, pins', σ', H', cls, d, rfl, J', nb, up, sky, na, os, ag, b, hb1, hyes, hno⟩ := xx
    have J : Inv X pins σ' H' sI := J'.ofTry ok
    have sky' : Sky B (X.env :: X.outer) a (Zc cls d) X.env.locals s'.heap := by rw [← hs]; exact sky
    show wpAny (model X.prog X.w) X.A (noteFrame (.ref a) X.env) _ _ _
    refine Sky.land Zc.steady hfr hf sky' fun h3 fl3 up3 => ?_
    have J3 : Inv X pins σ' H' { s' with heap := h3 } := J.landed nb fl3.1 (up.trans up3) os ag
    obtain ⟨oe3, vs3, he3, hz3, hd3⟩ := fl3.there
    have notFr : ∀ {h : Heap} {o : Obj} {vs : Array Value}, h.FunFrames B (X.env :: X.outer) → h.get? a = some o → o.data = .fields vs → a ∉ frs (X.env :: X.outer) := fun {h o vs} ff e dd hm => by
      obtain ⟨_, o', e', hnf⟩ := ff.mem hm
      rw [e] at e'; cases e'
      exact hnf _ dd
    have nfr := notFr fl3.2.2.1 he3 hd3
    have nL : a ≠ X.env.locals := fun z => nfr (List.mem_filterMap.mpr ⟨X.env, List.mem_cons_self, by rw [hf, z]⟩)
    have nF : a ∉ X.fs := fun hm => by
      obtain ⟨e, he, q⟩ := List.mem_filterMap.mp hm
      exact nfr (List.mem_filterMap.mpr ⟨e, List.mem_cons_of_mem _ he, q⟩)
    have S3 := J3.suite he3 hd3 na nL nF
    refine wpAny_handleBy_cons (codeAny_handlers_test ?_) (by intro q; cases q)
    have LT : PySem.W.Looks (model X.prog X.w) h3 (typeOf (.ref a)) cls := fun A Q E s k q => wpAny_typeOf_ref (k _ _ he3) (by rw [hz3.1]; exact q)
    have LM := PySem.W.exm_one (M := model X.prog X.w) (J3.kIn) LT hb1
    have test : ∀ {Q : Value → Shared → Prop} {E : Value → Shared → Prop}, Q c { s' with heap := h3 } → wpAny (model X.prog X.w) (X.A.mark (some (.ref a))) (eval (.Name x np) X.env) Q E { s' with heap := h3 } := fun {Q E} q => by
      obtain ⟨hg, hdbg, hm | ⟨hm, hv, hnn⟩⟩ := hc
      · exact ld_glob (X := X.suite a ((a, oe3) :: (X.pn ++ pins))) S3 hg hm q hdbg
      · exact ld_blt (X := X.suite a ((a, oe3) :: (X.pn ++ pins))) S3 hg hm hv q hnn hdbg
    refine test (LM.here ?_)
    cases b with
    | true =>
      refine codeAny_handlers_suite_as ?_
      refine HandSPX.lands_againZ fl3 fun h4 fl4 up4 => ?_
      have J4 : Inv X pins σ' H' { s' with heap := h4 } := J.landed nb fl4.1 ((up.trans up3).trans up4) os ag
      obtain ⟨oe4, vs4, he4, hz4, hd4⟩ := fl4.there
      have S4 := J4.suite he4 hd4 na nL nF
      refine store_ok (X := X.suite a ((a, oe4) :: (X.pn ++ pins))) (v := .ref a) S4 hN hi hloc rfl (fun s5 S5 => ?_) (.inr hln)
      refine wpAny_mono ((hsu a oe4 cls d (X.pn ++ pins) hz4 ⟨_, hd4⟩).run [] s5 _ H' _ S5 (hyes rfl a na)) (fun f s6 hsp => ?_) (fun _ _ z => False.elim z)
      cases f with
      | next =>
        obtain ⟨σ6, H6, S6, q6⟩ := hsp
        have S6' : Inv (X.tr ((a, oe4) :: (X.pn ++ pins)) X.xe) [] σ6 H6 s6 := Inv.keepPin (X := X) S6 ok
        refine gone_ok (X := X.tr ((a, oe4) :: (X.pn ++ pins)) X.xe) S6' hN hi hln fun s7 J7 => ?_
        subst hR
        refine wpAny_mono ((hr a oe4 cls d (X.pn ++ pins) hz4 ⟨_, hd4⟩).run [] s7 _ H6 D J7 q6) (fun f s8 q8 => ?_) (fun _ _ z => z)
        cases f with
        | next =>
          obtain ⟨σ', H', J', q⟩ := q8
          exact ⟨σ', H', Inv.dropPin J' ok, q⟩
        | brk =>
          obtain ⟨σ', H', J', q⟩ := q8
          exact ⟨σ', H', Inv.dropPin J' ok, q⟩
        | cont =>
          obtain ⟨σ', H', J', q⟩ := q8
          exact ⟨σ', H', Inv.dropPin J' ok, q⟩
        | ret u =>
          obtain ⟨v, σ', H', J', r, q⟩ := q8
          exact ⟨v, σ', H', Inv.dropPin J' ok, r, q⟩
      | brk =>
        obtain ⟨σ6, H6, S6, q6⟩ := hsp
        exact q6.elim
      | cont =>
        obtain ⟨σ6, H6, S6, q6⟩ := hsp
        exact q6.elim
      | ret u =>
        obtain ⟨v6, σ6, H6, S6, r6, q6⟩ := hsp
        exact q6.elim
    | false =>
      show wpAny _ X.A (handleBy (.ref a) X.env []) _ _ _
      refine wpAny_handleBy_nil ?_
      obtain ⟨k1, k2, k3, oe, vs, T, oT, ts', he, hz, hd, h1, hr⟩ := id fl3
      unfold PySem.passOn
      refine wpAny_bind (wpAny_field he hd h1 ?_)
      rw [if_neg (show ¬ ((Value.ref T == Value.none) = true) from by simp)]
      have fin : wpAny (model X.prog X.w) X.A (setFlight (.ref a) X.env.frame) (fun _ s4 => wpAny (model X.prog X.w) X.A (throw (.ref a) : Sem Flow) R X.xe s4) X.xe { s' with heap := h3 } := by
        rw [hf]
        refine HandSPX.setFlight_upZ fl3 fun h4 hh4 up4 => wpAny_throw (tk _ _ ?_)
        exact ⟨a, B, sI, pins, σ', H', cls, d, rfl, J, nb, (up.trans up3).trans up4, .inr (.inr (by rw [hs]; exact hh4)), na, os, ag, hno rfl⟩
      first
        | exact wpAny_bind (wpAny_pure (wpAny_bind fin))
        | exact wpAny_bind fin
  · subst hR
    cases f with
    | next =>
      obtain ⟨σ', H', J', q⟩ := hsp
      exact q.elim
    | brk =>
      obtain ⟨σ', H', J', q⟩ := hsp
      exact ⟨σ', H', J'.ofTry ok, q⟩
    | cont =>
      obtain ⟨σ', H', J', q⟩ := hsp
      exact ⟨σ', H', J'.ofTry ok, q⟩
    | ret u =>
      obtain ⟨v, σ', H', J', r, q⟩ := hsp
      exact ⟨v, σ', H', J'.ofTry ok, r, q⟩
end
end L2
namespace Rf
open PySem PySem.Spec PyProof.Rows L2 Evl
theorem par_facts {sc : Scope} {x y : Str} {px py : Pos} {u v : Expr} (h : parOk sc x y px py u v = true) : sc.names.lookup x = some .local ∧ sc.names.lookup y = some .local ∧ px.line = py.line ∧ x ≠ y ∧ noStar u = true ∧ noStar v = true ∧ (foldedForSure 8 u && foldedForSure 8 v) = false ∧ (constantsAlone 8 u && constantsAlone 8 v) = false := by
  unfold parOk at h
  simp only [Bool.and_eq_true, Bool.not_eq_true', decide_eq_true_eq, beq_iff_eq, and_assoc] at h
  exact h
theorem swapped_okE {env : Env} {sc : Scope} (hs : env.scope = sc) (hk : sc.kind = .function) {x y : Str} {px py pt pt2 : Pos} {kt k2 : Nat} {u v : Expr} (h : parOk sc x y px py u v = true) : swappedStores [.Tuple [.Name x px, .Name y py] kt pt] (.Tuple [u, v] k2 pt2) env = pure (some [x, y]) := by
  obtain ⟨h1, h2, h3, h4, h5, h6, h7, h8⟩ := par_facts h
  have e1 : env.kindOf x = some .local := by show env.scope.names.lookup x = _; rw [hs]; exact h1
  have e2 : env.kindOf y = some .local := by show env.scope.names.lookup y = _; rw [hs]; exact h2
  have e3 : env.blockKind = .function := by unfold Env.blockKind; rw [hs, hk]; rfl
  have hl : (Expr.Name x px).pos.line = px.line := rfl
  have hd : [x, y].eraseDups.length = 2 := by
    have hyx : (y == x) = false := by simpa using fun q => h4 q.symm
    simp [List.eraseDups_cons, hyx]
  have c1 : (some NameKind.local == some NameKind.local && py.line == py.line) = true := by simp
  unfold swappedStores
  simp only [List.length_cons, List.length_nil, List.any_cons, List.any_nil, Bool.or_false, e3, List.head?_cons, Option.map_some, Option.getD_some, hl, List.filterMap_cons, List.filterMap_nil, e1, e2, h3, c1, if_true, List.all_cons, List.all_nil, Bool.and_true, h7, h8, hd]
  rw [if_neg (by decide), if_neg, if_neg (by decide), if_neg (by decide), if_neg (by decide)]
  intro z
  rcases (Bool.or_eq_true _ _).mp z with z | z
  · cases u <;> first | (cases z; done) | (cases h5; done)
  · cases v <;> first | (cases z; done) | (cases h6; done)
theorem chkA_two {P : Prg} {N : List Str} {sc : Scope} {e f : E} {u v : Expr} (n : noIo (.cons e (.cons f .nil)) = true) : (∀ i, e ≠ .io i) ∧ (∀ i, f ≠ .io i) := by
  refine ⟨fun i q => ?_, fun i q => ?_⟩
  · subst q; cases n
  · subst q
    cases e <;> first | (cases n; done)
section
variable (K : Frag) (i : Nat) (a dx : Addr) (v : V) (c : Str) (d : PyData)
def tHX (h : HX) : TE := fun σ H Q => ∃ F ρ b, SC K F H σ ρ i a dx v ∧ denHX c d h ρ = .ok b ∧ ∀ F' H', Nw F H F' H' → Q (.bl b) H'
def tHXT (h : HX) : TT := fun σ H Q => ∃ F ρ b, SC K F H σ ρ i a dx v ∧ denHX c d h ρ = .ok b ∧ ∀ F' H', Nw F H F' H' → Q b H'
end
theorem cmp_ints (m n : Int) : cmpS .Eq (.int m) (.int n) = .ok (decide (m = n)) := by
  have h1 : eqOk (.int m) (.int n) = true := by rfl
  simp only [cmpS, h1]
  show Res.ok (PyData.eqv (.int m) (.int n)) = _
  congr 1
section
variable {P : Prg} {G : Gls} {T : Tab} {n : Nat} {N : List Str} {sc : Scope} {X : Cx} {W : WX} {io : List Nat} (o : XOk P G T n N sc true X)
include o
theorem s_par {i j : Nat} {e f : E} {a : Stmt} (h : chkS P N (.par i j e f) sc io a = true) : PS X a (tS X.K T G io (.par i j e f)) := by
  simp only [chkS] at h
  split at h
  · rename_i x px y py pp kk u v k2 p2 pos
    obtain ⟨k0, hE, hF⟩ := and3 h
    obtain ⟨k1, hC, hD⟩ := and3 k0
    obtain ⟨hA, hB⟩ := and2 k1
    obtain ⟨h1, h2⟩ := and2 hA
    obtain ⟨h7, h8⟩ := and2 hE
    obtain ⟨io1, io2⟩ := and2 hC
    have io1 : io.contains i = false := by simpa using io1
    have io2 : io.contains j = false := by simpa using io2
    have hN : X.N.Nodup := by rw [o.hN]; exact o.nd
    have hi : X.N[i]? = some x := by rw [o.hN]; simpa using h1
    have hj : X.N[j]? = some y := by rw [o.hN]; simpa using h2
    obtain ⟨f1, f2, f3, f4, f5, f6, f7, f8⟩ := par_facts hD
    obtain ⟨ne, nf⟩ := chkA_two (P := P) (N := N) (sc := sc) (u := u) (v := v) hF
    have hk : sc.kind = .function := o.kind
    refine (ps_par o.calm hN hi hj (of_decide_eq_true hB) (by rw [o.hsc]; exact f1) (by rw [o.hsc]; exact f2) (pa_cons ((snd e).pe sc true X o _ h7) (pa_cons ((snd f).pe sc true X o _ h8) pa_nil (star_ok f6)) (star_ok f5)) (swapped_okE o.hsc hk hD)).mono fun D σ H ⟨F, ρ, fp, fl, ρ', s, hd, k⟩ => ?_
    simp only [denS] at hd
    obtain ⟨⟨x1, ρ1⟩, g1, hd⟩ := Res.bind_inv hd
    obtain ⟨⟨x2, ρ2⟩, g2, hd⟩ := Res.bind_inv hd
    obtain ⟨y1, g3, hd⟩ := Res.bind_inv hd
    obtain ⟨y2, g4, hd⟩ := Res.bind_inv hd
    cases hd
    refine two s g1 g2 fun w1 w2 H2 F2 fp2 P1 P2 s2 t2 hd1 hd2 sub1 sub2 dj => ⟨w1, w2, rfl, ?_⟩
    obtain ⟨F3, s3, e3, q3, r3⟩ := settleA (as := .cons e (.cons f .nil)) (.cons ne hd1.ow (.cons nf hd2.ow .nil fun _ _ z => z) fun a ha z => z.elim (dj a ha) id) hF (show fzs [x1, x2] = .ok [y1, y2] by simp only [fzs_cons, fzs_nil, g3, g4, Res.bind_ok]) s2
      (fun a z => z.elim (hd1.nf a) fun z => z.elim (hd2.nf a) fun z => z.elim) (fun a z => z.elim (hd1.kn a) fun z => z.elim (hd2.kn a) fun z => z.elim) (fun a z => z.elim (hd1.dj a) fun z => z.elim (hd2.dj a) fun z => z.elim)
    obtain ⟨r1, r2⟩ : Rp X.K F3 w1 y1 ∧ Rp X.K F3 w2 y2 := by
      cases r3 with
      | cons r1 r3 => cases r3 with
        | cons r2 r3 => exact ⟨r1, r2⟩
    have s4 := (s3.putD r1 i).putD r2 j
    have tg := t2.grow (P := fun a => P1 a ∨ P2 a ∨ none0 a) (fun a z => z.elim (sub1 a) fun z => z.elim (sub2 a) fun z => z.elim) e3 s3.le q3
    refine tS_next k s4 ((tg.trans ?_)) fun l hl => (set_ne_io io2 l hl).trans (set_ne_io io1 l hl)
    refine (Xt.refl s3.le).lower fun l a hj => ?_
    rcases fpSet_cases hj with ⟨_, z⟩ | ⟨_, z⟩
    · exact z.elim
    · rcases fpSet_cases z with ⟨_, z⟩ | ⟨_, z⟩
      · exact z.elim
      · exact ⟨l, z⟩
  · cases h
theorem s_tryO (hk : X.stack = X.env :: X.outer ∧ X.env.frame = some X.env.locals) {b : S} {k : Str} {w : Bool} {a : Stmt} (hkn : ∃ D, X.mg k = some (.ref D)) (q : chkS P N (.tryO b k w) sc io a = true) : PS X a (tS X.K T G io (.tryO b k w)) := by
  simp only [chkS] at q
  split at q
  · rename_i st x np v p0 p1 p2 p3 pos
    obtain ⟨k0, q7, q8⟩ := and3 q
    obtain ⟨k1, q3, q4⟩ := and3 k0
    obtain ⟨q1, q2⟩ := and2 k1
    obtain rfl := eq_of_beq q1
    obtain rfl := eq_of_beq q4
    obtain ⟨g1, g2, g3⟩ := (glo_ok o q2)
    have hin : x ∈ errNames := by simpa using q3
    have ok : ∀ {X' : Cx}, XOk P G T n N sc true X' → PS X' st (tS X'.K T G io b) := fun {X'} o' => by
      cases b <;> first | (cases q7; done) | skip
      · exact s_asg o' q8
      · exact s_ex o' q8
    obtain ⟨cv, hn⟩ : ∃ cv, Names X x cv := let ⟨D, m⟩ := hkn; ⟨_, g1, g2, .inl m⟩
    refine (ps_try_only (ts := fun _ _ _ => tRet (tC (.bl v))) (tb := fun W D σ H => tS X.K T G io b D σ H ∨ tRB X.K X.mg T G W io b D σ H) hk.1 hk.2 hn takes0 (fun W pn xe tk _ => pss_one ((ok (o.tr pn xe)).or (r_body (o.tr pn xe) tk q7 q8))) (fun a0 oe cls dd pn hz hf => pss_one (ps_ret pe_bl))).mono fun D σ H ⟨F, ρ, fp, f, ρ', s, hd, kf⟩ => ?_
    simp only [denS] at hd
    split at hd
    · rename_i r hr
      cases hd
      exact .inl ⟨F, ρ, fp, f, ρ', s, hr, kf⟩
    · rename_i hno
      split at hd
      · rename_i c d ρ1 hx
        by_cases hc : isC c x = true
        · rw [if_pos hc] at hd
          cases hd
          refine .inr ⟨F, ρ, fp, c, d, _, s, hx, fun cls dd σ1 H1 F1 fp1 s1 t1 i1 ex => ?_⟩
          obtain ⟨C, dx, u, rfl, rfl, ea, hdx, pl⟩ := ex
          refine ⟨true, ?_, fun _ a0 ha0 => ?_, fun z => by cases z⟩
          · obtain ⟨cv', m, _, m3⟩ := (ea.cls x hin).resolve_left (fun ⟨_, n2⟩ => let ⟨D, e⟩ := hkn; by rw [n2] at e; cases e)
            rw [hc] at m3
            have : cv' = cv := by
              obtain ⟨_, _, hm⟩ := hn
              rcases m with ⟨D0, m1, rfl⟩ | ⟨m0, m1, rfl⟩ <;> rcases hm with hm | ⟨hm, hb, _⟩
              · rw [m1] at hm; exact Option.some.inj hm
              · rw [m1] at hm; cases hm
              · rw [m1] at hm; cases hm
              · rw [m0] at hb
                have hb2 : bootBuiltins "ValueError" = some (.type "ValueError") := by decide +kernel
                rw [hb2] at hb
                exact Option.some.inj hb
            rw [← this]
            exact m3
          · exact kf (.bl v) σ1 H1 F1 fp1 none0 s1 t1 i1 ⟨.d (.bl _), fun _ z => z.elim, fun _ z => z.elim, fun _ z => z.elim⟩ fun _ z => z.elim
        · rw [if_neg hc] at hd
          cases hd
      · cases hd
  · cases q
section
variable {i : Nat} {a dx : Addr} {v : V} {c : Str} {d : PyData} {C : Addr} {oe : Obj} (ho : HOk N sc X i a dx v c d C oe)
include ho
omit o in
theorem x_h {h : HE} {e : Expr} (q : chkH N i h sc e = true) : PE X e (tHX X.K i a dx v c d (.h h)) :=
  ((sndH ho h).1 e q).mono fun σ H Q ⟨F, ρ, b, s, hd, k⟩ => by
    simp only [denHX] at hd
    obtain ⟨x, h1, hd⟩ := Res.bind_inv hd
    obtain rfl := hB_inv hd
    exact ⟨F, ρ, _, s, h1, fun w F' H' n r => by rw [r.bl_inv]; exact k F' H' n⟩
theorem x_isT {t : Ty} {f y : Str} {p p2 pos : Pos} {l : Expr} (hs : noStar l = true) (q : chkH N i .fld sc l = true) (hf : f = "isinstance") (hg : glo sc f = true) (hy : y = tyName t) (hgy : glo sc y = true) :
    PE X (.Call (.Name f p) [l, .Name y p2] [] pos) (tHX X.K i a dx v c d (.isT t)) := by
  obtain ⟨g1, g2, g3⟩ := glo_ok o hg
  obtain ⟨y1, y2, y3⟩ := glo_ok o hgy
  subst hf
  subst hy
  have hb : X.mg (tyName t) = none := o.blt _ (by cases t <;> decide +kernel)
  have pt : PE X (.Name (tyName t) p2) (tC (.ty (tyS t))) := pe_bltn y1 hb (ty_boot t) rfl y3 y2
  refine (pe_callB call_isi g1 (o.blt _ (by decide +kernel)) (by decide +kernel) (pa_cons ((sndH ho .fld).1 l q) (pa_cons pt pa_nil (star_ok rfl)) (star_ok hs)) g3 g2 (star_ok hs) rfl).mono fun σ H Q ⟨F, ρ, b, s, hd, k⟩ => ?_
  simp only [denHX] at hd
  cases hd
  refine ⟨F, ρ, d, s, rfl, fun u F' H' n r => ⟨u, .ty (tyS t), _, _, isS t d, rfl, .ty _, opd_ty n.le (.d r), kit_is t d (fun kvs e => ?_), k F' H' n⟩⟩
  subst e
  cases r
theorem x_eq {l r : Expr} {pos : Pos} {h : HX} {g : HE} (hl : chkH N i .fld sc l = true) (hr : chkH N i g sc r = true) (hm : behindInMarks .Eq r = false)
    (hd : ∀ ρ b, denHX c d h ρ = .ok b → ∃ m n, d = .int m ∧ denH c d g ρ = .ok (.int n) ∧ b = decide (m = n)) : PE X (.Compare l [.Eq] [r] pos) (tHX X.K i a dx v c d h) :=
  (pe_cmpR (op_cmp (units_ok o) .Eq) ((sndH ho .fld).1 l hl) ((sndH ho g).1 r hr) hm).mono fun σ H Q ⟨F, ρ, b, s, hb, k⟩ => by
    obtain ⟨m, n, e1, e2, e3⟩ := hd ρ b hb
    refine ⟨F, ρ, d, s, rfl, fun w F1 H1 n1 r1 => ⟨F1, ρ, _, s.up n1, e2, fun w2 F2 H2 n2 r2 => ?_⟩⟩
    subst e1
    subst e3
    exact cmp_rs .Eq n2.le (.d (r1.up n2.ff)) (.d r2) (cmp_ints m n) (k F2 H2 (n1.trans n2))
theorem x_leaf : ∀ (h : HX) {e : Expr}, (match h with | .h _ => true | .isT _ => true | .eqN _ => true | .eqI _ => true | _ => false) = true → chkHX N i h sc e = true → PE X e (tHX X.K i a dx v c d h)
  | .h g, e, _, q => by
    simp only [chkHX] at q
    exact x_h ho (and2 q).1
  | .isT t, e, _, q => by
    simp only [chkHX] at q
    split at q
    · obtain ⟨k0, h4, h5⟩ := and3 q
      obtain ⟨k1, h3⟩ := and2 k0
      obtain ⟨h1, h2⟩ := and2 k1
      obtain ⟨h6, h7⟩ := and2 h3
      exact x_isT o ho h4 h5 (eq_of_beq h1) h2 (eq_of_beq h6) h7
    · cases q
  | .eqN j, e, _, q => by
    simp only [chkHX] at q
    split at q
    · obtain ⟨h1, h2, h3⟩ := and3 q
      refine x_eq o ho h1 h2 (by simpa using h3) fun ρ b hd => ?_
      simp only [denHX] at hd
      obtain ⟨x, g1, hd⟩ := Res.bind_inv hd
      split at hd
      · rename_i m1 m2 _
        cases hd
        exact ⟨m1, m2, rfl, g1, rfl⟩
      · cases hd
    · cases q
  | .eqI n, e, _, q => by
    simp only [chkHX] at q
    split at q
    · rename_i l m a1 b1 pos
      obtain ⟨h1, h2, h3⟩ := and3 q
      have e0 : n = m := eq_of_beq h2
      subst e0
      refine (pe_cmpR (op_cmp (units_ok o) .Eq) ((sndH ho .fld).1 _ h1) pe_int (by simpa using h3)).mono fun σ H Q ⟨F, ρ, b, s, hb, k⟩ => ?_
      simp only [denHX] at hb
      split at hb
      · rename_i m1 _
        cases hb
        refine ⟨F, ρ, _, s, rfl, fun w F1 H1 n1 r1 => ?_⟩
        exact cmp_rs .Eq n1.le (.d r1) (.d (.int _)) (cmp_ints m1 n) (k F1 H1 n1)
      · cases hb
    · cases q
  | .or _ _, _, z, _ => by cases z
  | .and _ _, _, z, _ => by cases z
  | .not _, _, z, _ => by cases z
omit o in
theorem x_and {x y : HX} {l : Expr} {es : List Expr} {m : Expr} {p : Pos} (hx : PE X l (tHX X.K i a dx v c d x)) (hy : PE X (.BoolOp .And (m :: es) p) (tHX X.K i a dx v c d y)) : PE X (.BoolOp .And (l :: m :: es) p) (tHX X.K i a dx v c d (.and x y)) :=
  (pe_and hx hy).mono fun σ H Q ⟨F, ρ, b, s, hd, k⟩ => by
    simp only [denHX] at hd
    obtain ⟨u, h1, hd⟩ := Res.bind_inv hd
    refine ⟨F, ρ, u, s, h1, fun F' H' n => ⟨u, rfl, ?_⟩⟩
    cases u with
    | true =>
      rw [if_pos rfl] at hd ⊢
      exact ⟨F', ρ, b, s.up n, hd, fun F2 H2 n2 => k F2 H2 (n.trans n2)⟩
    | false =>
      rw [if_neg Bool.false_ne_true] at hd ⊢
      cases hd
      exact k F' H' n
theorem x_val : ∀ (h : HX), valHX h = true → ∀ e, chkHX N i h sc e = true → PE X e (tHX X.K i a dx v c d h)
  | .h g, _, e, q => x_leaf o ho (.h g) rfl q
  | .isT t, _, e, q => x_leaf o ho (.isT t) rfl q
  | .eqN j, _, e, q => x_leaf o ho (.eqN j) rfl q
  | .eqI j, _, e, q => x_leaf o ho (.eqI j) rfl q
  | .or _ _, z, _, _ => by cases z
  | .not g, z, e, q => by
    simp only [chkHX] at q
    split at q
    · refine (pe_not (x_val g z _ q)).mono fun σ H Q ⟨F, ρ, b, s, hd, k⟩ => ?_
      simp only [denHX] at hd
      obtain ⟨u, h1, hd⟩ := Res.bind_inv hd
      cases hd
      exact ⟨F, ρ, u, s, h1, fun F' H' n => ⟨u, rfl, k F' H' n⟩⟩
    · cases q
  | .and x y, z, e, q => by
    have zx := and2 (show (valHX x && valHX y) = true from z)
    unfold chkHX at q
    split at q
    · obtain ⟨q1, q2⟩ := and2 q
      exact x_and ho (x_val x zx.1 _ q1) (pe_one (x_val y zx.2 _ q2))
    · split at q
      · rename_i y1 y2
        have zy := and2 (show (valHX y1 && valHX y2) = true from zx.2)
        obtain ⟨q1, q2⟩ := and2 q
        obtain ⟨q2, q3⟩ := and2 q2
        exact x_and ho (x_val x zx.1 _ q1) (x_and ho (x_val y1 zy.1 _ q2) (pe_one (x_val y2 zy.2 _ q3)))
      · cases q
    · cases q
theorem x_tst : ∀ (h : HX), tstHX h = true → ∀ e, chkHX N i h sc e = true → PT X e (tHXT X.K i a dx v c d h)
  | .h g, _, e, q => (pt_val (x_leaf o ho (.h g) rfl q) (by
      simp only [chkHX] at q
      have := (and2 q).2
      split at this
      · exact fun _ => rfl
      · cases this)).mono fun σ H Q ⟨F, ρ, b, s, hd, k⟩ => ⟨F, ρ, b, s, hd, fun F' H' n => ⟨b, rfl, k F' H' n⟩⟩
  | .isT t, _, e, q => (pt_val (x_leaf o ho (.isT t) rfl q) (by
      simp only [chkHX] at q
      split at q
      · exact fun _ => rfl
      · cases q)).mono fun σ H Q ⟨F, ρ, b, s, hd, k⟩ => ⟨F, ρ, b, s, hd, fun F' H' n => ⟨b, rfl, k F' H' n⟩⟩
  | .not g, z, e, q => by
    simp only [chkHX] at q
    split at q
    · refine (pt_not (x_tst g z _ q)).mono fun σ H Q ⟨F, ρ, b, s, hd, k⟩ => ?_
      simp only [denHX] at hd
      obtain ⟨u, h1, hd⟩ := Res.bind_inv hd
      cases hd
      exact ⟨F, ρ, u, s, h1, fun F' H' n => k F' H' n⟩
    · cases q
  | .or x y, z, e, q => by
    have zx := and2 (show (tstHX x && tstHX y) = true from z)
    simp only [chkHX] at q
    split at q
    · obtain ⟨q1, q2⟩ := and2 q
      refine ((pw_or (x_tst x zx.1 _ q1) (pw_or1 (x_tst y zx.2 _ q2))).pt).mono fun σ H Q ⟨F, ρ, b, s, hd, k⟩ => ?_
      simp only [denHX] at hd
      obtain ⟨u, h1, hd⟩ := Res.bind_inv hd
      refine ⟨F, ρ, u, s, h1, fun F' H' n => ?_⟩
      cases u with
      | true =>
        rw [if_pos rfl] at hd ⊢
        cases hd
        exact k F' H' n
      | false =>
        rw [if_neg Bool.false_ne_true] at hd ⊢
        exact ⟨F', ρ, b, s.up n, hd, fun F2 H2 n2 => k F2 H2 (n.trans n2)⟩
    · cases q
  | .and _ _, z, _, _ => by cases z
  | .eqN _, z, _, _ => by cases z
  | .eqI _, z, _, _ => by cases z
end
end
section
variable (K : Frag) (T : Tab) (G : Gls) (io : List Nat) (i : Nat) (a dx : Addr) (v : V) (c : Str) (d : PyData)
def tRS (r : RS) : TS := fun D σ H => ∃ F ρ fp f ρ', St K F H σ ρ fp ∧ σ[i]? = some (some (.ref a)) ∧ H dx = some (.xd [(("at" : Str), v)]) ∧ denR T G c d r ρ = .ok (f, ρ') ∧ Fin K io D F H σ fp ρ' f
end
section
variable {P : Prg} {G : Gls} {T : Tab} {n : Nat} {N : List Str} {sc : Scope} {X : Cx} {io : List Nat} (o : XOk P G T n N sc true X)
variable {i : Nat} {a dx : Addr} {v : V} {c : Str} {d : PyData} {C : Addr} {oe : Obj} (ho : HOk N sc X i a dx v c d C oe)
include o ho
theorem sndR : ∀ (r : RS) (b : List Stmt), chkR P N r sc io i b = true → PSs X b (tRS X.K T G io i a dx v c d r)
  | .asg j e r, b, q => by
    unfold chkR at q
    split at q
    · rename_i x px w pos l
      obtain ⟨k0, q5, q6⟩ := and3 q
      obtain ⟨k1, q3, q4⟩ := and3 k0
      obtain ⟨q1, q2⟩ := and2 k1
      have hc : chkS P N (.asg j e) sc (i :: io) (.Assign [.Name x px] w pos) = true := by
        simp only [chkS, q1, q2, q3, q4, q5, Bool.and_true]
      refine (pss_cons (s_asg (io := i :: io) o hc) (sndR r l q6)).mono fun D σ H ⟨F, ρ, fp, f, ρ', s, e1, e2, hd, k⟩ => ?_
      simp only [denR] at hd
      obtain ⟨⟨y, ρ1⟩, g1, hd⟩ := Res.bind_inv hd
      refine ⟨F, ρ, fp, .nx, ρ1.set j (some y), s, ?_, fun σ1 H1 F1 fp1 s1 t1 i1 => ?_⟩
      · simp only [denS, g1, Res.bind_ok]
      · refine ⟨F1, _, fp1, f, ρ', s1, (i1 i List.mem_cons_self).trans e1, t1.fr _ _ e2 fun l hl => ?_, hd, k.later t1 fun l hl => i1 l (List.mem_cons_of_mem _ hl)⟩
        obtain ⟨u, hu, z⟩ := s.kn l _ hl
        rw [e2] at hu
        cases hu
        cases z
    · cases q
  | .ifr h w r, b, q => by
    unfold chkR at q
    split at q
    · rename_i t w' p1 p2 p3 p4 l
      obtain ⟨k0, q3, q4⟩ := and3 q
      obtain ⟨q1, q2⟩ := and2 k0
      obtain rfl := eq_of_beq q3
      refine (pss_cons (ps_if (x_tst o ho h q1 _ q2) (pss_one (ps_ret pe_bl)) pss_nil) (sndR r l q4)).mono fun D σ H ⟨F, ρ, fp, f, ρ', s, e1, e2, hd, k⟩ => ?_
      simp only [denR] at hd
      obtain ⟨u, g1, hd⟩ := Res.bind_inv hd
      refine ⟨F, ρ, u, sc_of s e1 e2, g1, fun F1 H1 n => ?_⟩
      have s1 := n.st s
      cases u with
      | true =>
        rw [if_pos rfl] at hd
        dsimp only
        rw [if_pos rfl]
        cases hd
        exact k (.bl w') σ H1 F1 fp none0 s1 n.xt (fun _ _ => rfl) ⟨.d (.bl _), fun _ z => z.elim, fun _ z => z.elim, fun _ z => z.elim⟩ fun _ z => z.elim
      | false =>
        rw [if_neg Bool.false_ne_true] at hd
        dsimp only
        rw [if_neg Bool.false_ne_true]
        exact ⟨F1, ρ, fp, f, ρ', s1, e1, n.hh _ _ e2, hd, k.later n.xt fun _ _ => rfl⟩
    · cases q
  | .ret h, b, q => by
    unfold chkR at q
    split at q
    · obtain ⟨q1, q2⟩ := and2 q
      refine (pss_one (ps_ret (x_val o ho h q1 _ q2))).mono fun D σ H ⟨F, ρ, fp, f, ρ', s, e1, e2, hd, k⟩ => ?_
      simp only [denR] at hd
      obtain ⟨u, g1, hd⟩ := Res.bind_inv hd
      cases hd
      exact ⟨F, ρ, u, sc_of s e1 e2, g1, fun F1 H1 n => k (.bl u) σ H1 F1 fp none0 (n.st s) n.xt (fun _ _ => rfl) ⟨.d (.bl _), fun _ z => z.elim, fun _ z => z.elim, fun _ z => z.elim⟩ fun _ z => z.elim⟩
    · cases q
end
section
variable {P : Prg} {G : Gls} {T : Tab} {n : Nat} {N : List Str} {sc : Scope} {X : Cx} {W : WX} {io : List Nat} (o : XOk P G T n N sc true X)
include o
theorem s_tryC (hk : X.stack = X.env :: X.outer ∧ X.env.frame = some X.env.locals) {b : S} {k : Str} {i j : Nat} {r : RS} {l : List Stmt} (hkn : ∃ D, X.mg k = some (.ref D)) (hex : ∀ k ∈ errOwn, ∃ D, X.mg k = some (.ref D)) (q : chkS.chkB P N (.tryC b k i j r) sc io l = true) : PSs X l (tS X.K T G io (.tryC b k i j r)) := by
  simp only [chkS.chkB] at q
  split at q
  · rename_i st x np nm y py w pos1 pos2 pos3 rest
    obtain ⟨k0, r8, r9⟩ := and3 q
    obtain ⟨k1, r6, r7⟩ := and3 k0
    obtain ⟨k2, r4, r5⟩ := and3 k1
    obtain ⟨k3, r2, r3⟩ := and3 k2
    obtain ⟨q1, q2, q3⟩ := and3 k3
    clear q k0 k1 k2 k3
    obtain ⟨q4, q5⟩ := and2 r2
    obtain ⟨q6, q7⟩ := and2 r3
    obtain ⟨q8, q9⟩ := and2 r5
    have hij : i ≠ j := of_decide_eq_true r4
    obtain rfl := eq_of_beq q1
    obtain ⟨g1, g2, g3⟩ := (glo_ok o q2)
    have hin : x ∈ errNames := by simpa using q3
    have hi : X.N[i]? = some nm := by rw [o.hN]; simpa using q4
    have hj : X.N[j]? = some y := by rw [o.hN]; simpa using q6
    have hN : X.N.Nodup := by rw [o.hN]; exact o.nd
    have hln : X.env.kindOf nm = some .local := by
      show X.env.scope.names.lookup nm = _
      rw [o.hsc]; exact of_decide_eq_true q5
    obtain ⟨l1, l2⟩ := sto_ok o q7
    have hio : io.contains i = false := by simpa using q8
    have hio2 : io.contains j = false := by simpa using q9
    have ok : ∀ {X' : Cx}, XOk P G T n N sc true X' → PS X' st (tS X'.K T G io b) := fun {X'} o' => by
      cases b <;> first | (cases r7; done) | skip
      · exact s_asg o' r8
      · exact s_ex o' r8
    obtain ⟨cv, hn⟩ : ∃ cv, Names X x cv := let ⟨D, m⟩ := hkn; ⟨_, g1, g2, .inl m⟩
    have hw : isLc w = false := by
      unfold chkN at r6
      split at r6
      · rfl
      · cases r6
    let tr : Addr → Value → Option Addr → TS := fun a0 cls dd D σ H => ∃ z : (Str × PyData × Addr × Addr × V), (cls = .ref z.2.2.1 ∧ dd = some z.2.2.2.1 ∧ ExAt X.K X.mg z.1 z.2.2.1 ∧ PlV z.2.2.2.2 z.2.1) ∧ tRS X.K T G io j a0 z.2.2.2.1 z.2.2.2.2 z.1 z.2.1 r D σ H
    refine (pss_try_keep (ts := fun _ _ _ D σ H => i < σ.length → j < σ.length → tAsg (tVar i) (gName j) D σ H) (tr := tr) (tb := fun W D σ H => tS X.K T G io b D σ H ∨ tRB X.K X.mg T G W io b D σ H) hk.1 hk.2 hN hi hln hn takes0 (fun W pn xe tk _ => pss_one ((ok (o.tr pn xe)).or (r_body (o.tr pn xe) tk r7 r8))) (fun a0 oe cls dd pn hz hf => ?_) (fun a0 oe cls dd pn hz hf => ?_)).mono fun D σ H ⟨F, ρ, fp, f, ρ', s, hd, kf⟩ => ?_
    · have hpe : PE (X.suite a0 ((a0, oe) :: pn)) w (tVar i) := by
        unfold chkN at r6
        split at r6
        · rename_i x2 p2
          rw [Bool.and_eq_true] at r6
          obtain ⟨u1, u2⟩ := r6
          unfold vis at u2
          rw [Bool.and_eq_true, Bool.and_eq_true] at u2
          obtain ⟨⟨u3, u4⟩, u5⟩ := u2
          refine pe_var (by show X.N[i]? = _; rw [o.hN]; simpa using u1) ?_ (by simpa using u4) (by simpa using u5)
          show Vis X.env.scope x2
          rw [o.hsc]
          unfold Vis
          split at u3 <;> simp_all
        · cases r6
      exact pss_len (pss_len (pss_one (ps_set hN hj l1 hpe (swap_no hw) l2)) (List.getElem?_eq_some_iff.mp hj).1) (List.getElem?_eq_some_iff.mp hi).1
    · refine pss_ex fun z => pss_and fun ⟨e1, e2, e3, e4⟩ => ?_
      obtain ⟨c, d, C, dx, v⟩ := z
      dsimp only at e1 e2 e3 e4 ⊢
      subst e1 e2
      have o' : XOk P G T n N sc true (X.tr ((a0, oe) :: pn) X.xe) := o.tr _ _
      have ho : HOk N sc (X.tr ((a0, oe) :: pn) X.xe) j a0 dx v c d C oe := ⟨o.hN, o.hsc, o.nd, o.blt _ (by decide +kernel), o.fn rfl, e3, hex, List.mem_cons_self, hz, hf, e4⟩
      exact sndR o' ho r rest r9
    · simp only [denS] at hd
      split at hd
      · cases hd
      · rename_i hno
        split at hd
        · rename_i c d ρ1 hx
          by_cases hc : isC c x = true
          · rw [if_pos hc] at hd
            refine .inr ⟨F, ρ, fp, c, d, _, s, hx, fun cls dd σ1 H1 F1 fp1 s1 t1 i1 ex => ?_⟩
            obtain ⟨C, dx, u, rfl, rfl, ea, hdx, pl⟩ := ex
            refine ⟨true, ?_, fun _ a0 ha0 => ?_, fun z => by cases z⟩
            · obtain ⟨cv', m, _, m3⟩ := (ea.cls x hin).resolve_left (fun ⟨_, n2⟩ => let ⟨D, e⟩ := hkn; by rw [n2] at e; cases e)
              rw [hc] at m3
              have : cv' = cv := by
                obtain ⟨_, _, hm⟩ := hn
                rcases m with ⟨D0, m1, rfl⟩ | ⟨m0, m1, rfl⟩ <;> rcases hm with hm | ⟨hm, hb, _⟩
                · rw [m1] at hm; exact Option.some.inj hm
                · rw [m1] at hm; cases hm
                · rw [m1] at hm; cases hm
                · rw [m0] at hb
                  have hb2 : bootBuiltins "ValueError" = some (.type "ValueError") := by decide +kernel
                  rw [hb2] at hb
                  exact Option.some.inj hb
              rw [← this]
              exact m3
            · intro li lj
              have li : i < σ1.length := by simpa using li
              have lj : j < σ1.length := by simpa using lj
              refine ⟨_, List.getElem?_set_self li, (c, d, C, dx, u), ⟨rfl, rfl, ea, pl⟩, ?_⟩
              have s2 := ((s1.free i (some (.ref a0))).free j (some (.ref a0))).free i none
              have e0 : ((List.set ρ1 i none).set j none).set i none = (List.set ρ1 i none).set j none := by
                rw [List.set_comm _ _ (Ne.symm hij), List.set_set]
              rw [e0] at s2
              refine ⟨F1, _, fp1, f, ρ', s2, ?_, hdx, hd, kf.later t1 fun l hl => ?_⟩
              · rw [List.getElem?_set_ne hij, List.getElem?_set_self (by simpa using lj)]
              · exact (set_ne_io hio l hl).trans ((set_ne_io hio2 l hl).trans ((set_ne_io hio l hl).trans (i1 l hl)))
          · rw [if_neg hc] at hd
            cases hd
        · cases hd
  · cases q
omit o in
theorem upd_back {H : Hp} {q : Addr} {a u : HO} (h : H q = some u) : upd (upd H q a) q u = H := by
  funext b
  by_cases e : b = q
  · subst e; rw [upd_same, h]
  · rw [upd_ne e, upd_ne e]
theorem s_forE (hx : PassesOwn (model X.prog X.w) X.A X.env X.xe) {i : Nat} {a : Stmt} (h : chkS P N (.forE i) sc io a = true) : PS X a (tS X.K T G io (.forE i)) := by
  simp only [chkS] at h
  split at h
  · rename_i es kk tp ob m ap cp body pos
    obtain ⟨h1, h2, h3⟩ := and3 h
    obtain rfl := eq_of_beq h1
    have hc : noCall ob = true := by
      unfold chkN at h2
      split at h2
      · rfl
      · cases h2
    refine (ps_lock (ps_for (g := fun _ _ _ _ => False) (tb := fun _ _ _ => False) hx o.calm (pi_items (nm_ok o h2).1 (base_ok hc) h3) ⟨fun _ _ _ _ _ _ _ _ _ z => z.elim⟩ ⟨fun _ _ _ _ _ _ z => z.elim⟩)).mono fun D σ H ⟨F, ρ, fp, f, ρ', s, hd, k⟩ => ?_
    simp only [denS] at hd
    split at hd
    · rename_i hi
      cases hd
      obtain ⟨q, kv, as, e1, e2, e3, e4, _⟩ := s.dict hi
      have hkv : kv = [] := by
        have := e4.length
        exact List.eq_nil_of_length_eq_zero (by simpa using this)
      subst hkv
      refine ⟨q, .dK [], e3, trivial, fun od => ⟨.ref q, e1, q, od, [], rfl, upd_same, fun i m σ2 H2 => i = 0 ∧ σ2 = σ ∧ H2 = upd H q (.frz od (.dK [])), ⟨0, rfl, rfl, rfl⟩, ?_⟩⟩
      rintro i m σ2 H2 ⟨rfl, rfl, rfl⟩
      refine .inl ⟨⟨upd_same, Nat.zero_le _⟩, upd_same, ?_⟩
      rw [upd_back e3]
      exact k σ2 H F fp s (Xt.refl s.le) fun _ _ => rfl
    · cases hd
  · cases h
end
end Rf
set_option maxRecDepth 100000
set_option maxHeartbeats 8000000
namespace RT
open PySem PySem.Spec PyProof.Rows L2 CwR
theorem occ1 (c u : Nat) : Builtin.Str.occurrences ⟨#[c]⟩ ⟨#[u]⟩ 0 1 2 = if c = u then [0] else [] := by
  unfold Builtin.Str.occurrences
  simp only [Std.Legacy.Range.forIn_eq_forIn_range', Std.Legacy.Range.size]
  by_cases h : c = u
  · subst h
    rw [if_pos rfl]
    simp [Str.length, Builtin.Str.subAt, Id.run, List.range', pure] <;> rfl
  · rw [if_neg h]
    simp [Str.length, Builtin.Str.subAt, Id.run, List.range', pure, h] <;> rfl
theorem repl1 (c u v : Nat) : Txt.replace ⟨#[c]⟩ ⟨#[u]⟩ ⟨#[v]⟩ = if c = u then ⟨#[v]⟩ else ⟨#[c]⟩ := by
  unfold Txt.replace
  show (if ((Builtin.Str.occurrences ⟨#[c]⟩ ⟨#[u]⟩ 0 1 2).isEmpty || _) = true then _ else Builtin.Str.glued _ (Builtin.Str.partsBetween _ (Builtin.Str.occurrences ⟨#[c]⟩ ⟨#[u]⟩ 0 1 2) _)) = _
  rw [occ1]
  by_cases h : c = u
  · rw [if_pos h, if_pos h]; rfl
  · rw [if_neg h, if_neg h]; rfl
section
variable {X : Cx}
theorem petm {e : Expr} {t t' : TE} (h : PET X e t) (m : ∀ σ H Q, t' σ H Q → t σ H Q) : PET X e t' := fun pins s σ H Q h0 I q => h pins s σ H Q h0 I (m σ H Q q)
theorem pstm {e : Stmt} {t t' : TS} (h : PST X e t) (m : ∀ D σ H, t' D σ H → t D σ H) : PST X e t' := fun pins s σ H D h0 I q => h pins s σ H D h0 I (m D σ H q)
theorem psstm {e : List Stmt} {t t' : TS} (h : PSsT X e t) (m : ∀ D σ H, t' D σ H → t D σ H) : PSsT X e t' := fun pins s σ H D h0 I q => h pins s σ H D h0 I (m D σ H q)
theorem patm {e : List Expr} {t t' : TA} (h : PAT X e t) (m : ∀ σ H Q, t' σ H Q → t σ H Q) : PAT X e t' := fun pos pins s σ H Q h0 I q => h pos pins s σ H Q h0 I (m σ H Q q)
theorem PAT_of {e : List Expr} {t : TA} (h : PA X e t) : PAT X e t := fun pos pins s σ H Q _ I q => h.run pos pins s σ H Q I q
/-- behind x = 1 << 400 a token is out -/
theorem pss_tok {i : Nat} {x : Str} {px p1 p2 pos : Pos} {n : Int} {k : Nat} {op : Operator} {b : Expr} {rest : List Stmt} {tb : TE} {r : R2} {u : TS}
    (hN : X.N.Nodup) (hi : X.N[i]? = some x) (hx : Loc X.env.scope x) (hf : X.fn x = true ∨ X.env.scope.names.lookup x = some .local) (ho : OpR X (binaryOp op) r) (pb : PE X b tb) (h2 : PSsT X rest u) :
    PSs X (.Assign [.Name x px] (.BinOp (.Constant (.int n) k p1) op b p2) pos :: rest) (tSeq (tAsg (tOp r (tC (.int n)) tb) (gName i)) u) := by
  refine ⟨fun pins s σ H D I h => ?_⟩
  refine wpAny_execs_cons (wpAny_Assign_Name (wpAny_BinOp (wpAny_Constant_int ?_)) rfl)
  refine wpAny_mono (PySem.wpAny_toks (pb.run pins { s with toks := s.toks + 1 } σ H _ (I.tok _) h)) (fun w s1 q => ?_) fun _ _ z => z.2
  obtain ⟨k1, y, H1, I1, r1, q⟩ := q
  have k1' : s.toks + 1 ≤ s1.toks := k1
  refine wpAny_mono (PySem.wpAny_toks (ho pins s1 σ H1 (.int n) y (Value.int n s.toks) w _ I1 ⟨_, rfl⟩ r1 q)) (fun v s2 q => ?_) fun _ _ z => z.2
  obtain ⟨k2, z, H2, I2, r2, q⟩ := q
  refine wpAny_mono (PySem.wpAny_toks (store_ok (Q := fun _ s3 => Inv X pins (σ.set i (some z)) H2 s3) I2 hN hi hx r2 (fun _ I3 => I3) hf)) (fun _ s3 q3 => ?_) fun _ _ z => z.2
  obtain ⟨k3, I3⟩ := q3
  exact h2 pins s3 _ H2 D (by omega) I3 q
theorem pet_call {CX : CXT} {k : Nat} {f : Addr} {fd : FuncData} {ps : List Str} {sp : Sp} {dvs : List V} {ds : List Value} {E : XK} {x : Str} {p pos : Pos} {e : Expr} {es : List Expr} {t : TA}
    (F : FnOk X.prog X.w X.K X.mg X.base CX k f fd ps sp) (hr : Room k X.A) (hg : Gl X x) (hm : X.mg x = some (.ref f)) (hk : PySem.W.keepIn X.K (.ref f) = true) (hb : Binds X.K fd ps ds) (hd : Vals dvs ds) (hx : Passes CX X E)
    (ha : PAT X (e :: es) t) (hdb : (x == ("__debug__" : Str)) = false := by decide) (he : starEach (e :: es) X.env = (false, eval e X.env) :: starEach es X.env := by rfl) (hpl : (backTo pos (starEach es X.env)).any (·.1) = false := by rfl) :
    PET X (.Call (.Name x p) (e :: es) [] pos) (tCall sp dvs E t) := by
  intro pins s σ H Q h0 I h
  refine wpAny_Call_Name_kw (ld_glob I hg hm ?_ hdb)
  refine PySem.W.callWith_K (h₀ := X.base) I.ok.mod.kin hk (thn (ha pos pins s σ H _ h0 I h) fun us s1 ⟨vs, H1, I1, r, q⟩ => ⟨I1.kIn, ?_⟩) he hpl
  exact run_fn F hr hb hd hx I1 r q
end
end RT
namespace Rf
open PySem PySem.Spec PyProof.Rows L2 Evl RT CwR
section
variable {P : Prg} {G : Gls} {T : Tab} {n : Nat} {N : List Str} {sc : Scope} {X : Cx} {io : List Nat} (o : XOk P G T n N sc true X)
omit o in
theorem str1 {x : Str} {c : Nat} (h : x.cps.toList = [c]) : x = ⟨#[c]⟩ := by
  cases x with
  | mk cs => exact congrArg Str.mk (Array.toList_inj.mp h)
omit o in
theorem le_repl {ob : E} {y z : Str} : ∀ σ H Q, tX X.K T G (.op3 .repl ob (.str y) (.str z)) σ H Q → tReplC (tX X.K T G ob) y z σ H Q := fun σ H Q ⟨F, ρ, fp, w, ρ', s, hd, k⟩ => by
  simp only [den] at hd
  obtain ⟨⟨x1, ρ1⟩, h1, hd⟩ := Res.bind_inv hd
  simp only [Res.bind_ok, PV.fz_d] at hd
  obtain ⟨d1, h2, hd⟩ := Res.bind_inv hd
  obtain ⟨r, h3, hd⟩ := Res.bind_inv hd
  cases hd
  refine ⟨F, ρ, fp, x1, _, s, h1, fun v H1 F1 fp1 P1 s1 t1 hd1 sub => ?_⟩
  unfold opS3 at h3
  split at h3
  · rename_i kk x a b e1 e2 e3
    split at h3
    · rename_i c u v' g1 g2 g3
      cases e2
      cases e3
      cases h3
      have hx := str1 g1
      have ha := str1 g2
      have hb := str1 g3
      have hv := (hd1.ow.opd h2)
      have e := hv.str_inv
      refine ⟨x, e, ?_, ?_⟩
      · rw [hx, hb]; show 1 + (1 + 1) * 1 ≤ 16777216; omega
      · have := fin0 k s1 t1 (v := .str (if c = u then z else x)) rfl (.str _)
        rw [hx, ha, hb, repl1]
        rw [hx, hb] at this
        exact this
    · cases h3
  · cases h3
omit o in
theorem le_bin {op : Operator} {x y : E} : ∀ σ H Q, tX X.K T G (.bin op x y) σ H Q → tOp (rBin X.K op) (tX X.K T G x) (tX X.K T G y) σ H Q := fun σ H Q ⟨F, ρ, fp, z, ρ', s, hd, k⟩ => by
  simp only [den] at hd
  obtain ⟨⟨x1, ρ1⟩, h1, hd⟩ := Res.bind_inv hd
  obtain ⟨⟨x2, ρ2⟩, h2, hd⟩ := Res.bind_inv hd
  obtain ⟨d1, h3, hd⟩ := Res.bind_inv hd
  obtain ⟨d2, h4, hd⟩ := Res.bind_inv hd
  obtain ⟨w, h5, hd⟩ := Res.bind_inv hd
  cases hd
  exact two s h1 h2 fun v w H2 F2 fp2 P1 P2 s2 t2 hd1 hd2 _ _ _ => bin_rs op s2.le (hd1.ow.opd h3) (hd2.ow.opd h4) h5 fun v' F' H' r => fin k s2 t2 r
omit o in
theorem le_ret {e : E} : ∀ D σ H, tS X.K T G io (.ret e) D σ H → tRet (tX X.K T G e) D σ H := fun D σ H ⟨F, ρ, fp, f, ρ', s, hd, k⟩ => by
  simp only [denS] at hd
  obtain ⟨⟨y, ρ1⟩, g1, hd⟩ := Res.bind_inv hd
  cases hd
  exact ⟨F, ρ, fp, y, _, s, g1, fun w H1 F1 fp1 P1 s1 t1 hd1 sub => k w σ H1 F1 fp1 P1 s1 t1 (fun _ _ => rfl) hd1 sub⟩
omit o in
theorem le_seq {a r : S} : ∀ D σ H, tS X.K T G io (.seq a r) D σ H → tSeq (tS X.K T G io a) (tS X.K T G io r) D σ H := fun D σ H ⟨F, ρ, fp, f, ρ', s0, hd, k⟩ => by
  simp only [denS] at hd
  obtain ⟨⟨f1, ρ1⟩, g1, hd⟩ := Res.bind_inv hd
  dsimp only at hd
  refine ⟨F, ρ, fp, f1, ρ1, s0, g1, ?_⟩
  cases f1 with
  | nx => exact Fin.seq hd k
  | bk => cases hd; exact k
  | ct => cases hd; exact k
  | rt x => cases hd; exact k
omit o in
theorem le_nil : ∀ D σ H, tS X.K T G io .nil D σ H → tNext D σ H := fun D σ H ⟨F, ρ, fp, f, ρ', s, hd, k⟩ => by
  simp only [denS] at hd
  cases hd
  exact tS_next k s (Xt.refl s.le) fun _ _ => rfl
omit o in
theorem le_tok {a r : S} : ∀ D σ H, tS X.K T G io (.tok a r) D σ H → tS X.K T G io (.seq a r) D σ H := fun D σ H ⟨F, ρ, fp, f, ρ', s0, hd, k⟩ => ⟨F, ρ, fp, f, ρ', s0, by
  simp only [denS] at hd ⊢
  exact hd, k⟩
omit o in
theorem le_ite {c : E} {x y : S} : ∀ D σ H, tS X.K T G io (.ife c x y) D σ H → tIfS (tT X.K T G c) (tS X.K T G io x) (tS X.K T G io y) D σ H := fun D σ H ⟨F, ρ, fp, f, ρ', s, hd, k⟩ => by
  simp only [denS] at hd
  obtain ⟨⟨z, ρ1⟩, g1, hd⟩ := Res.bind_inv hd
  obtain ⟨u, g2, hd⟩ := Res.bind_inv hd
  dsimp only at hd
  refine ⟨F, ρ, fp, z, ρ1, u, s, g1, g2, fun H1 F1 fp1 s1 t1 => ?_⟩
  cases u with
  | true => exact ⟨F1, ρ1, fp1, f, ρ', s1, hd, k.later t1 fun _ _ => rfl⟩
  | false => exact ⟨F1, ρ1, fp1, f, ρ', s1, hd, k.later t1 fun _ _ => rfl⟩
include o in
theorem s_repC {r : E} {q : Expr} (h : repC P N r q sc = true) : PET X q (tX X.K T G r) ∧ noStar q = true ∧ ∀ i, r ≠ .io i := by
  unfold repC at h
  split at h
  · rename_i ob y z u v ob' m1 ap1 y' k1 q1 z' k2 q2 cp1 m2 ap2 u' k3 q3 v' k4 q4 cp2
    obtain ⟨h, h5, h6⟩ := and3 h
    obtain ⟨h, h3, h4⟩ := and3 h
    obtain ⟨h1, h2⟩ := and2 h
    obtain ⟨a1, a2⟩ := and2 h1
    obtain ⟨b1, b2, b3⟩ := and3 h2
    obtain ⟨b3, b4⟩ := and2 b3
    obtain ⟨c1, c2⟩ := and2 h3
    obtain ⟨d1, d2⟩ := and2 h4
    obtain rfl := eq_of_beq a1
    obtain rfl := eq_of_beq a2
    obtain rfl := eq_of_beq b1
    obtain rfl := eq_of_beq b2
    obtain rfl := eq_of_beq b3
    obtain rfl := eq_of_beq b4
    have p0 : PET X ob' (tX X.K T G ob) := PET.of ((snd ob).pe sc true X o _ h6)
    have p1 := petm (pet_replT (j := k1) (k := k2) (c0 := q1) (c1 := q2) (apos := ap1) (pos := cp1) (y := y) (z := z) p0 (by simpa using c1) rfl (base_ok h5) d1) (le_repl (ob := ob) (y := y) (z := z))
    have p2 := petm (pet_replT (j := k3) (k := k4) (c0 := q3) (c1 := q4) (apos := ap2) (pos := cp2) (y := u) (z := v) p1 (by simpa using c2) rfl rfl d2) (le_repl (ob := .op3 .repl ob (.str y) (.str z)) (y := u) (z := v))
    exact ⟨p2, rfl, fun i e => by cases e⟩
  · cases h
include o in
theorem s_repS {s2 : S} {st : Stmt} (h : repS P N s2 st sc = true) : PST X st (tS X.K T G io s2) := by
  unfold repS at h
  split at h
  · rename_i c op2 op1 f r a e e' t x px q b cpos o1 l p1 o2 l' p2 p3 p4
    obtain ⟨h, h4, h5⟩ := and3 h
    obtain ⟨h0, h1, h3⟩ := and3 h
    obtain ⟨o1e, o2e⟩ := and2 h1
    obtain rfl := of_decide_eq_true o1e
    obtain rfl := of_decide_eq_true o2e
    obtain ⟨h4, g3, g4⟩ := and3 h4
    obtain ⟨g1, g2⟩ := and2 h4
    obtain ⟨r1, r2, r3⟩ := s_repC o g1
    obtain ⟨c1, c2⟩ := and2 h5
    split at h3
    · rename_i d hf
      obtain ⟨h3, m3, m4⟩ := and3 h3
      obtain ⟨m1, m2⟩ := and2 h3
      obtain rfl := eq_of_beq m1
      obtain ⟨k1, k2, k3⟩ := glo_ok o m2
      obtain ⟨a1, fd, e1, e2, e3, e4⟩ := (o.fns f d hf).ok
      have hn : ∀ i, a ≠ .io i := fun i z => by subst z; cases g4
      have pb : PA X [b] (tA X.K T G (.cons a .nil)) := (pa_cons ((snd a).pe sc true X o _ g3) (show PA X [] (tA X.K T G .nil) from ⟨fun pos pins s σ H Q I q => (pa_nil).run pos pins s σ H Q I (le_nilA σ H Q q)⟩) (star_ok g2)).mono (le_consA hn)
      have pa : PAT X (q :: [b]) (tA X.K T G (.cons r (.cons a .nil))) := patm (pat_cons r1 (PAT_of pb) (star_ok r2)) (le_consA r3)
      have eio : ios (.cons r (.cons a .nil)) = [none, none] := by
        cases r <;> first | exact absurd rfl (r3 _) | (cases a <;> first | exact absurd rfl (hn _) | rfl)
      have pc : PET X (.Call (.Name d.name px) (q :: [b]) [] cpos) (tX X.K T G (.call f (.cons r (.cons a .nil)))) :=
        petm (pet_call (E := E0) e4 o.room k1 e1 e2 e3 .nil pass0 pa k2 (star_ok r2) (plain_tail (by simp [g2]))) (le_call (by rw [eio]; exact List.nodup_nil) (by rw [eio]; exact m4) (by rw [of_decide_eq_true m3]; rfl))
      have pe1 := petm (pet_op (pos := p1) (op_bin o1) pc (PET.of ((snd e).pe sc true X o _ c1))) le_bin
      have pe2 := petm (pet_op (pos := p2) (op_bin o2) pe1 (PET.of ((snd e').pe sc true X o _ c2))) le_bin
      have pr := pstm (pst_ret (pos := p3) pe2) (le_ret (io := io))
      have pn : PSsT X [] (tS X.K T G io .nil) := psstm psst_nil le_nil
      have pbk := psstm (psst_cons pr pn) le_seq
      exact pstm (pst_if ((snd c).pt sc true X o t h0) pbk pn) le_ite
    · cases h3
  · cases h
end
end Rf
set_option maxRecDepth 100000
set_option maxHeartbeats 8000000
namespace Rf
open PySem PySem.Spec PyProof.Rows L2 Evl RT CwR
section
variable {P : Prg} {G : Gls} {T : Tab} {n : Nat} {N : List Str} {sc : Scope} {X : Cx} {io : List Nat} (o : XOk P G T n N sc true X) (hx : PassesOwn (model X.prog X.w) X.A X.env X.xe) (hk : X.stack = X.env :: X.outer ∧ X.env.frame = some X.env.locals)
structure SndS (P : Prg) (G : Gls) (T : Tab) (N : List Str) (sc : Scope) (X : Cx) (io : List Nat) (s : S) : Prop where
  st : ∀ a, chkS P N s sc io a = true → PS X a (tS X.K T G io s)
  bl : ∀ b, chkS.chkB P N s sc io b = true → PSs X b (tS X.K T G io s)
theorem SndS.of {s : S} (hb : ∀ b, chkS.chkB P N s sc io b = false) (h : ∀ a, chkS P N s sc io a = true → PS X a (tS X.K T G io s)) : SndS P G T N sc X io s :=
  ⟨h, fun b q => by rw [hb b] at q; cases q⟩
include o hx hk
omit o hx hk in

omit o hx hk in
theorem fold_nm {N : List Str} {j : Nat} {sc : Scope} {a : Expr} {env : Env} {x : Value} (h : chkN N j sc a = true) : foldedSetIterable a env x = pure x := by
  unfold chkN at h
  split at h
  · rfl
  · cases h
theorem sndSq : ∀ (s : S) (io : List Nat), (∀ k ∈ s.trys, ∃ D, X.mg k = some (.ref D)) → SndS P G T N sc X io s
  | .nil, io, ht => ⟨fun a h => by simp [chkS] at h, fun b h => by
      have hb : b = [] := by simpa [chkS.chkB] using h
      subst hb
      refine pss_nil.mono fun D σ H ⟨F, ρ, fp, f, ρ', s, hd, k⟩ => ?_
      simp only [denS] at hd
      cases hd
      exact tS_next k s (Xt.refl s.le) fun _ _ => rfl⟩
  | .seq s r, io, ht => ⟨fun a h => by simp [chkS] at h, fun b h => by
      cases b with
      | nil => simp [chkS.chkB] at h
      | cons st b =>
        simp only [chkS.chkB] at h
        obtain ⟨h1, h2⟩ := and2 h
        refine (pss_cons ((sndSq s io fun k hk => ht k (List.mem_append_left _ hk)).st st h1) ((sndSq r io fun k hk => ht k (List.mem_append_right _ hk)).bl b h2)).mono fun D σ H ⟨F, ρ, fp, f, ρ', s0, hd, k⟩ => ?_
        simp only [denS] at hd
        obtain ⟨⟨f1, ρ1⟩, g1, hd⟩ := Res.bind_inv hd
        dsimp only at hd
        refine ⟨F, ρ, fp, f1, ρ1, s0, g1, ?_⟩
        cases f1 with
        | nx => exact Fin.seq hd k
        | bk => cases hd; exact k
        | ct => cases hd; exact k
        | rt x => cases hd; exact k⟩
  | .tok s r, io, ht => ⟨fun a h => by simp [chkS] at h, fun b h => by
      cases s with
      | asg i e => cases e with
        | bin op x y => cases x with
          | int n => cases r with
            | seq s1 r2 => cases r2 with
              | seq s2 r3 =>
                simp only [chkS.chkB] at h
                split at h
                · rename_i x px n' k0 p0 o' y' p1 pos st1 st2 b
                  obtain ⟨h, h2, h3⟩ := and3 h
                  obtain ⟨h2, h4⟩ := and2 h2
                  obtain ⟨q1, q2⟩ := and2 h
                  obtain ⟨q3, q4, q5⟩ := and3 q1
                  obtain ⟨q6, q7, q8⟩ := and3 q2
                  obtain rfl := eq_of_beq q6
                  obtain rfl := of_decide_eq_true q7
                  obtain ⟨l1, l2⟩ := sto_ok o q4
                  have hi : X.N[i]? = some x := by rw [o.hN]; simpa using q3
                  have hN : X.N.Nodup := by rw [o.hN]; exact o.nd
                  have hio : io.contains i = false := by simpa using q5
                  have u3 := (sndSq r3 io fun k hk => ht k (by simp [S.trys, hk])).bl b h3
                  have u2 := psst_cons (s_repS (io := io) (T := T) (G := G) o h4) (PSsT.of u3)
                  have u1 := psst_cons (PST.of ((sndSq s1 io fun k hk => ht k (by simp [S.trys, hk])).st st1 h2)) (psstm u2 le_seq)
                  refine (pss_tok (px := px) (p1 := p0) (p2 := p1) (pos := pos) (n := n) (k := k0) hN hi l1 l2 (op_bin o') ((snd y).pe sc true X o _ q8) (psstm u1 le_seq)).mono fun D σ H q => ?_
                  have q' := le_seq _ _ _ (le_tok _ _ _ q)
                  obtain ⟨F, ρ, fp, f, ρ', s0, hd, k⟩ := q'
                  simp only [denS] at hd
                  obtain ⟨⟨y1, ρ1⟩, g1, hd⟩ := Res.bind_inv hd
                  cases hd
                  have li : ∀ σ H Q, tX X.K T G (.int n) σ H Q → tC (V.int n) σ H Q := fun σ H Q ⟨F, ρ, fp, x, ρ', s, hd, k⟩ => by
                    simp only [den] at hd
                    cases hd
                    exact fin0 k s (Xt.refl s.le) rfl (.int n)
                  refine li σ H _ (le_bin (T := T) (G := G) σ H _ ⟨F, ρ, fp, y1, _, s0, g1, fun w H1 F1 fp1 P1 s1' t1 hd1 sub => ?_⟩)
                  have s2' := s1'.put hd1 i
                  refine k _ H1 F1 _ s2' ⟨t1.ff, t1.fr, t1.le, t1.nw, fun j a hj => ?_, t1.kn⟩ (set_ne_io hio)
                  rcases fpSet_cases hj with ⟨_, z⟩ | ⟨_, z⟩
                  · exact sub a z
                  · exact t1.sub j a z
                · cases h
              | _ => simp [chkS.chkB] at h
            | _ => simp [chkS.chkB] at h
          | _ => simp [chkS.chkB] at h
        | _ => simp [chkS.chkB] at h
      | _ => simp [chkS.chkB] at h⟩
  | .asg i e, io, ht => .of (fun b => rfl) fun a h => s_asg o h
  | .unp g e, io, ht => .of (fun b => rfl) fun a h => s_unp o h
  | .aug i op e, io, ht => .of (fun b => rfl) fun a h => s_aug o h
  | .setP p k v, io, ht => .of (fun b => rfl) fun a h => s_setP o h
  | .setSl p lo hi v, io, ht => .of (fun b => rfl) fun a h => s_setSl o h
  | .ex e, io, ht => .of (fun b => rfl) fun a h => s_ex o h
  | .ife c x y, io, ht => .of (fun b => rfl) fun a h => by
      simp only [chkS] at h
      split at h
      · obtain ⟨h1, h2, h3⟩ := and3 h
        exact s_ite o h1 ((sndSq x io fun k hk => ht k (List.mem_append_left _ hk)).bl _ h2) ((sndSq y io fun k hk => ht k (List.mem_append_right _ hk)).bl _ h3)
      · cases h
  | .whl c x, io, ht => .of (fun b => rfl) fun a h => by
      simp only [chkS] at h
      split at h
      · obtain ⟨h1, h2⟩ := and2 h
        exact s_whl o hx h1 ((sndSq x io ht).bl _ h2)
      · cases h
  | .for_ g it x, io, ht => .of (fun b => rfl) fun a h => by
      simp only [chkS] at h
      split at h
      · obtain ⟨k0, h3, h4⟩ := and3 h
        obtain ⟨h1, h2⟩ := and2 k0
        exact s_for o hx h1 h2 h3 ((sndSq x io ht).bl _ h4)
      · cases h
  | .stI i k v, io, ht => .of (fun b => rfl) fun a h => s_stI o h
  | .forO j g x, io, ht => .of (fun b => rfl) fun a h => by
      simp only [chkS] at h
      split at h
      · obtain ⟨h1, h2⟩ := and2 h
        obtain ⟨h1, h3⟩ := and2 h1
        obtain ⟨h1, h4, h5⟩ := and3 h1
        exact s_forO o hx h1 h4 h5 ((sndSq x (j :: io) ht).bl _ h2)
      · cases h
  | .forD t j g x, io, ht => .of (fun b => rfl) fun a h => by
      simp only [chkS] at h
      split at h
      · obtain ⟨h1, h2⟩ := and2 h
        obtain ⟨h1, h3⟩ := and2 h1
        obtain ⟨h1, h4⟩ := and2 h1
        obtain ⟨k1, k5⟩ := and2 h1
        obtain ⟨h3, h6⟩ := and2 h3
        obtain ⟨h4, h7⟩ := and2 h4
        obtain ⟨k5, h8⟩ := and2 k5
        have k6 := eq_of_beq k5
        subst k6
        have k7 : t = true := k1
        clear h h1 k1
        subst k7
        exact s_forD o hx (tt := true) (fun σ H R p od kvs e1 e2 r => ⟨.ref p, e1, p, od, kvs, rfl, e2, r⟩) (pi_items (nm_ok o h4).1 (base_ok (noCall_chkN h4)) h8) (fun _ => rfl) h7 h3 ((sndSq x (j :: io) ht).bl _ h2)
      · obtain ⟨h1, h2⟩ := and2 h
        obtain ⟨h1, h3⟩ := and2 h1
        obtain ⟨h1, h4⟩ := and2 h1
        obtain ⟨h1, h5⟩ := and2 h1
        obtain ⟨h3, h6⟩ := and2 h3
        obtain ⟨h4, h7⟩ := and2 h4
        have ht' : t = false := by simpa using h1
        subst ht'
        exact s_forD o hx (tt := false) (fun σ H R p od kvs e1 e2 r => ⟨.ref p, e1, p, od, rfl, .inl ⟨kvs, e2, r⟩⟩) (pi_keys (nm_ok o h4).1) (fun _ => fold_nm h4) h7 h3 ((sndSq x (j :: io) ht).bl _ h2)
      · cases h
  | .ret e, io, ht => .of (fun b => rfl) fun a h => s_ret o h
  | .retN, io, ht => .of (fun b => rfl) fun a h => by
      simp only [chkS] at h
      split at h
      · refine ps_retN.mono fun D σ H ⟨F, ρ, fp, f, ρ', s, hd, k⟩ => ?_
        simp only [denS] at hd
        cases hd
        exact k .non σ H F fp none0 s (Xt.refl s.le) (fun _ _ => rfl) ⟨.d .non, fun _ z => z.elim, fun _ z => z.elim, fun _ z => z.elim⟩ fun _ z => z.elim
      · cases h
  | .pass, io, ht => .of (fun b => rfl) fun a h => by
      simp only [chkS] at h
      split at h
      · refine ps_pass.mono fun D σ H ⟨F, ρ, fp, f, ρ', s, hd, k⟩ => ?_
        simp only [denS] at hd
        cases hd
        exact tS_next k s (Xt.refl s.le) fun _ _ => rfl
      · cases h
  | .brk, io, ht => .of (fun b => rfl) fun a h => by
      simp only [chkS] at h
      split at h
      · refine ps_break.mono fun D σ H ⟨F, ρ, fp, f, ρ', s, hd, k⟩ => ?_
        simp only [denS] at hd
        cases hd
        exact k σ H F fp s (Xt.refl s.le) fun _ _ => rfl
      · cases h
  | .cnt, io, ht => .of (fun b => rfl) fun a h => by
      simp only [chkS] at h
      split at h
      · refine ps_continue.mono fun D σ H ⟨F, ρ, fp, f, ρ', s, hd, k⟩ => ?_
        simp only [denS] at hd
        cases hd
        exact k σ H F fp s (Xt.refl s.le) fun _ _ => rfl
      · cases h
  | .raise c e, io, ht => .of (fun b => rfl) fun a h => ps_never.mono fun D σ H ⟨F, ρ, fp, f, ρ', s, hd, k⟩ => by
      simp only [denS] at hd
      obtain ⟨⟨x, ρ1⟩, g1, hd⟩ := Res.bind_inv hd
      obtain ⟨x', g2, hd⟩ := Res.bind_inv hd
      cases hd
  | .try_ b k i h, io, ht => .of (fun b => rfl) fun a q => s_try o hk (ht k List.mem_cons_self) (fun k hk => ht k (List.mem_cons_of_mem _ hk)) q
  | .forE i, io, ht => .of (fun b => rfl) fun a q => s_forE o hx q
  | .par i j e f, io, ht => .of (fun b => rfl) fun a q => s_par o q
  | .tryO b k v, io, ht => .of (fun b => rfl) fun a q => s_tryO o hk (ht k List.mem_cons_self) q
  | .tryC b k i j r, io, ht => ⟨fun a q => by simp [chkS] at q, fun l q => s_tryC o hk (ht k List.mem_cons_self) (fun k hk => ht k (List.mem_cons_of_mem _ hk)) q⟩
theorem sndS (s : S) (ht : ∀ k ∈ s.trys, ∃ D, X.mg k = some (.ref D)) : SndS P G T N sc X io s := sndSq o hx hk s io ht
end
end Rf
set_option maxRecDepth 100000
set_option maxHeartbeats 8000000
namespace Rf
open PySem PySem.Spec PyProof.Rows L2 Evl
section
variable (K : Frag) (mg : Str → Option Value) (T : Tab) (G : Gls) (W : WX) (io : List Nat)
def tSX (s : S) : TS := fun _ σ H => ∃ F ρ fp c d ρ', St K F H σ ρ fp ∧ denSX T G s ρ = some (c, d, ρ') ∧ Fly K mg W io F H σ fp c d ρ'
end
theorem whlX_inv {c : Ro → Res (Bool × Ro)} {b : Ro → Res (Fl × Ro)} {bx : Ro → Option (Str × PyData × Ro)} {ρ : Ro} {z : Str × PyData × Ro} (h : whlX c b bx ρ = some z) : ∃ n, loopX c b bx n ρ = some z := by
  unfold whlX at h
  split at h
  · rename_i hx
    have h2 := (Classical.choose_spec hx).choose_spec
    cases h
    exact ⟨_, h2⟩
  · cases h
theorem plain_of {K : Frag} {F : Hp} {v : V} {d : PyData} (h : Rp K F v d) (p : plainD d = true) : PlV v d := by
  cases h <;> first | (cases p; done) | skip
  · exact .int _
  · exact .str _
structure SndSX (P : Prg) (G : Gls) (T : Tab) (N : List Str) (sc : Scope) (X : Cx) (W : WX) (io : List Nat) (s : S) : Prop where
  st : ∀ a, chkS P N s sc io a = true → PS X a (tSX X.K X.mg T G W io s)
  bl : ∀ b, chkS.chkB P N s sc io b = true → PSs X b (tSX X.K X.mg T G W io s)
section
variable {P : Prg} {G : Gls} {T : Tab} {n : Nat} {N : List Str} {sc : Scope} {X : Cx} {W : WX} {io : List Nat} (o : XOk P G T n N sc true X) (hx : PassesOwn (model X.prog X.w) X.A X.env X.xe) (hk : X.stack = X.env :: X.outer ∧ X.env.frame = some X.env.locals) (tk : Takes X W)
theorem SndSX.of {s : S} (hb : ∀ b, chkS.chkB P N s sc io b = false) (h : ∀ a, chkS P N s sc io a = true → PS X a (tSX X.K X.mg T G W io s)) : SndSX P G T N sc X W io s :=
  ⟨h, fun b q => by rw [hb b] at q; cases q⟩
theorem SndSX.no {s : S} (hb : ∀ b, chkS.chkB P N s sc io b = false) (h : ∀ ρ, denSX T G s ρ = none) : SndSX P G T N sc X W io s :=
  .of hb fun a _ => ps_no fun D σ H ⟨F, ρ, fp, c, d, ρ', s, hd, k⟩ => by
    rw [h ρ] at hd
    cases hd
include o tk in
theorem x_unp {g : Tg} {e : E} {a : Stmt} (h : chkS P N (.unp g e) sc io a = true) : PS X a (tSX X.K X.mg T G W io (.unp g e)) := by
  simp only [chkS] at h
  split at h
  · rename_i t v pos
    obtain ⟨k0, h5, h6⟩ := and3 h
    obtain ⟨k1, h3, h4⟩ := and3 k0
    obtain ⟨h1, h2⟩ := and2 k1
    clear h k0 k1
    have hs : swapsWithSole [t] v pos.line X.env = pure false := swap_unp h1
    have hw : swappedStores [t] v X.env = pure none := stores_unp h1 h2
    have ha : (assignEach [t] X.env).map (·.2) = [assign t X.env] := by
      cases t <;> first | rfl | (cases h1; done)
    exact (ps_asg ((sndX o tk e).1 v h6) (pg_of o g t h4) hs hw ha).mono fun D σ H q => q
  · cases h
include o tk in
theorem x_raise {c : Str} {e : E} {a : Stmt} (he : c ≠ "" → ∃ C, ExAt X.K X.mg c C) (h : chkS P N (.raise c e) sc io a = true) : PS X a (tSX X.K X.mg T G W io (.raise c e)) := by
  by_cases hc : c = ""
  · refine ps_no fun D σ H ⟨F, ρ, fp, c', d, ρ', s, hd, k⟩ => ?_
    simp only [denSX] at hd
    rw [if_pos hc] at hd
    cases hd
  · obtain ⟨C, ea⟩ := he hc
    obtain ⟨q0, fI, low⟩ := ea.low
    simp only [chkS, Bool.or_eq_true] at h
    rcases h with h | h
    · exact absurd (eq_of_beq h) hc
    · split at h
      · rename_i x p v p2 p3
        obtain ⟨k0, h4, h5⟩ := and3 h
        obtain ⟨h1, h2, h3⟩ := and3 k0
        obtain rfl := eq_of_beq h1
        obtain ⟨g1, g2, g3⟩ := glo_ok o h2
        refine (ps_raiseLow o.calm low o.room tk (pa_cons ((snd e).pe sc true X o v h4) pa_nil (star_ok h3)) g1 g2 (star_ok h3) rfl).mono fun D σ H ⟨F, ρ, fp, c', d, ρ', s, hd, k⟩ => ?_
        simp only [denSX] at hd
        rw [if_neg hc] at hd
        split at hd
        · rename_i d1 ρ1 hde
          split at hd
          · rename_i hp
            cases hd
            refine ⟨F, ρ, fp, _, _, s, hde, fun w H1 F1 fp1 P1 s1 t1 hd1 sub1 => ⟨w, rfl, fun dx hdx => ?_⟩⟩
            have nw : Nw F1 H1 F1 (upd H1 dx (.xd [(("at" : Str), w)])) := ⟨s1.le.trans (Ex.new hdx), Ex.refl F1, Ex.new hdx, fun _ _ z => .inl z⟩
            exact k _ _ σ _ F1 fp1 (nw.st s1) (t1.trans nw.xt) (fun _ _ => rfl) ⟨C, dx, w, rfl, rfl, ea, upd_same, plain_of hd1.ow.dat hp⟩
          · cases hd
        · cases hd
      · cases h
include o hx hk tk
theorem sndSX : ∀ s : S, (∀ k ∈ s.trys, ∃ D, X.mg k = some (.ref D)) → (∀ c ∈ s.errs, ∃ C, ExAt X.K X.mg c C) → SndSX P G T N sc X W io s
  | .nil, ht, he => ⟨fun a h => by simp [chkS] at h, fun b h => pss_no fun D σ H ⟨F, ρ, fp, c, d, ρ', s, hd, k⟩ => by
      simp only [denSX] at hd
      cases hd⟩
  | .seq s r, ht, he => ⟨fun a h => by simp [chkS] at h, fun b h => by
      cases b with
      | nil => simp [chkS.chkB] at h
      | cons st b =>
        simp only [chkS.chkB] at h
        obtain ⟨h1, h2⟩ := and2 h
        refine (pss_cons (((sndS (io := io) o hx hk s fun k hk => ht k (List.mem_append_left _ hk)).st st h1).or ((sndSX s (fun k hk => ht k (List.mem_append_left _ hk)) fun k hk => he k (List.mem_append_left _ hk)).st st h1))
          ((sndSX r (fun k hk => ht k (List.mem_append_right _ hk)) fun k hk => he k (List.mem_append_right _ hk)).bl b h2)).mono fun D σ H ⟨F, ρ, fp, c, d, ρ', s0, hd, k⟩ => ?_
        simp only [denSX] at hd
        split at hd
        · rename_i ρ1 g1
          exact .inl ⟨F, ρ, fp, .nx, ρ1, s0, g1, fun σ' H' F' fp' s' t' hi => ⟨F', ρ1, fp', c, d, ρ', s', hd, k.later t' hi⟩⟩
        · cases hd
        · exact .inr ⟨F, ρ, fp, c, d, ρ', s0, hd, k⟩⟩
  | .asg i e, ht, he => .of (fun b => rfl) fun a h => (r_asg o tk h).mono fun D σ H q => q
  | .unp g e, ht, he => .of (fun b => rfl) fun a h => x_unp o tk h
  | .ex e, ht, he => .of (fun b => rfl) fun a h => (r_ex o tk h).mono fun D σ H q => q
  | .ret e, ht, he => .of (fun b => rfl) fun a h => by
      simp only [chkS] at h
      split at h
      · exact (ps_ret ((sndX o tk e).1 _ h)).mono fun D σ H q => q
      · cases h
  | .raise c e, ht, he => .of (fun b => rfl) fun a h => x_raise o tk (fun hc => he c (by simp [S.errs, hc])) h
  | .ife c x y, ht, he => .of (fun b => rfl) fun a h => by
      simp only [chkS] at h
      split at h
      · obtain ⟨h1, h2, h3⟩ := and3 h
        refine (ps_if ((snd c).pt sc true X o _ h1) ((sndSX x (fun k hk => ht k (List.mem_append_left _ hk)) fun k hk => he k (List.mem_append_left _ hk)).bl _ h2) ((sndSX y (fun k hk => ht k (List.mem_append_right _ hk)) fun k hk => he k (List.mem_append_right _ hk)).bl _ h3)).mono fun D σ H ⟨F, ρ, fp, cc, d, ρ', s, hd, k⟩ => ?_
        simp only [denSX] at hd
        split at hd
        · rename_i z ρ1 g1
          split at hd
          · rename_i g2
            exact ⟨F, ρ, fp, z, ρ1, true, s, g1, g2, fun H1 F1 fp1 s1 t1 => by
              dsimp only
              rw [if_pos rfl]
              exact ⟨F1, ρ1, fp1, cc, d, ρ', s1, hd, k.later t1 fun _ _ => rfl⟩⟩
          · rename_i g2
            exact ⟨F, ρ, fp, z, ρ1, false, s, g1, g2, fun H1 F1 fp1 s1 t1 => by
              dsimp only
              rw [if_neg Bool.false_ne_true]
              exact ⟨F1, ρ1, fp1, cc, d, ρ', s1, hd, k.later t1 fun _ _ => rfl⟩⟩
          · cases hd
        · cases hd
      · cases h
  | .whl c x, ht, he => .of (fun b => rfl) fun a h => by
      simp only [chkS] at h
      split at h
      · obtain ⟨h1, h2⟩ := and2 h
        refine (ps_while hx ((snd c).pt sc true X o _ h1) (((sndS (io := io) o hx hk x ht).bl _ h2).or ((sndSX x ht he).bl _ h2))).mono fun D σ H ⟨F, ρ, fp, cc, d, ρ', s, hd, k⟩ => ?_
        simp only [denSX] at hd
        obtain ⟨m0, hm0⟩ := whlX_inv hd
        refine ⟨fun m σ1 H1 => ∃ F1 ρ1 fp1, St X.K F1 H1 σ1 ρ1 fp1 ∧ loopX (fun ρ => do let (x, ρ1) ← den T G c ρ; let t ← asBool x; .ok (t, ρ1)) (fun ρ => denS T G x ρ) (fun ρ => denSX T G x ρ) m ρ1 = some (cc, d, ρ') ∧ Fly X.K X.mg W io F1 H1 σ1 fp1 cc d ρ',
          ⟨m0, F, ρ, fp, s, hm0, k⟩, fun m σ1 H1 ⟨F1, ρ1, fp1, s1, hl, k1⟩ => ?_⟩
        cases m with
        | zero => cases hl
        | succ m =>
          unfold loopX at hl
          split at hl
          · rename_i ρ2 hc2
            obtain ⟨⟨z, ρ2'⟩, g1, g2⟩ := Res.bind_inv hc2
            obtain ⟨u, g3, g4⟩ := Res.bind_inv g2
            cases g4
            refine ⟨F1, ρ1, fp1, z, _, true, s1, g1, g3, fun H2 F2 fp2 s2 t2 => ?_⟩
            dsimp only
            rw [if_pos rfl]
            have k2 := k1.later t2 fun _ _ => rfl
            refine ⟨fun σ3 H3 => ∃ F3 ρ3 fp3, St X.K F3 H3 σ3 ρ3 fp3 ∧ loopX (fun ρ => do let (x, ρ1) ← den T G c ρ; let t ← asBool x; .ok (t, ρ1)) (fun ρ => denS T G x ρ) (fun ρ => denSX T G x ρ) m ρ3 = some (cc, d, ρ') ∧ Fly X.K X.mg W io F3 H3 σ3 fp3 cc d ρ', fun σ3 H3 w => ⟨m, Nat.lt_succ_self m, w⟩, ?_⟩
            split at hl
            · rename_i ρ3 hb3
              exact .inl ⟨F2, _, fp2, .nx, ρ3, s2, hb3, fun σ4 H4 F4 fp4 s4 t4 h4 => ⟨F4, ρ3, fp4, s4, hl, k2.later t4 h4⟩⟩
            · rename_i ρ3 hb3
              exact .inl ⟨F2, _, fp2, .ct, ρ3, s2, hb3, fun σ4 H4 F4 fp4 s4 t4 h4 => ⟨F4, ρ3, fp4, s4, hl, k2.later t4 h4⟩⟩
            · cases hl
            · exact .inr ⟨F2, _, fp2, cc, d, ρ', s2, hl, k2⟩
          · cases hl
      · cases h
  | .for_ g it x, ht, he => .of (fun b => rfl) fun a h => by
      simp only [chkS] at h
      split at h
      · obtain ⟨k0, hio, h4⟩ := and3 h
        obtain ⟨h1, hg⟩ := and2 k0
        obtain ⟨p1, p2⟩ := (snd it).pi sc true X o _ _ h1
        refine (ps_for hx o.calm p1 (pg_of o g _ hg) (((sndS (io := io) o hx hk x ht).bl _ h4).or ((sndSX x ht he).bl _ h4)) p2).mono fun D σ H ⟨F, ρ, fp, cc, d, ρ', s, hd, k⟩ => ?_
        simp only [denSX] at hd
        split at hd
        · rename_i xs ρ1 g1
          refine ⟨F, ρ, fp, xs, ρ1, s, g1, fun J H1 F1 fp1 s1 t1 its => ?_⟩
          refine ⟨fun i m σ2 H2 => m = xs.length - i ∧ ∃ F2 ρ2 fp2, Ex F1 F2 ∧ St X.K F2 H2 σ2 ρ2 fp2 ∧ forX (fun x' ρ => do let ρ2 ← stTg g x' ρ; denS T G x ρ2) (fun x' ρ => match stTg g x' ρ with | .ok ρ2 => denSX T G x ρ2 | _ => none) (xs.drop i) ρ2 = some (cc, d, ρ') ∧ Fly X.K X.mg W io F2 H2 σ2 fp2 cc d ρ',
            ⟨_, rfl, F1, ρ1, fp1, Ex.refl F1, s1, hd, k.later t1 fun _ _ => rfl⟩, ?_⟩
          rintro i m σ2 H2 ⟨rfl, F2, ρ2, fp2, e2, s2, hf, k2⟩
          obtain ⟨j1, j2⟩ := its i H2 F2 e2 s2.le
          by_cases hlt : i < xs.length
          · have hx0 : xs[i]? = some xs[i] := List.getElem?_eq_getElem hlt
            obtain ⟨j3, j4⟩ := j1 _ hx0
            refine .inr ⟨j3, fun σ3 H3 => ∃ F3 ρ3 fp3, Ex F1 F3 ∧ St X.K F3 H3 σ3 ρ3 fp3 ∧ forX (fun x' ρ => do let ρ2 ← stTg g x' ρ; denS T G x ρ2) (fun x' ρ => match stTg g x' ρ with | .ok ρ2 => denSX T G x ρ2 | _ => none) (xs.drop (i + 1)) ρ3 = some (cc, d, ρ') ∧ Fly X.K X.mg W io F3 H3 σ3 fp3 cc d ρ',
              fun σ3 H3 w => ⟨_, by omega, rfl, w⟩, fun v H3 hy => ?_⟩
            obtain ⟨F3, nw, r3⟩ := j4 v H3 hy
            have s3 := nw.st s2
            rw [List.drop_eq_getElem_cons hlt] at hf
            unfold forX at hf
            have k3 := k2.later (nw.xt (fp := fp2)) fun _ _ => rfl
            have slot : ∀ {σ5 : L2.St}, (∀ j, j ∉ slots g → σ5[j]? = σ2[j]?) → ∀ j ∈ io, σ5[j]? = σ2[j]? := fun fr j hj => fr j fun hm => by
              have := List.all_eq_true.mp hio j hm
              simp [hj] at this
            have go : ∀ {fl : Fl} {ρ4 : Ro} {D' : Ends}, (do let ρ2 ← stTg g xs[i] ρ2; denS T G x ρ2) = .ok (fl, ρ4) → Fin X.K io D' F3 H3 σ2 fp2 ρ4 fl → tG X.K g v σ2 H3 fun σ4 H4 => tS X.K T G io x D' σ4 H4 ∨ tSX X.K X.mg T G W io x D' σ4 H4 := fun {fl ρ4 D'} hq kk => by
              obtain ⟨ρ3, q1, q2⟩ := Res.bind_inv hq
              refine ⟨F3, ρ2, fp2, _, ρ3, s3, r3, q1, fun σ5 fp5 s5 fr sb => .inl ⟨F3, ρ3, fp5, fl, ρ4, s5, q2, ?_⟩⟩
              exact kk.later ((Xt.refl s5.le).lower fun i a z => ⟨i, sb i a z⟩) (slot fr)
            split at hf
            · rename_i ρ4 hq
              exact go hq fun σ5 H5 F5 fp5 s5 t5 h5 => ⟨F5, ρ4, fp5, (e2.trans nw.ff).trans t5.ff, s5, hf, k3.later t5 h5⟩
            · rename_i ρ4 hq
              exact go hq fun σ5 H5 F5 fp5 s5 t5 h5 => ⟨F5, ρ4, fp5, (e2.trans nw.ff).trans t5.ff, s5, hf, k3.later t5 h5⟩
            · cases hf
            · split at hf
              · rename_i ρ3 q1
                exact ⟨F3, ρ2, fp2, _, ρ3, s3, r3, q1, fun σ5 fp5 s5 fr sb => .inr ⟨F3, ρ3, fp5, cc, d, ρ', s5, hf, k3.later ((Xt.refl s5.le).lower fun i a z => ⟨i, sb i a z⟩) (slot fr)⟩⟩
              · cases hf
          · rw [List.drop_eq_nil_of_le (by omega)] at hf
            cases hf
        · cases hd
      · cases h
  | .aug _ _ _, ht, he => .no (fun b => rfl) fun ρ => by simp only [denSX]
  | .setP _ _ _, ht, he => .no (fun b => rfl) fun ρ => by simp only [denSX]
  | .setSl _ _ _ _, ht, he => .no (fun b => rfl) fun ρ => by simp only [denSX]
  | .retN, ht, he => .no (fun b => rfl) fun ρ => by simp only [denSX]
  | .pass, ht, he => .no (fun b => rfl) fun ρ => by simp only [denSX]
  | .brk, ht, he => .no (fun b => rfl) fun ρ => by simp only [denSX]
  | .cnt, ht, he => .no (fun b => rfl) fun ρ => by simp only [denSX]
  | .try_ _ _ _ _, ht, he => .no (fun b => rfl) fun ρ => by simp only [denSX]
  | .stI _ _ _, ht, he => .no (fun b => rfl) fun ρ => by simp only [denSX]
  | .forO _ _ _, ht, he => .no (fun b => rfl) fun ρ => by simp only [denSX]
  | .forD _ _ _ _, ht, he => .no (fun b => rfl) fun ρ => by simp only [denSX]
  | .forE _, ht, he => .no (fun b => rfl) fun ρ => by simp only [denSX]
  | .par _ _ _ _, ht, he => .no (fun b => rfl) fun ρ => by simp only [denSX]
  | .tryO _ _ _, ht, he => .no (fun b => rfl) fun ρ => by simp only [denSX]
  | .tok _ _, ht, he => ⟨fun a h => by simp [chkS] at h, fun b h => pss_no fun D σ H ⟨F, ρ, fp, c, d, ρ', s, hd, k⟩ => by
      simp only [denSX] at hd
      cases hd⟩
  | .tryC _ _ _ _ _, ht, he => ⟨fun a h => by simp [chkS] at h, fun b h => pss_no fun D σ H ⟨F, ρ, fp, c, d, ρ', s, hd, k⟩ => by
      simp only [denSX] at hd
      cases hd⟩
end
end Rf
set_option maxRecDepth 100000
set_option maxHeartbeats 8000000
namespace Rf
open PySem PySem.Spec PyProof.Rows L2 Evl
/-- the look at a def -/
def chkF (P : Prg) (d : Fn) (st : Stmt) : Bool :=
  decide ((defScope st).kind = .function) && !(defScope st).isCoroutine && !(defScope st).isGenerator && decide d.N.Nodup &&
  (d.N.take d.np).all (fun x => decide ((defScope st).names.lookup x = some .local) || decide ((defScope st).names.lookup x = some .cell)) && (defScope st).names.all (fun y => !decide (y.2 = .free)) &&
  chkS.chkB P d.N d.body (defScope st) d.io (defBody st) && decide (d.np ≤ d.N.length) && d.io.all (fun i => decide (i < d.np))
structure ChkF (P : Prg) (d : Fn) (st : Stmt) : Prop where
  sc : FnScope d.N (d.N.take d.np) (defScope st)
  bd : chkS.chkB P d.N d.body (defScope st) d.io (defBody st) = true
  np : d.np ≤ d.N.length
  io : ∀ i ∈ d.io, i < d.np
theorem chkF_ok {P : Prg} {d : Fn} {st : Stmt} (h : chkF P d st = true) : ChkF P d st := by
  unfold chkF at h
  simp only [Bool.and_eq_true, decide_eq_true_eq, List.all_eq_true, Bool.not_eq_true', Bool.or_eq_true, decide_eq_false_iff_not] at h
  obtain ⟨⟨⟨⟨⟨⟨⟨⟨h1, h2⟩, h3⟩, h4⟩, h5⟩, h6⟩, h7⟩, h8⟩, h9⟩ := h
  exact ⟨⟨h1, h2, h3, h4, by rw [List.length_take, Nat.min_eq_left h8], h5, h6⟩, h7, h8, h9⟩
structure DefAt (P : Prg) (K : Frag) (mg : Str → Option Value) (d : Fn) (st : Stmt) (a : Addr) (fd : FuncData) : Prop where
  nm : mg d.name = some (.ref a)
  fn : ∃ x : Str, Fun K x x st a fd
  bd : ∀ us : List Value, us.length = (d.N.take d.np).length → bindArgs fd ⟨us, []⟩ = pure ((d.N.take d.np).zip us)
  ck : ChkF P d st
def DefOk (P : Prg) (K : Frag) (mg : Str → Option Value) (d : Fn) : Prop := ∃ st a fd, DefAt P K mg d st a fd
theorem takeRo_get {io : List Nat} {n : Nat} {ρ : Ro} {i : Nat} (h : i < n) (hi : i ∈ io) : getRo (takeRo io n ρ) i = getRo ρ i := by
  have e : (takeRo io n ρ)[i]? = some (getRo ρ i) := by
    unfold takeRo
    rw [List.getElem?_map, List.getElem?_range h]
    have hc : io.contains i = true := by simpa using hi
    show some (if io.contains i then getRo ρ i else none) = _
    rw [if_pos hc]
  show ((takeRo io n ρ)[i]?).join = _
  rw [e]
  rfl
theorem takeRo_len {io : List Nat} {n : Nat} {ρ : Ro} : (takeRo io n ρ).length = n := by simp [takeRo]
theorem mask_inv {io : List Nat} {os : Ro} {j : Nat} {x : PV} (h : getRo (mask io os) j = some x) : j ∈ io ∧ j < os.length ∧ getRo os j = some x := by
  have h' : ((mask io os)[j]?).join = some x := h
  unfold mask at h'
  rw [List.getElem?_map] at h'
  by_cases hl : j < os.length
  · rw [List.getElem?_range hl] at h'
    have h2 : (if io.contains j then getRo os j else none) = some x := h'
    split at h2
    · rename_i hc
      exact ⟨by simpa using hc, hl, h2⟩
    · cases h2
  · rw [List.getElem?_eq_none (by simpa using Nat.le_of_not_lt hl)] at h'
    cases h'
section
variable {P : Prg} {G : Gls} {w : World} {K : Frag} {mg : Str → Option Value} {base : Heap} {pr : Program}
theorem fn_zero {K : Frag} {T : Tab} {f : Nat} {d : Fn} (hT : ∀ xs, T f xs = .bad) {a : Addr} {fd : FuncData} : FnOk pr w K mg base CX0 0 a fd (d.N.take d.np) (spF K T f d.np d.io) :=
  have no : ∀ {vs H Q E}, ¬ spF K T f d.np d.io vs H Q E := fun {vs H Q E} h => by
    obtain ⟨_, F, ap, xs, r, os, _, h, _⟩ := h
    rw [hT] at h
    cases h
  ⟨fun vs H Q E h => (no h).elim, fun A outer s H args us vs Q E _ _ _ _ h => (no h).elim⟩
theorem fnx_zero {K : Frag} {mg : Str → Option Value} {T : Tab} {f : Nat} {d : Fn} (hT : ∀ xs, T f xs = .bad) {a : Addr} {fd : FuncData} : FnOk pr w K mg base (L2.CX pr w) 0 a fd (d.N.take d.np) (spX K mg T f d.np) :=
  have no : ∀ {vs H Q E}, ¬ spX K mg T f d.np vs H Q E := fun {vs H Q E} h => by
    obtain ⟨_, F, ap, xs, c, x, _, h, _⟩ := h
    rw [hT] at h
    cases h
  ⟨fun vs H Q E h => (no h).elim, fun A outer s H args us vs Q E _ _ _ _ h => (no h).elim⟩
theorem init_st {K : Frag} {F H : Hp} {vs : List V} {xs : List PV} {ap : Nat → As} {d : Fn} (st0 : St K F H (vs.map some) (xs.map some) ap) (hl : vs.length = d.np) (hx : xs.length = d.np) :
    St K F H (L2.start d.N vs) (xs.map some ++ List.replicate (d.N.length - d.np) none) ap := by
  have hσ : ∀ i, i < d.np → (L2.start d.N vs)[i]? = (vs.map some)[i]? := fun i hi => by
    unfold L2.start
    rw [List.getElem?_append_left (by simpa [hl] using hi)]
  refine ⟨st0.le, ?_, fun i x hi => ?_, st0.dj, st0.kn, st0.nf⟩
  · unfold L2.start
    simp [hl, hx]
  · have hlt : i < xs.length := by
      rcases Nat.lt_or_ge i xs.length with h1 | h1
      · exact h1
      · exfalso
        have h2 : ((xs.map some ++ List.replicate (d.N.length - d.np) none)[i]?).join = some x := hi
        rw [List.getElem?_append_right (by simpa using h1)] at h2
        rw [List.getElem?_replicate] at h2
        split at h2 <;> cases h2
    have hi' : getRo (xs.map some) i = some x := by
      have h2 : ((xs.map some ++ List.replicate (d.N.length - d.np) none)[i]?).join = some x := hi
      rw [List.getElem?_append_left (by simpa using hlt)] at h2
      exact h2
    obtain ⟨v, q1, q2⟩ := st0.ow i x hi'
    exact ⟨v, by rw [hσ i (by rw [← hx]; exact hlt)]; exact q1, q2⟩
theorem run_inv {P : Prg} {G : Gls} {n f : Nat} {d : Fn} {xs : List PV} (hf : P[f]? = some d) : (∀ r os, run P G (n + 1) f xs = .ok (r, os) → xs.length = d.np ∧ ∃ fl ρ, denS (run P G n) G d.body (xs.map some ++ List.replicate (d.N.length - d.np) none) = .ok (fl, ρ) ∧ retR d (fl, ρ) = .ok (r, os)) ∧
    ∀ c x, run P G (n + 1) f xs = .exn c x → xs.length = d.np ∧ ∃ ρ, denSX (run P G n) G d.body (xs.map some ++ List.replicate (d.N.length - d.np) none) = some (c, x, ρ) := by
  have e : run P G (n + 1) f xs = (do
      Res.guard (decide (xs.length = d.np))
      match denS (run P G n) G d.body (xs.map some ++ List.replicate (d.N.length - d.np) none) with
      | .ok z => retR d z
      | _ => (match denSX (run P G n) G d.body (xs.map some ++ List.replicate (d.N.length - d.np) none) with
        | some (c, x, _) => Res.exn c x
        | none => Res.bad)) := by
    show (match P[f]? with | none => Res.bad | some d => _) = _
    rw [hf] <;> rfl
  rw [e]
  by_cases hx : xs.length = d.np
  · rw [decide_eq_true hx]
    constructor
    · intro r os h
      refine ⟨hx, ?_⟩
      have h : (match denS (run P G n) G d.body (xs.map some ++ List.replicate (d.N.length - d.np) none) with
        | .ok z => retR d z
        | _ => (match denSX (run P G n) G d.body (xs.map some ++ List.replicate (d.N.length - d.np) none) with
          | some (c, x, _) => Res.exn c x
          | none => Res.bad)) = .ok (r, os) := h
      split at h
      · rename_i z hz
        exact ⟨z.1, z.2, hz, h⟩
      · split at h <;> cases h
    · intro c x h
      refine ⟨hx, ?_⟩
      have h : (match denS (run P G n) G d.body (xs.map some ++ List.replicate (d.N.length - d.np) none) with
        | .ok z => retR d z
        | _ => (match denSX (run P G n) G d.body (xs.map some ++ List.replicate (d.N.length - d.np) none) with
          | some (c, x, _) => Res.exn c x
          | none => Res.bad)) = .exn c x := h
      split at h
      · rename_i z hz
        unfold retR at h
        split at h <;> cases h
      · split at h
        · rename_i hd
          cases h
          exact ⟨_, hd⟩
        · cases h
  · rw [decide_eq_false hx]
    constructor
    · intro r os h
      cases h
    · intro c x h
      cases h
def trysOf (P : Prg) : List Str := P.flatMap fun d => d.body.trys
def errsOf (P : Prg) : List Str := P.flatMap fun d => d.body.errs
theorem run_ok (D : ∀ (f : Nat) (d : Fn), P[f]? = some d → DefOk P K mg d) (hb : ∀ b ∈ builtinsUsed, mg b = none) (hg : ∀ x d, G x = some d → ∃ u v, mg x = some u ∧ RelV v u ∧ GOk K w v d)
    (ht : ∀ k ∈ trysOf P, ∃ D, mg k = some (.ref D)) (he : ∀ c ∈ errsOf P, ∃ C, ExAt K mg c C) :
    ∀ (n f : Nat) (d : Fn) (st : Stmt) (a : Addr) (fd : FuncData), P[f]? = some d → DefAt P K mg d st a fd →
      FnOk pr w K mg base CX0 n a fd (d.N.take d.np) (spF K (run P G n) f d.np d.io) ∧ FnOk pr w K mg base (L2.CX pr w) n a fd (d.N.take d.np) (spX K mg (run P G n) f d.np)
  | 0, f, d, st, a, fd, hf, _ => ⟨fn_zero fun xs => rfl, fnx_zero fun xs => rfl⟩
  | n + 1, f, d, st, a, fd, hf, ⟨e1, ⟨x0, e2⟩, e3, e4⟩ => by
    have ht' : ∀ k ∈ d.body.trys, ∃ D, mg k = some (.ref D) := fun k hk => ht k (List.mem_flatMap.mpr ⟨d, List.mem_of_getElem? hf, hk⟩)
    have he' : ∀ c ∈ d.body.errs, ∃ C, ExAt K mg c C := fun k hk => he k (List.mem_flatMap.mpr ⟨d, List.mem_of_getElem? hf, hk⟩)
    have fns : ∀ f' d', P[f']? = some d' → ∃ (a' : Addr) (fd' : FuncData), mg d'.name = some (.ref a') ∧ PySem.W.keepIn K (.ref a') = true ∧ Binds K fd' (d'.N.take d'.np) [] ∧
        FnOk pr w K mg base CX0 n a' fd' (d'.N.take d'.np) (spF K (run P G n) f' d'.np d'.io) ∧ FnOk pr w K mg base (L2.CX pr w) n a' fd' (d'.N.take d'.np) (spX K mg (run P G n) f' d'.np) := fun f' d' h' =>
      let ⟨st', a', fd', D'⟩ := D f' d' h'
      ⟨a', fd', D'.nm, D'.fn.elim fun _ q => q.kp, .all D'.bd, run_ok D hb hg ht he n f' d' st' a' fd' h' D'⟩
    refine ⟨e2.ok e4.sc (fun vs H Q E h => ?_) fun cdv A outer s H vs Q E hr h => ?_, e2.okX e4.sc (fun vs H Q E h => ?_) fun cdv A outer s H vs Q E hr h => ?_⟩
    · rw [h.1, List.length_take, Nat.min_eq_left e4.np]
    · obtain ⟨hl, F, ap, xs, r, os, st0, hT, k⟩ := h
      have o : XOk P G (run P G n) n d.N (defScope st) true (cxOf CX0 pr w K mg base d.N x0 (defScope st) a cdv A outer s H E).nox :=
        ⟨rfl, rfl, e4.sc.nd, e4.sc.kind, rfl, hr, fun f' d' h' => ⟨let ⟨a', fd', m1, m2, m3, m4, _⟩ := fns f' d' h'; ⟨a', fd', m1, m2, m3, m4⟩⟩, fun f' d' h' => ⟨let ⟨a', fd', m1, m2, m3, _, m5⟩ := fns f' d' h'; ⟨a', fd', m1, m2, m3, m5⟩⟩, hb, hg, fun _ x => rfl⟩
      refine ⟨_, (sndS (io := d.io) o PassesOwn.never ⟨rfl, rfl⟩ d.body ht').bl _ e4.bd, ?_⟩
      obtain ⟨hx, fl, ρ, g2, hT⟩ := (run_inv hf).1 r os hT
      have hσ : ∀ i, i < d.np → (L2.start d.N vs)[i]? = (vs.map some)[i]? := fun i hi => by
        unfold L2.start
        rw [List.getElem?_append_left (by simpa [hl] using hi)]
      refine ⟨F, _, ap, fl, ρ, init_st st0 hl hx, g2, ?_⟩
      have done : ∀ {v : V} {y : PV} {σ' : L2.St} {H' F' : Hp} {fp' : Nat → As} {PP : As}, .ok (y, takeRo d.io d.np ρ) = Res.ok (r, os) → St K F' H' σ' ρ fp' → Xt F H ap F' H' fp' → (∀ i ∈ d.io, σ'[i]? = (L2.start d.N vs)[i]?) → Hd K F' H' fp' v y PP →
          (∀ a, PP a → (∃ j, ap j a) ∨ H a = none) → Q v H' := fun {v y σ' H' F' fp' PP} he s1 t1 hio h1 sub => by
        cases he
        refine k v H' F' fp' PP ⟨s1.le, ?_, fun i x hi => ?_, s1.dj, s1.kn, s1.nf⟩ t1 h1 sub
        · unfold mask
          simp [takeRo_len, hl]
        · obtain ⟨i1, i2, i3⟩ := mask_inv hi
          rw [takeRo_len] at i2
          rw [takeRo_get i2 i1] at i3
          obtain ⟨u, q1, q2⟩ := s1.ow i x i3
          exact ⟨u, by rw [← hσ i i2, ← hio i i1]; exact q1, q2⟩
      cases fl with
      | rt x => exact fun v σ' H' F' fp' PP s1 t1 hio h1 sub => done hT s1 t1 hio h1 sub
      | nx => exact fun σ' H' F' fp' s1 t1 hio => done (v := .non) (PP := none0) hT s1 t1 hio ⟨.d .non, fun _ z => z.elim, fun _ z => z.elim, fun _ z => z.elim⟩ fun _ z => z.elim
      | bk => cases hT
      | ct => cases hT
    · rw [h.1, List.length_take, Nat.min_eq_left e4.np]
    · obtain ⟨hl, F, ap, xs, c, x, st0, hT, k⟩ := h
      have o : XOk P G (run P G n) n d.N (defScope st) true (cxOf (L2.CX pr w) pr w K mg base d.N x0 (defScope st) a cdv A outer s H E) :=
        ⟨rfl, rfl, e4.sc.nd, e4.sc.kind, rfl, hr, fun f' d' h' => ⟨let ⟨a', fd', m1, m2, m3, m4, _⟩ := fns f' d' h'; ⟨a', fd', m1, m2, m3, m4⟩⟩, fun f' d' h' => ⟨let ⟨a', fd', m1, m2, m3, _, m5⟩ := fns f' d' h'; ⟨a', fd', m1, m2, m3, m5⟩⟩, hb, hg, fun _ x => rfl⟩
      refine ⟨_, (sndSX (W := fun cls dd _ H => E cls dd H) (io := d.io) o (passes_of rfl) ⟨rfl, rfl⟩ (takes_of rfl rfl rfl rfl) d.body ht' he').bl _ e4.bd, ?_⟩
      obtain ⟨hx, ρ, g2⟩ := (run_inv hf).2 c x hT
      refine ⟨F, _, ap, c, x, ρ, init_st st0 hl hx, g2, fun cls dd σ' H' F' fp' s1 t1 _ ex => ?_⟩
      refine k cls dd H' F' fp' ⟨s1.le, ?_, fun i y hi => ?_, s1.dj, s1.kn, s1.nf⟩ t1 ex
      · unfold mask
        simp [hl]
      · obtain ⟨i1, _, _⟩ := mask_inv hi
        cases i1
/-- one def's facts -/
theorem def_mk {h : Heap} (X : K.In h) (GN : h.Ns mainGlobals mg) {d : Fn} {x y : Str} {st : Stmt} {f : Addr} {od an : Option Addr} {sl : Array (Option Value)} {oc kV dc pm cd ct : Value} {ps : List Str}
    (a1 : PySem.W.nsIn K mainGlobals y = some (some (.ref f))) (l1 : K.lookup f = some ⟨oc, od, .func (PySem.W.fnOf x x (defArgs st) (defBody st) (defScope st) .none kV dc pm an cd ct), sl⟩) (c1 : PySem.W.codeIn K cd x = true) (k1 : PySem.W.keepIn K (.ref f) = true)
    (hx : d.name = y) (hp : d.N.take d.np = ps) (b : ∀ (kV doc pm : Value) (an : Option Addr) (cdv ct : Value) (us : List Value), us.length = ps.length → bindArgs (PySem.W.fnOf x x (defArgs st) (defBody st) (defScope st) .none kV doc pm an cdv ct) ⟨us, []⟩ = pure (ps.zip us))
    (chk : chkF P d st = true) : DefOk P K mg d := by
  subst hx
  subst hp
  have F := fun_mk (st := st) l1 c1 k1
  exact ⟨st, f, _, PySem.W.mg_of X GN a1, ⟨x, F⟩, b _ _ _ _ _ _, chkF_ok chk⟩
end
/-- a list whose cells are K's own, if it is the heap's -/
theorem rdl_of {K : Frag} {H : Hp} {h : Heap} {a : Addr} {xs : List V} {vs : List Value} (KX : K.In h) (e : h.get? a = some { cls := .type "list", data := .seq vs.toArray }) (s : SqL K H a xs) : RdL K H a xs := by
  rcases s with s | ⟨ob, its, m, k1, k2, k3, k4, k5, k6⟩
  · exact .inl s
  · have q := KX a ob k1
    rw [e] at q
    cases q
    cases k4
    exact .inr ⟨_, _, k1, k5, k6⟩
def scriptD (ns : List Int) : PyData := .list (ns.map .int)
theorem rps_ints {K : Frag} {H : Hp} : ∀ ns : List Int, Rps K H (ns.map V.int) (ns.map .int)
  | [] => .nil
  | i :: r => .cons (.int i) (rps_ints r)
/-- the promise at a script -/
theorem sp_script {K : Frag} {T : Tab} {f : Nat} {H : Hp} {a : Addr} {ns : List Int} {os : Ro} (h : RdL K H a (ns.map V.int)) (e : T f [.d (scriptD ns)] = .ok (.d (.bool true), os)) : spF K T f 1 [] [.ref a] H (fun v _ => v = .bl true) fun _ _ _ => False := by
  refine ⟨rfl, H, fun _ => none0, [.d (scriptD ns)], _, os, ⟨Ex.refl H, rfl, fun i x hi => ?_, fun _ _ _ z => z.elim, fun _ _ z => z.elim, fun _ _ z => z.elim⟩, e, fun v H' F' ap' PP _ _ hd _ => hd.ow.dat.bl_inv⟩
  cases i with
  | zero =>
    cases hi
    exact ⟨_, rfl, .d (.lst h (rps_ints ns))⟩
  | succ i => cases hi
section
open PySem.W
/-- THE END of a law -/
theorem walkR {l : PySem.W.OpenLaw} {m k f : Nat} {q : Program} {loose : List Str} {XP : (Str → Option Value) → Heap → Prop} {YP : World → Heap → Prop} {d : DefRec} {K : Params → Frag} {x : Str} {T : Tab}
    (hm : l.most = some m) (m2 : m ≤ sizeLine) (df : d.params.defaults = []) (room : Room k callerA) (hY : ∀ (w : World) (h : Heap), YP w h → (K w.params).In h)
    (FF : ∀ (w : World) (mg : Str → Option Value) (fa : Addr) (h : Heap), (K w.params).In h → h.Ns mainGlobals mg → mg d.name = some (.ref fa) →
      ∃ fd : FuncData, (∀ (s : Shared) (u : Value), BindsTo s fd ⟨[u], []⟩ [(x, u)]) ∧ ∀ b : Heap, (K w.params).In b → b.Ns mainGlobals mg → FnOk l.prog w (K w.params) mg b CX0 k fa fd [x] (spF (K w.params) T f 1 []))
    (law : ∀ ns : List Int, ns.length ≤ m → (∀ z ∈ ns, Builtin.Int.intBits z ≤ 1048576) → ∃ os, T f [.d (scriptD ns)] = .ok (.d (.bool true), os)) :
    PySem.W.WalkO q loose XP YP l.row.toRowW d [] (fun f vs => PySem.call f vs) := by
  refine Att.attach_callB hm df fun w _ s1 mg mb fa _ _ _ _ a vs ns GG Y _ _ _ nm obj isI le bits gens => ?_
  have KX := hY w _ Y
  obtain ⟨fd, b1, b2⟩ := FF w mg fa _ KX GG.T.g nm
  obtain ⟨os, e⟩ := law ns le bits
  exact L2.law_call KX GG.T.g GG.T.b GG.T.builtins GG.T.nolimit gens obj isI (Nat.le_trans le m2) room b2 b1 (fun H _ S => sp_script (rdl_of KX obj S) e) fun _ _ _ z => z
end
/-- .. and its own facts, from those of the defs -/
theorem law_mk {P : Prg} {G : Gls} {l : PySem.W.OpenLaw} {w : World} {K : Frag} {h : Heap} {mg : Str → Option Value} {fa : Addr} {f k : Nat} {d : Fn} {x : Str} (D : ∀ (f : Nat) (d : Fn), P[f]? = some d → DefOk P K mg d) (hb : ∀ b ∈ builtinsUsed, mg b = none)
    (hg : ∀ x d, G x = some d → ∃ u v, mg x = some u ∧ RelV v u ∧ GOk K w v d) (ht : ∀ k ∈ trysOf P, ∃ D, mg k = some (.ref D)) (he : ∀ c ∈ errsOf P, ∃ C, ExAt K mg c C) (hf : P[f]? = some d) (hn : mg d.name = some (.ref fa)) (h1 : d.N.take d.np = [x]) (h2 : d.np = 1) (h3 : d.io = []) :
    ∃ fd : FuncData, (∀ (s : Shared) (u : Value), BindsTo s fd ⟨[u], []⟩ [(x, u)]) ∧ ∀ b : Heap, K.In b → b.Ns mainGlobals mg → FnOk l.prog w K mg b CX0 k fa fd [x] (spF K (run P G k) f 1 []) := by
  obtain ⟨st, a, fd, DD⟩ := D f d hf
  have e1 := DD.nm
  have e3 := DD.bd
  have ea := e1.symm.trans hn
  cases ea
  refine ⟨fd, fun s u => .of_eq (by rw [e3 [u] (by rw [h1]; rfl), h1]; rfl), fun b KB NB => ?_⟩
  have q4 := (run_ok (G := G) (w := w) (base := b) (pr := l.prog) D hb hg ht he k f d st fa fd hf DD).1
  rw [h1, h2, h3] at q4
  exact q4
end Rf
set_option maxRecDepth 100000
namespace Rf
open PySem Res
@[simp] theorem getRo_zero (x : Option PV) (r : Ro) : getRo (x :: r) 0 = x := rfl
@[simp] theorem getRo_succ (x : Option PV) (r : Ro) (n : Nat) : getRo (x :: r) (n + 1) = getRo r n := rfl
@[simp] theorem frzRo_nil : frzRo [] = [] := rfl
@[simp] theorem frzRo_none {r : Ro} : frzRo (none :: r) = none :: frzRo r := rfl
@[simp] theorem frzRo_d {x : PyData} {r : Ro} : frzRo (some (.d x) :: r) = some (.d x) :: frzRo r := rfl
@[simp] theorem frzRo_L {x : List PyData} {r : Ro} : frzRo (some (.L x) :: r) = some (.d (.list x)) :: frzRo r := rfl
@[simp] theorem frzRo_o {x : Option PV} {r : Ro} : frzRo (x :: r) = x.bind PV.lent :: frzRo r := rfl
@[simp] theorem lent_d {x : PyData} : (PV.d x).lent = some (.d x) := rfl
@[simp] theorem lent_L {x : List PyData} : (PV.L x).lent = some (.d (.list x)) := rfl
@[simp] theorem flat_int {i : Int} : (PV.d (.int i)).flat = true := rfl
@[simp] theorem flat_bool {i : Bool} : (PV.d (.bool i)).flat = true := rfl
@[simp] theorem flat_str {i : Str} : (PV.d (.str i)).flat = true := rfl
section
variable (T : Tab) (G : Gls)
def D (e : E) (ρ : Ro) (Q : PV → Ro → Prop) : Prop := ∃ x ρ', den T G e ρ = ok (x, ρ') ∧ Q x ρ'
def DA (e : E) (ρ : Ro) (Q : List PV → Ro → Prop) : Prop := ∃ x ρ', dens T G e ρ = ok (x, ρ') ∧ Q x ρ'
def DI (e : E) (ρ : Ro) (Q : List PyData → Ro → Prop) : Prop := ∃ x ρ', deni T G e ρ = ok (x, ρ') ∧ Q x ρ'
def W (s : S) (ρ : Ro) (Q : Fl → Ro → Prop) : Prop := ∃ f ρ', denS T G s ρ = ok (f, ρ') ∧ Q f ρ'
def Qs (r : S) (Q : Fl → Ro → Prop) : Fl → Ro → Prop
  | .nx, ρ => W T G r ρ Q
  | f, ρ => Q f ρ
end
/-- data of a value -/
def Fz (x : PV) (K : PyData → Prop) : Prop := ∃ y, x.fz = ok y ∧ K y
def Bl (x : PV) (K : Bool → Prop) : Prop := ∃ y, asBool x = ok y ∧ K y
def Bop (op : Operator) (x y : PyData) (K : PV → Prop) : Prop := ∃ z, binS op x y = ok z ∧ K z
def Cop (op : CmpOp) (x y : PyData) (K : Bool → Prop) : Prop := ∃ z, cmpS op x y = ok z ∧ K z
def Iop (x y : PyData) (K : PyData → Prop) : Prop := ∃ z, ixD x y = ok z ∧ K z
def Uop (b : Bi) (xs : List PyData) (K : PV → Prop) : Prop := ∃ z, biS b xs = ok z ∧ K z
def Mop (m : Mt) (xs zs : List PyData) (K : List PyData → PyData → Prop) : Prop := ∃ x r, mtS m xs zs = ok (x, r) ∧ K x r
def Vop (m : Mv) (x : PyData) (zs : List PyData) (K : PV → Prop) : Prop := ∃ z, mvS m x zs = ok z ∧ K z
def Fzs (xs : List PV) (K : List PyData → Prop) : Prop := ∃ y, fzs xs = ok y ∧ K y
def Cl (T : Tab) (f : Nat) (xs : List PV) (K : PV → Ro → Prop) : Prop := ∃ r os, T f xs = ok (r, os) ∧ K r os
theorem bex {α β : Type} {m : Res α} {f : α → Res β} {Q : β → Prop} : (∃ b, (Bind.bind m f : Res β) = ok b ∧ Q b) ↔ ∃ a, m = ok a ∧ ∃ b, f a = ok b ∧ Q b := by
  constructor
  · rintro ⟨b, h, q⟩
    obtain ⟨a, h1, h2⟩ := bind_inv h
    exact ⟨a, h1, b, h2, q⟩
  · rintro ⟨a, h1, b, h2, q⟩
    exact ⟨b, by rw [h1]; exact h2, q⟩
theorem pex {α β : Type} {P : α × β → Prop} : (∃ b, P b) ↔ ∃ x y, P (x, y) := ⟨fun ⟨⟨x, y⟩, h⟩ => ⟨x, y, h⟩, fun ⟨x, y, h⟩ => ⟨(x, y), h⟩⟩
theorem oex {α : Type} {x : α} {Q : α → Prop} : (∃ b, (ok x : Res α) = ok b ∧ Q b) ↔ Q x := ⟨fun ⟨b, h, q⟩ => by cases h; exact q, fun q => ⟨x, rfl, q⟩⟩
@[simp] theorem Fz_d (x : PyData) (K : PyData → Prop) : Fz (.d x) K ↔ K x := oex
@[simp] theorem Fz_L (x : List PyData) (K : PyData → Prop) : Fz (.L x) K ↔ K (.list x) := oex
@[simp] theorem Bl_b (b : Bool) (K : Bool → Prop) : Bl (.d (.bool b)) K ↔ K b := oex
@[simp] theorem Fzs_nil (K : List PyData → Prop) : Fzs [] K ↔ K [] := oex
@[simp] theorem Fzs_cons (x : PV) (r : List PV) (K : List PyData → Prop) : Fzs (x :: r) K ↔ Fz x fun y => Fzs r fun ys => K (y :: ys) := by
  unfold Fzs Fz
  rw [fzs_cons, bex]
  simp only [bex, oex]
section
variable {T : Tab} {G : Gls} {ρ : Ro} {Q : PV → Ro → Prop}
theorem D_def {e : E} : D T G e ρ Q ↔ ∃ z, den T G e ρ = ok z ∧ Q z.1 z.2 := by unfold D; rw [pex]
theorem DA_def {e : E} {Q : List PV → Ro → Prop} : DA T G e ρ Q ↔ ∃ z, dens T G e ρ = ok z ∧ Q z.1 z.2 := by unfold DA; rw [pex]
theorem DI_def {e : E} {Q : List PyData → Ro → Prop} : DI T G e ρ Q ↔ ∃ z, deni T G e ρ = ok z ∧ Q z.1 z.2 := by unfold DI; rw [pex]
theorem W_def {s : S} {Q : Fl → Ro → Prop} : W T G s ρ Q ↔ ∃ z, denS T G s ρ = ok z ∧ Q z.1 z.2 := by unfold W; rw [pex]
theorem Cl_def {f : Nat} {xs : List PV} : Cl T f xs Q ↔ ∃ z, T f xs = ok z ∧ Q z.1 z.2 := by unfold Cl; rw [pex]
theorem Mop_def {m : Mt} {xs zs : List PyData} {K : List PyData → PyData → Prop} : Mop m xs zs K ↔ ∃ z, mtS m xs zs = ok z ∧ K z.1 z.2 := by unfold Mop; rw [pex]
@[simp] theorem D_nm {i : Nat} : D T G (.nm i) ρ Q ↔ ∃ x, getRo ρ i = some (.d x) ∧ Q (.d x) ρ := by
  rw [D_def]
  simp only [den, bex, oex]
  constructor
  · rintro ⟨a, h, q⟩
    unfold getD at h
    split at h
    · rename_i z hz; cases h; exact ⟨_, hz, q⟩
    · cases h
  · rintro ⟨a, h, q⟩
    exact ⟨a, by unfold getD; rw [h], q⟩
@[simp] theorem D_mv {i : Nat} : D T G (.mv i) ρ Q ↔ ∃ x, getRo ρ i = some x ∧ Q x (ρ.set i none) := by
  rw [D_def]
  simp only [den]
  cases getRo ρ i with
  | none => simp
  | some x => simp [oex]
@[simp] theorem D_fz {i : Nat} : D T G (.fz i) ρ Q ↔ ∃ x, getRo ρ i = some x ∧ Fz x fun y => Q (.d y) (ρ.set i (some (.d y))) := by
  rw [D_def]
  simp only [den]
  cases getRo ρ i with
  | none => simp
  | some x =>
    simp only [bex, oex, Option.some.injEq, exists_eq_left']
    rfl
@[simp] theorem D_frz {e : E} : D T G (.frz e) ρ Q ↔ D T G e ρ fun x ρ1 => Fz x fun y => Q (.d y) ρ1 := by
  rw [D_def, D_def]; simp only [den, bex, oex]; rfl
@[simp] theorem D_bw {e : E} : D T G (.bw e) ρ Q ↔ D T G e (frzRo ρ) fun x _ => x.flat = true ∧ Q x ρ := by
  rw [D_def, D_def]; simp only [den, bex, oex]
  constructor
  · rintro ⟨a, h, u, g, q⟩
    exact ⟨a, h, guard_inv g, q⟩
  · rintro ⟨a, h, g, q⟩
    exact ⟨a, h, (), by rw [g]; rfl, q⟩
@[simp] theorem D_int {i : Int} : D T G (.int i) ρ Q ↔ Q (.d (.int i)) ρ := by rw [D_def]; exact oex
@[simp] theorem D_bl {i : Bool} : D T G (.bl i) ρ Q ↔ Q (.d (.bool i)) ρ := by rw [D_def]; exact oex
@[simp] theorem D_non : D T G .non ρ Q ↔ Q (.d .none) ρ := by rw [D_def]; exact oex
@[simp] theorem D_str {i : Str} : D T G (.str i) ρ Q ↔ Q (.d (.str i)) ρ := by rw [D_def]; exact oex
@[simp] theorem D_bin {op : Operator} {a b : E} : D T G (.bin op a b) ρ Q ↔ D T G a ρ fun x ρ1 => D T G b ρ1 fun y ρ2 => Fz x fun x' => Fz y fun y' => Bop op x' y' fun z => Q z ρ2 := by
  rw [D_def, D_def]; simp only [den, bex, oex, D_def]; rfl
@[simp] theorem D_neg {a : E} : D T G (.neg a) ρ Q ↔ D T G a ρ fun x ρ1 => ∃ i, x = .d (.int i) ∧ Q (.d (.int (-i))) ρ1 := by
  rw [D_def, D_def]; simp only [den, bex]
  constructor
  · rintro ⟨a, h, b, h2, q⟩
    split at h2
    · cases h2; rename_i e; exact ⟨a, h, _, e, q⟩
    · cases h2
  · rintro ⟨a, h, i, e, q⟩
    exact ⟨a, h, _, by rw [e], q⟩
@[simp] theorem D_not {a : E} : D T G (.not a) ρ Q ↔ D T G a ρ fun x ρ1 => Bl x fun b => Q (.d (.bool (!b))) ρ1 := by
  rw [D_def, D_def]; simp only [den, bex, oex]; rfl
@[simp] theorem D_and {a b : E} : D T G (.and a b) ρ Q ↔ D T G a ρ fun x ρ1 => Bl x fun c => if c = true then D T G b ρ1 fun y ρ2 => Bl y fun c' => Q (.d (.bool c')) ρ2 else Q (.d (.bool false)) ρ1 := by
  rw [D_def, D_def]; simp only [den, bex]
  refine exists_congr fun z => and_congr_right fun _ => exists_congr fun c => and_congr_right fun _ => ?_
  cases c with
  | true => simp only [if_true, D_def, bex, oex]; rfl
  | false => simp only [Bool.false_eq_true, if_false]; exact oex
@[simp] theorem D_or {a b : E} : D T G (.or a b) ρ Q ↔ D T G a ρ fun x ρ1 => Bl x fun c => if c = true then Q (.d (.bool true)) ρ1 else D T G b ρ1 fun y ρ2 => Bl y fun c' => Q (.d (.bool c')) ρ2 := by
  rw [D_def, D_def]; simp only [den, bex]
  refine exists_congr fun z => and_congr_right fun _ => exists_congr fun c => and_congr_right fun _ => ?_
  cases c with
  | true => simp only [if_true]; exact oex
  | false => simp only [Bool.false_eq_true, if_false, D_def, bex, oex]; rfl
@[simp] theorem D_cmp {op : CmpOp} {a b : E} : D T G (.cmp op a b) ρ Q ↔ D T G a ρ fun x ρ1 => D T G b ρ1 fun y ρ2 => Fz x fun x' => Fz y fun y' => Cop op x' y' fun z => Q (.d (.bool z)) ρ2 := by
  rw [D_def, D_def]; simp only [den, bex, oex, D_def]; rfl
@[simp] theorem D_chain {op op' : CmpOp} {a b c : E} : D T G (.chain op op' a b c) ρ Q ↔ D T G a ρ fun x ρ1 => D T G b ρ1 fun y ρ2 => Fz x fun x' => Fz y fun y' => Cop op x' y' fun z => if z = true then D T G c ρ2 fun w ρ3 => Fz w fun w' => Cop op' y' w' fun z' => Q (.d (.bool z')) ρ3 else Q (.d (.bool false)) ρ2 := by
  rw [D_def, D_def]; simp only [den, bex, D_def]
  refine exists_congr fun z => and_congr_right fun _ => exists_congr fun c => and_congr_right fun _ => exists_congr fun c => and_congr_right fun _ => exists_congr fun c => and_congr_right fun _ => exists_congr fun c => and_congr_right fun _ => ?_
  cases c with
  | true => simp only [if_true, bex, oex]; rfl
  | false => simp only [Bool.false_eq_true, if_false]; exact oex
@[simp] theorem D_isN {a : E} : D T G (.isN a) ρ Q ↔ D T G a ρ fun x ρ1 => Q (.d (.bool (match x with | .d .none => true | _ => false))) ρ1 := by
  rw [D_def, D_def]; simp only [den, bex, oex] <;> exact Iff.rfl
@[simp] theorem D_notN {a : E} : D T G (.notN a) ρ Q ↔ D T G a ρ fun x ρ1 => Q (.d (.bool (match x with | .d .none => false | _ => true))) ρ1 := by
  rw [D_def, D_def]; simp only [den, bex, oex] <;> exact Iff.rfl
@[simp] theorem D_ife {c a b : E} : D T G (.ife c a b) ρ Q ↔ D T G c ρ fun x ρ1 => Bl x fun t => if t = true then D T G a ρ1 Q else D T G b ρ1 Q := by
  rw [D_def, D_def]; simp only [den, bex]
  refine exists_congr fun z => and_congr_right fun _ => exists_congr fun c => and_congr_right fun _ => ?_
  cases c with
  | true => simp only [if_true, D_def]
  | false => simp only [Bool.false_eq_true, if_false, D_def]
@[simp] theorem D_tup {as : E} : D T G (.tup as) ρ Q ↔ DA T G as ρ fun xs ρ1 => Fzs xs fun ys => Q (.d (.tuple ys)) ρ1 := by
  rw [D_def, DA_def]; simp only [den, bex, oex]; rfl
@[simp] theorem D_lst {as : E} : D T G (.lst as) ρ Q ↔ DA T G as ρ fun xs ρ1 => Fzs xs fun ys => Q (.L ys) ρ1 := by
  rw [D_def, DA_def]; simp only [den, bex, oex]; rfl
@[simp] theorem D_ix {a b : E} : D T G (.ix a b) ρ Q ↔ D T G a ρ fun x ρ1 => D T G b ρ1 fun y ρ2 => Fz x fun x' => Fz y fun y' => Iop x' y' fun z => Q (.d z) ρ2 := by
  rw [D_def, D_def]; simp only [den, bex, oex, D_def]; rfl
@[simp] theorem D_sl {a lo hi : E} : D T G (.sl a lo hi) ρ Q ↔ D T G a ρ fun x ρ1 => D T G lo ρ1 fun l ρ2 => D T G hi ρ2 fun h ρ3 => Fz x fun x' => Fz l fun lo' => Fz h fun hi' => ∃ l' h' z, optI lo lo' = ok l' ∧ optI hi hi' = ok h' ∧ slS x' l' h' = ok z ∧ Q z ρ3 := by
  rw [D_def, D_def]; simp only [den, bex, oex, D_def]
  refine exists_congr fun _ => and_congr_right fun _ => exists_congr fun _ => and_congr_right fun _ => exists_congr fun _ => and_congr_right fun _ => exists_congr fun _ => and_congr_right fun _ => exists_congr fun _ => and_congr_right fun _ => exists_congr fun _ => and_congr_right fun _ => ?_
  constructor
  · rintro ⟨a, h, b, h2, c, h3, q⟩; exact ⟨a, b, c, h, h2, h3, q⟩
  · rintro ⟨a, b, c, h, h2, h3, q⟩; exact ⟨a, h, b, h2, c, h3, q⟩
@[simp] theorem D_lenP {p : Pl} : D T G (.lenP p) ρ Q ↔ ∃ xs, plList ρ p = ok xs ∧ Q (.d (.int xs.length)) ρ := by
  rw [D_def]; simp only [den, bex, oex]
@[simp] theorem D_bi {b : Bi} {as : E} : D T G (.bi b as) ρ Q ↔ DA T G as ρ fun xs ρ1 => Fzs xs fun ys => Uop b ys fun z => Q z ρ1 := by
  rw [D_def, DA_def]; simp only [den, bex, oex]; rfl
@[simp] theorem D_isi {a : E} {t : Ty} : D T G (.isi a t) ρ Q ↔ D T G a ρ fun x ρ1 => Fz x fun y => Q (.d (.bool (isS t y))) ρ1 := by
  rw [D_def, D_def]; simp only [den, bex, oex]; rfl
@[simp] theorem D_call {f : Nat} {as : E} : D T G (.call f as) ρ Q ↔ DA T G as ρ fun xs ρ1 => Cl T f xs fun r os => Q r (ioSet ρ1 (ios as) os) := by
  rw [D_def, DA_def]; simp only [den, bex, oex, Cl_def]
@[simp] theorem D_mt {m : Mt} {p : Pl} {as : E} : D T G (.mt m p as) ρ Q ↔ (∃ u, plList ρ p = ok u) ∧ DA T G as ρ fun ys ρ1 => Fzs ys fun zs => ∃ xs, plList ρ1 p = ok xs ∧ Mop m xs zs fun xs' r => Q (.d r) (plSet ρ1 p xs') := by
  rw [D_def, DA_def]; simp only [den, bex, oex, Mop_def]
  constructor
  · rintro ⟨u, h, q⟩; exact ⟨⟨u, h⟩, q⟩
  · rintro ⟨⟨u, h⟩, q⟩; exact ⟨u, h, q⟩
@[simp] theorem D_mtv {m : Mv} {ob as : E} : D T G (.mtv m ob as) ρ Q ↔ D T G ob ρ fun x ρ1 => DA T G as ρ1 fun ys ρ2 => Fz x fun x' => Fzs ys fun zs => Vop m x' zs fun r => Q r ρ2 := by
  rw [D_def, D_def]; simp only [den, bex, oex, DA_def]; rfl
@[simp] theorem D_ixP {i : Nat} {b : E} : D T G (.ixP (.s i) b) ρ Q ↔ (∃ u, getRo ρ i = some u) ∧ D T G b ρ fun y ρ1 => ∃ xs j x, getRo ρ1 i = some (.L xs) ∧ y = .d (.int j) ∧ L2.atI xs j = some x ∧ Q (.d x) ρ1 := by
  rw [D_def, D_def]
  simp only [den]
  cases getRo ρ i with
  | none => simp
  | some u =>
    simp only [bex, Option.some.injEq, exists_eq', true_and]
    refine exists_congr fun z => and_congr_right fun _ => ?_
    constructor
    · rintro ⟨w, h, q⟩
      split at h
      · rename_i xs j e e2
        split at h
        · rename_i x hx
          cases h
          exact ⟨xs, j, x, e, e2, hx, q⟩
        · cases h
      · cases h
    · rintro ⟨xs, j, x, e1, e2, e3, q⟩
      refine ⟨(.d x, z.2), ?_, q⟩
      rw [e1, e2]
      simp only [e3]
@[simp] theorem D_ixK {i : Nat} {key : Str} {b : E} : D T G (.ixP (.k i key) b) ρ Q ↔ (∃ u, getRo ρ i = some u) ∧ D T G b ρ fun y ρ1 => ∃ kvs k x, getRo ρ1 i = some (.M kvs) ∧ y = .d (.str k) ∧ kvGet k kvs = some (.d x) ∧ Q (.d x) ρ1 := by
  rw [D_def, D_def]
  simp only [den]
  cases getRo ρ i with
  | none => simp
  | some u =>
    simp only [bex, Option.some.injEq, exists_eq', true_and]
    refine exists_congr fun z => and_congr_right fun _ => ?_
    constructor
    · rintro ⟨w, h, q⟩
      split at h
      · rename_i kvs k e e2
        split at h
        · rename_i x hx
          cases h
          exact ⟨kvs, k, x, e, e2, hx, q⟩
        · cases h
      · cases h
    · rintro ⟨kvs, k, x, e1, e2, e3, q⟩
      refine ⟨(.d x, z.2), ?_, q⟩
      rw [e1, e2]
      simp only [e3]
@[simp] theorem D_lrev {e : E} : D T G (.lrev e) ρ Q ↔ D T G e ρ fun x ρ1 => Fz x fun y => ∃ xs, y = .list xs ∧ Q (.L xs.reverse) ρ1 := by
  rw [D_def, D_def]; simp only [den, bex]
  refine exists_congr fun z => and_congr_right fun _ => ?_
  show _ ↔ ∃ y, _ ∧ _
  refine exists_congr fun y => and_congr_right fun _ => ?_
  constructor
  · rintro ⟨w, h, q⟩
    split at h
    · cases h; exact ⟨_, rfl, q⟩
    · cases h
  · rintro ⟨xs, rfl, q⟩
    exact ⟨_, rfl, q⟩
@[simp] theorem D_ixG {x : Str} {e : E} : D T G (.ixG x e) ρ Q ↔ D T G e ρ fun y ρ1 => ∃ kvs k d, G x = some (.dict kvs) ∧ y = .d (.str k) ∧ dget k kvs = some d ∧ Q (.d d) ρ1 := by
  rw [D_def, D_def]; simp only [den, bex]
  refine exists_congr fun ⟨y, ρ1⟩ => and_congr_right fun _ => ?_
  dsimp only
  constructor
  · rintro ⟨z, h, q⟩
    split at h
    · rename_i kvs k e1 _
      split at h
      · rename_i d e2
        cases h
        exact ⟨kvs, k, d, e1, rfl, e2, q⟩
      · cases h
    · cases h
  · rintro ⟨kvs, k, d, e1, rfl, e2, q⟩
    refine ⟨(.d d, ρ1), ?_, q⟩
    simp only [e1, e2]
@[simp] theorem D_inG {x : Str} {e : E} : D T G (.inG x e) ρ Q ↔ D T G e ρ fun y ρ1 => ∃ kvs k, G x = some (.dict kvs) ∧ y = .d (.str k) ∧ Q (.d (.bool (dget k kvs).isSome)) ρ1 := by
  rw [D_def, D_def]; simp only [den, bex]
  refine exists_congr fun ⟨y, ρ1⟩ => and_congr_right fun _ => ?_
  dsimp only
  constructor
  · rintro ⟨z, h, q⟩
    split at h
    · rename_i kvs k e1 _
      cases h
      exact ⟨kvs, k, e1, rfl, q⟩
    · cases h
  · rintro ⟨kvs, k, e1, rfl, q⟩
    refine ⟨(_, ρ1), ?_, q⟩
    simp only [e1]
def RevO (y : PyData) (Q : PV → Prop) : Prop := match y with
  | .list xs => Q (.L xs.reverse)
  | .tuple xs => Q (.d (.tuple xs.reverse))
  | .str z => z.length ≤ 1000000 ∧ Q (.d (.str ⟨z.cps.reverse⟩))
  | _ => False
@[simp] theorem RevO_str {z : Str} {Q : PV → Prop} : RevO (.str z) Q ↔ z.length ≤ 1000000 ∧ Q (.d (.str ⟨z.cps.reverse⟩)) := Iff.rfl
@[simp] theorem RevO_lst {xs : List PyData} {Q : PV → Prop} : RevO (.list xs) Q ↔ Q (.L xs.reverse) := Iff.rfl
@[simp] theorem RevO_tup {xs : List PyData} {Q : PV → Prop} : RevO (.tuple xs) Q ↔ Q (.d (.tuple xs.reverse)) := Iff.rfl
@[simp] theorem D_bitl {a : E} : D T G (.op1 .bitl a) ρ Q ↔ D T G a ρ fun x ρ1 => Fz x fun x' => ∃ i, x' = .int i ∧ Q (.d (.int (bits i : Nat))) ρ1 := by
  rw [D_def, D_def]; simp only [den, bex, Fz]
  refine exists_congr fun z => and_congr_right fun _ => exists_congr fun x' => and_congr_right fun _ => ?_
  simp only [oex]
  unfold opS1
  constructor
  · rintro ⟨u, h, q⟩
    split at h
    · cases h; exact ⟨_, rfl, q⟩
    · cases h
  · rintro ⟨i, rfl, q⟩
    exact ⟨_, rfl, q⟩
@[simp] theorem D_zipL {a b : E} : D T G (.op2 .zipL a b) ρ Q ↔ D T G a ρ fun x ρ1 => D T G b ρ1 fun y ρ2 => Fz x fun x' => Fz y fun y' => ∃ xs ys, x' = .list xs ∧ y' = .list ys ∧ xs.length ≤ 1000000 ∧ Q (.L (zip2 xs ys)) ρ2 := by
  rw [D_def, D_def]; simp only [den, bex, Fz, D_def]
  refine exists_congr fun z => and_congr_right fun _ => exists_congr fun w => and_congr_right fun _ => exists_congr fun x' => and_congr_right fun _ => exists_congr fun x' => and_congr_right fun _ => ?_
  simp only [oex]
  unfold opS2
  constructor
  · rintro ⟨u, h, q⟩
    split at h
    · obtain ⟨_, g, h⟩ := bind_inv h
      cases h; exact ⟨_, _, rfl, rfl, of_decide_eq_true (guard_inv g), q⟩
    · cases h
  · rintro ⟨xs, ys, rfl, rfl, g, q⟩
    refine ⟨_, ?_, q⟩
    dsimp only
    rw [decide_eq_true g]
    rfl
@[simp] theorem D_evn {o : Bool} {e : E} : D T G (.evn o e) ρ Q ↔ D T G e ρ fun x ρ1 => Fz x fun y => ∃ xs, y = .list xs ∧ Q (.L (RX.evn o xs)) ρ1 := by
  rw [D_def, D_def]; simp only [den, bex]
  refine exists_congr fun z => and_congr_right fun _ => ?_
  show _ ↔ ∃ y, _ ∧ _
  refine exists_congr fun y => and_congr_right fun _ => ?_
  constructor
  · rintro ⟨w, h, q⟩
    split at h
    · cases h; exact ⟨_, rfl, q⟩
    · cases h
  · rintro ⟨xs, rfl, q⟩
    exact ⟨_, rfl, q⟩
@[simp] theorem D_rev {e : E} : D T G (.rev e) ρ Q ↔ D T G e ρ fun x ρ1 => Fz x fun y => RevO y fun z => Q z ρ1 := by
  rw [D_def, D_def]; simp only [den, bex]
  refine exists_congr fun z => and_congr_right fun _ => ?_
  show _ ↔ ∃ y, _ ∧ _
  refine exists_congr fun y => and_congr_right fun _ => ?_
  constructor
  · rintro ⟨w, h, q⟩
    split at h
    · cases h; exact q
    · cases h; exact q
    · obtain ⟨_, g, h⟩ := bind_inv h
      cases h; exact ⟨of_decide_eq_true (guard_inv g), q⟩
    · cases h
  · intro q
    cases y with
    | list xs => exact ⟨_, rfl, q⟩
    | tuple xs => exact ⟨_, rfl, q⟩
    | str z =>
      refine ⟨(.d (.str ⟨z.cps.reverse⟩), _), ?_, q.2⟩
      simp only [decide_eq_true q.1]
      rfl
    | _ => exact q.elim
@[simp] theorem D_llN {n : Nat} : D T G (.llN n) ρ Q ↔ Q (.LL (List.replicate n [])) ρ := by rw [D_def]; simp only [den]; exact oex
@[simp] theorem D_dI : D T G .dI ρ Q ↔ Q (.I []) ρ := by rw [D_def]; simp only [den]; exact oex
@[simp] theorem kyOf_int {n : Int} : kyOf (.int n) = some (.inl n) := rfl
@[simp] theorem kyOf_str {x : Str} : kyOf (.str x) = some (.inr x) := rfl
@[simp] theorem D_ixM {a b : E} : D T G (.ixM a b) ρ Q ↔ D T G a ρ fun x ρ1 => D T G b ρ1 fun y ρ2 => ∃ kvs k z, x = .M kvs ∧ y = .d (.str k) ∧ kvGet k kvs = some (.d z) ∧ Q (.d z) ρ2 := by
  rw [D_def, D_def]; simp only [den, bex]
  refine exists_congr fun ⟨x, ρ1⟩ => and_congr_right fun _ => ?_
  rw [D_def]
  refine exists_congr fun ⟨y, ρ2⟩ => and_congr_right fun _ => ?_
  dsimp only
  constructor
  · rintro ⟨w, h, q⟩
    split at h
    · rename_i kvs k _ _
      split at h
      · rename_i z e2
        cases h
        exact ⟨kvs, k, z, rfl, rfl, e2, q⟩
      · cases h
    · cases h
  · rintro ⟨kvs, k, z, rfl, rfl, e2, q⟩
    refine ⟨(.d z, ρ2), ?_, q⟩
    simp only [e2]
def DctOk (ks : List Str) (xs : List PV) (K : List (Str × CV) → Prop) : Prop := (ks.length = xs.length ∧ ks.Nodup) ∧ ∃ ys, xs.mapM PV.cv = some ys ∧ K (ks.zip ys)
@[simp] theorem D_dct {ks : List Str} {as : E} : D T G (.dct ks as) ρ Q ↔ DA T G as ρ fun xs ρ1 => DctOk ks xs fun kvs => Q (.M kvs) ρ1 := by
  rw [D_def, DA_def]; simp only [den, bex]
  refine exists_congr fun z => and_congr_right fun _ => ?_
  unfold DctOk
  constructor
  · rintro ⟨u, g, w, h, q⟩
    refine ⟨of_decide_eq_true (guard_inv g), ?_⟩
    split at h
    · rename_i ys hy
      cases h
      exact ⟨ys, hy, q⟩
    · cases h
  · rintro ⟨g, ys, hy, q⟩
    refine ⟨(), by rw [decide_eq_true g]; rfl, (.M (ks.zip ys), z.2), ?_, q⟩
    rw [hy]
@[simp] theorem DA_nil {Q : List PV → Ro → Prop} : DA T G .nil ρ Q ↔ Q [] ρ := by rw [DA_def]; exact oex
@[simp] theorem DA_cons {a r : E} {Q : List PV → Ro → Prop} (h : ∀ i, a ≠ .io i) : DA T G (.cons a r) ρ Q ↔ D T G a ρ fun x ρ1 => DA T G r ρ1 fun xs ρ2 => Q (x :: xs) ρ2 := by
  rw [DA_def, D_def]
  have e : dens T G (.cons a r) ρ = (do
    let (x, ρ1) ← den T G a ρ
    let (xs, ρ2) ← dens T G r ρ1
    ok (x :: xs, ρ2)) := by
    cases a <;> first | rfl | exact absurd rfl (h _)
  rw [e]
  simp only [bex, oex, DA_def]
@[simp] theorem DA_io {i : Nat} {r : E} {Q : List PV → Ro → Prop} : DA T G (.cons (.io i) r) ρ Q ↔ (∃ u, getRo ρ i = some u) ∧ DA T G r ρ fun xs ρ1 => ∃ x, getRo ρ1 i = some x ∧ Q (x :: xs) ρ1 := by
  rw [DA_def, DA_def]
  simp only [dens]
  cases getRo ρ i with
  | none => simp
  | some u =>
    simp only [bex, Option.some.injEq, exists_eq', true_and]
    refine exists_congr fun z => and_congr_right fun _ => ?_
    cases getRo z.2 i with
    | none => simp
    | some x => simp [oex]
@[simp] theorem DI_itL {e : E} {Q : List PyData → Ro → Prop} : DI T G (.itL e) ρ Q ↔ D T G e ρ fun x ρ1 => Fz x fun y => ∃ xs, itemsD y = ok xs ∧ Q xs ρ1 := by
  rw [DI_def, D_def]; simp only [deni, bex, oex]; rfl
def ZipO (x y : PyData) (Q : List PyData → Prop) : Prop := match x, y with
  | .list xs, .list ys => Q (zip2 xs ys)
  | .tuple xs, .tuple ys => Q (zip2 xs ys)
  | _, _ => False
@[simp] theorem ZipO_lst {xs ys : List PyData} {Q : List PyData → Prop} : ZipO (.list xs) (.list ys) Q ↔ Q (zip2 xs ys) := Iff.rfl
@[simp] theorem ZipO_tup {xs ys : List PyData} {Q : List PyData → Prop} : ZipO (.tuple xs) (.tuple ys) Q ↔ Q (zip2 xs ys) := Iff.rfl
@[simp] theorem DI_itZip {a b : E} {Q : List PyData → Ro → Prop} : DI T G (.itZip a b) ρ Q ↔ D T G a ρ fun x ρ1 => D T G b ρ1 fun y ρ2 => Fz x fun x' => Fz y fun y' => ZipO x' y' fun xs => Q xs ρ2 := by
  rw [DI_def, D_def]; simp only [deni, bex, D_def]
  refine exists_congr fun z => and_congr_right fun _ => exists_congr fun z => and_congr_right fun _ => ?_
  show _ ↔ ∃ y, _ ∧ ∃ y, _ ∧ _
  refine exists_congr fun y => and_congr_right fun _ => exists_congr fun y => and_congr_right fun _ => ?_
  unfold ZipO
  constructor
  · rintro ⟨w, h, q⟩
    split at h
    · cases h; exact q
    · cases h; exact q
    · cases h
  · intro q
    split at q
    · exact ⟨_, rfl, q⟩
    · exact ⟨_, rfl, q⟩
    · exact q.elim
@[simp] theorem itEnD_list (xs : List PyData) : itEnD (.list xs) = ok xs := rfl
@[simp] theorem itEnD_tuple (xs : List PyData) : itEnD (.tuple xs) = ok xs := rfl
@[simp] theorem itEnD_str (z : Str) : itEnD (.str z) = ok (z.cps.toList.map fun c => .str ⟨#[c]⟩) := rfl
@[simp] theorem DI_itEn {a : E} {Q : List PyData → Ro → Prop} : DI T G (.itEn a) ρ Q ↔ D T G a ρ fun x ρ1 => Fz x fun x' => ∃ xs, itEnD x' = ok xs ∧ Q (zipI 0 xs) ρ1 := by
  rw [DI_def, D_def]; simp only [deni, bex, oex, Fz]
@[simp] theorem DI_itZipN {a b : E} {Q : List PyData → Ro → Prop} : DI T G (.itZipN a b) ρ Q ↔ D T G a ρ fun x ρ1 => D T G b ρ1 fun y ρ2 => Fz x fun x' => Fz y fun y' => ∃ xs ys, x' = .list xs ∧ y' = .list ys ∧ Q (zip2 xs ys) ρ2 := by
  rw [DI_def, D_def]; simp only [deni, bex, D_def]
  refine exists_congr fun z => and_congr_right fun _ => exists_congr fun z => and_congr_right fun _ => ?_
  show _ ↔ ∃ y, _ ∧ ∃ y, _ ∧ _
  refine exists_congr fun y => and_congr_right fun _ => exists_congr fun y => and_congr_right fun _ => ?_
  constructor
  · rintro ⟨w, h, q⟩
    split at h
    · cases h; exact ⟨_, _, rfl, rfl, q⟩
    · cases h
  · rintro ⟨xs, ys, rfl, rfl, q⟩
    exact ⟨_, rfl, q⟩
@[simp] theorem DI_itEnZ {a b : E} {Q : List PyData → Ro → Prop} : DI T G (.itEnZ a b) ρ Q ↔ D T G a ρ fun x ρ1 => D T G b ρ1 fun y ρ2 => Fz x fun x' => Fz y fun y' => ∃ xs ys, x' = .list xs ∧ y' = .list ys ∧ Q (zipI 0 (zip2 xs ys)) ρ2 := by
  rw [DI_def, D_def]; simp only [deni, bex, D_def]
  refine exists_congr fun z => and_congr_right fun _ => exists_congr fun z => and_congr_right fun _ => ?_
  show _ ↔ ∃ y, _ ∧ ∃ y, _ ∧ _
  refine exists_congr fun y => and_congr_right fun _ => exists_congr fun y => and_congr_right fun _ => ?_
  constructor
  · rintro ⟨w, h, q⟩
    split at h
    · cases h; exact ⟨_, _, rfl, rfl, q⟩
    · cases h
  · rintro ⟨xs, ys, rfl, rfl, q⟩
    exact ⟨_, rfl, q⟩
theorem guard_ex {b : Bool} {K : Prop} : (∃ u, Res.guard b = ok u ∧ K) ↔ b = true ∧ K := ⟨fun ⟨u, h, k⟩ => ⟨guard_inv h, k⟩, fun ⟨h, k⟩ => ⟨(), by rw [h]; rfl, k⟩⟩
@[simp] theorem DI_itR1 {e : E} {Q : List PyData → Ro → Prop} : DI T G (.itR1 e) ρ Q ↔ D T G e ρ fun x ρ1 => ∃ n : Int, x = .d (.int n) ∧ (n < 2 ^ 62 ∧ -(2 ^ 62) ≤ n) ∧ Q (rngI 0 n.toNat) ρ1 := by
  rw [DI_def, D_def]; simp only [deni, bex]
  refine exists_congr fun z => and_congr_right fun _ => ?_
  constructor
  · rintro ⟨b, h, q⟩
    split at h
    · rename_i n e
      obtain ⟨u, g, h⟩ := bind_inv h
      cases h
      exact ⟨n, e, of_decide_eq_true (guard_inv g), q⟩
    · cases h
  · rintro ⟨n, e, g, q⟩
    refine ⟨(rngI 0 n.toNat, z.2), ?_, q⟩
    rw [e]
    simp only [decide_eq_true g]
    rfl
@[simp] theorem DI_itDown {a b : E} {Q : List PyData → Ro → Prop} : DI T G (.itDown a b) ρ Q ↔ D T G a ρ fun x ρ1 => D T G b ρ1 fun y ρ2 => ∃ m n : Int, x = .d (.int m) ∧ y = .d (.int n) ∧ (n < 2 ^ 62 ∧ -(2 ^ 62) ≤ n ∧ m < 2 ^ 62 ∧ -(2 ^ 62) ≤ m) ∧ Q (dwnI m (m - n).toNat) ρ2 := by
  rw [DI_def, D_def]; simp only [deni, bex, D_def]
  refine exists_congr fun z => and_congr_right fun _ => exists_congr fun w => and_congr_right fun _ => ?_
  constructor
  · rintro ⟨u, h, q⟩
    split at h
    · rename_i m n e1 e2
      obtain ⟨_, g, h⟩ := bind_inv h
      cases h
      exact ⟨m, n, e1, e2, of_decide_eq_true (guard_inv g), q⟩
    · cases h
  · rintro ⟨m, n, e1, e2, g, q⟩
    refine ⟨(dwnI m (m - n).toNat, w.2), ?_, q⟩
    rw [e1, e2]
    simp only [decide_eq_true g]
    rfl
@[simp] theorem DI_itZip3 {a b c : E} {Q : List PyData → Ro → Prop} : DI T G (.itZip3 a b c) ρ Q ↔ D T G a ρ fun x ρ1 => D T G b ρ1 fun y ρ2 => D T G c ρ2 fun w ρ3 => Fz x fun x' => Fz y fun y' => Fz w fun w' => ∃ xs ys ws, x' = .list xs ∧ y' = .list ys ∧ w' = .list ws ∧ Q (zip3 xs ys ws) ρ3 := by
  rw [DI_def, D_def]; simp only [deni, bex, D_def, Fz]
  refine exists_congr fun z => and_congr_right fun _ => exists_congr fun w => and_congr_right fun _ => exists_congr fun w => and_congr_right fun _ => exists_congr fun w => and_congr_right fun _ => exists_congr fun w => and_congr_right fun _ => exists_congr fun w => and_congr_right fun _ => ?_
  constructor
  · rintro ⟨u, h, q⟩
    split at h
    · cases h
      exact ⟨_, _, _, rfl, rfl, rfl, q⟩
    · cases h
  · rintro ⟨xs, ys, ws, rfl, rfl, rfl, q⟩
    exact ⟨(zip3 xs ys ws, _), rfl, q⟩
@[simp] theorem DI_itR2 {a b : E} {Q : List PyData → Ro → Prop} : DI T G (.itR2 a b) ρ Q ↔ D T G a ρ fun x ρ1 => D T G b ρ1 fun y ρ2 => ∃ m n : Int, x = .d (.int m) ∧ y = .d (.int n) ∧ (n < 2 ^ 62 ∧ -(2 ^ 62) ≤ n ∧ m < 2 ^ 62 ∧ -(2 ^ 62) ≤ m) ∧ Q (rngI m (n - m).toNat) ρ2 := by
  rw [DI_def, D_def]; simp only [deni, bex, D_def]
  refine exists_congr fun z => and_congr_right fun _ => exists_congr fun z => and_congr_right fun _ => ?_
  constructor
  · rintro ⟨b, h, q⟩
    split at h
    · rename_i m n e e2
      obtain ⟨u, g, h⟩ := bind_inv h
      cases h
      exact ⟨m, n, e, e2, of_decide_eq_true (guard_inv g), q⟩
    · cases h
  · rintro ⟨m, n, e, e2, g, q⟩
    refine ⟨(rngI m (n - m).toNat, _), ?_, q⟩
    rw [e, e2]
    simp only [decide_eq_true g]
    rfl
end
section
variable (T : Tab) (G : Gls)
/-- one turn of a list comprehension -/
def LB (g : Tg) (c e : E) (vs : List Nat) (x : PyData) (ρ : Ro) : Res (Option PyData × Ro) := do
  let ρ3 ← stTg g x ρ
  let (t, ρ4) ← den T G c ρ3
  let b ← asBool t
  if b then (do let (y, ρ5) ← den T G e ρ4; let y' ← y.fz; ok (some y', wipeR ρ5 vs)) else ok (none, wipeR ρ4 vs)
def LBw (g : Tg) (c e : E) (vs : List Nat) (x : PyData) (ρ : Ro) (K : Option PyData → Ro → Prop) : Prop :=
  ∃ ρ3, stTg g x ρ = ok ρ3 ∧ D T G c ρ3 fun t ρ4 => Bl t fun b => if b = true then D T G e ρ4 fun y ρ5 => Fz y fun y' => K (some y') (wipeR ρ5 vs) else K none (wipeR ρ4 vs)
end
section
variable {T : Tab} {G : Gls} {ρ : Ro} {Q : PV → Ro → Prop}
theorem LB_of {g : Tg} {c e : E} {vs : List Nat} {x : PyData} {o : Option PyData} {ρ' : Ro} (h : LBw T G g c e vs x ρ fun o' ρ'' => o' = o ∧ ρ'' = ρ') : LB T G g c e vs x ρ = ok (o, ρ') := by
  obtain ⟨ρ3, h1, t, ρ4, h2, b, h3, h4⟩ := h
  unfold LB
  rw [h1]
  show (do let (t, ρ4) ← den T G c ρ3; _) = _
  rw [h2]
  show (do let b ← asBool t; _) = _
  rw [h3]
  cases b with
  | true =>
    obtain ⟨y, ρ5, h5, y', h6, rfl, rfl⟩ := h4
    show (do let (y, ρ5) ← den T G e ρ4; _) = _
    rw [h5]
    show (do let y' ← y.fz; _) = _
    rw [h6]
    rfl
  | false =>
    obtain ⟨rfl, rfl⟩ := h4
    rfl
theorem D_lc {g : Tg} {it c e : E} {vs : List Nat} : D T G (.lc g it c e vs) ρ Q ↔ DI T G it ρ fun xs ρ1 => wipeOk ρ1 vs = true ∧ ∃ ys ρ2, lcF (LB T G g c e vs) xs (wipeR ρ1 vs) = ok (ys, ρ2) ∧ ys.length ≤ 1000000 ∧ Q (.L ys) (wipeBack ρ1 ρ2 vs) := by
  rw [D_def, DI_def]
  simp only [den, bex, oex]
  refine exists_congr fun z => and_congr_right fun _ => ?_
  constructor
  · rintro ⟨u, g1, w, h1, u2, g2, q⟩
    exact ⟨guard_inv g1, w.1, w.2, h1, of_decide_eq_true (guard_inv g2), q⟩
  · rintro ⟨g1, ys, ρ2, h1, g2, q⟩
    exact ⟨(), by rw [g1]; rfl, (ys, ρ2), h1, (), by rw [decide_eq_true g2]; rfl, q⟩
end
section
variable {T : Tab} {G : Gls} {ρ : Ro} {Q : Fl → Ro → Prop}
@[simp] theorem Qs_nx {r : S} : Qs T G r Q .nx ρ ↔ W T G r ρ Q := Iff.rfl
@[simp] theorem Qs_rt {r : S} {x : PV} : Qs T G r Q (.rt x) ρ ↔ Q (.rt x) ρ := Iff.rfl
@[simp] theorem Qs_bk {r : S} : Qs T G r Q .bk ρ ↔ Q .bk ρ := Iff.rfl
@[simp] theorem Qs_ct {r : S} : Qs T G r Q .ct ρ ↔ Q .ct ρ := Iff.rfl
@[simp] theorem W_nil : W T G .nil ρ Q ↔ Q .nx ρ := by rw [W_def]; simp only [denS]; exact oex
@[simp] theorem W_seq {s r : S} : W T G (.seq s r) ρ Q ↔ W T G s ρ (Qs T G r Q) := by
  rw [W_def, W_def]; simp only [denS, bex]
  refine exists_congr fun z => and_congr_right fun _ => ?_
  obtain ⟨f, ρ1⟩ := z
  cases f with
  | nx => exact W_def.symm
  | rt x => exact oex
  | bk => exact oex
  | ct => exact oex
@[simp] theorem W_tok {s r : S} : W T G (.tok s r) ρ Q ↔ W T G s ρ (Qs T G r Q) := by
  rw [W_def, W_def]; simp only [denS, bex]
  refine exists_congr fun z => and_congr_right fun _ => ?_
  obtain ⟨f, ρ1⟩ := z
  cases f with
  | nx => exact W_def.symm
  | rt x => exact oex
  | bk => exact oex
  | ct => exact oex
@[simp] theorem W_asg {i : Nat} {e : E} : W T G (.asg i e) ρ Q ↔ D T G e ρ fun x ρ1 => Q .nx (ρ1.set i (some x)) := by
  rw [W_def, D_def]; simp only [denS, bex, oex]
@[simp] theorem W_unp {g : Tg} {e : E} : W T G (.unp g e) ρ Q ↔ D T G e ρ fun x ρ1 => Fz x fun y => ∃ ρ2, stTg g y ρ1 = ok ρ2 ∧ Q .nx ρ2 := by
  rw [W_def, D_def]; simp only [denS, bex, oex]; rfl
@[simp] theorem W_forE {i : Nat} : W T G (.forE i) ρ Q ↔ getRo ρ i = some (.M []) ∧ Q .nx ρ := by
  rw [W_def]; simp only [denS]
  constructor
  · rintro ⟨z, h, q⟩
    split at h
    · rename_i hi; cases h; exact ⟨hi, q⟩
    · cases h
  · rintro ⟨h, q⟩
    exact ⟨_, by rw [h], q⟩
@[simp] theorem W_par {i j : Nat} {a b : E} : W T G (.par i j a b) ρ Q ↔ D T G a ρ fun x ρ1 => D T G b ρ1 fun y ρ2 => Fz x fun x' => Fz y fun y' => Q .nx ((ρ2.set i (some (.d x'))).set j (some (.d y'))) := by
  rw [W_def, D_def]; simp only [denS, bex, oex, D_def]; rfl
@[simp] theorem W_aug {i : Nat} {op : Operator} {e : E} : W T G (.aug i op e) ρ Q ↔ ∃ x, getRo ρ i = some (.d x) ∧ D T G e ρ fun y ρ1 => ∃ z, augS op x y = ok z ∧ Q .nx (ρ1.set i (some (.d (.int z)))) := by
  rw [W_def]; simp only [denS, bex, oex, D_def]
  constructor
  · rintro ⟨x, h, q⟩
    unfold getD at h
    split at h
    · rename_i z hz; cases h; exact ⟨_, hz, q⟩
    · cases h
  · rintro ⟨x, h, q⟩
    exact ⟨x, by unfold getD; rw [h], q⟩
@[simp] theorem W_setP {i : Nat} {k v : E} : W T G (.setP (.s i) k v) ρ Q ↔ D T G v ρ fun y ρ1 => (∃ u, getRo ρ1 i = some u) ∧ D T G k ρ1 fun kk ρ2 => ∃ xs j, getRo ρ2 i = some (.L xs) ∧ kk = .d (.int j) ∧ Fz y fun y' => ∃ m, L2.ixN xs.length j = some m ∧ Q .nx (ρ2.set i (some (.L (xs.set m y')))) := by
  rw [W_def, D_def]; simp only [denS, bex, D_def]
  refine exists_congr fun z => and_congr_right fun _ => ?_
  cases getRo z.2 i with
  | none => simp
  | some u =>
    simp only [bex, Option.some.injEq, exists_eq', true_and]
    refine exists_congr fun w => and_congr_right fun _ => ?_
    constructor
    · rintro ⟨r, h, q⟩
      split at h
      · rename_i xs j e e2
        obtain ⟨y', g1, h⟩ := bind_inv h
        split at h
        · rename_i m hm
          cases h
          exact ⟨xs, j, e, e2, y', g1, m, hm, q⟩
        · cases h
      · cases h
    · rintro ⟨xs, j, e1, e2, y', g1, m, hm, q⟩
      refine ⟨(.nx, w.2.set i (some (.L (xs.set m y')))), ?_, q⟩
      rw [e1, e2]
      simp only [g1, bind_ok, hm]
@[simp] theorem W_setK {i : Nat} {key : Str} {k v : E} : W T G (.setP (.k i key) k v) ρ Q ↔ D T G v ρ fun y ρ1 => (∃ u, getRo ρ1 i = some u) ∧ D T G k ρ1 fun kk ρ2 => ∃ kvs c, getRo ρ2 i = some (.M kvs) ∧ kk = .d (.str key) ∧ kvs.length < 1000000 ∧ kvGet key kvs = some c ∧ Fz y fun y' => Q .nx (ρ2.set i (some (.M (kvSet key (.d y') kvs)))) := by
  rw [W_def, D_def]; simp only [denS, bex, D_def]
  refine exists_congr fun z => and_congr_right fun _ => ?_
  cases getRo z.2 i with
  | none => simp
  | some u =>
    simp only [bex, Option.some.injEq, exists_eq', true_and]
    refine exists_congr fun w => and_congr_right fun _ => ?_
    constructor
    · rintro ⟨r, h, q⟩
      split at h
      · rename_i kvs s e e2
        obtain ⟨y', g1, h⟩ := bind_inv h
        split at h
        · rename_i c hk hc
          cases h
          obtain ⟨rfl, hs⟩ := of_decide_eq_true hk
          exact ⟨kvs, c, e, e2, hs, hc, y', g1, q⟩
        · cases h
      · cases h
    · rintro ⟨kvs, c, e1, e2, hs, hc, y', g1, q⟩
      refine ⟨(.nx, w.2.set i (some (.M (kvSet key (.d y') kvs)))), ?_, q⟩
      rw [e1, e2]
      simp only [g1, bind_ok, hc, hs, and_self, decide_true]
@[simp] theorem W_setSl {i : Nat} {lo hi v : E} : W T G (.setSl (.s i) lo hi v) ρ Q ↔ D T G v ρ fun y ρ1 => (∃ u, getRo ρ1 i = some u) ∧ D T G lo ρ1 fun l ρ2 => D T G hi ρ2 fun h ρ3 => Fz y fun y' => ∃ xs a b ys, getRo ρ3 i = some (.L xs) ∧ l = .d (.int a) ∧ h = .d (.int b) ∧ y' = .list ys ∧
    (0 ≤ a ∧ a ≤ b ∧ b ≤ xs.length ∧ xs.length + ys.length ≤ 1000000) ∧ Q .nx (ρ3.set i (some (.L (xs.take a.toNat ++ ys ++ xs.drop b.toNat)))) := by
  rw [W_def, D_def]; simp only [denS, bex, D_def]
  refine exists_congr fun z => and_congr_right fun _ => ?_
  cases getRo z.2 i with
  | none => simp
  | some u =>
    simp only [bex, Option.some.injEq, exists_eq', true_and]
    refine exists_congr fun w => and_congr_right fun _ => exists_congr fun w2 => and_congr_right fun _ => ?_
    constructor
    · rintro ⟨y', g1, r, h, q⟩
      refine ⟨y', g1, ?_⟩
      split at h
      · rename_i xs a b ys e1 e2 e3
        obtain ⟨u2, g2, h⟩ := bind_inv h
        cases h
        exact ⟨xs, a, b, ys, e1, e2, e3, rfl, of_decide_eq_true (guard_inv g2), q⟩
      · cases h
    · rintro ⟨y', g1, xs, a, b, ys, e1, e2, e3, rfl, g2, q⟩
      refine ⟨_, g1, (.nx, w2.2.set i (some (.L (xs.take a.toNat ++ ys ++ xs.drop b.toNat)))), ?_, q⟩
      rw [e1, e2, e3]
      simp only [decide_eq_true g2]
      rfl
@[simp] theorem W_ex {e : E} : W T G (.ex e) ρ Q ↔ D T G e ρ fun _ ρ1 => Q .nx ρ1 := by
  rw [W_def, D_def]; simp only [denS, bex, oex]
@[simp] theorem W_ife {c : E} {a b : S} : W T G (.ife c a b) ρ Q ↔ D T G c ρ fun x ρ1 => Bl x fun t => if t = true then W T G a ρ1 Q else W T G b ρ1 Q := by
  rw [W_def, D_def]; simp only [denS, bex]
  refine exists_congr fun z => and_congr_right fun _ => exists_congr fun c => and_congr_right fun _ => ?_
  cases c with
  | true => simp only [if_true, W_def]
  | false => simp only [Bool.false_eq_true, if_false, W_def]
@[simp] theorem W_ret {e : E} : W T G (.ret e) ρ Q ↔ D T G e ρ fun x ρ1 => Q (.rt x) ρ1 := by
  rw [W_def, D_def]; simp only [denS, bex, oex]
@[simp] theorem W_retN : W T G .retN ρ Q ↔ Q (.rt (.d .none)) ρ := by rw [W_def]; simp only [denS]; exact oex
@[simp] theorem W_pass : W T G .pass ρ Q ↔ Q .nx ρ := by rw [W_def]; simp only [denS]; exact oex
@[simp] theorem W_brk : W T G .brk ρ Q ↔ Q .bk ρ := by rw [W_def]; simp only [denS]; exact oex
@[simp] theorem W_cnt : W T G .cnt ρ Q ↔ Q .ct ρ := by rw [W_def]; simp only [denS]; exact oex
@[simp] theorem W_for {g : Tg} {it : E} {b : S} : W T G (.for_ g it b) ρ Q ↔ DI T G it ρ fun xs ρ1 => ∃ f ρ', forF (fun x ρ => do let ρ2 ← stTg g x ρ; denS T G b ρ2) xs ρ1 = ok (f, ρ') ∧ Q f ρ' := by
  rw [W_def, DI_def]; simp only [denS, bex]
  refine exists_congr fun z => and_congr_right fun _ => ?_
  rw [pex]
/-- behind a loop over a dict of one's own -/
def FdQ (j : Nat) (kvs : List (Ky × PyData)) (Q : Fl → Ro → Prop) : Fl → Ro → Prop
  | .nx, ρ => Q .nx (ρ.set j (some (.I kvs)))
  | .rt x, ρ => Q (.rt x) (ρ.set j (some (.I kvs)))
  | f, ρ => Q f ρ
@[simp] theorem FdQ_nx {j : Nat} {kvs : List (Ky × PyData)} : FdQ j kvs Q .nx ρ ↔ Q .nx (ρ.set j (some (.I kvs))) := Iff.rfl
@[simp] theorem FdQ_rt {j : Nat} {kvs : List (Ky × PyData)} {x : PV} : FdQ j kvs Q (.rt x) ρ ↔ Q (.rt x) (ρ.set j (some (.I kvs))) := Iff.rfl
/-- behind a loop over one's own list -/
def FoQ (j : Nat) (xs : List PyData) (Q : Fl → Ro → Prop) : Fl → Ro → Prop
  | .nx, ρ => Q .nx (ρ.set j (some (.L xs)))
  | f, ρ => Q f ρ
@[simp] theorem FoQ_nx {j : Nat} {xs : List PyData} : FoQ j xs Q .nx ρ ↔ Q .nx (ρ.set j (some (.L xs))) := Iff.rfl
@[simp] theorem FoQ_rt {j : Nat} {xs : List PyData} {x : PV} : FoQ j xs Q (.rt x) ρ ↔ Q (.rt x) ρ := Iff.rfl
/-- the end of a turn -/
def Tu (P : Ro → Prop) (Q : Fl → Ro → Prop) : Fl → Ro → Prop
  | .nx, ρ => P ρ
  | .ct, ρ => P ρ
  | .bk, ρ => Q .nx ρ
  | .rt x, ρ => Q (.rt x) ρ
@[simp] theorem Tu_nx {P : Ro → Prop} : Tu P Q .nx ρ ↔ P ρ := Iff.rfl
@[simp] theorem Tu_ct {P : Ro → Prop} : Tu P Q .ct ρ ↔ P ρ := Iff.rfl
@[simp] theorem Tu_bk {P : Ro → Prop} : Tu P Q .bk ρ ↔ Q .nx ρ := Iff.rfl
@[simp] theorem Tu_rt {P : Ro → Prop} {x : PV} : Tu P Q (.rt x) ρ ↔ Q (.rt x) ρ := Iff.rfl
/-- a for, by what holds with so many items left -/
theorem for_ok {g : Tg} {b : S} (P : List PyData → Ro → Prop) (hn : ∀ ρ, P [] ρ → Q .nx ρ) (hc : ∀ x xs ρ, P (x :: xs) ρ → ∃ ρ2, stTg g x ρ = ok ρ2 ∧ W T G b ρ2 (Tu (P xs) Q)) :
    ∀ (xs : List PyData) (ρ : Ro), P xs ρ → ∃ f ρ', forF (fun x ρ => do let ρ2 ← stTg g x ρ; denS T G b ρ2) xs ρ = ok (f, ρ') ∧ Q f ρ'
  | [], ρ, h => ⟨.nx, ρ, rfl, hn ρ h⟩
  | x :: xs, ρ, h => by
    obtain ⟨ρ2, e, f, ρ3, e2, q⟩ := hc x xs ρ h
    have e3 : (do let ρ2 ← stTg g x ρ; denS T G b ρ2) = ok (f, ρ3) := by rw [e]; exact e2
    unfold forF
    rw [e3]
    cases f with
    | nx => exact for_ok P hn hc xs ρ3 q
    | ct => exact for_ok P hn hc xs ρ3 q
    | bk => exact ⟨_, _, rfl, q⟩
    | rt x => exact ⟨_, _, rfl, q⟩
theorem whl_step {c : E} {b : S} {P : Ro → Prop} {m : Ro → Nat} (h : ∀ ρ, P ρ → D T G c ρ fun x ρ1 => Bl x fun t => if t = true then W T G b ρ1 (Tu (fun ρ2 => P ρ2 ∧ m ρ2 < m ρ) Q) else Q .nx ρ1) (ρ : Ro) (hp : P ρ) (ih : ∀ ρ2, P ρ2 → m ρ2 < m ρ → W T G (.whl c b) ρ2 Q) : W T G (.whl c b) ρ Q := by
  obtain ⟨x, ρ1, e, t, et, q⟩ := h ρ hp
  unfold W
  simp only [denS]
  rw [whl_eq]
  have ec : (do let (x, ρ1) ← den T G c ρ; let t ← asBool x; ok (t, ρ1)) = ok (t, ρ1) := by
    rw [e]
    show (do let t ← asBool x; ok (t, ρ1)) = _
    rw [et]
    rfl
  rw [ec]
  cases t with
  | false => exact ⟨_, _, rfl, q⟩
  | true =>
    obtain ⟨f, ρ2, e2, q2⟩ := q
    dsimp only
    rw [e2]
    cases f with
    | nx =>
      obtain ⟨f', ρ', e4, q4⟩ := ih ρ2 q2.1 q2.2
      simp only [denS] at e4
      exact ⟨f', ρ', e4, q4⟩
    | ct =>
      obtain ⟨f', ρ', e4, q4⟩ := ih ρ2 q2.1 q2.2
      simp only [denS] at e4
      exact ⟨f', ρ', e4, q4⟩
    | bk => exact ⟨_, _, rfl, q2⟩
    | rt x => exact ⟨_, _, rfl, q2⟩
/-- a while, by what holds at its head, with a measure -/
theorem W_whl {c : E} {b : S} (P : Ro → Prop) (m : Ro → Nat) (h : ∀ ρ, P ρ → D T G c ρ fun x ρ1 => Bl x fun t => if t = true then W T G b ρ1 (Tu (fun ρ2 => P ρ2 ∧ m ρ2 < m ρ) Q) else Q .nx ρ1) : ∀ ρ, P ρ → W T G (.whl c b) ρ Q := by
  have key : ∀ n ρ, m ρ ≤ n → P ρ → W T G (.whl c b) ρ Q := by
    intro n
    induction n with
    | zero => exact fun ρ hm hp => whl_step h ρ hp fun ρ2 hp2 hl => by omega
    | succ n ih => exact fun ρ hm hp => whl_step h ρ hp fun ρ2 hp2 hl => ih ρ2 (by omega) hp2
  exact fun ρ hp => key _ ρ (Nat.le_refl _) hp
end
/-- what a def hands back -/
def Rt (io : List Nat) (np : Nat) (Q : PV → Ro → Prop) : Fl → Ro → Prop
  | .rt x, ρ => Q x (takeRo io np ρ)
  | .nx, ρ => Q (.d .none) (takeRo io np ρ)
  | _, _ => False
@[simp] theorem Rt_rt {io : List Nat} {np : Nat} {Q : PV → Ro → Prop} {x : PV} {ρ : Ro} : Rt io np Q (.rt x) ρ ↔ Q x (takeRo io np ρ) := Iff.rfl
@[simp] theorem Rt_nx {io : List Nat} {np : Nat} {Q : PV → Ro → Prop} {ρ : Ro} : Rt io np Q .nx ρ ↔ Q (.d .none) (takeRo io np ρ) := Iff.rfl
theorem run_W {P : Prg} {G : Gls} {n f : Nat} {xs : List PV} {d : Fn} {Q : PV → Ro → Prop} (h : P[f]? = some d) (hx : xs.length = d.np) (w : W (run P G n) G d.body (xs.map some ++ List.replicate (d.N.length - d.np) none) (Rt d.io d.np Q)) :
    Cl (run P G (n + 1)) f xs Q := by
  obtain ⟨fl, ρ, e, q⟩ := w
  have e2 : run P G (n + 1) f xs = retR d (fl, ρ) := by
    show (match P[f]? with | none => bad | some d => _) = _
    rw [h]
    show (do guard (decide (xs.length = d.np)); _) = _
    rw [decide_eq_true hx]
    show (match denS (run P G n) G d.body (xs.map some ++ List.replicate (d.N.length - d.np) none) with
      | .ok z => retR d z
      | _ => _) = _
    rw [e]
  unfold Cl
  rw [e2]
  cases fl with
  | rt x => exact ⟨_, _, rfl, q⟩
  | nx => exact ⟨_, _, rfl, q⟩
  | bk => exact q.elim
  | ct => exact q.elim
theorem Cl.mono {T : Tab} {f : Nat} {xs : List PV} {Q Q' : PV → Ro → Prop} (h : Cl T f xs Q) (m : ∀ x ρ, Q x ρ → Q' x ρ) : Cl T f xs Q' := by
  obtain ⟨r, os, e, q⟩ := h
  exact ⟨r, os, e, m _ _ q⟩
theorem Cl_eq {T : Tab} {f : Nat} {xs : List PV} {r : PV} {os : Ro} (h : T f xs = ok (r, os)) {Q : PV → Ro → Prop} : Cl T f xs Q ↔ Q r os := by
  unfold Cl
  rw [h]
  exact ⟨fun ⟨_, _, e, q⟩ => by cases e; exact q, fun q => ⟨_, _, rfl, q⟩⟩
end Rf
set_option maxRecDepth 100000
namespace Rf
open PySem Res
section
variable {i j : Int} {x y : Str} {xs ys : List PyData} {K : PV → Prop} {L : Bool → Prop} {M : PyData → Prop}
@[simp] theorem Bop_add : Bop .Add (.int i) (.int j) K ↔ K (.d (.int (i + j))) := oex
@[simp] theorem Bop_sub : Bop .Sub (.int i) (.int j) K ↔ K (.d (.int (i - j))) := oex
theorem Bop_g {b : Bool} {r : PV} : (∃ z, (do guard b; ok r : Res PV) = ok z ∧ K z) ↔ b = true ∧ K r := by
  rw [bex]
  simp only [oex]
  exact guard_ex
@[simp] theorem Bop_mul : Bop .Mult (.int i) (.int j) K ↔ bits i + bits j ≤ 134217728 ∧ K (.d (.int (i * j))) := by
  refine Bop_g.trans ?_; rw [decide_eq_true_iff]
@[simp] theorem Bop_mulL {xs : List PyData} {n : Int} : Bop .Mult (.list xs) (.int n) K ↔ (0 ≤ n ∧ n ≤ 1000 ∧ xs.length ≤ 1000) ∧ K (.L ((List.replicate n.toNat xs).flatten)) := by
  unfold Bop
  show (∃ z, (do Res.guard (decide (0 ≤ n ∧ n ≤ 1000 ∧ xs.length ≤ 1000)); ok (PV.L ((List.replicate n.toNat xs).flatten)) : Res PV) = ok z ∧ K z) ↔ _
  constructor
  · rintro ⟨z, h, q⟩
    obtain ⟨_, g, h⟩ := Res.bind_inv h
    cases h
    exact ⟨of_decide_eq_true (Res.guard_inv g), q⟩
  · rintro ⟨h, q⟩
    exact ⟨_, by rw [decide_eq_true h]; rfl, q⟩
@[simp] theorem Bop_mulT {x : Str} {n : Int} : Bop .Mult (.str x) (.int n) K ↔ (0 ≤ n ∧ n ≤ 1000 ∧ x.length ≤ 1000) ∧ K (.d (.str (repT n.toNat x))) := by
  refine Bop_g.trans ?_
  rw [decide_eq_true_eq]
@[simp] theorem Bop_div : Bop .FloorDiv (.int i) (.int j) K ↔ (0 < j ∧ j.natAbs.log2 < 9000) ∧ K (.d (.int (i / j))) := by
  refine Bop_g.trans ?_; rw [decide_eq_true_iff]
@[simp] theorem Bop_mod : Bop .Mod (.int i) (.int j) K ↔ 0 < j ∧ K (.d (.int (i % j))) := by
  refine Bop_g.trans ?_; rw [decide_eq_true_iff]
@[simp] theorem Bop_pow : Bop .Pow (.int i) (.int j) K ↔ (0 ≤ j ∧ j ≤ 1000000 ∧ i.natAbs < 2 ^ 64) ∧ K (.d (.int (i ^ j.toNat))) := by
  refine Bop_g.trans ?_; rw [decide_eq_true_iff]
@[simp] theorem Bop_shl : Bop .LShift (.int i) (.int j) K ↔ (0 ≤ j ∧ (bits i : Int) + j ≤ 2 ^ 27) ∧ K (.d (.int (i * 2 ^ j.toNat))) := by
  refine Bop_g.trans ?_; rw [decide_eq_true_iff]
@[simp] theorem Bop_shr : Bop .RShift (.int i) (.int j) K ↔ 0 ≤ j ∧ K (.d (.int (i / 2 ^ j.toNat))) := by
  refine Bop_g.trans ?_; rw [decide_eq_true_iff]
@[simp] theorem Bop_addS : Bop .Add (.str x) (.str y) K ↔ x.length + y.length ≤ 1000000 ∧ K (.d (.str (x ++ y))) := by
  refine Bop_g.trans ?_; rw [decide_eq_true_iff]
@[simp] theorem Bop_addL : Bop .Add (.list xs) (.list ys) K ↔ xs.length + ys.length ≤ 1000000 ∧ K (.L (xs ++ ys)) := by
  refine Bop_g.trans ?_; rw [decide_eq_true_iff]
@[simp] theorem Bop_addT : Bop .Add (.tuple xs) (.tuple ys) K ↔ xs.length + ys.length ≤ 1000000 ∧ K (.d (.tuple (xs ++ ys))) := by
  refine Bop_g.trans ?_; rw [decide_eq_true_iff]
@[simp] theorem Cop_lt : Cop .Lt (.int i) (.int j) L ↔ L (decide (i < j)) := oex
@[simp] theorem Cop_le : Cop .LtE (.int i) (.int j) L ↔ L (decide (i ≤ j)) := oex
@[simp] theorem Cop_gt : Cop .Gt (.int i) (.int j) L ↔ L (decide (j < i)) := oex
@[simp] theorem Cop_ge : Cop .GtE (.int i) (.int j) L ↔ L (decide (j ≤ i)) := oex
theorem Cop_g {b : Bool} {r : Bool} : (∃ z, (do guard b; ok r : Res Bool) = ok z ∧ L z) ↔ b = true ∧ L r := by
  rw [bex]
  simp only [oex]
  exact guard_ex
@[simp] theorem Cop_eq {u v : PyData} : Cop .Eq u v L ↔ eqOk u v = true ∧ L (PyData.eqv u v) := Cop_g
@[simp] theorem Cop_ne {u v : PyData} : Cop .NotEq u v L ↔ eqOk u v = true ∧ L (!PyData.eqv u v) := Cop_g
@[simp] theorem Cop_isB {a b : Bool} : Cop .Is (.bool a) (.bool b) L ↔ L (decide (a = b)) := by unfold Cop; simp only [cmpS]; exact oex
@[simp] theorem Cop_isNB {a b : Bool} : Cop .IsNot (.bool a) (.bool b) L ↔ L (!decide (a = b)) := by unfold Cop; simp only [cmpS]; exact oex
@[simp] theorem Cop_ltT {xs ys : List PyData} : Cop .Lt (.tuple xs) (.tuple ys) L ↔ ∃ ns ms, intsOf xs = some ns ∧ intsOf ys = some ms ∧ L (HT.lexLt ns ms) := by
  unfold Cop
  constructor
  · rintro ⟨z, h1, h2⟩
    simp only [cmpS] at h1
    split at h1
    · rename_i ns ms e1 e2
      cases h1
      exact ⟨_, _, e1, e2, h2⟩
    · cases h1
  · rintro ⟨ns, ms, e1, e2, h⟩
    refine ⟨_, ?_, h⟩
    simp only [cmpS, e1, e2]
@[simp] theorem Cop_inT {x : Int} {ys : List PyData} : Cop .In (.int x) (.tuple ys) L ↔ ∃ ns, intsOf ys = some ns ∧ L (ns.any fun z => z == x) := by
  unfold Cop
  constructor
  · rintro ⟨z, h1, h2⟩
    simp only [cmpS] at h1
    split at h1
    · rename_i ns e1
      cases h1
      exact ⟨_, e1, h2⟩
    · cases h1
  · rintro ⟨ns, e1, h⟩
    refine ⟨_, ?_, h⟩
    simp only [cmpS, e1]
@[simp] theorem Cop_ninT {x : Int} {ys : List PyData} : Cop .NotIn (.int x) (.tuple ys) L ↔ ∃ ns, intsOf ys = some ns ∧ L (!ns.any fun z => z == x) := by
  unfold Cop
  constructor
  · rintro ⟨z, h1, h2⟩
    simp only [cmpS] at h1
    split at h1
    · rename_i ns e1
      cases h1
      exact ⟨_, e1, h2⟩
    · cases h1
  · rintro ⟨ns, e1, h⟩
    refine ⟨_, ?_, h⟩
    simp only [cmpS, e1]
@[simp] theorem Cop_in {u : PyData} : Cop .In u (.list ys) L ↔ inOk u ys = true ∧ L (ys.any fun z => PyData.eqv z u) := Cop_g
@[simp] theorem Cop_nin {u : PyData} : Cop .NotIn u (.list ys) L ↔ inOk u ys = true ∧ L (!ys.any fun z => PyData.eqv z u) := Cop_g
@[simp] theorem eqOk_int {i : Int} {u : PyData} : eqOk u (.int i) = u.canLay0 := by
  unfold eqOk
  rw [show (PyData.int i).canLay0 = true by rw [PyData.canLay0], show (PyData.int i).depth = 0 by rw [PyData.depth]]
  simp
@[simp] theorem eqOk_bool {i : Bool} {u : PyData} : eqOk u (.bool i) = u.canLay0 := by
  unfold eqOk
  rw [show (PyData.bool i).canLay0 = true by rw [PyData.canLay0], show (PyData.bool i).depth = 0 by rw [PyData.depth]]
  simp
@[simp] theorem lay_int {i : Int} : (PyData.int i).canLay0 = true := by rw [PyData.canLay0]
@[simp] theorem lay_bool {i : Bool} : (PyData.bool i).canLay0 = true := by rw [PyData.canLay0]
@[simp] theorem lay_tup {xs : List PyData} : (PyData.tuple xs).canLay0 = PyData.canLayAll0 xs := by rw [PyData.canLay0]
@[simp] theorem lay_lst {xs : List PyData} : (PyData.list xs).canLay0 = PyData.canLayAll0 xs := by rw [PyData.canLay0]
@[simp] theorem lay_nil : PyData.canLayAll0 [] = true := by rw [PyData.canLayAll0]
@[simp] theorem lay_cons {x : PyData} {xs : List PyData} : PyData.canLayAll0 (x :: xs) = (x.canLay0 && PyData.canLayAll0 xs) := by rw [PyData.canLayAll0]
@[simp] theorem eqv_int {i j : Int} : PyData.eqv (.int i) (.int j) = decide (i = j) := by rw [PyData.eqv]; rfl
@[simp] theorem eqv_bool {i j : Bool} : PyData.eqv (.bool i) (.bool j) = decide (i = j) := by rw [PyData.eqv]; cases i <;> cases j <;> rfl
@[simp] theorem eqv_str {i j : Str} : PyData.eqv (.str i) (.str j) = decide (i = j) := by rw [PyData.eqv]; rfl
@[simp] theorem Iop_tup : Iop (.tuple xs) (.int i) M ↔ ∃ x, L2.atI xs i = some x ∧ M x := by
  show (∃ z, (match L2.atI xs i with | some x => ok x | none => bad) = ok z ∧ M z) ↔ _
  cases L2.atI xs i with
  | none => simp
  | some x => simp [oex]
@[simp] theorem Iop_lst : Iop (.list xs) (.int i) M ↔ ∃ x, L2.atI xs i = some x ∧ M x := by
  show (∃ z, (match L2.atI xs i with | some x => ok x | none => bad) = ok z ∧ M z) ↔ _
  cases L2.atI xs i with
  | none => simp
  | some x => simp [oex]
section
variable {α : Type} {a b c d : α} {r : List α}
@[simp] theorem at0 : L2.atI (a :: r) 0 = some a := L2.atI_nat (j := 0) rfl
@[simp] theorem at1 : L2.atI (a :: b :: r) 1 = some b := L2.atI_nat (j := 1) rfl
@[simp] theorem at2 : L2.atI (a :: b :: c :: r) 2 = some c := L2.atI_nat (j := 2) rfl
@[simp] theorem at3 : L2.atI (a :: b :: c :: d :: r) 3 = some d := L2.atI_nat (j := 3) rfl
end
section
variable {J : List PyData → PyData → Prop} {z : PyData}
@[simp] theorem Mop_append : Mop .append xs [z] J ↔ xs.length < 1000000 ∧ J (xs ++ [z]) .none := by
  rw [Mop_def]
  simp only [mtS, bex, oex]
  rw [guard_ex, decide_eq_true_iff]
@[simp] theorem Mop_extend : Mop .extend xs [.list ys] J ↔ xs.length + ys.length ≤ 1000000 ∧ J (xs ++ ys) .none := by
  rw [Mop_def]
  simp only [mtS, bex, oex]
  rw [guard_ex, decide_eq_true_iff]
@[simp] theorem Mop_pop : Mop .pop xs [] J ↔ ∃ x, xs[xs.length - 1]? = some x ∧ J xs.dropLast x := by
  rw [Mop_def]
  simp only [mtS]
  cases xs[xs.length - 1]? with
  | none => simp
  | some x => simp [oex]
@[simp] theorem Mop_clear : Mop .clear xs [] J ↔ J [] .none := by rw [Mop_def]; exact oex
@[simp] theorem Mop_reverse : Mop .reverse xs [] J ↔ J xs.reverse .none := by rw [Mop_def]; exact oex
end
@[simp] theorem Uop_len : Uop .len [.list xs] K ↔ K (.d (.int xs.length)) := oex
@[simp] theorem Uop_lenT : Uop .len [.tuple xs] K ↔ K (.d (.int xs.length)) := oex
@[simp] theorem Uop_max : Uop .max [.int i, .int j] K ↔ K (.d (.int (if j > i then j else i))) := oex
@[simp] theorem Uop_min : Uop .min [.int i, .int j] K ↔ K (.d (.int (if j < i then j else i))) := oex
@[simp] theorem Vop_lindex {u : PyData} : Vop .lindex (.list xs) [u] K ↔ inOk u xs = true ∧ ∃ k, xs.findIdx? (fun z => PyData.eqv z u) = some k ∧ K (.d (.int k)) := by
  unfold Vop
  simp only [mvS, bex]
  rw [guard_ex]
  refine and_congr_right fun _ => ?_
  cases xs.findIdx? (fun z => PyData.eqv z u) with
  | none => simp
  | some k => simp [oex]
@[simp] theorem intsOf_map : ∀ ns : List Int, intsOf (ns.map .int) = some ns
  | [] => rfl
  | n :: ns => by
    rw [List.map_cons]
    show (intsOf (ns.map .int)).map (n :: ·) = _
    rw [intsOf_map ns]
    rfl
@[simp] theorem Uop_srt {ns : List Int} : Uop .sorted [.list (ns.map .int)] K ↔ K (.L ((sortI ns).map .int)) := by
  show (∃ z, (match intsOf (ns.map .int) with | some ns => ok (.L ((sortI ns).map .int)) | none => if tupsOk (shOf (ns.map .int)) (ns.map .int) = true then ok (.L (sortT (ns.map .int))) else bad) = ok z ∧ K z) ↔ _
  rw [intsOf_map]
  exact oex
@[simp] theorem Uop_abs : Uop .abs [.int i] K ↔ K (.d (.int (if i < 0 then -i else i))) := oex
@[simp] theorem Uop_list : Uop .list [.list xs] K ↔ K (.L xs) := oex
@[simp] theorem Uop_listT : Uop .list [.tuple xs] K ↔ K (.L xs) := oex
@[simp] theorem Uop_tuple : Uop .tuple [.list xs] K ↔ K (.d (.tuple xs)) := oex
@[simp] theorem Uop_int : Uop .int [.int i] K ↔ K (.d (.int i)) := oex
@[simp] theorem aug_add : augS .Add (.int i) (.d (.int j)) = ok (i + j) := rfl
@[simp] theorem aug_sub : augS .Sub (.int i) (.d (.int j)) = ok (i - j) := rfl
@[simp] theorem ok_inj {α : Type} {a b : α} : (ok a : Res α) = ok b ↔ a = b := ⟨fun h => by cases h; rfl, fun h => by rw [h]⟩
@[simp] theorem items_lst : itemsD (.list xs) = ok xs := rfl
@[simp] theorem items_tup2 : itemsD (.tuple xs) = ok xs := rfl
@[simp] theorem optI_non : optI .non .none = ok none := rfl
@[simp] theorem optI_int {e : E} : optI e (.int i) = ok (some i) := rfl
@[simp] theorem slS_lst {lo hi : Option Int} : slS (.list xs) lo hi = ok (.L (cut xs lo hi)) := rfl
@[simp] theorem slS_tup {lo hi : Option Int} : slS (.tuple xs) lo hi = ok (.d (.tuple (cut xs lo hi))) := rfl
@[simp] theorem pl_s {ρ : Ro} {i : Nat} {ys : List PyData} : plList ρ (.s i) = ok ys ↔ getRo ρ i = some (.L ys) := by
  show (match getRo ρ i with | some (.L xs) => ok xs | _ => bad) = ok ys ↔ _
  cases getRo ρ i with
  | none => simp
  | some x => cases x <;> simp
@[simp] theorem plList_kk {ρ : Ro} {i : Nat} {key : Str} {ys : List PyData} : plList ρ (.k i key) = ok ys ↔ ∃ kvs, getRo ρ i = some (.M kvs) ∧ kvGet key kvs = some (.L ys) := by
  show (match getRo ρ i with | some (.M kvs) => (match kvGet key kvs with | some (.L xs) => ok xs | _ => bad) | _ => bad) = ok ys ↔ _
  cases getRo ρ i with
  | none => simp
  | some x =>
    cases x with
    | d x => simp
    | L x => simp
    | M kvs =>
      simp only [Option.some.injEq, PV.M.injEq, exists_eq_left']
      cases kvGet key kvs with
      | none => simp
      | some c => cases c <;> simp
    | I x => simp
    | LL x => simp
@[simp] theorem plSet_k0 {kvs : List (Str × CV)} {r : Ro} {key : Str} {xs : List PyData} : plSet (some (.M kvs) :: r) (.k 0 key) xs = some (.M (kvSet key (.L xs) kvs)) :: r := rfl
@[simp] theorem take01 {ρ : Ro} : takeRo [0] 1 ρ = [getRo ρ 0] := rfl
@[simp] theorem take02 {ρ : Ro} : takeRo [0] 2 ρ = [getRo ρ 0, none] := rfl
@[simp] theorem take03 {ρ : Ro} : takeRo [0] 3 ρ = [getRo ρ 0, none, none] := rfl
@[simp] theorem take04 {ρ : Ro} : takeRo [0] 4 ρ = [getRo ρ 0, none, none, none] := rfl
@[simp] theorem take12 {ρ : Ro} : takeRo [1] 2 ρ = [none, getRo ρ 1] := rfl
@[simp] theorem take23 {ρ : Ro} : takeRo [2] 3 ρ = [none, none, getRo ρ 2] := rfl
@[simp] theorem plSet_s {ρ : Ro} {i : Nat} {ys : List PyData} : plSet ρ (.s i) ys = ρ.set i (some (.L ys)) := rfl
@[simp] theorem stTg_n {i : Nat} {u : PyData} {ρ ρ' : Ro} : stTg (.n i) u ρ = ok ρ' ↔ ρ.set i (some (.d u)) = ρ' := by simp [stTg]
@[simp] theorem stTg_cons {t r : Tg} {u : PyData} {us : List PyData} {ρ ρ' : Ro} : stTg (.cons t r) (.tuple (u :: us)) ρ = ok ρ' ↔ ∃ ρ1, stTg t u ρ = ok ρ1 ∧ stTg r (.tuple us) ρ1 = ok ρ' := by
  simp only [stTg]
  cases stTg t u ρ <;> simp
@[simp] theorem stTg_consL {t r : Tg} {u : PyData} {us : List PyData} {ρ ρ' : Ro} : stTg (.cons t r) (.list (u :: us)) ρ = ok ρ' ↔ ∃ ρ1, stTg t u ρ = ok ρ1 ∧ stTg r (.tuple us) ρ1 = ok ρ' := by
  simp only [stTg]
  cases stTg t u ρ <;> simp
@[simp] theorem stTg_nilL {ρ ρ' : Ro} : stTg .nil (.list []) ρ = ok ρ' ↔ ρ = ρ' := by simp [stTg]
@[simp] theorem stTg_nil {ρ ρ' : Ro} : stTg .nil (.tuple []) ρ = ok ρ' ↔ ρ = ρ' := by simp [stTg]
theorem cut_from {α : Type} (xs : List α) (k : Nat) : cut xs (some k) none = xs.drop k := by
  unfold cut
  rw [HT.sIx_none, HT.sIx_nat]
  rcases Nat.le_total k xs.length with h | h
  · rw [Nat.min_eq_left h]
    exact List.take_of_length_le (by simp)
  · rw [Nat.min_eq_right h, List.drop_of_length_le (Nat.le_refl _), List.drop_of_length_le h]
    simp
@[simp] theorem eqv_tup {xs ys : List PyData} : PyData.eqv (.tuple xs) (.tuple ys) = PyData.eqvAll xs ys := by rw [PyData.eqv]
@[simp] theorem eqv_lst {xs ys : List PyData} : PyData.eqv (.list xs) (.list ys) = PyData.eqvAll xs ys := by rw [PyData.eqv]
@[simp] theorem eqva_nil : PyData.eqvAll [] [] = true := by rw [PyData.eqvAll]
@[simp] theorem eqva_cons {x y : PyData} {xs ys : List PyData} : PyData.eqvAll (x :: xs) (y :: ys) = (PyData.eqv x y && PyData.eqvAll xs ys) := by rw [PyData.eqvAll]
@[simp] theorem eqOk_pair {u : PyData} {a b : Int} : eqOk u (.tuple [.int a, .int b]) = u.canLay0 := by
  unfold eqOk
  rw [show (PyData.tuple [.int a, .int b]).depth = 1 by simp [PyData.depth, PyData.depthAll]]
  simp
  intro _
  omega
@[simp] theorem takeRo_none {n : Nat} {ρ : Ro} : takeRo [] n ρ = List.replicate n none := by
  unfold takeRo
  refine List.ext_getElem (by simp) fun i h1 h2 => ?_
  simp
@[simp] theorem len_script {ns : List Int} : Uop .len [scriptD ns] K ↔ K (.d (.int ns.length)) := by
  unfold scriptD
  rw [Uop_len, List.length_map]
@[simp] theorem ios_nil : ios .nil = [] := rfl
@[simp] theorem ioSet_no {ρ os : Ro} {o : Option PV} {is : List (Option Nat)} : ioSet ρ (none :: is) (o :: os) = ioSet ρ is os := rfl
@[simp] theorem ioSet_yes {ρ os : Ro} {o : Option PV} {i : Nat} {is : List (Option Nat)} : ioSet ρ (some i :: is) (o :: os) = ioSet (ρ.set i o) is os := rfl
@[simp] theorem ioSet_end {ρ os : Ro} : ioSet ρ [] os = ρ := by cases os <;> rfl
@[simp] theorem ios_io' {i : Nat} {r : E} : ios (.cons (.io i) r) = some i :: ios r := rfl
@[simp] theorem ios_cons' {a r : E} (h : ∀ i, a ≠ .io i) : ios (.cons a r) = none :: ios r := ios_cons h
theorem Cl_of {T : Tab} {f : Nat} {xs : List PV} {r : PV} {os : Ro} (h : Cl T f xs fun x ρ => x = r ∧ ρ = os) : T f xs = ok (r, os) := by
  obtain ⟨_, _, e, rfl, rfl⟩ := h
  exact e
theorem bits_le {i : Int} {m : Nat} (h : i.natAbs < 2 ^ m) : bits i ≤ m := intBits_le_iff.mpr h
theorem bits_iff {i : Int} {m : Nat} : bits i ≤ m ↔ i.natAbs < 2 ^ m := intBits_le_iff
end
end Rf
namespace Th
inductive Tr where
  | leaf
  | node (l r : Tr)
  deriving DecidableEq
def lv : Tr → Nat
  | .leaf => 1
  | .node l r => lv l + lv r
def hg : Tr → Nat
  | .leaf => 0
  | .node l r => 1 + max (hg l) (hg r)
theorem lv_pos : ∀ t : Tr, 1 ≤ lv t
  | .leaf => Nat.le_refl _
  | .node l r => by have := lv_pos l; simp only [lv]; omega
abbrev W := List Bool
def pths : Tr → List W
  | .leaf => [[]]
  | .node l r => (pths l).map (false :: ·) ++ (pths r).map (true :: ·)
@[simp] theorem pths_len : ∀ t : Tr, (pths t).length = lv t
  | .leaf => rfl
  | .node l r => by simp [pths, lv, pths_len l, pths_len r]
theorem pths_hg : ∀ (t : Tr) (w : W), w ∈ pths t → w.length ≤ hg t
  | .leaf, w, h => by simp [pths] at h; subst h; simp [hg]
  | .node l r, w, h => by
    simp only [pths, List.mem_append, List.mem_map] at h
    rcases h with ⟨u, h, rfl⟩ | ⟨u, h, rfl⟩
    · have := pths_hg l u h; simp only [hg, List.length_cons]; omega
    · have := pths_hg r u h; simp only [hg, List.length_cons]; omega
abbrev Sm := Nat → Bool
def cns (b : Bool) (x : Sm) : Sm
  | 0 => b
  | n + 1 => x n
def tl (x : Sm) : Sm := fun n => x (n + 1)
@[simp] theorem tl_cns (b : Bool) (x : Sm) : tl (cns b x) = x := rfl
@[simp] theorem cns_zero (b : Bool) (x : Sm) : cns b x 0 = b := rfl
def app : W → Sm → Sm
  | [], x => x
  | b :: w, x => cns b (app w x)
@[simp] theorem app_nil (x : Sm) : app [] x = x := rfl
@[simp] theorem app_cons (b : Bool) (w : W) (x : Sm) : app (b :: w) x = cns b (app w x) := rfl
inductive LT where
  | leaf (v : W)
  | node (l r : LT)
def shape : LT → Tr
  | .leaf _ => .leaf
  | .node l r => .node (shape l) (shape r)
def labs : LT → List W
  | .leaf v => [v]
  | .node l r => labs l ++ labs r
@[simp] theorem labs_len : ∀ L : LT, (labs L).length = lv (shape L)
  | .leaf _ => rfl
  | .node l r => by simp [labs, shape, lv, labs_len l, labs_len r]
def lab : Tr → List W → LT
  | .leaf, vs => .leaf (vs.headD [])
  | .node l r, vs => .node (lab l (vs.take (lv l))) (lab r (vs.drop (lv l)))
@[simp] theorem shape_lab : ∀ (t : Tr) (vs : List W), shape (lab t vs) = t
  | .leaf, _ => rfl
  | .node l r, vs => by simp [lab, shape, shape_lab]
/-- two ways to the two halves of one -/
def joins (a b : W) : Bool := a.dropLast == b.dropLast && (a.drop (a.length - 1) ++ b.drop (b.length - 1) == [false, true])
def mk : LT → LT → LT
  | .leaf a, .leaf b => if joins a b then .leaf a.dropLast else .node (.leaf a) (.leaf b)
  | l, r => .node l r
def trim : LT → LT
  | .leaf v => .leaf v
  | .node l r => mk (trim l) (trim r)
def tpush : List (W × Tr) → W → Tr → List (W × Tr)
  | [], w, t => [(w, t)]
  | (u, s) :: r, w, t => if joins u w then tpush r w.dropLast (.node s t) else (w, t) :: (u, s) :: r
def tparse (st : List (W × Tr)) (ws : List W) : List (W × Tr) := ws.foldl (fun st w => tpush st w .leaf) st
def flat (st : List (W × Tr)) : List W := st.reverse.flatMap fun x => (pths x.2).map (x.1 ++ ·)
theorem flat_cons (x : W × Tr) (st : List (W × Tr)) : flat (x :: st) = flat st ++ (pths x.2).map (x.1 ++ ·) := by simp [flat]
/-- the tree of its ways -/
def tof (ws : List W) : Tr := match tparse [] ws with
  | (_, t) :: _ => t
  | [] => .leaf
abbrev Mp := Tr × Tr
def labM (M : Mp) : LT := lab M.1 (pths M.2)
def okM (M : Mp) : Prop := lv M.1 = lv M.2
def trm (M : Mp) : Mp := (shape (trim (labM M)), tof (labs (trim (labM M))))
def graft : Tr → List Tr → Tr
  | .leaf, us => us.headD .leaf
  | .node l r, us => .node (graft l (us.take (lv l))) (graft r (us.drop (lv l)))
def both : Tr → Tr → Tr
  | .leaf, u => u
  | t, .leaf => t
  | .node l r, .node l' r' => .node (both l l') (both r r')
def exc : Tr → Tr → List Tr
  | .leaf, m => [m]
  | .node l r, .node l' r' => exc l l' ++ exc r r'
  | .node l r, .leaf => List.replicate (lv (.node l r)) .leaf
/-- one, then another: ahead of trimming -/
def thn0 (f g : Mp) : Mp := (graft f.1 (exc f.2 (both f.2 g.1)), graft g.2 (exc g.1 (both f.2 g.1)))
def thn (f g : Mp) : Mp := trm (thn0 f g)
def one : Mp := (.leaf, .leaf)
def rowsOf : LT → W → List (W × W)
  | .leaf v, p => [(p, v)]
  | .node l r, p => rowsOf l (p ++ [false]) ++ rowsOf r (p ++ [true])
def rpush : List (W × W) → W → W → List (W × W)
  | [], w, v => [(w, v)]
  | (a, b) :: r, w, v => if joins a w && joins b v then rpush r w.dropLast v.dropLast else (w, v) :: (a, b) :: r
def settle (st : List (W × W)) (p : W) : LT → List (W × W)
  | .leaf v => rpush st p v
  | .node l r => (rowsOf (.node l r) p).reverse ++ st
def put : Tr → Nat → Tr → Tr
  | .leaf, _, u => u
  | .node l r, k, u => if k < lv l then .node (put l k u) r else .node l (put r (k - lv l) u)
theorem lv_put : ∀ (t : Tr) (k : Nat) (u : Tr), k < lv t → lv (put t k u) + 1 = lv t + lv u
  | .leaf, k, u, h => by simp [put, lv]; omega
  | .node l r, k, u, h => by
    simp only [lv] at h
    rw [put]
    split
    · rename_i hk
      have := lv_put l k u hk
      simp only [lv]; omega
    · have := lv_put r (k - lv l) u (by omega)
      simp only [lv]; omega
end Th
namespace Pn
open Th
def low : Int → Nat → Int × Nat
  | n, 0 => (n, 0)
  | n, d + 1 => if n % 2 = 0 then low (n / 2) d else (n, d + 1)
theorem low_step {n : Int} {d : Nat} (h : 0 < d) (h2 : n % 2 = 0) : low n d = low (n / 2) (d - 1) := by
  cases d with
  | zero => omega
  | succ d => simp [low, h2]
theorem low_stop {n : Int} {d : Nat} (h : ¬ (0 < d ∧ n % 2 = 0)) : low n d = (n, d) := by
  cases d with
  | zero => rfl
  | succ d =>
    have : ¬ n % 2 = 0 := fun z => h ⟨by omega, z⟩
    simp [low, this]
theorem low_shift (n : Int) (d : Nat) : ∀ k : Nat, low (n * 2 ^ k) (d + k) = low n d
  | 0 => by simp
  | k + 1 => by
    have e : n * 2 ^ (k + 1) = n * 2 ^ k * 2 := by rw [Int.pow_succ, Int.mul_assoc]
    rw [show d + (k + 1) = d + k + 1 from rfl]
    simp only [low]
    rw [if_pos (by rw [e]; exact Int.mul_emod_left _ _), e, Int.mul_ediv_cancel _ (by decide)]
    exact low_shift n d k
theorem low_le : ∀ (d : Nat) (n : Int), (low n d).2 ≤ d ∧ (low n d).1.natAbs ≤ n.natAbs
  | 0, n => by simp [low]
  | d + 1, n => by
    simp only [low]
    split
    · obtain ⟨h1, h2⟩ := low_le d (n / 2)
      exact ⟨by omega, by omega⟩
    · exact ⟨Nat.le_refl _, Nat.le_refl _⟩
def bin : W → Nat
  | [] => 0
  | b :: w => (if b then 2 ^ w.length else 0) + bin w
theorem bin_lt : ∀ w : W, bin w < 2 ^ w.length
  | [] => by decide
  | b :: w => by
    have := bin_lt w
    have e : 2 ^ (w.length + 1) = 2 ^ w.length + 2 ^ w.length := by rw [Nat.pow_succ]; omega
    simp only [bin, List.length_cons]
    split <;> omega
theorem bin_inj : ∀ {u v : W}, u.length = v.length → bin u = bin v → u = v
  | [], [], _, _ => rfl
  | [], _ :: _, h, _ => by simp at h
  | _ :: _, [], h, _ => by simp at h
  | a :: u, b :: v, h, e => by
    have hl : u.length = v.length := by simpa using h
    have h1 := bin_lt u
    have h2 := bin_lt v
    simp only [bin, hl] at e h1
    have : a = b := by
      cases a <;> cases b <;> simp at e ⊢ <;> omega
    subst this
    rw [bin_inj hl (by split at e <;> omega)]
def bts : Nat → Nat → W
  | 0, _ => []
  | d + 1, n => (decide (2 ^ d ≤ n)) :: bts d (n % 2 ^ d)
@[simp] theorem bts_len : ∀ d n : Nat, (bts d n).length = d
  | 0, _ => rfl
  | d + 1, n => by simp [bts, bts_len d]
theorem bin_bts : ∀ (d n : Nat), n < 2 ^ d → bin (bts d n) = n
  | 0, n, h => by simp at h; subst h; rfl
  | d + 1, n, h => by
    have hp : 0 < 2 ^ d := Nat.two_pow_pos d
    rw [Nat.pow_succ] at h
    simp only [bts, bin, bts_len]
    rw [bin_bts d _ (Nat.mod_lt _ hp)]
    by_cases hc : 2 ^ d ≤ n
    · rw [if_pos (by simpa using hc)]
      have : n % 2 ^ d = n - 2 ^ d := by rw [Nat.mod_eq_sub_mod hc, Nat.mod_eq_of_lt (by omega)]
      omega
    · rw [if_neg (by simpa using hc), Nat.mod_eq_of_lt (by omega)]
      omega
def zs : Sm := fun _ => false
/-- the point of a word -/
def vl (u : W) : Int × Nat := low (bin u) u.length
/-- the lowest pair tells the same number -/
theorem low_val : ∀ (d : Nat) (n : Int), (low n d).1 * 2 ^ (d - (low n d).2) = n
  | 0, n => by simp [low]
  | d + 1, n => by
    simp only [low]
    split
    · rename_i h
      have h1 := low_val d (n / 2)
      have h2 := (low_le d (n / 2)).1
      rw [show d + 1 - (low (n / 2) d).2 = (d - (low (n / 2) d).2) + 1 by omega, Int.pow_succ, ← Int.mul_assoc, h1]
      omega
    · simp
theorem low_cross {n m : Int} {d e : Nat} (h : low n d = low m e) : n * 2 ^ e = m * 2 ^ d := by
  have h1 := low_val d n
  have h2 := low_val e m
  have l1 := (low_le d n).1
  have l2 := (low_le e m).1
  rw [h] at h1 l1
  generalize (low m e).1 = a at *
  generalize (low m e).2 = b at *
  rw [← h1, ← h2, Int.mul_assoc, Int.mul_assoc, ← Int.pow_add, ← Int.pow_add]
  congr 2
  omega
theorem low_lt {n : Int} {d : Nat} (h0 : 0 ≤ n) (h : n < 2 ^ d) : (low n d).1 < 2 ^ (low n d).2 ∧ 0 ≤ (low n d).1 := by
  have h1 := low_val d n
  have h2 := (low_le d n).1
  have hp : (0 : Int) < 2 ^ (d - (low n d).2) := Int.pow_pos (by decide)
  have e : (2 : Int) ^ d = 2 ^ (low n d).2 * 2 ^ (d - (low n d).2) := by rw [← Int.pow_add]; congr 1; omega
  constructor
  · refine Int.lt_of_mul_lt_mul_right (a := 2 ^ (d - (low n d).2)) ?_ (Int.le_of_lt hp)
    rw [h1, ← e]; exact h
  · refine Int.le_of_mul_le_mul_right (a := 2 ^ (d - (low n d).2)) ?_ hp
    rw [h1, Int.zero_mul]; exact h0
theorem abut : ∀ (t : Tr) (k : Nat) (w : W), (pths t)[k]? = some w → (∀ w', (pths t)[k + 1]? = some w' → (bin w + 1) * 2 ^ w'.length = bin w' * 2 ^ w.length) ∧ (k + 1 = lv t → bin w + 1 = 2 ^ w.length) ∧ (k = 0 → bin w = 0)
  | .leaf, k, w, h => by
    cases k with
    | zero =>
      simp [pths] at h
      subst h
      exact ⟨fun w' h => by simp [pths] at h, fun _ => rfl, fun _ => rfl⟩
    | succ k => simp [pths] at h
  | .node l r, k, w, h => by
    have pl := lv_pos l
    have pr := lv_pos r
    simp only [pths] at h ⊢
    by_cases hk : k < lv l
    · rw [List.getElem?_append_left (by simpa using hk), List.getElem?_map] at h
      obtain ⟨u, hu, rfl⟩ := Option.map_eq_some_iff.mp h
      obtain ⟨a1, a2, a3⟩ := abut l k u hu
      refine ⟨fun w' hw' => ?_, fun e => ?_, fun e => ?_⟩
      · by_cases hk2 : k + 1 < lv l
        · rw [List.getElem?_append_left (by simpa using hk2), List.getElem?_map] at hw'
          obtain ⟨u', hu', rfl⟩ := Option.map_eq_some_iff.mp hw'
          have := a1 u' hu'
          simp only [bin, List.length_cons, Bool.false_eq_true, if_false, Nat.zero_add, Nat.pow_succ]
          rw [← Nat.mul_assoc, ← Nat.mul_assoc, this]
        · have e : k + 1 = lv l := by omega
          rw [List.getElem?_append_right (by simp; omega), List.length_map, pths_len, e, Nat.sub_self, List.getElem?_map] at hw'
          obtain ⟨u', hu', rfl⟩ := Option.map_eq_some_iff.mp hw'
          have b1 := a2 e
          have b3 := (abut r 0 u' hu').2.2 rfl
          simp only [bin, List.length_cons, Bool.false_eq_true, if_false, if_true, Nat.zero_add, Nat.pow_succ, b3, b1, Nat.add_zero]
          rw [← Nat.mul_assoc, ← Nat.mul_assoc, Nat.mul_comm (2 ^ u.length) (2 ^ u'.length)]
      · simp only [lv] at e; omega
      · simp only [bin, Bool.false_eq_true, if_false, Nat.zero_add]; exact a3 e
    · rw [List.getElem?_append_right (by simp; omega), List.length_map, pths_len, List.getElem?_map] at h
      obtain ⟨u, hu, rfl⟩ := Option.map_eq_some_iff.mp h
      obtain ⟨a1, a2, a3⟩ := abut r (k - lv l) u hu
      refine ⟨fun w' hw' => ?_, fun e => ?_, fun e => by omega⟩
      · rw [List.getElem?_append_right (by simp; omega), List.length_map, pths_len, List.getElem?_map, show k + 1 - lv l = k - lv l + 1 by omega] at hw'
        obtain ⟨u', hu', rfl⟩ := Option.map_eq_some_iff.mp hw'
        have := a1 u' hu'
        simp only [bin, List.length_cons, if_true, Nat.pow_succ]
        rw [show (2 ^ u.length + bin u + 1) = (bin u + 1) + 2 ^ u.length by omega, show (2 ^ u'.length + bin u') = bin u' + 2 ^ u'.length by omega, ← Nat.mul_assoc, ← Nat.mul_assoc, Nat.add_mul, Nat.add_mul, this, Nat.mul_comm (2 ^ u.length) (2 ^ u'.length), Nat.add_mul, Nat.add_mul]
      · simp only [lv] at e
        have := a2 (by omega)
        simp only [bin, List.length_cons, if_true, Nat.pow_succ]
        omega
def val (w v : W) (P : Int × Nat) : Int × Nat :=
  low ((bin v : Int) * 2 ^ (max w.length P.2 - w.length) + (P.1 * 2 ^ (max w.length P.2 - P.2) - (bin w : Int) * 2 ^ (max w.length P.2 - w.length))) (v.length + (max w.length P.2 - w.length))
/-- a lowest pair from 0 to 1 -/
def IsP (P : Int × Nat) : Prop := P = (1, 0) ∨ ∃ u, P = vl u
theorem low_low (n : Int) (d : Nat) : low (low n d).1 (low n d).2 = low n d := by
  have h1 := low_val d n
  have h2 := (low_le d n).1
  have := low_shift (low n d).1 (low n d).2 (d - (low n d).2)
  rw [h1, show (low n d).2 + (d - (low n d).2) = d by omega] at this
  exact this.symm
theorem isP_low {P : Int × Nat} (h : IsP P) : low P.1 P.2 = P := by
  rcases h with rfl | ⟨u, rfl⟩
  · rfl
  · exact low_low _ _
theorem isP_of {n : Int} {d : Nat} (h0 : 0 ≤ n) (h : n ≤ 2 ^ d) : IsP (low n d) := by
  obtain ⟨m, rfl⟩ := Int.eq_ofNat_of_zero_le h0
  have h' : m ≤ 2 ^ d := by exact_mod_cast h
  rcases Nat.lt_or_ge m (2 ^ d) with hl | hl
  · refine .inr ⟨bts d m, ?_⟩
    rw [vl, bin_bts _ _ hl, bts_len]
  · have : m = 2 ^ d := by omega
    subst this
    left
    have := low_shift 1 0 d
    simp at this
    have e : low ((2 ^ d : Nat) : Int) d = low 1 0 := by rw [← this]; congr 1
    rw [e]; rfl
theorem low_odd : ∀ (d : Nat) (n : Int), (low n d).2 = 0 ∨ (low n d).1 % 2 = 1
  | 0, n => .inl rfl
  | d + 1, n => by
    simp only [low]
    split
    · exact low_odd d _
    · exact .inr (by show n % 2 = 1; omega)
/-- what a point looks like -/
theorem isP_look {P : Int × Nat} (h : IsP P) : P = (0, 0) ∨ P = (1, 0) ∨ (0 < P.1 ∧ P.1 < 2 ^ P.2 ∧ P.1 % 2 = 1) := by
  rcases h with rfl | ⟨u, rfl⟩
  · exact .inr (.inl rfl)
  · obtain ⟨h1, h2⟩ := low_lt (n := bin u) (d := u.length) (by omega) (by exact_mod_cast bin_lt u)
    have h3 := low_odd u.length (bin u)
    unfold vl
    generalize low (bin u) u.length = P at *
    obtain ⟨a, b⟩ := P
    simp only at *
    rcases h3 with h3 | h3
    · subst h3
      left
      have : a = 0 := by simp at h1; omega
      rw [this]
    · exact .inr (.inr ⟨by omega, h1, h3⟩)
theorem pw (n : Nat) : (0 : Int) < 2 ^ n := Int.pow_pos (by decide)
end Pn
set_option maxRecDepth 100000
namespace Rf
open PySem Res Th Pn
theorem bits_mod {i j : Int} {m : Nat} (h : 0 < j) (hj : j ≤ 2 ^ m) : bits (i % j) ≤ m := by
  refine bits_le ?_
  have h1 := Int.emod_nonneg i (by omega : j ≠ 0)
  have h2 := Int.emod_lt_of_pos i h
  have : ((i % j).natAbs : Int) < 2 ^ m := by omega
  exact_mod_cast this
theorem bits_rng {i : Int} {m : Nat} (h : 0 ≤ i) (hj : i < 2 ^ m) : bits i ≤ m := by
  refine bits_le ?_
  have : (i.natAbs : Int) < 2 ^ m := by omega
  exact_mod_cast this
theorem rng_cons {lo : Int} {n : Nat} {x : PyData} {xs : List PyData} (h : rngI lo n = x :: xs) : ∃ m, n = m + 1 ∧ x = .int lo ∧ xs = rngI (lo + 1) m := by
  cases n with
  | zero => cases h
  | succ n => cases h; exact ⟨n, rfl, rfl, rfl⟩
theorem rng_nil {lo : Int} {n : Nat} (h : rngI lo n = []) : n = 0 := by
  cases n with
  | zero => rfl
  | succ n => cases h
def nat (d : Nat) : PyData := .int d
section
variable {α : Type} {a b c d e f g h : α} {r : List α}
@[simp] theorem at4 : L2.atI (a :: b :: c :: d :: e :: r) 4 = some e := L2.atI_nat (j := 4) rfl
@[simp] theorem at5 : L2.atI (a :: b :: c :: d :: e :: f :: r) 5 = some f := L2.atI_nat (j := 5) rfl
@[simp] theorem at6 : L2.atI (a :: b :: c :: d :: e :: f :: g :: r) 6 = some g := L2.atI_nat (j := 6) rfl
@[simp] theorem at7 : L2.atI (a :: b :: c :: d :: e :: f :: g :: h :: r) 7 = some h := L2.atI_nat (j := 7) rfl
end
@[simp] theorem at_last {α : Type} {xs : List α} {x : α} : L2.atI (xs ++ [x]) (-1) = some x := L2.atI_last _ _
theorem cut_to {α : Type} (xs : List α) (k : Nat) : cut xs none (some (k : Int)) = xs.take k := by
  unfold cut
  rw [HT.sIx_none, HT.sIx_nat, List.drop_zero, Nat.sub_zero]
  rcases Nat.le_total k xs.length with h | h
  · rw [Nat.min_eq_left h]
  · rw [Nat.min_eq_right h, List.take_of_length_le (Nat.le_refl _), List.take_of_length_le h]
theorem cut_two {α : Type} (xs : List α) (i j : Nat) : cut xs (some (i : Int)) (some (j : Int)) = (xs.take j).drop i := by
  unfold cut
  rw [HT.sIx_nat, HT.sIx_nat, List.drop_take]
  rcases Nat.le_total i xs.length with h | h
  · rw [Nat.min_eq_left h]
    rcases Nat.le_total j xs.length with h2 | h2
    · rw [Nat.min_eq_left h2]
    · rw [Nat.min_eq_right h2, List.take_of_length_le (by simp), List.take_of_length_le (by simp; omega)]
  · rw [Nat.min_eq_right h, List.drop_of_length_le (Nat.le_refl _), List.drop_of_length_le h]
    simp
@[simp] theorem slS_str {x : Str} {lo hi : Option Int} {K : PV → Prop} : (∃ z, slS (.str x) lo hi = ok z ∧ K z) ↔ x.length ≤ 1000000 ∧ K (.d (.str (L2.cutS x lo hi))) := by
  show (∃ z, (do guard (decide (x.length ≤ 1000000)); ok (PV.d (.str (L2.cutS x lo hi))) : Res PV) = ok z ∧ K z) ↔ _
  rw [bex, guard_ex, decide_eq_true_iff]
  simp only [oex]
@[simp] theorem ixN_last {n : Nat} : L2.ixN (n + 1) (-1) = some n := by
  unfold L2.ixN
  rw [if_neg (by omega), if_pos (by omega)]
  congr 1
  omega
@[simp] theorem set_last {α : Type} {xs : List α} {a b : α} : (xs ++ [a]).set xs.length b = xs ++ [b] := by
  rw [List.set_append_right _ _ (Nat.le_refl _)]
  simp
def tx (l : List Nat) : Str := ⟨l.toArray⟩
@[simp] theorem tx_len (l : List Nat) : (tx l).length = l.length := by simp [tx, Str.length]
@[simp] theorem tx_app (a b : List Nat) : tx a ++ tx b = tx (a ++ b) := by
  show Str.append (tx a) (tx b) = _
  simp [tx, Str.append]
theorem tx_inj {a b : List Nat} (h : tx a = tx b) : a = b := by
  have := congrArg (fun s => s.cps.toList) h
  simpa [tx] using this
@[simp] theorem tx_eq {a b : List Nat} : (tx a = tx b) ↔ a = b := ⟨tx_inj, fun h => by rw [h]⟩
@[simp] theorem ixD_tx {l : List Nat} {i : Int} (h : l.length ≤ 1000000) : ixD (PyData.str (tx l)) (PyData.int i) = (match L2.atI l i with | some c => ok (PyData.str (tx [c])) | none => bad) := by
  show (match L2.atI (tx l).cps.toList i with | some c => do guard (decide ((tx l).length ≤ 1000000)); ok (PyData.str ⟨#[c]⟩) | none => bad) = _
  rw [tx_len, decide_eq_true h]
  simp [tx]
@[simp] theorem Uop_lenS {x : Str} {K : PV → Prop} : Uop .len [.str x] K ↔ x.length ≤ 1000000 ∧ K (.d (.int x.length)) := by
  refine Bop_g.trans ?_
  rw [decide_eq_true_eq]
def bd (b : Bool) : Nat := if b then 49 else 48
theorem bd_inj : ∀ {a b : Bool}, bd a = bd b → a = b := by decide
def wS (w : List Bool) : Str := tx (w.map bd)
theorem map_bd_inj {a b : List Bool} (h : a.map bd = b.map bd) : a = b := (List.map_inj_right fun _ _ => bd_inj).mp h
@[simp] theorem strOk_wS (w : List Bool) : PyData.strOk (wS w) = true := by
  simp only [PyData.strOk, wS, tx, Array.all_eq_true]
  intro i hi
  simp
  unfold bd
  split <;> decide
@[simp] theorem wS_eq {a b : List Bool} : wS a = wS b ↔ a = b := ⟨fun h => map_bd_inj (tx_inj h), fun h => by rw [h]⟩
@[simp] theorem wS_len (w : List Bool) : (wS w).length = w.length := by simp [wS]
@[simp] theorem wS_app (a b : List Bool) : wS a ++ wS b = wS (a ++ b) := by simp [wS]
@[simp] theorem eqv_wS {a b : List Bool} : PyData.eqv (.str (wS a)) (.str (wS b)) = decide (a = b) := by rw [eqv_str]; simp
@[simp] theorem lay_str {x : Str} : (PyData.str x).canLay0 = PyData.strOk x := by rw [PyData.canLay0]
@[simp] theorem eqOk_str {x : Str} {u : PyData} : eqOk u (.str x) = (u.canLay0 && PyData.strOk x) := by
  unfold eqOk
  rw [show (PyData.str x).canLay0 = PyData.strOk x by rw [PyData.canLay0], show (PyData.str x).depth = 0 by rw [PyData.depth]]
  simp
@[simp] theorem eqOk_l1 {x : Str} {u : PyData} : eqOk u (.list [.str x]) = (u.canLay0 && PyData.strOk x) := by
  unfold eqOk
  rw [show (PyData.list [.str x]).depth = 1 by simp [PyData.depth, PyData.depthAll], lay_lst, lay_cons, lay_str, lay_nil]
  simp
  intros
  omega
def enc : Tr → PyData
  | .leaf => .tuple []
  | .node l r => .tuple [enc l, enc r]
@[simp] theorem lay_enc : ∀ t : Tr, (enc t).canLay0 = true
  | .leaf => by simp [enc]
  | .node l r => by simp [enc, lay_enc l, lay_enc r]
@[simp] theorem eqOk_unit {u : PyData} : eqOk u (.tuple []) = u.canLay0 := by
  unfold eqOk
  rw [show (PyData.tuple []).depth = 1 by simp [PyData.depth, PyData.depthAll]]
  simp
  intro _
  omega
@[simp] theorem eqOk_uu {u : PyData} : eqOk u (.tuple [.tuple [], .tuple []]) = u.canLay0 := by
  unfold eqOk
  rw [show (PyData.tuple [.tuple [], .tuple []]).depth = 2 by simp [PyData.depth, PyData.depthAll]]
  simp
  intro _
  omega
/-- a map -/
def mp (M : Mp) : PyData := .tuple [enc M.1, enc M.2]
def pt (z : Int × Nat) : PyData := .tuple [.int z.1, .int z.2]
def m1i (ρ : Ro) : Nat := match getRo ρ 1 with
  | some (.d (.int d)) => d.toNat
  | _ => 0
def intsD (xs : List Int) : PyData := .list (xs.map .int)
structure Deal where
  s : Int
  n : Int
  l : List Int
def Deal.d (D : Deal) : List (Str × CV) := [("seed", .d (.int D.s)), ("number", .d (.int D.n)), ("left", .L (D.l.map .int))]
structure Deal.Ok (D : Deal) : Prop where
  s0 : 0 ≤ D.s
  s1 : D.s < 2 ^ 31
  n0 : 0 ≤ D.n
  n1 : bits D.n ≤ 1048576
  l0 : ∀ x ∈ D.l, 0 ≤ x ∧ bits x ≤ 1048576
  l1 : D.l.length ≤ 63
@[simp] theorem kg_seed (D : Deal) : kvGet "seed" D.d = some (.d (.int D.s)) := by
  simp only [Deal.d, kvGet]
  rw [if_pos trivial]
@[simp] theorem kg_number (D : Deal) : kvGet "number" D.d = some (.d (.int D.n)) := by
  simp only [Deal.d, kvGet]
  rw [if_neg (by decide +kernel), if_pos trivial]
@[simp] theorem kg_left (D : Deal) : kvGet "left" D.d = some (.L (D.l.map .int)) := by
  simp only [Deal.d, kvGet]
  rw [if_neg (by decide +kernel), if_neg (by decide +kernel), if_pos trivial]
@[simp] theorem ks_seed (D : Deal) (x : Int) : kvSet "seed" (.d (.int x)) D.d = ({ D with s := x } : Deal).d := by
  simp only [Deal.d, kvSet]
  rw [if_pos trivial]
@[simp] theorem ks_number (D : Deal) (x : Int) : kvSet "number" (.d (.int x)) D.d = ({ D with n := x } : Deal).d := by
  simp only [Deal.d, kvSet]
  rw [if_neg (by decide +kernel), if_pos trivial]
@[simp] theorem ks_left (D : Deal) (x : List Int) : kvSet "left" (.L (x.map .int)) D.d = ({ D with l := x } : Deal).d := by
  simp only [Deal.d, kvSet]
  rw [if_neg (by decide +kernel), if_neg (by decide +kernel), if_pos trivial]
@[simp] theorem d_len (D : Deal) : D.d.length = 3 := rfl
/-- a list comprehension over typed items, whose turns leave all else as it is -/
theorem lc_okT {α : Type} {T : Tab} {G : Gls} {g : Tg} {c e : E} {vs : List Nat} (f : α → PyData) (h : α → Option PyData) : ∀ (xs : List α) (ρ0 : Ro), (∀ x ∈ xs, LBw T G g c e vs (f x) ρ0 fun o ρ' => o = h x ∧ ρ' = ρ0) → lcF (LB T G g c e vs) (xs.map f) ρ0 = ok (xs.filterMap h, ρ0)
  | [], ρ0, _ => rfl
  | x :: xs, ρ0, hb => by
    have h1 := LB_of (hb x List.mem_cons_self)
    have h2 := lc_okT f h xs ρ0 fun y hy => hb y (List.mem_cons_of_mem _ hy)
    show (do let (o, ρ1) ← LB T G g c e vs (f x) ρ0; let (ys, ρ2) ← lcF (LB T G g c e vs) (xs.map f) ρ1; ok (oCons o ys, ρ2)) = _
    rw [h1]
    show (do let (ys, ρ2) ← lcF (LB T G g c e vs) (xs.map f) ρ0; ok (oCons (h x) ys, ρ2)) = _
    rw [h2]
    cases hh : h x with
    | none => rw [List.filterMap_cons_none hh]; rfl
    | some y => rw [List.filterMap_cons_some hh]; rfl
theorem D_lcT {α : Type} {T : Tab} {G : Gls} {ρ : Ro} {Q : PV → Ro → Prop} {g : Tg} {it c e : E} {vs : List Nat} (f : α → PyData) (h : α → Option PyData)
    (hw : DI T G it ρ fun xs ρ1 => ∃ as : List α, xs = as.map f ∧ wipeOk ρ1 vs = true ∧ (∀ a ∈ as, LBw T G g c e vs (f a) (wipeR ρ1 vs) fun o ρ' => o = h a ∧ ρ' = wipeR ρ1 vs) ∧ as.length ≤ 1000000 ∧ Q (.L (as.filterMap h)) (wipeBack ρ1 (wipeR ρ1 vs) vs)) : D T G (.lc g it c e vs) ρ Q := by
  refine D_lc.mpr ?_
  obtain ⟨xs, ρ1, e1, as, rfl, h1, h2, h3, h4⟩ := hw
  exact ⟨_, ρ1, e1, h1, _, _, lc_okT f h as _ h2, Nat.le_trans (List.length_filterMap_le _ _) h3, h4⟩
/-- .. each item kept, changed -/
theorem D_lcMap {α : Type} {T : Tab} {G : Gls} {ρ : Ro} {Q : PV → Ro → Prop} {g : Tg} {it c e : E} {vs : List Nat} (f : α → PyData) (h : α → PyData)
    (hw : DI T G it ρ fun xs ρ1 => ∃ as : List α, xs = as.map f ∧ wipeOk ρ1 vs = true ∧ (∀ a ∈ as, LBw T G g c e vs (f a) (wipeR ρ1 vs) fun o ρ' => o = some (h a) ∧ ρ' = wipeR ρ1 vs) ∧ as.length ≤ 1000000 ∧ Q (.L (as.map h)) (wipeBack ρ1 (wipeR ρ1 vs) vs)) : D T G (.lc g it c e vs) ρ Q := by
  refine D_lcT f (fun a => some (h a)) ?_
  obtain ⟨xs, ρ1, e1, as, h0, h1, h2, h3, h4⟩ := hw
  refine ⟨xs, ρ1, e1, as, h0, h1, h2, h3, ?_⟩
  rw [show as.filterMap (fun a => some (h a)) = as.map h by rw [← List.filterMap_eq_map]; rfl]
  exact h4
/-- a for over typed items -/
theorem for_typed {α : Type} {T : Tab} {G : Gls} {Q : Fl → Ro → Prop} {g : Tg} {b : S} (f : α → PyData) (P : List α → Ro → Prop) (hn : ∀ ρ, P [] ρ → Q .nx ρ) (hc : ∀ x xs ρ, P (x :: xs) ρ → ∃ ρ2, stTg g (f x) ρ = ok ρ2 ∧ W T G b ρ2 (Tu (P xs) Q)) :
    ∀ (xs : List α) (ρ : Ro), P xs ρ → ∃ f' ρ', forF (fun x ρ => do let ρ2 ← stTg g x ρ; denS T G b ρ2) (xs.map f) ρ = ok (f', ρ') ∧ Q f' ρ' := fun xs ρ h =>
  for_ok (fun items ρ => ∃ xs : List α, items = xs.map f ∧ P xs ρ) (fun ρ ⟨ys, e, p⟩ => by
    cases ys with
    | nil => exact hn ρ p
    | cons _ _ => cases e) (fun x items ρ ⟨ys, e, p⟩ => by
    cases ys with
    | nil => cases e
    | cons y ys =>
      cases e
      obtain ⟨ρ2, h1, f', ρ', h2, h3⟩ := hc y ys ρ p
      refine ⟨ρ2, h1, f', ρ', h2, ?_⟩
      cases f' with
      | nx => exact ⟨ys, rfl, h3⟩
      | ct => exact ⟨ys, rfl, h3⟩
      | bk => exact h3
      | rt x => exact h3) _ _ ⟨xs, rfl, h⟩
/-- a for of so many turns that need not know which -/
theorem for_rng {T : Tab} {G : Gls} {Q : Fl → Ro → Prop} {i : Nat} {b : S} (P : Nat → Ro → Prop) (lo : Int) (n : Nat) (hn : ∀ ρ, P n ρ → Q .nx ρ) (hc : ∀ k ρ, k < n → P k ρ → W T G b (ρ.set i (some (.d (.int (lo + k))))) (Tu (P (k + 1)) Q)) (ρ : Ro) (h : P 0 ρ) :
    ∃ f' ρ', forF (fun x ρ => do let ρ2 ← stTg (.n i) x ρ; denS T G b ρ2) (rngI lo n) ρ = ok (f', ρ') ∧ Q f' ρ' :=
  for_ok (fun items ρ => ∃ k, k ≤ n ∧ items = rngI (lo + k) (n - k) ∧ P k ρ) (fun ρ ⟨k, hk, e, p⟩ => by
    have := rng_nil e.symm
    have : k = n := by omega
    subst this
    exact hn ρ p) (fun x items ρ ⟨k, hk, e, p⟩ => by
    obtain ⟨m, e1, rfl, rfl⟩ := rng_cons e.symm
    refine ⟨_, rfl, ?_⟩
    have := hc k ρ (by omega) p
    obtain ⟨f', ρ', h2, h3⟩ := this
    refine ⟨f', ρ', h2, ?_⟩
    have hx : ∀ ρ, P (k + 1) ρ → ∃ k', k' ≤ n ∧ rngI (lo + k + 1) m = rngI (lo + k') (n - k') ∧ P k' ρ := fun ρ h => ⟨k + 1, by omega, by rw [show n - (k + 1) = m by omega, show lo + ((k + 1 : Nat) : Int) = lo + k + 1 by omega], h⟩
    cases f' with
    | nx => exact hx _ h3
    | ct => exact hx _ h3
    | bk => exact h3
    | rt x => exact h3) _ _ ⟨0, Nat.zero_le _, by simp, h⟩
@[simp] theorem Iop_pt0 {P : Int × Nat} {M : PyData → Prop} : Iop (pt P) (.int 0) M ↔ M (.int P.1) := by simp [pt]
@[simp] theorem Iop_pt1 {P : Int × Nat} {M : PyData → Prop} : Iop (pt P) (.int 1) M ↔ M (.int (P.2 : Int)) := by simp [pt]
@[simp] theorem Iop_mp0 {N : Mp} {M : PyData → Prop} : Iop (mp N) (.int 0) M ↔ M (enc N.1) := by simp [mp]
@[simp] theorem Iop_mp1 {N : Mp} {M : PyData → Prop} : Iop (mp N) (.int 1) M ↔ M (enc N.2) := by simp [mp]
@[simp] theorem lay_pt {P : Int × Nat} : (pt P).canLay0 = true := by simp [pt]
@[simp] theorem lay_mp {N : Mp} : (mp N).canLay0 = true := by simp [mp]
@[simp] theorem eqOk_pt {P : Int × Nat} {u : PyData} : eqOk u (pt P) = u.canLay0 := by unfold pt; exact eqOk_pair
end Rf
set_option maxRecDepth 100000
set_option maxHeartbeats 8000000
namespace Rf
open PySem Res
section
variable {T : Tab} {G : Gls}
variable (T G) in
/-- a statement ends so, or raises so -/
def V (s : S) (ρ : Ro) (Q : Fl → Ro → Prop) (R : Str → PyData → Prop) : Prop := W T G s ρ Q ∨ ((∀ y, denS T G s ρ ≠ ok y) ∧ ∃ c d ρ', denSX T G s ρ = some (c, d, ρ') ∧ R c d)
variable {Q : Fl → Ro → Prop} {R : Str → PyData → Prop} {ρ : Ro}
/-- behind a try whose suite keeps the error -/
def WR (T : Tab) (G : Gls) (c : Str) (d : PyData) (r : RS) (ρ : Ro) (Q : Fl → Ro → Prop) : Prop := ∃ f ρ', denR T G c d r ρ = ok (f, ρ') ∧ Q f ρ'
theorem WR_def {c : Str} {d : PyData} {r : RS} : WR T G c d r ρ Q ↔ ∃ z, denR T G c d r ρ = ok z ∧ Q z.1 z.2 := by unfold WR; rw [pex]
@[simp] theorem WR_asg {c : Str} {d : PyData} {i : Nat} {e : E} {r : RS} : WR T G c d (.asg i e r) ρ Q ↔ D T G e ρ fun x ρ1 => WR T G c d r (ρ1.set i (some x)) Q := by
  rw [WR_def, D_def]; simp only [denR, bex, WR_def]
@[simp] theorem WR_ifr {c : Str} {d : PyData} {h : HX} {v : Bool} {r : RS} : WR T G c d (.ifr h v r) ρ Q ↔ ∃ b, denHX c d h ρ = ok b ∧ if b = true then Q (.rt (.d (.bool v))) ρ else WR T G c d r ρ Q := by
  rw [WR_def]; simp only [denR, bex]
  refine exists_congr fun b => and_congr_right fun _ => ?_
  cases b with
  | true => simp only [if_pos]; exact oex
  | false => simp only [Bool.false_eq_true, if_false]; exact WR_def.symm
@[simp] theorem WR_ret {c : Str} {d : PyData} {h : HX} : WR T G c d (.ret h) ρ Q ↔ ∃ b, denHX c d h ρ = ok b ∧ Q (.rt (.d (.bool b))) ρ := by
  rw [WR_def]; simp only [denR, bex, oex]
end
end Rf
namespace Nd
open Th Pn
def jn (x y : W × W) : Bool := joins x.1 y.1 && joins x.2 y.2
def quiet : List (W × W) → Prop
  | x :: y :: r => jn x y = false ∧ quiet (y :: r)
  | _ => True
def rws (M : Mp) : List (W × W) := (pths M.1).zip (pths M.2)
theorem rws_len {M : Mp} (h : okM M) : (rws M).length = lv M.1 := by
  have h' : lv M.1 = lv M.2 := h
  simp [rws, ← h']
def nd (M : Mp) (k : Nat) : Bool := joins ((pths M.1).getD k []) ((pths M.1).getD (k + 1) []) && joins ((pths M.2).getD k []) ((pths M.2).getD (k + 1) [])
theorem rws_at {M : Mp} (hM : okM M) {k : Nat} (h : k < lv M.1) : (rws M)[k]? = some ((pths M.1).getD k [], (pths M.2).getD k []) := by
  have hM' : lv M.1 = lv M.2 := hM
  have h1 : (pths M.1)[k]? = some ((pths M.1)[k]'(by simpa using h)) := List.getElem?_eq_getElem _
  have h2 : (pths M.2)[k]? = some ((pths M.2)[k]'(by simp; omega)) := List.getElem?_eq_getElem _
  unfold rws
  exact List.getElem?_zip_eq_some.mpr ⟨by simp [List.getD, h1], by simp [List.getD, h2]⟩
end Nd
namespace Pw
open Th Pn Nd
end Pw
namespace Sp
open Th Pn Nd
/-- the stream that ends in one digit for ever -/
def ks (b : Bool) : Sm := fun _ => b
def t01 (b : Bool) : Nat := if b then 1 else 0
/-- the point from the right (false) or from the left (true) -/
def ps (b : Bool) (u : W) : Int × Nat := low ((bin u : Int) + t01 b) u.length
/-- within a stretch, or at that end of it that counts -/
def Hx (b : Bool) (w : W) (P : Int × Nat) : Prop :=
  if b then (bin w : Int) * 2 ^ P.2 < P.1 * 2 ^ w.length ∧ P.1 * 2 ^ w.length ≤ ((bin w : Int) + 1) * 2 ^ P.2
  else (bin w : Int) * 2 ^ P.2 ≤ P.1 * 2 ^ w.length ∧ P.1 * 2 ^ w.length < ((bin w : Int) + 1) * 2 ^ P.2
instance (b : Bool) (w : W) (P : Int × Nat) : Decidable (Hx b w P) := by unfold Hx; infer_instance
/-- how a map pulls about a stream -/
def St (φ : Sm → Sm) (x : Sm) (s : Int) : Prop := ∃ u u' z, x = app u z ∧ (∀ y, φ (app u y) = app u' y) ∧ s = (u.length : Int) - u'.length
/-- how steep at both sides: as the walk along the rows finds it -/
def upd (P : Int × Nat) (acc : Option Int × Option Int) (x : W × W) : Option Int × Option Int :=
  (if Hx true x.1 P then some ((x.1.length : Int) - x.2.length) else acc.1, if Hx false x.1 P then some ((x.1.length : Int) - x.2.length) else acc.2)
end Sp
set_option maxRecDepth 100000
set_option maxHeartbeats 4000000
namespace Rf
open PySem Res Th
@[simp] theorem Vop_starts {x y : Str} {K : PV → Prop} : Vop .startswith (.str x) [.str y] K ↔ K (.d (.bool (Txt.startswith x y))) := oex
@[simp] theorem Uop_intB {b : Bool} {K : PV → Prop} : Uop .int [.bool b] K ↔ K (.d (.int (if b then 1 else 0))) := oex
end Rf
namespace Bd
open Th Pn Nd
abbrev Pt := Int × Int
theorem mulc {a b c : Int} (h : 0 < c) (e : a * c = b * c) : a = b := Int.eq_of_mul_eq_mul_right (by omega) e
def pn (D : Nat) (x : W × W) : Pt := ((bin x.1 : Int) * 2 ^ (D - x.1.length), (bin x.2 : Int) * 2 ^ (D - x.2.length))
def prs (D : Nat) (M : Mp) : List Pt := (rws M).map (pn D) ++ [(2 ^ D, 2 ^ D)]
theorem pw2 (n : Nat) : (0 : Int) < 2 ^ n := Int.pow_pos (by decide)
/-- where the next leaf begins -/
theorem next_at {t : Tr} {D k : Nat} (hD : hg t ≤ D) {w : W} (h : (pths t)[k]? = some w) :
    (∀ w', (pths t)[k + 1]? = some w' → (bin w' : Int) * 2 ^ (D - w'.length) = (bin w : Int) * 2 ^ (D - w.length) + 2 ^ (D - w.length)) ∧ (k + 1 = lv t → (2 : Int) ^ D = (bin w : Int) * 2 ^ (D - w.length) + 2 ^ (D - w.length)) := by
  obtain ⟨a1, a2, _⟩ := abut t k w h
  have hw := pths_hg t w (List.mem_of_getElem? h)
  refine ⟨fun w' h' => ?_, fun he => ?_⟩
  · have hw' := pths_hg t w' (List.mem_of_getElem? h')
    have e := a1 w' h'
    have e' : ((bin w : Int) + 1) * 2 ^ w'.length = (bin w' : Int) * 2 ^ w.length := by exact_mod_cast e
    refine mulc (pw2 (w.length + w'.length)) ?_
    have e1 : (2 : Int) ^ (D - w'.length) * 2 ^ (w.length + w'.length) = 2 ^ D * 2 ^ w.length := by
      rw [← Int.pow_add, ← Int.pow_add]; congr 1; omega
    have e2 : (2 : Int) ^ (D - w.length) * 2 ^ (w.length + w'.length) = 2 ^ D * 2 ^ w'.length := by
      rw [← Int.pow_add, ← Int.pow_add]; congr 1; omega
    calc (bin w' : Int) * 2 ^ (D - w'.length) * 2 ^ (w.length + w'.length) = bin w' * (2 ^ (D - w'.length) * 2 ^ (w.length + w'.length)) := Int.mul_assoc ..
      _ = (bin w' * 2 ^ w.length) * 2 ^ D := by rw [e1]; grind
      _ = ((bin w + 1) * 2 ^ w'.length) * 2 ^ D := by rw [e']
      _ = (bin w + 1) * (2 ^ D * 2 ^ w'.length) := by grind
      _ = (bin w + 1) * (2 ^ (D - w.length) * 2 ^ (w.length + w'.length)) := by rw [e2]
      _ = _ := by grind
  · have e := a2 he
    have e' : (bin w : Int) + 1 = 2 ^ w.length := by exact_mod_cast e
    have e1 : (2 : Int) ^ D = 2 ^ w.length * 2 ^ (D - w.length) := by rw [← Int.pow_add]; congr 1; omega
    rw [e1, ← e', Int.add_mul, Int.one_mul]
def dpt (M : Mp) : Nat := max (hg M.1) (hg M.2)
theorem prs_at {M : Mp} (hM : okM M) {D k : Nat} (hD : dpt M ≤ D) {w v : W} (h1 : (pths M.1)[k]? = some w) (h2 : (pths M.2)[k]? = some v) :
    (prs D M)[k]? = some (pn D (w, v)) ∧ (prs D M)[k + 1]? = some ((bin w : Int) * 2 ^ (D - w.length) + 2 ^ (D - w.length), (bin v : Int) * 2 ^ (D - v.length) + 2 ^ (D - v.length)) := by
  have hM' : lv M.1 = lv M.2 := hM
  have hk : k < lv M.1 := by rw [← pths_len]; exact (List.getElem?_eq_some_iff.mp h1).1
  have lr := rws_len hM
  have g1 := next_at (D := D) (by unfold dpt at hD; omega) h1
  have g2 := next_at (D := D) (by unfold dpt at hD; omega) h2
  have r0 : (rws M)[k]? = some (w, v) := by rw [rws_at hM hk]; simp [List.getD, h1, h2]
  refine ⟨?_, ?_⟩
  · unfold prs
    rw [List.getElem?_append_left (by simp; omega), List.getElem?_map, r0]
    rfl
  · unfold prs
    by_cases he : k + 1 = lv M.1
    · rw [List.getElem?_append_right (by simp; omega)]
      simp only [List.length_map, lr, he, Nat.sub_self, List.getElem?_cons_zero]
      rw [← g1.2 he, ← g2.2 (by omega)]
    · have r1 := rws_at hM (k := k + 1) (by omega)
      obtain ⟨w', hw'⟩ : ∃ w', (pths M.1)[k + 1]? = some w' := ⟨_, List.getElem?_eq_getElem (by rw [pths_len]; omega)⟩
      obtain ⟨v', hv'⟩ : ∃ v', (pths M.2)[k + 1]? = some v' := ⟨_, List.getElem?_eq_getElem (by rw [pths_len]; omega)⟩
      rw [List.getElem?_append_left (by simp; omega), List.getElem?_map, r1]
      simp only [List.getD, hw', hv', Option.getD_some, Option.map_some, pn]
      rw [g1.1 w' hw', g2.1 v' hv']
theorem prs_len {M : Mp} (hM : okM M) (D : Nat) : (prs D M).length = lv M.1 + 1 := by simp [prs, rws_len hM]
end Bd
namespace Bd
open Th Pn Nd
def sc (D : Nat) (P : Int × Nat) : Int := P.1 * 2 ^ (D - P.2)
theorem sc_low {n : Int} {d D : Nat} (h : d ≤ D) : sc D (low n d) = n * 2 ^ (D - d) := by
  have h1 := low_val d n
  have h2 := (low_le d n).1
  unfold sc
  conv => rhs; rw [← h1]
  rw [Int.mul_assoc, ← Int.pow_add]
  congr 2
  omega
theorem sc_inj {D : Nat} {P Q : Int × Nat} (hP : IsP P) (hQ : IsP Q) (h1 : P.2 ≤ D) (h2 : Q.2 ≤ D) (h : sc D P = sc D Q) : P = Q := by
  have e1 := low_shift P.1 P.2 (D - P.2)
  have e2 := low_shift Q.1 Q.2 (D - Q.2)
  rw [isP_low hP, show P.2 + (D - P.2) = D by omega] at e1
  rw [isP_low hQ, show Q.2 + (D - Q.2) = D by omega] at e2
  unfold sc at h
  rw [← e1, ← e2, h]
theorem prs_cons {M : Mp} (hM : okM M) {D : Nat} (hD : dpt M ≤ D) : ∃ q l, prs D M = (0, 0) :: q :: l := by
  have hM' : lv M.1 = lv M.2 := hM
  have lp := lv_pos M.1
  have hl := prs_len hM D
  obtain ⟨w, hw⟩ : ∃ w, (pths M.1)[0]? = some w := ⟨_, List.getElem?_eq_getElem (by rw [pths_len]; omega)⟩
  obtain ⟨v, hv⟩ : ∃ v, (pths M.2)[0]? = some v := ⟨_, List.getElem?_eq_getElem (by rw [pths_len]; omega)⟩
  have h0 := (prs_at hM hD hw hv).1
  have b1 := (abut _ _ _ hw).2.2 rfl
  have b2 := (abut _ _ _ hv).2.2 rfl
  match hp : prs D M with
  | [] => rw [hp] at hl; simp at hl
  | [_] => rw [hp] at hl; simp at hl; omega
  | p :: q :: l =>
    rw [hp] at h0
    simp [pn, b1, b2] at h0
    exact ⟨q, l, by rw [h0]⟩
theorem and_low (a : Nat) : ∀ k : Nat, ((2 * a + 1) * 2 ^ k) &&& ((2 * a + 1) * 2 ^ k - 1) = (2 * a + 1) * 2 ^ k - 2 ^ k
  | 0 => by
    simp only [Nat.pow_zero, Nat.mul_one, Nat.add_sub_cancel]
    refine Nat.eq_of_testBit_eq fun i => ?_
    rw [Nat.testBit_and]
    cases i with
    | zero => simp [Nat.testBit_zero]
    | succ i => simp [Nat.testBit_succ]; rw [show (2 * a + 1) / 2 = a by omega]; simp
  | k + 1 => by
    have ih := and_low a k
    have p : 0 < 2 ^ k := Nat.two_pow_pos k
    have hp : 2 ^ k ≤ (2 * a + 1) * 2 ^ k := Nat.le_mul_of_pos_left _ (by omega)
    have e : (2 * a + 1) * 2 ^ (k + 1) = 2 * ((2 * a + 1) * 2 ^ k) := by rw [Nat.pow_succ]; grind
    rw [e, show 2 ^ (k + 1) = 2 * 2 ^ k by rw [Nat.pow_succ]; omega]
    generalize (2 * a + 1) * 2 ^ k = m at *
    generalize 2 ^ k = z at *
    refine Nat.eq_of_testBit_eq fun i => ?_
    rw [Nat.testBit_and]
    cases i with
    | zero => simp [Nat.testBit_zero]; omega
    | succ i =>
      rw [Nat.testBit_succ, Nat.testBit_succ, Nat.testBit_succ, show 2 * m / 2 = m by omega, show (2 * m - 1) / 2 = m - 1 by omega, show (2 * m - 2 * z) / 2 = m - z by omega, ← ih, Nat.testBit_and]
end Bd
set_option maxRecDepth 100000
set_option maxHeartbeats 8000000
namespace K40
open PySem Rf
def f_point_B1 : S := .seq (.asg 0 (.bin .FloorDiv (.nm 0) (.int 2))) (.seq (.aug 1 .Sub (.int 1)) (.nil))
def f_point_L1 : S := .whl (.and (.cmp .Gt (.nm 1) (.int 0)) (.cmp .Eq (.bin .Mod (.nm 0) (.int 2)) (.int 0))) f_point_B1
def f_point_R1 : S := .seq (.ret (.tup (.cons (.nm 0) (.cons (.nm 1) (.nil))))) (.nil)
def f_point : Fn := ⟨"point", ["n", "d"], 2, [], .seq (f_point_L1) (f_point_R1)⟩
def f_stretches : Fn := ⟨"stretches", ["tree", "n", "d"], 3, [], .seq (.ife (.cmp .Eq (.nm 0) (.tup (.nil))) (.seq (.ret (.frz (.lst (.cons (.tup (.cons (.call 0 (.cons (.nm 1) (.cons (.nm 2) (.nil)))) (.cons (.nm 2) (.nil)))) (.nil))))) (.nil)) (.nil)) (.seq (.ret (.frz (.bin .Add (.call 1 (.cons (.ix (.nm 0) (.int 0)) (.cons (.bin .Mult (.int 2) (.nm 1)) (.cons (.bin .Add (.nm 2) (.int 1)) (.nil))))) (.call 1 (.cons (.ix (.nm 0) (.int 1)) (.cons (.bin .Add (.bin .Mult (.int 2) (.nm 1)) (.int 1)) (.cons (.bin .Add (.nm 2) (.int 1)) (.nil)))))))) (.nil))⟩
def f_begins : Fn := ⟨"begins", ["tree"], 1, [], .seq (.ret (.call 1 (.cons (.nm 0) (.cons (.int 0) (.cons (.int 0) (.nil)))))) (.nil)⟩
def f_rests_B1 : S := .seq (.ife (.and (.cmp .Eq (.nm 2) (.nm 4)) (.cmp .Eq (.nm 3) (.nm 5))) (.seq (.asg 6 (.call 0 (.cons (.bin .Add (.bin .LShift (.ix (.nm 2) (.int 0)) (.bin .Sub (.nm 3) (.ix (.nm 2) (.int 1)))) (.int 1)) (.cons (.nm 3) (.nil))))) (.seq (.ife (.bw (.and (.cmp .NotEq (.nm 1) (.lst (.nil))) (.cmp .Eq (.ix (.ix (.nm 1) (.neg (.int 1))) (.int 1)) (.nm 2)))) (.seq (.setP (.s 1) (.neg (.int 1)) (.tup (.cons (.ix (.ixP (.s 1) (.neg (.int 1))) (.int 0)) (.cons (.nm 6) (.nil))))) (.nil)) (.seq (.ex (.mt .append (.s 1) (.cons (.tup (.cons (.nm 2) (.cons (.nm 6) (.nil)))) (.nil)))) (.nil))) (.nil))) (.nil)) (.nil)
def f_rests_L1 : S := .for_ (.cons (.cons (.n 2) (.cons (.n 3) (.nil))) (.cons (.cons (.n 4) (.cons (.n 5) (.nil))) (.nil))) (.itZip (.call 2 (.cons (.ix (.nm 0) (.int 0)) (.nil))) (.call 2 (.cons (.ix (.nm 0) (.int 1)) (.nil)))) f_rests_B1
def f_rests_R1 : S := .seq (.ret (.mv 1)) (.nil)
def f_rests : Fn := ⟨"rests", ["mapped", "found", "p", "d", "q", "e", "end"], 1, [], .seq (.asg 1 (.lst (.nil))) (.seq (f_rests_L1) (f_rests_R1))⟩
def f_law_mixed_J1 : S := .seq (.asg 3 (.bin .Mod (.nm 3) (.int 2147483647))) (.seq (.asg 3 (.bin .Add (.bin .Mult (.bin .Mod (.bin .Mult (.nm 3) (.nm 3)) (.int 2147483629)) (.int 16807)) (.bin .Mult (.int 31) (.nm 2)))) (.seq (.ret (.bin .FloorDiv (.bin .Mod (.bin .Mult (.nm 3) (.nm 3)) (.int 2147483587)) (.int 64))) (.nil)))
def f_law_mixed : Fn := ⟨"_law_mixed", ["_law_script", "_law_at", "_law_k", "_law_number"], 3, [], .seq (.asg 3 (.bin .Add (.bin .Add (.bin .Mult (.int 7919) (.nm 2)) (.bin .Mult (.int 104729) (.nm 1))) (.int 5))) (.seq (.ife (.cmp .Gt (.bi .len (.cons (.nm 0) (.nil))) (.int 0)) (.seq (.asg 3 (.bin .Add (.nm 3) (.bin .Mult (.ix (.nm 0) (.bin .Mod (.bin .Add (.nm 1) (.nm 2)) (.bi .len (.cons (.nm 0) (.nil))))) (.int 48271)))) (.nil)) (.nil)) (f_law_mixed_J1))⟩
def f_law_draws_B1 : S := .seq (.ex (.mt .append (.s 4) (.cons (.bin .Mod (.nm 5) (.nm 3)) (.nil)))) (.seq (.asg 5 (.bin .FloorDiv (.nm 5) (.nm 3))) (.nil))
def f_law_draws_L1 : S := .whl (.and (.cmp .Lt (.lenP (.s 4)) (.nm 2)) (.cmp .Gt (.nm 5) (.int 0))) f_law_draws_B1
def f_law_draws_B2 : S := .seq (.ex (.mt .append (.s 4) (.cons (.bin .Mod (.call 4 (.cons (.nm 0) (.cons (.nm 1) (.cons (.lenP (.s 4)) (.nil))))) (.nm 3)) (.nil)))) (.nil)
def f_law_draws_L2 : S := .whl (.cmp .Lt (.lenP (.s 4)) (.nm 2)) f_law_draws_B2
def f_law_draws_R2 : S := .seq (.ret (.fz 4)) (.nil)
def f_law_draws_R1 : S := .seq (f_law_draws_L2) (f_law_draws_R2)
def f_law_draws_J1 : S := .seq (f_law_draws_L1) (f_law_draws_R1)
def f_law_draws : Fn := ⟨"_law_draws", ["_law_script", "_law_at", "_law_many", "_law_m", "_law_found", "_law_rest"], 4, [], .seq (.asg 4 (.lst (.nil))) (.seq (.asg 5 (.int 0)) (.seq (.ife (.and (.cmp .Lt (.nm 1) (.bi .len (.cons (.nm 0) (.nil)))) (.cmp .GtE (.bi .abs (.cons (.ix (.nm 0) (.nm 1)) (.nil))) (.bin .Pow (.int 10) (.int 18)))) (.seq (.asg 5 (.bi .abs (.cons (.ix (.nm 0) (.nm 1)) (.nil)))) (.nil)) (.nil)) (f_law_draws_J1)))⟩
def f_law_grown_B2 : S := .seq (.asg 5 (.bin .Mod (.bin .Add (.nm 5) (.int 1)) (.bi .len (.cons (.nm 2) (.nil))))) (.nil)
def f_law_grown_L2 : S := .whl (.cmp .Gt (.ix (.nm 2) (.nm 5)) (.int 39)) f_law_grown_B2
def f_law_grown_R2 : S := .seq (.asg 2 (.frz (.bin .Add (.bin .Add (.sl (.nm 2) (.non) (.nm 5)) (.lst (.cons (.bin .Add (.ix (.nm 2) (.nm 5)) (.int 1)) (.cons (.bin .Add (.ix (.nm 2) (.nm 5)) (.int 1)) (.nil))))) (.sl (.nm 2) (.bin .Add (.nm 5) (.int 1)) (.non))))) (.seq (.asg 3 (.nm 5)) (.nil))
def f_law_grown_J1 : S := .seq (f_law_grown_L2) (f_law_grown_R2)
def f_law_grown_B1 : S := .seq (.asg 5 (.bin .Mod (.nm 4) (.bi .len (.cons (.nm 2) (.nil))))) (.seq (.ife (.cmp .Eq (.nm 1) (.int 5)) (.seq (.asg 5 (.bin .Mod (.bin .Add (.nm 3) (.bin .Mod (.nm 4) (.int 2))) (.bi .len (.cons (.nm 2) (.nil))))) (.nil)) (.seq (.ife (.cmp .Eq (.nm 1) (.int 6)) (.seq (.asg 5 (.bin .Sub (.bi .len (.cons (.nm 2) (.nil))) (.int 1))) (.nil)) (.seq (.ife (.cmp .Eq (.nm 1) (.int 7)) (.seq (.asg 5 (.int 0)) (.nil)) (.nil)) (.nil))) (.nil))) (f_law_grown_J1))
def f_law_grown_L1 : S := .for_ (.n 4) (.itL (.nm 0)) f_law_grown_B1
def f_law_grown_R1 : S := .seq (.ret (.nm 2)) (.nil)
def f_law_grown : Fn := ⟨"_law_grown", ["_law_digits", "_law_shape", "_law_depths", "_law_last", "_law_d", "_law_k"], 2, [], .seq (.asg 2 (.frz (.lst (.cons (.int 0) (.nil))))) (.seq (.asg 3 (.int 0)) (.seq (f_law_grown_L1) (f_law_grown_R1)))⟩
def f_law_tree_B2 : S := .seq (.unp (.cons (.n 3) (.cons (.n 4) (.nil))) (.mt .pop (.s 1) (.nil))) (.seq (.unp (.cons (.n 3) (.cons (.n 5) (.nil))) (.mt .pop (.s 1) (.nil))) (.seq (.ex (.mt .append (.s 1) (.cons (.tup (.cons (.bin .Sub (.nm 3) (.int 1)) (.cons (.tup (.cons (.nm 5) (.cons (.nm 4) (.nil)))) (.nil)))) (.nil)))) (.nil)))
def f_law_tree_L2 : S := .whl (.and (.cmp .Gt (.lenP (.s 1)) (.int 1)) (.cmp .Eq (.ix (.ixP (.s 1) (.neg (.int 2))) (.int 0)) (.ix (.ixP (.s 1) (.neg (.int 1))) (.int 0)))) f_law_tree_B2
def f_law_tree_B1 : S := .seq (.ex (.mt .append (.s 1) (.cons (.tup (.cons (.nm 2) (.cons (.tup (.nil)) (.nil)))) (.nil)))) (.seq (f_law_tree_L2) (.nil))
def f_law_tree_L1 : S := .for_ (.n 2) (.itL (.nm 0)) f_law_tree_B1
def f_law_tree_R1 : S := .seq (.ret (.ix (.ix (.fz 1) (.int 0)) (.int 1))) (.nil)
def f_law_tree : Fn := ⟨"_law_tree", ["_law_depths", "_law_stack", "_law_d", "_law_deep", "_law_right", "_law_left"], 1, [], .seq (.asg 1 (.lst (.nil))) (.seq (f_law_tree_L1) (f_law_tree_R1))⟩
def f_law_lists_J1 : S := .seq (.asg 4 (.frz (.sl (.call 5 (.cons (.nm 0) (.cons (.nm 1) (.cons (.bin .Add (.int 2) (.bin .Mult (.int 2) (.nm 3))) (.cons (.int 60) (.nil)))))) (.int 2) (.non)))) (.seq (.ret (.tup (.cons (.call 6 (.cons (.frz (.sl (.nm 4) (.non) (.nm 3))) (.cons (.bin .FloorDiv (.nm 6) (.int 8)) (.nil)))) (.cons (.call 6 (.cons (.frz (.sl (.nm 4) (.nm 3) (.non))) (.cons (.bin .Mod (.bin .Mult (.bin .FloorDiv (.nm 6) (.int 8)) (.int 3)) (.int 8)) (.nil)))) (.nil))))) (.nil))
def f_law_lists : Fn := ⟨"_law_lists", ["_law_script", "_law_at", "_law_most", "_law_many", "_law_rest", "_law_size", "_law_shape"], 3, [], .seq (.unp (.cons (.n 5) (.cons (.n 6) (.nil))) (.call 5 (.cons (.nm 0) (.cons (.nm 1) (.cons (.int 2) (.cons (.int 60) (.nil))))))) (.seq (.asg 3 (.bi .min (.cons (.bin .Mod (.nm 5) (.int 12)) (.cons (.nm 2) (.nil))))) (.seq (.ife (.cmp .Eq (.bin .Mod (.nm 6) (.int 8)) (.int 1)) (.seq (.asg 3 (.bin .Mod (.nm 5) (.bin .Add (.nm 2) (.int 1)))) (.nil)) (.nil)) (f_law_lists_J1)))⟩
def f_law_bumped : Fn := ⟨"_law_bumped", ["_law_lists_here", "_law_digits", "_law_k", "_law_size", "_law_base", "_law_top", "_law_one", "_law_other", "_law_d"], 2, [], .seq (.unp (.cons (.n 6) (.cons (.n 7) (.nil))) (.nm 0)) (.seq (.asg 2 (.bin .Mod (.ix (.nm 1) (.int 0)) (.bi .len (.cons (.nm 6) (.nil))))) (.seq (.asg 3 (.bin .Add (.int 1) (.bin .Mod (.ix (.nm 1) (.int 1)) (.int 5)))) (.seq (.ife (.or (.cmp .Gt (.bin .Add (.bi .len (.cons (.nm 6) (.nil))) (.nm 3)) (.int 60)) (.cmp .Gt (.bin .Add (.bi .max (.cons (.ix (.nm 6) (.nm 2)) (.cons (.ix (.nm 7) (.nm 2)) (.nil)))) (.nm 3)) (.int 40))) (.seq (.ret (.nm 0)) (.nil)) (.nil)) (.seq (.asg 4 (.frz (.lc (.n 8) (.itL (.call 6 (.cons (.frz (.sl (.nm 1) (.int 2) (.bin .Add (.int 2) (.nm 3)))) (.cons (.int 0) (.nil))))) (.bl true) (.bin .Add (.ix (.nm 6) (.nm 2)) (.nm 8)) [8]))) (.seq (.asg 5 (.frz (.lc (.n 8) (.itL (.call 6 (.cons (.frz (.sl (.nm 1) (.int 7) (.bin .Add (.int 7) (.nm 3)))) (.cons (.int 0) (.nil))))) (.bl true) (.bin .Add (.ix (.nm 7) (.nm 2)) (.nm 8)) [8]))) (.seq (.ret (.tup (.cons (.bin .Add (.bin .Add (.sl (.nm 6) (.non) (.nm 2)) (.nm 4)) (.sl (.nm 6) (.bin .Add (.nm 2) (.int 1)) (.non))) (.cons (.bin .Add (.bin .Add (.sl (.nm 7) (.non) (.nm 2)) (.nm 5)) (.sl (.nm 7) (.bin .Add (.nm 2) (.int 1)) (.non))) (.nil))))) (.nil)))))))⟩
def f_law_pairs_of_B1 : S := .seq (.unp (.cons (.n 5) (.cons (.n 6) (.nil))) (.ixP (.s 2) (.neg (.int 1)))) (.seq (.ex (.mt .append (.s 2) (.cons (.tup (.cons (.bin .Add (.nm 5) (.bin .RShift (.nm 1) (.nm 3))) (.cons (.bin .Add (.nm 6) (.bin .RShift (.nm 1) (.nm 4))) (.nil)))) (.nil)))) (.nil))
def f_law_pairs_of_L1 : S := .for_ (.cons (.n 3) (.cons (.n 4) (.nil))) (.itZip (.ix (.nm 0) (.int 0)) (.ix (.nm 0) (.int 1))) f_law_pairs_of_B1
def f_law_pairs_of_R1 : S := .seq (.ret (.fz 2)) (.nil)
def f_law_pairs_of : Fn := ⟨"_law_pairs_of", ["_law_lists_here", "_law_unit", "_law_pairs", "_law_d", "_law_e", "_law_x", "_law_y"], 1, [], .seq (.asg 1 (.bin .LShift (.int 1) (.int 400))) (.seq (.asg 2 (.lst (.cons (.tup (.cons (.int 0) (.cons (.int 0) (.nil)))) (.nil)))) (.seq (f_law_pairs_of_L1) (f_law_pairs_of_R1)))⟩
def f_law_drawn_B1 : S := .seq (.asg 1 (.call 9 (.cons (.nm 1) (.cons (.frz (.sl (.nm 2) (.bin .Add (.int 2) (.bin .Mult (.int 12) (.nm 3))) (.bin .Add (.int 14) (.bin .Mult (.int 12) (.nm 3))))) (.nil))))) (.nil)
def f_law_drawn_L1 : S := .for_ (.n 3) (.itR1 (.bin .Mod (.ix (.nm 2) (.int 1)) (.int 5))) f_law_drawn_B1
def f_law_drawn_R1 : S := .seq (.ret (.nm 1)) (.nil)
def f_law_drawn : Fn := ⟨"_law_drawn", ["_law_script", "_law_lists_here", "_law_way", "_law_k"], 1, [], .seq (.asg 1 (.call 8 (.cons (.nm 0) (.cons (.int 0) (.cons (.int 59) (.nil)))))) (.seq (.asg 2 (.call 5 (.cons (.nm 0) (.cons (.int 1) (.cons (.int 50) (.cons (.int 60) (.nil))))))) (.seq (.ife (.cmp .Eq (.bin .Mod (.ix (.nm 2) (.int 0)) (.int 2)) (.int 0)) (.seq (.ret (.nm 1)) (.nil)) (.nil)) (.seq (.asg 1 (.tup (.cons (.ix (.nm 1) (.int 0)) (.cons (.ix (.nm 1) (.int 0)) (.nil))))) (.seq (f_law_drawn_L1) (f_law_drawn_R1)))))⟩
def f_law_point : Fn := ⟨"_law_point", ["_law_x", "_law_least"], 1, [], .seq (.ife (.cmp .Eq (.nm 0) (.int 0)) (.seq (.ret (.tup (.cons (.int 0) (.cons (.int 0) (.nil))))) (.nil)) (.nil)) (.seq (.asg 1 (.bin .BitAnd (.nm 0) (.neg (.nm 0)))) (.seq (.ret (.tup (.cons (.bin .FloorDiv (.nm 0) (.nm 1)) (.cons (.bin .Sub (.int 401) (.op1 .bitl (.nm 1))) (.nil))))) (.nil)))⟩
def f_law_due_J1 : S := .seq (.ex (.mt .append (.s 1) (.cons (.ix (.ix (.nm 2) (.bin .Add (.nm 4) (.int 1))) (.int 0)) (.nil)))) (.nil)
def f_law_due_B1 : S := .seq (.unp (.cons (.n 7) (.cons (.n 8) (.nil))) (.ix (.nm 2) (.nm 4))) (.seq (.ife (.and (.cmp .Eq (.nm 7) (.nm 8)) (.cmp .Eq (.nm 5) (.nm 6))) (.seq (.ife (.and (.cmp .Gt (.lenP (.s 1)) (.int 0)) (.cmp .Eq (.ixP (.s 1) (.neg (.int 1))) (.nm 7))) (.seq (.ex (.mt .pop (.s 1) (.nil))) (.nil)) (.seq (.ex (.mt .append (.s 1) (.cons (.nm 7) (.nil)))) (.nil))) (f_law_due_J1)) (.nil)) (.nil))
def f_law_due_L1 : S := .for_ (.cons (.n 4) (.cons (.cons (.n 5) (.cons (.n 6) (.nil))) (.nil))) (.itEnZ (.ix (.nm 0) (.int 0)) (.ix (.nm 0) (.int 1))) f_law_due_B1
def f_law_due_R1 : S := .seq (.asg 3 (.frz (.lc (.n 7) (.itL (.fz 1)) (.bl true) (.call 12 (.cons (.nm 7) (.nil))) [7]))) (.seq (.ret (.frz (.op2 .zipL (.evn false (.nm 3)) (.evn true (.nm 3))))) (.nil))
def f_law_due : Fn := ⟨"_law_due", ["_law_lists_here", "_law_marks", "_law_pairs", "_law_points", "_law_k", "_law_d", "_law_e", "_law_x", "_law_y"], 1, [], .seq (.asg 1 (.lst (.nil))) (.seq (.asg 2 (.call 10 (.cons (.nm 0) (.nil)))) (.seq (f_law_due_L1) (f_law_due_R1)))⟩
def f_law_whole_B3 : S := .seq (.ife (.or (.not (.isi (.nm 3) .int)) (.isi (.nm 3) .bool)) (.seq (.ret (.bl false)) (.nil)) (.nil)) (.nil)
def f_law_whole_L3 : S := .for_ (.n 3) (.itL (.nm 2)) f_law_whole_B3
def f_law_whole_B2 : S := .seq (.ife (.or (.not (.isi (.nm 2) .tuple)) (.cmp .NotEq (.bi .len (.cons (.nm 2) (.nil))) (.int 2))) (.seq (.ret (.bl false)) (.nil)) (.nil)) (.seq (f_law_whole_L3) (.nil))
def f_law_whole_L2 : S := .for_ (.n 2) (.itL (.nm 1)) f_law_whole_B2
def f_law_whole_B1 : S := .seq (.ife (.or (.not (.isi (.nm 1) .tuple)) (.cmp .NotEq (.bi .len (.cons (.nm 1) (.nil))) (.int 2))) (.seq (.ret (.bl false)) (.nil)) (.nil)) (.seq (f_law_whole_L2) (.nil))
def f_law_whole_L1 : S := .for_ (.n 1) (.itL (.nm 0)) f_law_whole_B1
def f_law_whole_R1 : S := .seq (.ret (.bl true)) (.nil)
def f_law_whole : Fn := ⟨"_law_whole", ["_law_found", "_law_stretch", "_law_p", "_law_n"], 1, [], .seq (f_law_whole_L1) (f_law_whole_R1)⟩
def f_law : Fn := ⟨"law", ["_law_script", "_law_lists_here", "_law_f", "_law_due_here", "_law_found", "_law_other"], 1, [], .seq (.asg 1 (.call 11 (.cons (.nm 0) (.nil)))) (.seq (.asg 2 (.tup (.cons (.call 7 (.cons (.ix (.nm 1) (.int 0)) (.nil))) (.cons (.call 7 (.cons (.ix (.nm 1) (.int 1)) (.nil))) (.nil))))) (.seq (.asg 3 (.call 13 (.cons (.nm 1) (.nil)))) (.seq (.asg 4 (.call 3 (.cons (.nm 2) (.nil)))) (.seq (.ife (.bw (.or (.not (.isi (.nm 4) .list)) (.or (.cmp .NotEq (.nm 4) (.nm 3)) (.not (.call 14 (.cons (.nm 4) (.nil))))))) (.seq (.ret (.bl false)) (.nil)) (.nil)) (.seq (.ex (.mt .append (.s 4) (.cons (.tup (.cons (.tup (.cons (.int 0) (.cons (.int 0) (.nil)))) (.cons (.tup (.cons (.int 1) (.cons (.int 0) (.nil)))) (.nil)))) (.nil)))) (.seq (.ex (.mt .reverse (.s 4) (.nil))) (.seq (.asg 5 (.frz (.call 3 (.cons (.tup (.cons (.ix (.nm 2) (.int 1)) (.cons (.ix (.nm 2) (.int 0)) (.nil)))) (.nil))))) (.seq (.ret (.and (.cmp .Eq (.call 3 (.cons (.nm 2) (.nil))) (.nm 3)) (.cmp .Eq (.nm 5) (.nm 3)))) (.nil)))))))))⟩
def prg : Prg := [f_point, f_stretches, f_begins, f_rests, f_law_mixed, f_law_draws, f_law_grown, f_law_tree, f_law_lists, f_law_bumped, f_law_pairs_of, f_law_drawn, f_law_point, f_law_due, f_law_whole, f_law]
def G : Gls := fun _ => none
theorem trysOk {mg : Str → Option Value} (h : True) : ∀ k ∈ trysOf prg, ∃ D, mg k = some (.ref D) := by
  obtain ⟨_⟩ := h
  have e : ∀ k ∈ trysOf prg, k ∈ ([] : List Str) := by decide +kernel
  intro k hk
  have hk := e k hk
  simp only [List.mem_cons, List.not_mem_nil, or_false] at hk
theorem errsOk {K : Frag} {mg : Str → Option Value} (h : True) : ∀ c ∈ errsOf prg, ∃ C, ExAt K mg c C := by
  obtain ⟨_⟩ := h
  have e : ∀ k ∈ errsOf prg, k ∈ ([] : List Str) := by decide +kernel
  intro k hk
  have hk := e k hk
  simp only [List.mem_cons, List.not_mem_nil, or_false] at hk
def topS (i : Nat) : Stmt := PySem.Challenge.pw_halvewright_k40_whole_where_a_map_rests.main.body.getD i (.Pass ⟨0, 0, 0, 0⟩)
theorem c_point : chkF prg f_point (topS 1) = true := by decide +kernel
theorem c_stretches : chkF prg f_stretches (topS 3) = true := by decide +kernel
theorem c_begins : chkF prg f_begins (topS 4) = true := by decide +kernel
theorem c_rests : chkF prg f_rests (topS 6) = true := by decide +kernel
theorem c_law_mixed : chkF prg f_law_mixed (topS 8) = true := by decide +kernel
theorem c_law_draws : chkF prg f_law_draws (topS 9) = true := by decide +kernel
theorem c_law_grown : chkF prg f_law_grown (topS 10) = true := by decide +kernel
theorem c_law_tree : chkF prg f_law_tree (topS 11) = true := by decide +kernel
theorem c_law_lists : chkF prg f_law_lists (topS 12) = true := by decide +kernel
theorem c_law_bumped : chkF prg f_law_bumped (topS 13) = true := by decide +kernel
theorem c_law_pairs_of : chkF prg f_law_pairs_of (topS 14) = true := by decide +kernel
theorem c_law_drawn : chkF prg f_law_drawn (topS 15) = true := by decide +kernel
theorem c_law_point : chkF prg f_law_point (topS 16) = true := by decide +kernel
theorem c_law_due : chkF prg f_law_due (topS 17) = true := by decide +kernel
theorem c_law_whole : chkF prg f_law_whole (topS 18) = true := by decide +kernel
theorem c_law : chkF prg f_law (topS 19) = true := by decide +kernel
section
variable {K : Frag} {mg : Str → Option Value}
theorem defs (D : DefOk prg K mg f_point ∧ DefOk prg K mg f_stretches ∧ DefOk prg K mg f_begins ∧ DefOk prg K mg f_rests ∧ DefOk prg K mg f_law_mixed ∧ DefOk prg K mg f_law_draws ∧ DefOk prg K mg f_law_grown ∧ DefOk prg K mg f_law_tree ∧ DefOk prg K mg f_law_lists ∧ DefOk prg K mg f_law_bumped ∧ DefOk prg K mg f_law_pairs_of ∧ DefOk prg K mg f_law_drawn ∧ DefOk prg K mg f_law_point ∧ DefOk prg K mg f_law_due ∧ DefOk prg K mg f_law_whole ∧ DefOk prg K mg f_law) : ∀ (f : Nat) (d : Fn), prg[f]? = some d → DefOk prg K mg d := by
  obtain ⟨h0, h1, h2, h3, h4, h5, h6, h7, h8, h9, h10, h11, h12, h13, h14, h15⟩ := D
  intro f d h
  rcases f with _ | f
  · cases h; exact h0
  rcases f with _ | f
  · cases h; exact h1
  rcases f with _ | f
  · cases h; exact h2
  rcases f with _ | f
  · cases h; exact h3
  rcases f with _ | f
  · cases h; exact h4
  rcases f with _ | f
  · cases h; exact h5
  rcases f with _ | f
  · cases h; exact h6
  rcases f with _ | f
  · cases h; exact h7
  rcases f with _ | f
  · cases h; exact h8
  rcases f with _ | f
  · cases h; exact h9
  rcases f with _ | f
  · cases h; exact h10
  rcases f with _ | f
  · cases h; exact h11
  rcases f with _ | f
  · cases h; exact h12
  rcases f with _ | f
  · cases h; exact h13
  rcases f with _ | f
  · cases h; exact h14
  rcases f with _ | f
  · cases h; exact h15
  cases h
theorem blts (D : mg "len" = none ∧ mg "max" = none ∧ mg "min" = none ∧ mg "abs" = none ∧ mg "int" = none ∧ mg "str" = none ∧ mg "list" = none ∧ mg "tuple" = none ∧ mg "sum" = none ∧ mg "all" = none ∧ mg "any" = none ∧ mg "sorted" = none ∧ mg "reversed" = none ∧ mg "isinstance" = none ∧ mg "bool" = none ∧ mg "range" = none ∧ mg "enumerate" = none ∧ mg "zip" = none ∧ mg "dict" = none) : ∀ b ∈ builtinsUsed, mg b = none := by
  obtain ⟨h0, h1, h2, h3, h4, h5, h6, h7, h8, h9, h10, h11, h12, h13, h14, h15, h16, h17, h18⟩ := D
  intro b hb
  simp only [builtinsUsed, List.mem_cons, List.not_mem_nil, or_false] at hb
  rcases hb with rfl | rfl | rfl | rfl | rfl | rfl | rfl | rfl | rfl | rfl | rfl | rfl | rfl | rfl | rfl | rfl | rfl | rfl | rfl
  all_goals assumption
end
end K40
set_option maxRecDepth 100000
set_option maxHeartbeats 8000000
namespace Nd
end Nd
namespace Pw
end Pw
namespace Sp
end Sp
namespace K40
open PySem Rf Res Th Pn Nd Pw Sp
def dl : Tr → Nat → List Nat
  | .leaf, d => [d]
  | .node l r, d => dl l (d + 1) ++ dl r (d + 1)
theorem bits_mod {i j : Int} {m : Nat} (h : 0 < j) (hj : j ≤ 2 ^ m) : bits (i % j) ≤ m := by
  refine bits_le ?_
  have h1 := Int.emod_nonneg i (by omega : j ≠ 0)
  have h2 := Int.emod_lt_of_pos i h
  have : ((i % j).natAbs : Int) < 2 ^ m := by omega
  exact_mod_cast this
theorem bits_rng {i : Int} {m : Nat} (h : 0 ≤ i) (hj : i < 2 ^ m) : bits i ≤ m := by
  refine bits_le ?_
  have : (i.natAbs : Int) < 2 ^ m := by omega
  exact_mod_cast this
def intsD (xs : List Int) : PyData := .list (xs.map .int)
theorem w_mixed {f : Nat} (h : 1 ≤ f) {ns : List Int} (hb : ∀ z ∈ ns, Builtin.Int.intBits z ≤ 1048576) {at_ k : Int} {Q : PV → Ro → Prop} (ha : 0 ≤ at_) (ha2 : at_ < 1000) (hk : 0 ≤ k) (hk2 : k < 1000) (q : ∀ x : Int, 0 ≤ x → x < 2 ^ 31 → Q (.d (.int x)) [none, none, none]) :
    Cl (run prg G f) 4 [.d (scriptD ns), .d (.int at_), .d (.int k)] Q := by
  obtain ⟨n, rfl⟩ := Nat.exists_eq_add_of_le' h
  refine run_W (d := f_law_mixed) rfl rfl ?_
  have e1 : bits 104729 ≤ 17 := bits_le (by decide)
  have e2 : bits 48271 ≤ 16 := bits_le (by decide)
  have e3 : bits 7919 ≤ 16 := bits_le (by decide)
  have e4 : bits k ≤ 10 := bits_rng hk (by omega)
  have e5 : bits at_ ≤ 10 := bits_rng ha (by omega)
  have fin : ∀ (N : Int) (Z : Option PV), Z = none → Rf.W (run prg G n) G f_law_mixed_J1 [some (.d (scriptD ns)), some (.d (.int at_)), some (.d (.int k)), some (.d (.int N))] (Rt [] 3 Q) := by
    intro N Z _
    generalize hA : N % 2147483647 = A
    have e5 : bits A ≤ 31 := by rw [← hA]; exact bits_mod (by decide) (by decide)
    generalize hB : A * A % 2147483629 * 16807 + 31 * k = B
    have e6 : bits (A * A % 2147483629) ≤ 31 := bits_mod (by decide) (by decide)
    have e7 : bits 16807 ≤ 16 := bits_le (by decide)
    have e9 : bits 31 ≤ 5 := bits_le (by decide)
    have e8 : bits B ≤ 47 := by
      rw [← hB]
      have h1 := Int.emod_nonneg (A * A) (by decide : (2147483629 : Int) ≠ 0)
      have h2 := Int.emod_lt_of_pos (A * A) (by decide : (0 : Int) < 2147483629)
      exact bits_rng (by omega) (by omega)
    have h1 := Int.emod_nonneg (B * B) (by decide : (2147483587 : Int) ≠ 0)
    have h2 := Int.emod_lt_of_pos (B * B) (by decide : (0 : Int) < 2147483587)
    simp [f_law_mixed_J1, hA, hB]
    refine ⟨by omega, by omega, by omega, by omega, by decide, ?_⟩
    exact q _ (by omega) (by omega)
  simp [f_law_mixed, scriptD]
  refine ⟨by omega, by omega, ?_⟩
  cases ns with
  | nil =>
    simp
    exact fin _ none rfl
  | cons z zs =>
    have hm := Int.emod_nonneg (at_ + k) (show ((z :: zs).length : Int) ≠ 0 by simp; try omega)
    have hm2 := Int.emod_lt_of_pos (at_ + k) (show (0 : Int) < ((z :: zs).length : Int) by simp; try omega)
    obtain ⟨j, hj⟩ := Int.eq_ofNat_of_zero_le hm
    have hjl : j < (z :: zs).length := by omega
    have hat : L2.atI ((z :: zs).map PyData.int) ((at_ + k) % ((z :: zs).length : Int)) = some (.int ((z :: zs)[j])) := by
      rw [hj]
      exact L2.atI_nat (by rw [List.getElem?_map, List.getElem?_eq_getElem hjl]; rfl)
    have hz := hb _ (List.getElem_mem hjl)
    rw [if_pos (by simp)]
    refine ⟨by simp, _, hat, ?_⟩
    simp
    refine ⟨?_, ?_⟩
    · have hz : bits ((z :: zs)[j]) ≤ 1048576 := hz
      omega
    · exact fin _ none rfl
def D6 (ns : List Int) (at_ : Int) (many : Nat) (m : Int) (xs : List Int) (r : Int) : Ro := [some (.d (scriptD ns)), some (.d (.int at_)), some (.d (.int many)), some (.d (.int m)), some (.L (xs.map .int)), some (.d (.int r))]
def Din (ns : List Int) (at_ : Int) (many : Nat) (m : Int) (ρ : Ro) : Prop := ∃ (xs : List Int) (r : Int), xs.length ≤ many ∧ (∀ x ∈ xs, 0 ≤ x ∧ x < m) ∧ ρ = D6 ns at_ many m xs r
def Dm (many : Nat) (ρ : Ro) : Nat := match ρ with
  | [_, _, _, _, some (.L xs), _] => many - xs.length
  | _ => 0
theorem w_draws {f : Nat} (h : 2 ≤ f) {ns : List Int} (hl : ns.length ≤ 63) (hb : ∀ z ∈ ns, Builtin.Int.intBits z ≤ 1048576) {at_ m : Int} {many : Nat} {Q : PV → Ro → Prop} (ha : 0 ≤ at_) (ha2 : at_ < 1000) (hk2 : many < 1000) (hm : 0 < m) (hm2 : m < 2 ^ 31) (q : ∀ xs : List Int, xs.length = many → (∀ x ∈ xs, 0 ≤ x ∧ x < m) → Q (.d (.list (xs.map .int))) [none, none, none, none]) :
    Cl (run prg G f) 5 [.d (scriptD ns), .d (.int at_), .d (.int many), .d (.int m)] Q := by
  obtain ⟨n, rfl⟩ := Nat.exists_eq_add_of_le' (show 1 ≤ f by omega)
  refine run_W (d := f_law_draws) rfl rfl ?_
  have hlog : m.natAbs.log2 < 9000 := by
    have : m.natAbs < 2 ^ 31 := by omega
    by_cases h0 : m.natAbs = 0
    · rw [h0]; decide
    · exact Nat.lt_trans ((Nat.log2_lt h0).mpr this) (by decide)
  have snoc : ∀ {xs : List Int} {x : Int}, (∀ x ∈ xs, 0 ≤ x ∧ x < m) → 0 ≤ x → x < m → ∀ y ∈ xs ++ [x], 0 ≤ y ∧ y < m := fun {xs x} hx h0 h1 y hy => by
    rcases List.mem_append.mp hy with h | h
    · exact hx y h
    · rw [List.mem_singleton.mp h]; exact ⟨h0, h1⟩
  have fin : ∀ r : Int, Rf.W (run prg G n) G f_law_draws_J1 (D6 ns at_ many m [] r) (Rt [] 4 Q) := fun r => by
    simp [f_law_draws_J1]
    refine W_whl (Din ns at_ many m) (Dm many) ?_ _ ⟨[], r, by simp, by simp, rfl⟩
    rintro ρ ⟨xs, r, hx, hg, rfl⟩
    have two : ∀ (xs : List Int) (r : Int), xs.length ≤ many → (∀ x ∈ xs, 0 ≤ x ∧ x < m) → Rf.W (run prg G n) G f_law_draws_R1 (D6 ns at_ many m xs r) (Rt [] 4 Q) := fun xs r hx hg => by
      simp [f_law_draws_R1]
      refine W_whl (Din ns at_ many m) (Dm many) ?_ _ ⟨xs, r, hx, hg, rfl⟩
      rintro ρ ⟨xs, r, hx, hg, rfl⟩
      by_cases hlt : xs.length < many
      · simp [D6, hlt, f_law_draws_B2]
        refine w_mixed (f := n) (by omega) hb ha ha2 (by omega) (by omega) fun y y0 y1 => ?_
        simp [hm]
        refine ⟨by omega, ⟨xs ++ [y % m], r, by simp; omega, snoc hg (Int.emod_nonneg _ (by omega)) (Int.emod_lt_of_pos _ hm), by simp [D6]⟩, by simp only [Dm, List.length_append, List.length_map, List.length_cons, List.length_nil]; omega⟩
      · have he : xs.length = many := by omega
        have q' := q xs he hg
        simp [D6, hlt, f_law_draws_R2]
        exact q'
    by_cases hlt : xs.length < many
    · by_cases hr : 0 < r
      · simp [D6, hlt, hr, f_law_draws_B1, hm, hlog]
        refine ⟨by omega, ⟨xs ++ [r % m], r / m, by simp; omega, snoc hg (Int.emod_nonneg _ (by omega)) (Int.emod_lt_of_pos _ hm), by simp [D6]⟩, by simp only [Dm, List.length_append, List.length_map, List.length_cons, List.length_nil]; omega⟩
      · have t := two xs r hx hg
        simp [D6, hlt, hr]
        exact t
    · have t := two xs r hx hg
      simp [D6, hlt]
      exact t
  simp [f_law_draws, scriptD]
  by_cases hlt : at_ < ns.length
  · obtain ⟨j, rfl⟩ := Int.eq_ofNat_of_zero_le ha
    have hj : j < ns.length := by omega
    have hat : L2.atI (ns.map PyData.int) (j : Int) = some (.int ns[j]) := L2.atI_nat (by rw [List.getElem?_map, List.getElem?_eq_getElem hj]; rfl)
    simp [hj, hat]
    have t := fin
    simp [D6, scriptD] at t
    repeat' split
    all_goals exact t _
  · simp [hlt]
    have t := fin 0
    simp [D6, scriptD] at t
    exact t
end K40
set_option maxRecDepth 100000
set_option maxHeartbeats 8000000
namespace Nd
end Nd
namespace Pw
end Pw
namespace Sp
end Sp
namespace K40
open PySem Rf Res Th Pn Nd Pw Sp
theorem dl_len : ∀ (t : Tr) (d : Nat), (dl t d).length = lv t
  | .leaf, _ => rfl
  | .node l r, d => by simp [dl, lv, dl_len l, dl_len r]
theorem dl_pths : ∀ (t : Tr) (d : Nat), dl t d = (pths t).map fun w => d + w.length
  | .leaf, d => by simp [dl, pths]
  | .node l r, d => by
    simp only [dl, pths, dl_pths l, dl_pths r, List.map_append, List.map_map]
    congr 1 <;> (refine List.map_congr_left fun w _ => ?_) <;> simp [Function.comp] <;> omega
theorem dl_add (t : Tr) (d e : Nat) : dl t (d + e) = (dl t e).map (d + ·) := by
  rw [dl_pths, dl_pths, List.map_map]
  refine List.map_congr_left fun w _ => ?_
  simp [Function.comp]; omega
theorem dl_hg : ∀ (t : Tr) (d : Nat), d + hg t ∈ dl t d
  | .leaf, d => by simp [dl, hg]
  | .node l r, d => by
    have h1 := dl_hg l (d + 1)
    have h2 := dl_hg r (d + 1)
    simp only [dl, List.mem_append, hg]
    rcases Nat.le_total (hg l) (hg r) with h | h
    · right; rw [show d + (1 + max (hg l) (hg r)) = d + 1 + hg r by omega]; exact h2
    · left; rw [show d + (1 + max (hg l) (hg r)) = d + 1 + hg l by omega]; exact h1
theorem dl_low : ∀ (t : Tr) (d : Nat), ∃ x ∈ dl t d, d ≤ x ∧ 2 ^ (x - d) ≤ lv t
  | .leaf, d => ⟨d, by simp [dl], Nat.le_refl _, by simp [lv]⟩
  | .node l r, d => by
    obtain ⟨x, h1, h2, h3⟩ := dl_low l (d + 1)
    obtain ⟨y, g1, g2, g3⟩ := dl_low r (d + 1)
    have e1 : 2 ^ (x - d) = 2 * 2 ^ (x - (d + 1)) := by rw [← Nat.pow_succ']; congr 1; omega
    have e2 : 2 ^ (y - d) = 2 * 2 ^ (y - (d + 1)) := by rw [← Nat.pow_succ']; congr 1; omega
    rcases Nat.le_total (lv l) (lv r) with h | h
    · exact ⟨x, by simp [dl, h1], by omega, by simp only [lv]; omega⟩
    · exact ⟨y, by simp [dl, g1], by omega, by simp only [lv]; omega⟩
theorem dl_put : ∀ (t : Tr) (d k x : Nat) (s : Tr), (dl t d)[k]? = some x → dl (put t k s) d = (dl t d).take k ++ dl s x ++ (dl t d).drop (k + 1)
  | .leaf, d, k, x, s, h => by
    cases k with
    | zero => simp [dl] at h; subst h; simp [put, dl]
    | succ k => simp [dl] at h
  | .node l r, d, k, x, s, h => by
    simp only [dl] at h
    rw [put]
    by_cases hp : k < lv l
    · rw [List.getElem?_append_left (by rw [dl_len]; exact hp)] at h
      rw [if_pos hp]
      simp only [dl]
      rw [dl_put l (d + 1) k x s h, List.take_append_of_le_length (by rw [dl_len]; omega), List.drop_append_of_le_length (by rw [dl_len]; omega)]
      simp
    · rw [List.getElem?_append_right (by rw [dl_len]; omega), dl_len] at h
      rw [if_neg hp]
      simp only [dl]
      have e1 : (dl l (d + 1) ++ dl r (d + 1)).take k = dl l (d + 1) ++ (dl r (d + 1)).take (k - lv l) := by
        rw [List.take_append, List.take_of_length_le (by rw [dl_len]; omega), dl_len]
      have e2 : (dl l (d + 1) ++ dl r (d + 1)).drop (k + 1) = (dl r (d + 1)).drop (k - lv l + 1) := by
        rw [List.drop_append, List.drop_of_length_le (by rw [dl_len]; omega), dl_len, show k + 1 - lv l = k - lv l + 1 by omega]
        simp
      rw [dl_put r (d + 1) (k - lv l) x s h, e1, e2]
      simp
theorem put_hg {t : Tr} {k x m : Nat} {s : Tr} (h : (dl t 0)[k]? = some x) (h1 : hg t ≤ m) (h2 : x + hg s ≤ m) : hg (put t k s) ≤ m := by
  have e := dl_hg (put t k s) 0
  rw [dl_put t 0 k x s h] at e
  have le : ∀ (u : Tr) (d y : Nat), y ∈ dl u d → y ≤ d + hg u := fun u d y hy => by
    rw [dl_pths] at hy
    obtain ⟨w, hw, rfl⟩ := List.mem_map.mp hy
    have := pths_hg _ _ hw
    omega
  simp only [List.mem_append] at e
  rcases e with (e | e) | e
  · have := le _ _ _ (List.mem_of_mem_take e); omega
  · have := le _ _ _ e; omega
  · have := le _ _ _ (List.mem_of_mem_drop e); omega
def nat (d : Nat) : PyData := .int d
def natsD (t : Tr) : PyData := .list ((dl t 0).map nat)
theorem nats_at {ws : List Nat} {k : Nat} (h : k < ws.length) : L2.atI (ws.map nat) (k : Int) = some (.int ((ws[k] : Nat) : Int)) := L2.atI_nat (by rw [List.getElem?_map, List.getElem?_eq_getElem h]; rfl)
def Gr (ds : List Int) (shape : Int) (t : Tr) (last : Nat) (a b : Option PV) : Ro := [some (.d (intsD ds)), some (.d (.int shape)), some (.d (natsD t)), some (.d (.int last)), a, b]
def Gm (j n : Nat) (ρ : Ro) : Nat := match getRo ρ 5 with
  | some (.d (.int p)) => if p.toNat ≤ j then j - p.toNat else j + n - p.toNat
  | _ => 0
def Gp (ds : List Int) (shape : Int) (rs : List Int) (ρ : Ro) : Prop := ∃ (t : Tr) (last : Nat) (a b : Option PV), lv t + rs.length = ds.length + 1 ∧ hg t ≤ 40 ∧ hg t + rs.length ≤ ds.length ∧ ρ = Gr ds shape t last a b
theorem w_grown {f : Nat} (h : 1 ≤ f) {ds : List Int} (hl : ds.length ≤ 60) (shape : Int) {Q : PV → Ro → Prop} (q : ∀ t : Tr, hg t ≤ 40 → hg t ≤ ds.length → lv t = ds.length + 1 → Q (.d (natsD t)) [none, none]) :
    Cl (run prg G f) 6 [.d (intsD ds), .d (.int shape)] Q := by
  obtain ⟨n, rfl⟩ := Nat.exists_eq_add_of_le' h
  refine run_W (d := f_law_grown) rfl rfl ?_
  simp [f_law_grown, intsD]
  refine W_for.mpr ?_
  simp
  refine for_typed (fun i : Int => PyData.int i) (Gp ds shape) ?_ ?_ _ _ ⟨.leaf, 0, none, none, by simp only [lv]; omega, by simp [hg], by simp [hg], rfl⟩
  · rintro ρ ⟨t, last, a, b, h1, h2, h3, rfl⟩
    simp [f_law_grown_R1, Gr]
    exact q t h2 (by simpa using h3) (by simpa using h1)
  · rintro x rs ρ ⟨t, last, a, b, h1, h2, h3, rfl⟩
    simp only [List.length_cons] at h1 h3
    refine ⟨_, rfl, ?_⟩
    have hlen := dl_len t 0
    have hv := lv_pos t
    have stage : ∀ p : Nat, p < lv t → Rf.W (run prg G n) G f_law_grown_J1 [some (.d (intsD ds)), some (.d (.int shape)), some (.d (natsD t)), some (.d (.int last)), some (.d (.int x)), some (.d (.int p))]
        (Tu (Gp ds shape rs) (Qs (run prg G n) G f_law_grown_R1 (Rt [] 2 Q))) := by
      intro p hp
      obtain ⟨x0, m1, _, m3⟩ := dl_low t 0
      obtain ⟨j, hj⟩ := List.getElem?_of_mem m1
      have hjl : j < lv t := by rw [← hlen]; exact (List.getElem?_eq_some_iff.mp hj).1
      have hx0 : x0 ≤ 39 := by
        by_cases hc : x0 ≤ 39
        · exact hc
        · have : 2 ^ 40 ≤ 2 ^ (x0 - 0) := Nat.pow_le_pow_right (by decide) (by omega)
          omega
      simp [f_law_grown_J1]
      refine W_whl (fun ρ => ∃ p : Nat, p < lv t ∧ ρ = Gr ds shape t last (some (.d (.int x))) (some (.d (.int p)))) (Gm j (lv t)) ?_ _ ⟨p, hp, rfl⟩
      rintro ρ ⟨p, hp, rfl⟩
      have hp' : p < (dl t 0).length := by omega
      simp [Gr, natsD, nats_at hp']
      by_cases hd : 39 < (dl t 0)[p]
      · have hne : p ≠ j := fun e => by
          subst e
          rw [List.getElem?_eq_getElem hp'] at hj
          cases hj
          omega
        rw [if_pos (by omega)]
        simp [f_law_grown_B2, hlen]
        obtain ⟨p', e, b1, b2⟩ : ∃ p' : Nat, ((p : Int) + 1) % (lv t : Int) = p' ∧ p' < lv t ∧ (if p' ≤ j then j - p' else j + lv t - p') < (if p ≤ j then j - p else j + lv t - p) := by
          by_cases he : p + 1 = lv t
          · refine ⟨0, by rw [show (p : Int) + 1 = lv t by omega, Int.emod_self]; rfl, by omega, ?_⟩
            split <;> split <;> omega
          · refine ⟨p + 1, by rw [Int.emod_eq_of_lt (by omega) (by omega)]; omega, by omega, ?_⟩
            split <;> split <;> omega
        rw [e]
        exact ⟨by omega, ⟨p', b1, rfl⟩, by simpa [Gm] using b2⟩
      · rw [if_neg (by omega)]
        have c2 : cut (List.map nat (dl t 0)) (some ((p : Int) + 1)) none = (List.map nat (dl t 0)).drop (p + 1) := cut_from _ (p + 1)
        simp [f_law_grown_R2, nats_at hp', hlen, cut_to, c2]
        refine ⟨by omega, by omega, put t p (.node .leaf .leaf), p, some (.d (.int x)), some (.d (.int p)), ?_, ?_, ?_, ?_⟩
        · have := lv_put t p (.node .leaf .leaf) hp
          simp only [lv] at this
          omega
        · exact put_hg (List.getElem?_eq_getElem hp') h2 (by simp [hg]; omega)
        · have := put_hg (m := hg t + 1) (s := .node .leaf .leaf) (List.getElem?_eq_getElem hp') (by omega) (by
            have : (dl t 0)[p] ≤ hg t := by
              have hm := List.getElem_mem hp'
              generalize (dl t 0)[p] = y at hm
              rw [dl_pths] at hm
              obtain ⟨w, hw, rfl⟩ := List.mem_map.mp hm
              have := pths_hg _ _ hw
              omega
            simp [hg]; omega)
          omega
        · simp only [Gr, natsD]
          rw [dl_put t 0 p _ _ (List.getElem?_eq_getElem hp')]
          simp [nat, dl, List.map_take, List.map_drop]
    have nn : ∀ z : Int, ∃ p : Nat, z % (lv t : Int) = p ∧ p < lv t := fun z => by
      have z1 := Int.emod_nonneg z (by omega : (lv t : Int) ≠ 0)
      have z2 := Int.emod_lt_of_pos z (by omega : (0 : Int) < lv t)
      obtain ⟨p, e⟩ := Int.eq_ofNat_of_zero_le z1
      exact ⟨p, e, by omega⟩
    simp [f_law_grown_B1, Gr, natsD, hlen]
    refine ⟨by omega, ?_⟩
    split
    · obtain ⟨p, e, e2⟩ := nn ((last : Int) + x % 2)
      rw [e]
      exact ⟨by omega, stage p e2⟩
    · split
      · rw [show (lv t : Int) - 1 = ((lv t - 1 : Nat) : Int) by omega]
        exact stage _ (by omega)
      · split
        · exact stage 0 (by omega)
        · obtain ⟨p, e, e2⟩ := nn x
          rw [e]
          exact stage p e2
end K40
set_option maxRecDepth 100000
set_option maxHeartbeats 8000000
namespace Nd
end Nd
namespace Pw
end Pw
namespace Sp
end Sp
namespace K40
open PySem Rf Res Th Pn Nd Pw Sp
def push : List (Tr × Int) → Tr → Int → List (Tr × Int)
  | [], t, d => [(t, d)]
  | (u, e) :: s, t, d => if e = d then push s (.node u t) (d - 1) else (t, d) :: (u, e) :: s
def parse : List Nat → List (Tr × Int) → List (Tr × Int)
  | [], s => s
  | d :: r, s => parse r (push s .leaf d)
theorem parse_dl : ∀ (t : Tr) (d : Nat) (rest : List Nat) (s : List (Tr × Int)), (∀ u e s', s = (u, e) :: s' → e ≤ d) → parse (dl t d ++ rest) s = parse rest (push s t d)
  | .leaf, d, rest, s, _ => rfl
  | .node l r, d, rest, s, h => by
    rw [dl, List.append_assoc, parse_dl l (d + 1) _ s fun u e s' q => by have := h u e s' q; omega]
    have e1 : push s l ((d + 1 : Nat) : Int) = (l, ((d + 1 : Nat) : Int)) :: s := by
      cases s with
      | nil => rfl
      | cons a s =>
        obtain ⟨u, e⟩ := a
        have := h u e s rfl
        rw [push, if_neg (by omega)]
    rw [e1, parse_dl r (d + 1) rest _ fun u e s' q => by cases q; omega]
    rw [push, if_pos rfl, show ((d + 1 : Nat) : Int) - 1 = (d : Int) by omega]
def sI (a : Tr × Int) : PyData := .tuple [.int a.2, enc a.1]
def sD (s : List (Tr × Int)) : List PyData := s.reverse.map sI
theorem sD_cons (a : Tr × Int) (s : List (Tr × Int)) : sD (a :: s) = sD s ++ [sI a] := by simp [sD]
theorem sD_len (s : List (Tr × Int)) : (sD s).length = s.length := by simp [sD]
def m1L (ρ : Ro) : Nat := match getRo ρ 1 with
  | some (.L xs) => xs.length
  | _ => 0
theorem last_I (xs : List PyData) (x : PyData) : L2.atI (xs ++ [x]) (-1) = some x := L2.atI_last _ _
theorem last_II (xs : List PyData) (x y : PyData) : L2.atI (xs ++ [y, x]) (-2) = some y := by
  unfold L2.atI L2.ixN
  simp
  rw [if_pos (by omega), show (-2 + ((xs.length : Int) + 2)).toNat = xs.length by omega]
  simp
theorem last_I2 (xs : List PyData) (x y : PyData) : L2.atI (xs ++ [y, x]) (-1) = some x := by
  have := L2.atI_last (xs ++ [y]) x
  simpa using this
def P2 (ds : List Nat) (target : List (Tr × Int)) (n : Nat) (ρ : Ro) : Prop := ∃ (s : List (Tr × Int)) (t : Tr) (d : Int) (x a b c : Option PV), ρ = [some (.d (.list (ds.map nat))), some (.L (sD ((t, d) :: s))), x, a, b, c] ∧ push s t d = target ∧ s.length ≤ n
def P7 (ds : List Nat) (target : List (Tr × Int)) (items : List PyData) (ρ : Ro) : Prop := ∃ (s : List (Tr × Int)) (es : List Nat) (x a b c : Option PV), items = es.map nat ∧ ρ = [some (.d (.list (ds.map nat))), some (.L (sD s)), x, a, b, c] ∧ parse es s = target ∧ s.length + es.length ≤ 900
theorem push_len : ∀ (s : List (Tr × Int)) (t : Tr) (d : Int), (push s t d).length ≤ s.length + 1
  | [], t, d => by simp [push]
  | (u, e) :: s, t, d => by
    rw [push]
    split
    · have := push_len s (.node u t) (d - 1)
      simp only [List.length_cons]
      omega
    · simp
theorem w_tree {f : Nat} (h : 1 ≤ f) (t : Tr) (h2 : lv t ≤ 800) : run prg G f 7 [.d (natsD t)] = ok (.d (enc t), [none]) := by
  obtain ⟨k, rfl⟩ := Nat.exists_eq_add_of_le' h
  refine Cl_of (run_W (d := f_law_tree) rfl rfl ?_)
  have hp : parse (dl t 0) [] = [(t, 0)] := by
    have := parse_dl t 0 [] [] (fun u e s' q => by cases q)
    rw [List.append_nil] at this
    exact this
  simp [f_law_tree, natsD]
  refine W_for.mpr ?_
  simp
  refine for_ok (P7 (dl t 0) [(t, 0)]) ?_ ?_ _ _ ⟨[], dl t 0, none, none, none, none, rfl, rfl, hp, by simp [dl_len]; omega⟩
  · rintro ρ ⟨s, es, x, a, b, c, e, rfl, h3, h4⟩
    cases es with
    | cons _ _ => cases e
    | nil =>
      have h3' : s = [(t, 0)] := h3
      subst h3'
      simp [f_law_tree_R1, f_law_tree, sD, sI]
  · rintro x items ρ ⟨s, es, x0, a, b, c, e, rfl, h3, h4⟩
    cases es with
    | nil => cases e
    | cons d es =>
      cases e
      refine ⟨_, rfl, ?_⟩
      simp only [List.length_cons] at h4
      simp [f_law_tree_B1, sD_len]
      refine ⟨by omega, ?_⟩
      refine W_whl (P2 (dl t 0) (push s .leaf d) s.length) m1L ?_ _ ⟨s, .leaf, d, some (.d (.int d)), a, b, c, by simp [sD_cons, sI, enc, nat], rfl, Nat.le_refl _⟩
      rintro ρ ⟨s2, t2, d2, x2, a2, b2, c2, rfl, h5, h6⟩
      have hpl := push_len s .leaf d
      have stop : push s2 t2 d2 = (t2, d2) :: s2 → Tu (P7 (dl t 0) [(t, 0)] (es.map nat)) (Qs (run prg G k) G f_law_tree_R1 (Rt f_law_tree.io f_law_tree.np fun x ρ => x = PV.d (enc t) ∧ ρ = [none])) .nx [some (.d (.list ((dl t 0).map nat))), some (.L (sD ((t2, d2) :: s2))), x2, a2, b2, c2] := by
        intro e1
        refine ⟨push s .leaf d, es, x2, a2, b2, c2, rfl, ?_, h3, by omega⟩
        rw [← h5, e1]
      cases s2 with
      | nil =>
        have q := stop rfl
        simp [sD_cons] at q
        simp [sD_cons, sD_len]
        exact q
      | cons a2 s2 =>
        obtain ⟨u, e⟩ := a2
        have q := stop
        simp [sD_cons, sI] at q
        simp [f_law_tree_B2, sD_cons, sI, last_I2, last_II, sD_len]
        rw [if_pos (by omega)]
        split
        · rename_i he
          refine ⟨by simp only [List.length_cons] at h6; omega, ⟨s2, .node u t2, d2 - 1, x2, some (.d (.int e)), some (.d (enc t2)), some (.d (enc u)), by simp [sD_cons, sI, enc, he], ?_, ?_⟩, by simp [m1L]⟩
          · rw [← h5, push, if_pos he]
          · simp only [List.length_cons] at h6
            omega
        · rename_i he
          exact q (by rw [push, if_neg he])
end K40
set_option maxRecDepth 100000
set_option maxHeartbeats 8000000
namespace Nd
end Nd
namespace Pw
end Pw
namespace Sp
end Sp
namespace K40
open PySem Rf Res Th Pn Nd Pw Sp
def GM (M : Mp) : Prop := okM M ∧ hg M.1 ≤ 40 ∧ hg M.2 ≤ 40 ∧ lv M.1 ≤ 60
def mpD (M : Mp) : PyData := .tuple [natsD M.1, natsD M.2]
theorem mod_nat (z : Int) {m : Nat} (hm : 0 < m) : ∃ p : Nat, z % (m : Int) = p ∧ p < m := by
  have z1 := Int.emod_nonneg z (by omega : (m : Int) ≠ 0)
  have z2 := Int.emod_lt_of_pos z (by omega : (0 : Int) < m)
  obtain ⟨p, e⟩ := Int.eq_ofNat_of_zero_le z1
  exact ⟨p, e, by omega⟩
theorem w_lists {f : Nat} (h : 3 ≤ f) {ns : List Int} (hl : ns.length ≤ 63) (hb : ∀ z ∈ ns, Builtin.Int.intBits z ≤ 1048576) {at_ : Int} {Q : PV → Ro → Prop} (ha : 0 ≤ at_) (ha2 : at_ < 1000) (q : ∀ M : Mp, GM M → Q (.d (mpD M)) [none, none, none]) :
    Cl (run prg G f) 8 [.d (scriptD ns), .d (.int at_), .d (.int 59)] Q := by
  obtain ⟨n, rfl⟩ := Nat.exists_eq_add_of_le' (show 1 ≤ f by omega)
  refine run_W (d := f_law_lists) rfl rfl ?_
  simp [f_law_lists]
  refine w_draws (f := n) (by omega) hl hb ha ha2 (by omega) (m := 60) (by omega) (by omega) (many := 2) fun xs x1 x2 => ?_
  match xs, x1 with
  | [size, shape], _ =>
  have s1 := x2 size (by simp)
  have s2 := x2 shape (by simp)
  have J1 : ∀ many : Nat, many ≤ 59 → Rf.W (run prg G n) G f_law_lists_J1 [some (.d (scriptD ns)), some (.d (.int at_)), some (.d (.int 59)), some (.d (.int many)), none, some (.d (.int size)), some (.d (.int shape))] (Rt [] 3 Q) := by
    intro many hm
    simp [f_law_lists_J1]
    have b2 : bits 2 ≤ 2 := bits_le (by decide)
    have b1 : bits (many : Int) ≤ 6 := bits_rng (by omega) (by omega)
    refine ⟨by omega, ?_⟩
    rw [show (2 : Int) + 2 * (many : Int) = ((2 + 2 * many : Nat) : Int) by omega]
    refine w_draws (f := n) (by omega) hl hb ha ha2 (by omega) (m := 60) (by omega) (by omega) (many := 2 + 2 * many) fun ys y1 y2 => ?_
    have c1 : cut (ys.map PyData.int) (some 2) none = (ys.drop 2).map .int := by rw [show (2 : Int) = ((2 : Nat) : Int) from rfl, cut_from, List.map_drop]
    have zl : (ys.drop 2).length = 2 * many := by rw [List.length_drop]; omega
    generalize ys.drop 2 = zs at c1 zl
    simp [c1]
    have c2 : cut (zs.map PyData.int) none (some (many : Int)) = (zs.take many).map .int := by rw [cut_to, List.map_take]
    have c3 : cut (zs.map PyData.int) (some (many : Int)) none = (zs.drop many).map .int := by rw [cut_from, List.map_drop]
    rw [c2]
    refine ⟨by decide +kernel, w_grown (f := n) (by omega) (ds := zs.take many) (by rw [List.length_take]; omega) _ fun t t1 t2 t3 => ?_⟩
    simp
    rw [c3]
    have b3 : bits 3 ≤ 2 := bits_le (by decide)
    have b4 : bits (shape / 8) ≤ 3 := bits_rng (by omega) (by omega)
    refine ⟨by decide +kernel, by omega, w_grown (f := n) (by omega) (ds := zs.drop many) (by rw [List.length_drop]; omega) _ fun u u1 u2 u3 => ?_⟩
    simp
    rw [List.length_take] at t3
    rw [List.length_drop] at u3
    exact q (t, u) ⟨show lv t = lv u by omega, t1, u1, show lv t ≤ 60 by omega⟩
  simp
  split
  · obtain ⟨p, e, e2⟩ := mod_nat size (m := 60) (by decide)
    rw [show (60 : Int) = ((60 : Nat) : Int) from rfl, e]
    exact J1 p (by omega)
  · obtain ⟨p, e, e2⟩ := mod_nat size (m := 12) (by decide)
    rw [show (12 : Int) = ((12 : Nat) : Int) from rfl, e, if_neg (by omega)]
    exact J1 p (by omega)
end K40
set_option maxRecDepth 100000
set_option maxHeartbeats 8000000
namespace Nd
end Nd
namespace Pw
end Pw
namespace Sp
end Sp
namespace K40
open PySem Rf Res Th Pn Nd Pw Sp
theorem w_bumped {f : Nat} (h : 2 ≤ f) {M : Mp} (hM : GM M) {ds : List Int} (hd : ds.length = 12) {Q : PV → Ro → Prop} (q : ∀ N : Mp, GM N → Q (.d (mpD N)) [none, none]) :
    Cl (run prg G f) 9 [.d (mpD M), .d (intsD ds)] Q := by
  obtain ⟨n, rfl⟩ := Nat.exists_eq_add_of_le' (show 1 ≤ f by omega)
  obtain ⟨g1, g2, g3, g4⟩ := id hM
  have g1' : lv M.1 = lv M.2 := g1
  have l1 := dl_len M.1 0
  have l2 := dl_len M.2 0
  have lp := lv_pos M.1
  have d0 : 0 < ds.length := by omega
  have d1 : 1 < ds.length := by omega
  have a0 : L2.atI (ds.map PyData.int) 0 = some (.int ds[0]) := L2.atI_nat (j := 0) (by rw [List.getElem?_map, List.getElem?_eq_getElem d0]; rfl)
  have a1 : L2.atI (ds.map PyData.int) 1 = some (.int ds[1]) := L2.atI_nat (j := 1) (by rw [List.getElem?_map, List.getElem?_eq_getElem d1]; rfl)
  obtain ⟨k, e1, e2⟩ := mod_nat ds[0] (m := lv M.1) (by omega)
  obtain ⟨s, e3, e4⟩ := mod_nat ds[1] (m := 5) (by decide)
  have hk1 : k < (dl M.1 0).length := by omega
  have hk2 : k < (dl M.2 0).length := by omega
  have e3' : ds[1] % 5 = (s : Int) := e3
  refine run_W (d := f_law_bumped) rfl rfl ?_
  simp [f_law_bumped, mpD, natsD, intsD, a0, a1, l1, l2, e1, e3', nats_at hk1, nats_at hk2]
  have mx : (if (dl M.1 0)[k] < (dl M.2 0)[k] then (((dl M.2 0)[k] : Nat) : Int) else (dl M.1 0)[k]) = ((max (dl M.1 0)[k] (dl M.2 0)[k] : Nat) : Int) := by split <;> omega
  rw [mx]
  refine ⟨by omega, ?_⟩
  split
  · exact q M hM
  split
  · exact q M hM
  rename_i n1 n2
  have m1 : (dl M.1 0)[k] + (1 + s) ≤ 40 ∧ (dl M.2 0)[k] + (1 + s) ≤ 40 := by omega
  have c1 : cut (ds.map PyData.int) (some 2) (some (2 + (1 + (s : Int)))) = ((ds.take (2 + (1 + s))).drop 2).map .int := by
    rw [show (2 : Int) + (1 + (s : Int)) = ((2 + (1 + s) : Nat) : Int) by omega, show (some (2 : Int)) = some ((2 : Nat) : Int) from rfl, cut_two, List.map_drop, List.map_take]
  have c2 : cut (ds.map PyData.int) (some 7) (some (7 + (1 + (s : Int)))) = ((ds.take (7 + (1 + s))).drop 7).map .int := by
    rw [show (7 : Int) + (1 + (s : Int)) = ((7 + (1 + s) : Nat) : Int) by omega, show (some (7 : Int)) = some ((7 : Nat) : Int) from rfl, cut_two, List.map_drop, List.map_take]
  have z1 : ((ds.take (2 + (1 + s))).drop 2).length = 1 + s := by simp; omega
  have z2 : ((ds.take (7 + (1 + s))).drop 7).length = 1 + s := by simp; omega
  generalize (ds.take (2 + (1 + s))).drop 2 = as1 at c1 z1
  generalize (ds.take (7 + (1 + s))).drop 7 = as2 at c2 z2
  refine D_lcMap nat (fun d => .int (((dl M.1 0)[k] : Nat) + (d : Int))) ?_
  simp [c1]
  refine w_grown (f := n) (by omega) (ds := as1) (by omega) _ fun t t1 t2 t3 => ?_
  have lt := dl_len t 0
  simp [natsD]
  refine ⟨dl t 0, rfl, rfl, fun d hd => ?_, by omega, ?_⟩
  · simp [LBw, wipeR, nat, nats_at hk1]
  simp [wipeR, wipeBack]
  refine D_lcMap nat (fun d => .int (((dl M.2 0)[k] : Nat) + (d : Int))) ?_
  simp [c2]
  refine w_grown (f := n) (by omega) (ds := as2) (by omega) _ fun u u1 u2 u3 => ?_
  have lu := dl_len u 0
  simp [natsD]
  refine ⟨dl u 0, rfl, rfl, fun d hd => ?_, by omega, ?_⟩
  · simp [LBw, wipeR, nat, nats_at hk2]
  simp [wipeR, wipeBack]
  have k1 : ∀ v : Tr, cut (List.map nat (dl v 0)) (some ((k : Int) + 1)) none = (List.map nat (dl v 0)).drop (k + 1) := fun v => cut_from _ (k + 1)
  have pe : ∀ (v w : Tr) (hk : k < (dl v 0).length), List.take k (List.map nat (dl v 0)) ++ (List.map (fun d : Nat => PyData.int (((dl v 0)[k] : Nat) + (d : Int))) (dl w 0) ++ List.drop (k + 1) (List.map nat (dl v 0))) = (dl (put v k w) 0).map nat := fun v w hk => by
    rw [dl_put v 0 k _ w (List.getElem?_eq_getElem hk), show (dl v 0)[k] = (dl v 0)[k] + 0 from rfl, dl_add]
    simp [nat, List.map_take, List.map_drop]
  rw [k1, k1, cut_to, cut_to, pe _ _ hk1, pe _ _ hk2]
  have ll1 := lv_put M.1 k t (by omega)
  have ll2 := lv_put M.2 k u (by omega)
  refine ⟨by simp; omega, by simp; omega, by simp; omega, by simp; omega, q (put M.1 k t, put M.2 k u) ⟨show lv (put M.1 k t) = lv (put M.2 k u) by omega, ?_, ?_, show lv (put M.1 k t) ≤ 60 by omega⟩⟩
  · exact put_hg (List.getElem?_eq_getElem hk1) g2 (by omega)
  · exact put_hg (List.getElem?_eq_getElem hk2) g3 (by omega)
end K40
set_option maxRecDepth 100000
set_option maxHeartbeats 8000000
namespace Nd
end Nd
namespace Pw
end Pw
namespace Sp
end Sp
namespace K40
open PySem Rf Res Th Pn Nd Pw Sp
theorem cut_nn (xs : List Int) (i j : Nat) : cut (xs.map PyData.int) (some (i : Int)) (some (j : Int)) = ((xs.take j).drop i).map .int := by rw [cut_two, List.map_drop, List.map_take]
def Pdr (ns xs : List Int) (ρ : Ro) : Prop := ∃ (N : Mp) (a : Option PV), GM N ∧ ρ = [some (.d (scriptD ns)), some (.d (mpD N)), some (.d (.list (xs.map .int))), a]
theorem w_drawn {f : Nat} (h : 4 ≤ f) {ns : List Int} (hl : ns.length ≤ 63) (hb : ∀ z ∈ ns, Builtin.Int.intBits z ≤ 1048576) {Q : PV → Ro → Prop} (q : ∀ M : Mp, GM M → Q (.d (mpD M)) [none]) :
    Cl (run prg G f) 11 [.d (scriptD ns)] Q := by
  obtain ⟨n, rfl⟩ := Nat.exists_eq_add_of_le' (show 1 ≤ f by omega)
  refine run_W (d := f_law_drawn) rfl rfl ?_
  simp [f_law_drawn]
  refine w_lists (f := n) (by omega) hl hb (at_ := 0) (by omega) (by omega) fun M hM => ?_
  simp
  refine w_draws (f := n) (by omega) hl hb (at_ := 1) (by omega) (by omega) (by omega) (m := 60) (by omega) (by omega) (many := 50) fun xs x1 x2 => ?_
  have d0 : 0 < xs.length := by omega
  have d1 : 1 < xs.length := by omega
  have a0 : L2.atI (xs.map PyData.int) 0 = some (.int xs[0]) := L2.atI_nat (j := 0) (by rw [List.getElem?_map, List.getElem?_eq_getElem d0]; rfl)
  have a1 : L2.atI (xs.map PyData.int) 1 = some (.int xs[1]) := L2.atI_nat (j := 1) (by rw [List.getElem?_map, List.getElem?_eq_getElem d1]; rfl)
  simp [a0]
  split
  · exact q M hM
  have hN : GM (M.1, M.1) := ⟨rfl, hM.2.1, hM.2.1, hM.2.2.2⟩
  simp [mpD]
  refine W_for.mpr ?_
  obtain ⟨k, e1, e2⟩ := mod_nat xs[1] (m := 5) (by decide)
  have e1' : xs[1] % 5 = (k : Int) := e1
  simp [a1, e1']
  refine ⟨by omega, ?_⟩
  refine for_rng (fun j ρ => Pdr ns xs ρ) 0 k ?_ ?_ _ ⟨(M.1, M.1), none, hN, rfl⟩
  · rintro ρ ⟨N, a, hN, rfl⟩
    simp [f_law_drawn_R1]
    exact q N hN
  · rintro j ρ hj ⟨N, a, hN, rfl⟩
    have c1 := cut_nn xs (2 + 12 * j) (14 + 12 * j)
    have z1 : ((xs.take (14 + 12 * j)).drop (2 + 12 * j)).length = 12 := by simp; omega
    generalize (xs.take (14 + 12 * j)).drop (2 + 12 * j) = as1 at c1 z1
    have p1 : ((2 + 12 * j : Nat) : Int) = 2 + 12 * (j : Int) := by omega
    have p2 : ((14 + 12 * j : Nat) : Int) = 14 + 12 * (j : Int) := by omega
    rw [p1, p2] at c1
    have b12 : bits 12 ≤ 4 := bits_le (by decide)
    have bj : bits (j : Int) ≤ 3 := bits_rng (by omega) (by omega)
    simp [f_law_drawn_B1, c1]
    refine ⟨by omega, w_bumped (f := n) (by omega) hN (ds := as1) z1 fun N' hN' => ?_⟩
    simp
    exact ⟨N', _, hN', rfl⟩
end K40
set_option maxRecDepth 100000
set_option maxHeartbeats 8000000
namespace Nd
end Nd
namespace Pw
end Pw
namespace Sp
end Sp
namespace K40
open PySem Rf Res Th Pn Nd Pw Sp
def ptD (p : Bd.Pt) : PyData := .tuple [.int p.1, .int p.2]
def prsD (M : Mp) : List PyData := (Bd.prs 400 M).map ptD
theorem gm_dpt {M : Mp} (h : GM M) : Bd.dpt M ≤ 40 := by
  obtain ⟨_, h1, h2, _⟩ := h
  unfold Bd.dpt
  omega
theorem take_last {α : Type} (l : List α) (k : Nat) (x : α) (h : l[k]? = some x) : l.take (k + 1) = l.take k ++ [x] := by
  rw [List.take_add_one, h]; rfl
def Pp (M : Mp) (items : List PyData) (ρ : Ro) : Prop := ∃ (k : Nat) (a b c d : Option PV), items = zip2 (((dl M.1 0).drop k).map nat) (((dl M.2 0).drop k).map nat) ∧ k ≤ lv M.1 ∧ ρ = [some (.d (mpD M)), some (.d (.int (2 ^ 400))), some (.L (((Bd.prs 400 M).take (k + 1)).map ptD)), a, b, c, d]
theorem w_pairs {f : Nat} (h : 1 ≤ f) {M : Mp} (hM : GM M) : run prg G f 10 [.d (mpD M)] = ok (.d (.list (prsD M)), [none]) := by
  obtain ⟨n, rfl⟩ := Nat.exists_eq_add_of_le' h
  have hd := gm_dpt hM
  obtain ⟨g1, g2, g3, g4⟩ := id hM
  have g1' : lv M.1 = lv M.2 := g1
  have lp := lv_pos M.1
  have hlen := Bd.prs_len g1 400
  have l1 := dl_len M.1 0
  have l2 := dl_len M.2 0
  obtain ⟨q0, l0, hp⟩ := Bd.prs_cons g1 (D := 400) (by omega)
  refine Cl_of (run_W (d := f_law_pairs_of) rfl rfl ?_)
  simp [f_law_pairs_of, mpD, natsD]
  have b1 : bits 1 ≤ 1 := bits_le (by decide)
  refine ⟨by omega, ?_⟩
  refine W_for.mpr ?_
  simp
  refine for_ok (Pp M) ?_ ?_ _ _ ⟨0, none, none, none, none, rfl, by omega, by simp [hp, ptD, mpD, natsD]⟩
  · rintro ρ ⟨k, a, b, c, d, e, hk, rfl⟩
    have hk2 : k = lv M.1 := by
      by_cases hc : k < lv M.1
      · rw [List.drop_eq_getElem_cons (show k < (dl M.1 0).length by omega), List.drop_eq_getElem_cons (show k < (dl M.2 0).length by omega)] at e
        cases e
      · omega
    rw [List.take_of_length_le (show (Bd.prs 400 M).length ≤ k + 1 by omega)]
    simp [f_law_pairs_of_R1, f_law_pairs_of, prsD]
  · rintro x items ρ ⟨k, a, b, c, d, e, hk, rfl⟩
    have hk2 : k < lv M.1 := by
      by_cases hc : k < lv M.1
      · exact hc
      · rw [List.drop_of_length_le (show (dl M.1 0).length ≤ k by omega)] at e
        cases e
    rw [List.drop_eq_getElem_cons (show k < (dl M.1 0).length by omega), List.drop_eq_getElem_cons (show k < (dl M.2 0).length by omega)] at e
    obtain ⟨rfl, rfl⟩ := List.cons.inj e
    obtain ⟨w, hw⟩ : ∃ w, (pths M.1)[k]? = some w := ⟨_, List.getElem?_eq_getElem (by rw [pths_len]; omega)⟩
    obtain ⟨v, hv⟩ : ∃ v, (pths M.2)[k]? = some v := ⟨_, List.getElem?_eq_getElem (by rw [pths_len]; omega)⟩
    have w1 : (dl M.1 0)[k] = w.length := by
      have : (dl M.1 0)[k]? = some w.length := by rw [dl_pths, List.getElem?_map, hw]; simp
      exact (List.getElem?_eq_some_iff.mp this).2
    have v1 : (dl M.2 0)[k] = v.length := by
      have : (dl M.2 0)[k]? = some v.length := by rw [dl_pths, List.getElem?_map, hv]; simp
      exact (List.getElem?_eq_some_iff.mp this).2
    have lw := pths_hg _ _ (List.mem_of_getElem? hw)
    have lvv := pths_hg _ _ (List.mem_of_getElem? hv)
    obtain ⟨a1, a2⟩ := Bd.prs_at g1 (D := 400) (by omega) hw hv
    rw [take_last _ _ _ a1]
    have dv : ∀ m : Nat, m ≤ 40 → (2 : Int) ^ 400 / 2 ^ m = 2 ^ (400 - m) := fun m hm => by
      rw [show (2 : Int) ^ 400 = 2 ^ (400 - m) * 2 ^ m by rw [← Int.pow_add]; congr 1; omega]
      exact Int.mul_ediv_cancel _ (Int.ne_of_gt (Bd.pw2 m))
    refine ⟨_, rfl, ?_⟩
    simp [f_law_pairs_of_B1, nat, w1, v1, last_I, ptD]
    rw [dv _ (by omega), dv _ (by omega)]
    refine ⟨by omega, k + 1, some (.d (.int (w.length : Int))), some (.d (.int (v.length : Int))), some (.d (.int (Bd.pn 400 (w, v)).1)), some (.d (.int (Bd.pn 400 (w, v)).2)), by simp only [List.map_drop], by omega, ?_⟩
    rw [take_last _ _ _ a2, take_last _ _ _ a1]
    simp [ptD, Bd.pn, List.map_take]
abbrev Q2 := Int × Nat
theorem r_point (f : Nat) (h : 1 ≤ f) (n : Int) (d : Nat) : run prg G f 0 [.d (.int n), .d (.int d)] = ok (.d (pt (low n d)), [none, none]) := by
  obtain ⟨k, rfl⟩ := Nat.exists_eq_add_of_le' h
  refine Cl_of (run_W (d := f_point) rfl rfl ?_)
  refine W_seq.mpr (W_whl (fun ρ => ∃ (n' : Int) (d' : Nat), ρ = [some (.d (.int n')), some (.d (.int d'))] ∧ low n' d' = low n d) m1i ?_ _ ⟨n, d, rfl, rfl⟩)
  rintro ρ ⟨n', d', rfl, e⟩
  simp [f_point, f_point_B1, f_point_R1, pt]
  split
  · rename_i h1
    split
    · rename_i h2
      refine ⟨by decide, ⟨_, d' - 1, ⟨rfl, by omega⟩, by rw [← e, low_step h1 h2]⟩, ?_⟩
      simp [m1i]
      omega
    · rename_i h2
      rw [← e, low_stop (fun z => h2 z.2)]
      simp
  · rename_i h1
    rw [← e, low_stop (fun z => h1 z.1)]
    simp
theorem Bop_and {i j : Int} {K : PV → Prop} : Bop .BitAnd (.int i) (.int j) K ↔ K (.d (.int (Builtin.bitAnd i j))) := oex
theorem and_neg {n : Int} (h : 0 < n) (h2 : n % 2 = 1) (k : Nat) : Builtin.bitAnd (n * 2 ^ k) (-(n * 2 ^ k)) = 2 ^ k := by
  obtain ⟨a, rfl⟩ : ∃ a : Nat, n = 2 * a + 1 := ⟨(n / 2).toNat, by omega⟩
  have p := Bd.pw2 k
  have hx : 0 < (2 * (a : Int) + 1) * 2 ^ k := Int.mul_pos h p
  have e : (2 * (a : Int) + 1) * 2 ^ k = (((2 * a + 1) * 2 ^ k : Nat) : Int) := by push_cast; rfl
  have al := Bd.and_low a k
  have le : 2 ^ k ≤ (2 * a + 1) * 2 ^ k := Nat.le_mul_of_pos_left _ (by omega)
  have e2 : (2 : Int) ^ k = ((2 ^ k : Nat) : Int) := by push_cast; rfl
  rw [e] at hx ⊢
  rw [e2]
  have pn : 0 < 2 ^ k := Nat.two_pow_pos k
  generalize (2 * a + 1) * 2 ^ k = m at *
  generalize 2 ^ k = z at *
  unfold Builtin.bitAnd
  rw [decide_eq_true (by omega : (0 : Int) ≤ (m : Int)), decide_eq_false (by omega : ¬ (0 : Int) ≤ -(m : Int))]
  simp only [Builtin.bitNot]
  rw [show (-(-(m : Int)) - 1).toNat = m - 1 by omega, Int.toNat_natCast, al]
  omega
theorem bits_pow2 (k : Nat) : bits ((2 : Int) ^ k) = k + 1 := by
  have h1 : bits ((2 : Int) ^ k) ≤ k + 1 := bits_le (by
    have : ((2 : Int) ^ k).natAbs = 2 ^ k := by
      have : (2 : Int) ^ k = ((2 ^ k : Nat) : Int) := by push_cast; rfl
      rw [this, Int.natAbs_natCast]
    rw [this]
    exact Nat.pow_lt_pow_right (by decide) (Nat.lt_succ_self _))
  have h2 : ¬ bits ((2 : Int) ^ k) ≤ k := fun h => by
    have := bits_iff.mp h
    have e : ((2 : Int) ^ k).natAbs = 2 ^ k := by
      have : (2 : Int) ^ k = ((2 ^ k : Nat) : Int) := by push_cast; rfl
      rw [this, Int.natAbs_natCast]
    omega
  omega
theorem r_lpoint {f : Nat} (h : 1 ≤ f) {P : Q2} (hP : IsP P) (hd : P.2 ≤ 400) : run prg G f 12 [.d (.int (Bd.sc 400 P))] = ok (.d (pt P), [none]) := by
  obtain ⟨n, rfl⟩ := Nat.exists_eq_add_of_le' h
  refine Cl_of (run_W (d := f_law_point) rfl rfl ?_)
  have pp := Bd.pw2 (400 - P.2)
  have go : 0 < P.1 → P.1 % 2 = 1 → Rf.W (run prg G n) G f_law_point.body ((some (.d (.int (Bd.sc 400 P)))) :: [none]) (Rt f_law_point.io f_law_point.np fun r os => r = .d (pt P) ∧ os = [none]) := fun h1 h2 => by
    have hpos : 0 < Bd.sc 400 P := Int.mul_pos h1 pp
    have hne : Bd.sc 400 P ≠ 0 := by omega
    have ha : Builtin.bitAnd (Bd.sc 400 P) (-(Bd.sc 400 P)) = 2 ^ (400 - P.2) := and_neg h1 h2 _
    have hq : Bd.sc 400 P / 2 ^ (400 - P.2) = P.1 := Int.mul_ediv_cancel _ (by omega)
    have g0 : ((2 : Int) ^ (400 - P.2)).natAbs ≠ 0 := by omega
    have lg : ((2 : Int) ^ (400 - P.2)).natAbs.log2 < 9000 := Nat.lt_of_lt_of_le ((Nat.log2_lt g0).mpr (bits_iff.mp (Nat.le_of_eq (bits_pow2 (400 - P.2))))) (by omega)
    have e401 : (401 : Int) - ((400 - P.2 : Nat) + 1 : Nat) = (P.2 : Int) := by omega
    simp [f_law_point, hne, Bop_and, ha, hq, bits_pow2, lg, pp, pt]
    try trace_state
    try omega
  rcases isP_look hP with rfl | rfl | ⟨h1, _, h2⟩
  · simp [f_law_point, Bd.sc, pt]
  · exact go (by decide) (by decide)
  · exact go h1 h2
end K40
set_option maxRecDepth 100000
set_option maxHeartbeats 8000000
namespace Nd
end Nd
namespace Pw
end Pw
namespace Sp
end Sp
namespace K40
open PySem Rf Res Th Pn Nd Pw Sp
/-- a leaf's stretch, told with its point -/
def sg (n : Int) (d : Nat) (w : List Bool) : PyData := .tuple [pt (low (n * 2 ^ w.length + bin w) (d + w.length)), .int ((d + w.length : Nat) : Int)]
theorem sg_f (n : Int) (d : Nat) (w : List Bool) : sg n d (false :: w) = sg (2 * n) (d + 1) w := by
  unfold sg
  simp only [List.length_cons, bin, Bool.false_eq_true, if_false, Nat.zero_add]
  rw [show n * 2 ^ (w.length + 1) = 2 * n * 2 ^ w.length by rw [Int.pow_succ, Int.mul_comm 2 n, Int.mul_assoc, Int.mul_comm 2], show d + (w.length + 1) = d + 1 + w.length by omega]
theorem sg_t (n : Int) (d : Nat) (w : List Bool) : sg n d (true :: w) = sg (2 * n + 1) (d + 1) w := by
  unfold sg
  simp only [List.length_cons, bin, if_true]
  rw [show n * 2 ^ (w.length + 1) + ((2 ^ w.length + bin w : Nat) : Int) = (2 * n + 1) * 2 ^ w.length + bin w by
    rw [Int.pow_succ, Int.add_mul, Int.mul_comm 2 n, Int.mul_assoc, Int.mul_comm 2, Int.one_mul]; simp [Int.natCast_pow]; omega, show d + (w.length + 1) = d + 1 + w.length by omega]
theorem r_stretches : ∀ (t : Tr) (f : Nat) (n : Int) (d : Nat), hg t + 2 ≤ f → lv t ≤ 5000 → 0 ≤ n → n < 2 ^ d → d + hg t ≤ 5000 → run prg G f 1 [.d (enc t), .d (.int n), .d (.int d)] = ok (.d (.list ((pths t).map (sg n d))), [none, none, none])
  | .leaf, f, n, d, h, h2, h3, h4, h5 => by
    obtain ⟨k, rfl⟩ := Nat.exists_eq_add_of_le' (show 1 ≤ f by omega)
    refine Cl_of (run_W (d := f_stretches) rfl rfl ?_)
    simp [hg] at h
    simp [f_stretches, enc, pths, sg, Cl_eq (r_point k (by omega) n d), bin]
  | .node l r, f, n, d, h, h2, h3, h4, h5 => by
    simp only [hg] at h h5
    simp only [lv] at h2
    obtain ⟨k, rfl⟩ := Nat.exists_eq_add_of_le' (show 1 ≤ f by omega)
    have b1 : bits n ≤ d := bits_rng h3 h4
    have b2 : bits 2 ≤ 2 := bits_le (by decide)
    have e2 : (2 : Int) ^ (d + 1) = 2 * 2 ^ d := by rw [Int.pow_succ, Int.mul_comm]
    have e1 := r_stretches l k (2 * n) (d + 1) (by omega) (by omega) (by omega) (by omega) (by omega)
    have e3 := r_stretches r k (2 * n + 1) (d + 1) (by omega) (by omega) (by omega) (by omega) (by omega)
    rw [show ((d + 1 : Nat) : Int) = (d : Int) + 1 by omega] at e1 e3
    refine Cl_of (run_W (d := f_stretches) rfl rfl ?_)
    simp [f_stretches, enc, PyData.eqvAll, Cl_eq e1, Cl_eq e3]
    refine ⟨by omega, by omega, ?_⟩
    simp only [pths, List.map_append, List.map_map]
    congr 1 <;> (refine List.map_congr_left fun w _ => ?_) <;> simp only [Function.comp, sg_f, sg_t]
theorem r_begins (t : Tr) (f : Nat) (h : hg t + 3 ≤ f) (h2 : lv t ≤ 5000) (h5 : hg t ≤ 5000) : run prg G f 2 [.d (enc t)] = ok (.d (.list ((pths t).map (sg 0 0))), [none]) := by
  obtain ⟨k, rfl⟩ := Nat.exists_eq_add_of_le' (show 1 ≤ f by omega)
  refine Cl_of (run_W (d := f_begins) rfl rfl ?_)
  have e := r_stretches t k 0 0 (by omega) h2 (by omega) (by decide) (by omega)
  simp at e
  simp [f_begins, Cl_eq e]
def hi' (w : List Bool) : Int × Nat := low ((bin w : Int) + 1) w.length
abbrev Q4 := (Int × Nat) × (Int × Nat)
def ins : List Q4 → List Bool → List Q4
  | [], w => [(vl w, hi' w)]
  | (a, b) :: s, w => if b = vl w then (a, hi' w) :: s else (vl w, hi' w) :: (a, b) :: s
def rsts : List (List Bool × List Bool) → List Q4 → List Q4
  | [], s => s
  | (w, v) :: r, s => if w = v then rsts r (ins s w) else rsts r s
def rD (p : Q4) : PyData := .tuple [pt p.1, pt p.2]
def rL (s : List Q4) : List PyData := s.reverse.map rD
theorem rL_cons (a : Q4) (s : List Q4) : rL (a :: s) = rL s ++ [rD a] := by simp [rL]
theorem rL_len (s : List Q4) : (rL s).length = s.length := by simp [rL]
theorem ins_len (s : List Q4) (w : List Bool) : (ins s w).length ≤ s.length + 1 := by
  cases s with
  | nil => simp [ins]
  | cons a s =>
    obtain ⟨a, b⟩ := a
    simp only [ins]
    split <;> simp
theorem rD_lay : ∀ ps : List Q4, PyData.canLayAll0 (ps.map rD) = true ∧ PyData.depthAll (ps.map rD) ≤ 2
  | [] => by simp [PyData.depthAll]
  | p :: ps => by
    obtain ⟨h1, h2⟩ := rD_lay ps
    simp [rD, pt, h1, h2, PyData.depthAll, PyData.depth]
theorem rD_eqOk (s t : List Q4) : eqOk (.list (s.map rD)) (.list (t.map rD)) = true := by
  obtain ⟨h1, h2⟩ := rD_lay s
  obtain ⟨h3, h4⟩ := rD_lay t
  unfold eqOk
  simp [h1, h3, PyData.depth]
  omega
theorem rL_eqOk (s t : List Q4) : eqOk (.list (rL s)) (.list (rL t)) = true := rD_eqOk _ _
theorem eqv_nil (xs : List PyData) (x : PyData) : PyData.eqvAll (xs ++ [x]) [] = false := by
  cases xs <;> simp [PyData.eqvAll]
theorem sg0 (w : List Bool) : low (0 * 2 ^ w.length + ((bin w : Nat) : Int)) (0 + w.length) = vl w := by
  unfold vl
  simp
theorem vl_same {w v : List Bool} (h : vl w = vl v) (h2 : w.length = v.length) : w = v := by
  refine bin_inj h2 ?_
  have h3 := low_cross h
  rw [h2] at h3
  have := Int.eq_of_mul_eq_mul_right (Int.ne_of_gt (pw v.length)) h3
  exact_mod_cast this
def Pr (M : Mp) (tgt : List Q4) (items : List PyData) (ρ : Ro) : Prop := ∃ (ws vs : List (List Bool)) (s : List Q4) (a b c d e : Option PV), items = zip2 (ws.map (sg 0 0)) (vs.map (sg 0 0)) ∧ rsts (ws.zip vs) s = tgt ∧ s.length + ws.length ≤ 900 ∧ ws.length = vs.length ∧ (∀ w ∈ ws, w.length ≤ 100) ∧ ρ = [some (.d (mp M)), some (.L (rL s)), a, b, c, d, e]
theorem r_rests {f : Nat} (h : 60 ≤ f) {M : Mp} (hM : okM M) (hd1 : hg M.1 ≤ 40) (hd2 : hg M.2 ≤ 40) (hl : lv M.1 ≤ 60) : run prg G f 3 [.d (mp M)] = ok (.L (rL (rsts ((pths M.1).zip (pths M.2)) [])), [none]) := by
  obtain ⟨n, rfl⟩ := Nat.exists_eq_add_of_le' (show 1 ≤ f by omega)
  have hM' : lv M.1 = lv M.2 := hM
  refine Cl_of (run_W (d := f_rests) rfl rfl ?_)
  have e1 := r_begins M.1 n (by omega) (by omega) (by omega)
  have e2 := r_begins M.2 n (by omega) (by omega) (by omega)
  simp [f_rests, mp]
  refine W_for.mpr ?_
  simp [Cl_eq e1, Cl_eq e2]
  refine for_ok (Pr M (rsts ((pths M.1).zip (pths M.2)) [])) ?_ ?_ _ _ ⟨pths M.1, pths M.2, [], none, none, none, none, none, rfl, rfl, by simp [pths_len]; omega, by simp only [pths_len]; omega, fun w hw => by have := pths_hg _ _ hw; omega, rfl⟩
  · rintro ρ ⟨ws, vs, s, a, b, c, d, e, hi, ht, hs, hw, hb, rfl⟩
    have hn : ws = [] := by
      cases ws with
      | nil => rfl
      | cons w ws =>
        cases vs with
        | nil => simp at hw
        | cons v vs => simp [zip2] at hi
    subst hn
    simp only [List.zip_nil_left, rsts] at ht
    subst ht
    simp [f_rests_R1, f_rests]
  · rintro x items ρ ⟨ws, vs, s, a, b, c, d, e, hi, ht, hs, hw, hb, rfl⟩
    match ws, vs, hw with
    | [], [], _ => simp [zip2] at hi
    | w :: ws, v :: vs, hw =>
    simp only [List.map_cons, zip2] at hi
    obtain ⟨rfl, rfl⟩ := List.cons.inj hi
    refine ⟨_, rfl, ?_⟩
    simp only [List.length_cons] at hs hw
    have hbw := hb w (by simp)
    have lw := low_le w.length (bin w : Int)
    have lv' := low_val w.length (bin w : Int)
    have bl : bits (vl w).1 ≤ 100 := bits_le (by
      have h1 := lw.2
      have h2 := bin_lt w
      have h3 : 2 ^ w.length ≤ 2 ^ 100 := Nat.pow_le_pow_right (by decide) hbw
      have h4 : ((bin w : Int)).natAbs = bin w := Int.natAbs_natCast _
      show (low (bin w) w.length).1.natAbs < 2 ^ 100
      omega)
    rw [sg0, sg0]
    simp only [Nat.zero_add]
    by_cases hwv : w = v
    · subst hwv
      simp only [List.zip_cons_cons, rsts, if_true] at ht
      have sh : ((w.length : Int) - ((vl w).2 : Int)).toNat = w.length - (low (bin w) w.length).2 := by
        show ((w.length : Int) - ((low (bin w) w.length).2 : Int)).toNat = _
        omega
      have le : (vl w).2 ≤ w.length := lw.1
      have ev : (vl w).1 * 2 ^ (w.length - (low (bin w) w.length).2) = (bin w : Int) := lv'
      have ep : ((bin w : Int) + 1) = (bin w : Int) + 1 := rfl
      have e3 : Rf.run prg G n 0 [.d (.int ((vl w).1 * 2 ^ (w.length - (vl w).2) + 1)), .d (.int w.length)] = ok (.d (pt (hi' w)), [none, none]) := by
        have : (vl w).1 * 2 ^ (w.length - (vl w).2) = (bin w : Int) := lv'
        rw [this]
        exact r_point (f := n) (by omega) _ _
      have sz : bits (vl w).1 + (w.length - (vl w).2) ≤ 200 := by omega
      cases s with
      | nil =>
        simp [f_rests_B1, pt, Cl_eq e3, rL]
        simp only [List.length_nil] at hs
        exact ⟨⟨le, by omega⟩, rD_eqOk [] [], ws, vs, [(vl w, hi' w)], _, _, _, _, _, rfl, ht, by simp only [List.length_cons, List.length_nil]; omega, by omega, fun x hx => hb x (List.mem_cons_of_mem _ hx), by simp [rL, rD, pt]; exact ⟨rfl, rfl, rfl, rfl, rfl⟩⟩
      | cons p s =>
        obtain ⟨p, q⟩ := p
        have eo := rL_eqOk ((p, q) :: s) []
        simp only [rL_cons, rD, pt, show rL [] = [] from rfl] at eo
        simp [f_rests_B1, pt, Cl_eq e3, rL_cons, last_I, rD]
        simp only [List.length_cons] at hs
        have rl := rL_len s
        refine ⟨⟨le, by omega⟩, eo, ?_⟩
        rw [if_neg (by rw [eqv_nil]; exact Bool.false_ne_true)]
        by_cases hq : q = vl w
        · rw [if_pos ⟨by rw [hq], by rw [hq]⟩]
          exact ⟨ws, vs, (p, hi' w) :: s, _, _, _, _, _, rfl, by simpa [ins, hq] using ht, by simp only [List.length_cons]; omega, by omega, fun x hx => hb x (List.mem_cons_of_mem _ hx), by simp [rL_cons, rD, pt]; exact ⟨rfl, rfl, rfl, rfl, rfl⟩⟩
        · rw [if_neg (fun z => hq (Prod.ext z.1 (by have := z.2; omega)))]
          refine ⟨by omega, ?_⟩
          exact ⟨ws, vs, (vl w, hi' w) :: (p, q) :: s, _, _, _, _, _, rfl, by simpa [ins, hq] using ht, by simp only [List.length_cons]; omega, by omega, fun x hx => hb x (List.mem_cons_of_mem _ hx), by simp [rL_cons, rD, pt]; exact ⟨rfl, rfl, rfl, rfl, rfl⟩⟩
    · simp only [List.zip_cons_cons, rsts, if_neg hwv] at ht
      have hc : ¬ (((vl w).1 = (vl v).1 ∧ (vl w).2 = (vl v).2) ∧ w.length = v.length) := fun ⟨⟨q1, q2⟩, q3⟩ => hwv (vl_same (Prod.ext q1 q2) q3)
      have g : ∀ p1 p2 p3 p4 p5 : Option PV, Pr M (rsts ((pths M.1).zip (pths M.2)) []) (zip2 (ws.map (sg 0 0)) (vs.map (sg 0 0))) [some (.d (mp M)), some (.L (rL s)), p1, p2, p3, p4, p5] := fun p1 p2 p3 p4 p5 => ⟨ws, vs, s, p1, p2, p3, p4, p5, rfl, ht, by omega, by omega, fun x hx => hb x (List.mem_cons_of_mem _ hx), rfl⟩
      simp [f_rests_B1, pt]
      by_cases q1 : (vl w).1 = (vl v).1 ∧ ((vl w).2 : Int) = ((vl v).2 : Int)
      · rw [if_pos q1, if_neg (fun z => hc ⟨⟨q1.1, by have := q1.2; omega⟩, by omega⟩)]
        exact g _ _ _ _ _
      · rw [if_neg q1]
        exact g _ _ _ _ _
end K40
set_option maxRecDepth 100000
set_option maxHeartbeats 8000000
namespace Nd
end Nd
namespace Pw
end Pw
namespace Sp
end Sp
namespace K40
open PySem Rf Res Th Pn Nd Pw Sp
def flat (s : List Q4) : List (Int × Nat) := s.reverse.flatMap fun p => [p.1, p.2]
def scD (P : Int × Nat) : PyData := .int (Bd.sc 400 P)
theorem flat_cons (a b : Int × Nat) (s : List Q4) : flat ((a, b) :: s) = flat s ++ [a, b] := by simp [flat]
theorem flat_len (s : List Q4) : (flat s).length = 2 * s.length := by
  induction s with
  | nil => rfl
  | cons p s ih => obtain ⟨a, b⟩ := p; rw [flat_cons]; simp [ih]; omega
theorem evs_two {α β : Type} (f g : β → α) : ∀ l : List β, RX.evs (l.flatMap fun p => [f p, g p]) = l.map f
  | [] => rfl
  | p :: r => by
    have := evs_two f g r
    simp only [List.flatMap_cons, List.map_cons, List.cons_append, List.nil_append, RX.evs, this]
theorem evs_one {α β : Type} (f g : β → α) : ∀ (x : α) (l : List β), RX.evs (x :: l.flatMap fun p => [f p, g p]) = x :: l.map g
  | x, [] => rfl
  | x, p :: r => by
    have := evs_one f g (g p) r
    simp only [List.flatMap_cons, List.map_cons, List.cons_append, List.nil_append, RX.evs, this]
theorem evn_one {α β : Type} (f g : β → α) (l : List β) : RX.evn true (l.flatMap fun p => [f p, g p]) = l.map g := by
  cases l with
  | nil => rfl
  | cons p r =>
    unfold RX.evn
    simp only [if_true, List.flatMap_cons, List.cons_append, List.nil_append, List.drop_succ_cons, List.drop_zero, List.map_cons]
    exact evs_one f g (g p) r
theorem zip_two {β : Type} (f g : β → PyData) : ∀ l : List β, zip2 (l.map f) (l.map g) = l.map fun p => .tuple [f p, g p]
  | [] => rfl
  | p :: r => by simp only [List.map_cons, zip2, zip_two f g r]
theorem flat_pt (s : List Q4) : (flat s).map pt = s.reverse.flatMap fun p => [pt p.1, pt p.2] := by
  simp [flat, List.map_flatMap]
theorem ins_good {s : List Q4} {w : List Bool} (hw : w.length ≤ 40) (h : ∀ p ∈ s, (IsP p.1 ∧ p.1.2 ≤ 40) ∧ (IsP p.2 ∧ p.2.2 ≤ 40)) : ∀ p ∈ ins s w, (IsP p.1 ∧ p.1.2 ≤ 40) ∧ (IsP p.2 ∧ p.2.2 ≤ 40) := by
  have b := bin_lt w
  have b1 : ((bin w : Nat) : Int) < 2 ^ w.length := by exact_mod_cast b
  have l1 : (vl w).2 ≤ 40 := Nat.le_trans (low_le w.length (bin w : Int)).1 hw
  have l2 : (hi' w).2 ≤ 40 := Nat.le_trans (low_le w.length ((bin w : Int) + 1)).1 hw
  have i1 : IsP (vl w) := .inr ⟨w, rfl⟩
  have i2 : IsP (hi' w) := isP_of (by omega) (by omega)
  intro p hp
  cases s with
  | nil =>
    simp only [ins, List.mem_singleton] at hp
    subst hp
    exact ⟨⟨i1, l1⟩, i2, l2⟩
  | cons a s =>
    obtain ⟨a, b⟩ := a
    simp only [ins] at hp
    have ha := h (a, b) (by simp)
    split at hp
    · rcases List.mem_cons.mp hp with rfl | hp
      · exact ⟨ha.1, i2, l2⟩
      · exact h p (List.mem_cons_of_mem _ hp)
    · rcases List.mem_cons.mp hp with rfl | hp
      · exact ⟨⟨i1, l1⟩, i2, l2⟩
      · exact h p hp
theorem zipI_cons (lo : Int) (x : PyData) (xs : List PyData) : zipI lo (x :: xs) = .tuple [.int lo, x] :: zipI (lo + 1) xs := rfl
def Du (M : Mp) (s : List Q4) (a b c d e : Option PV) : Ro := [some (.d (mpD M)), some (.L ((flat s).map scD)), some (.d (.list (prsD M))), none, a, b, c, d, e]
def Pu (M : Mp) (tgt : List Q4) (items : List PyData) (ρ : Ro) : Prop := ∃ (k : Nat) (s : List Q4) (a b c d e : Option PV), items = zipI (k : Int) (zip2 (((dl M.1 0).drop k).map nat) (((dl M.2 0).drop k).map nat)) ∧ k ≤ lv M.1 ∧ rsts (((pths M.1).zip (pths M.2)).drop k) s = tgt ∧ s.length ≤ k ∧ (∀ p ∈ s, (IsP p.1 ∧ p.1.2 ≤ 40) ∧ (IsP p.2 ∧ p.2.2 ≤ 40)) ∧ (d = none ∨ ∃ z : PyData, d = some (.d z)) ∧ ρ = Du M s a b c d e
theorem w_due {f : Nat} (h : 3 ≤ f) {M : Mp} (hM : GM M) : run prg G f 13 [.d (mpD M)] = ok (.d (.list (rL (rsts ((pths M.1).zip (pths M.2)) []))), [none]) := by
  obtain ⟨n, rfl⟩ := Nat.exists_eq_add_of_le' (show 1 ≤ f by omega)
  have hd := gm_dpt hM
  obtain ⟨g1, g2, g3, g4⟩ := id hM
  have g1' : lv M.1 = lv M.2 := g1
  have hlen := Bd.prs_len g1 400
  have l1 := dl_len M.1 0
  have l2 := dl_len M.2 0
  have p1 := pths_len M.1
  have p2 := pths_len M.2
  refine Cl_of (run_W (d := f_law_due) rfl rfl ?_)
  simp [f_law_due, Cl_eq (w_pairs (f := n) (by omega) hM)]
  refine W_for.mpr ?_
  simp [mpD, natsD]
  refine for_ok (Pu M (rsts ((pths M.1).zip (pths M.2)) [])) ?_ ?_ _ _ ⟨0, [], none, none, none, none, none, by simp, by omega, by simp, by simp, by simp, .inl rfl, by simp [Du, flat, mpD, natsD]⟩
  · rintro ρ ⟨k, s, a, b, c, d, e, hi, hk, ht, hs, hg, hd3, rfl⟩
    have hk2 : k = lv M.1 := by
      by_cases hc : k < lv M.1
      · rw [List.drop_eq_getElem_cons (show k < (dl M.1 0).length by omega), List.drop_eq_getElem_cons (show k < (dl M.2 0).length by omega)] at hi
        cases hi
      · omega
    rw [List.drop_of_length_le (by simp [p1, p2]; omega)] at ht
    simp only [rsts] at ht
    rw [← ht]
    simp only [f_law_due_R1, Du]
    simp
    refine D_lcMap scD pt ?_
    have hw : wipeOk [some (.d (mpD M)), some (.d (.list ((flat s).map scD))), some (.d (.list (prsD M))), none, a, b, c, d, e] [7] = true := by
      rcases hd3 with rfl | ⟨z, rfl⟩ <;> simp [wipeOk]
    simp [LBw, wipeR, wipeBack, hw]
    have fl := flat_len s
    refine ⟨flat s, rfl, fun P1 P2 hP => ?_, by omega, ?_⟩
    · obtain ⟨p, hp, hPp⟩ := List.mem_flatMap.mp hP
      have q := hg p (List.mem_reverse.mp hp)
      have hP' : IsP (P1, P2) ∧ P2 ≤ 40 := by
        rcases List.mem_cons.mp hPp with z | hPp
        · rw [z]; rw [← z] at q; exact ⟨by rw [← z]; exact q.1.1, by have := q.1.2; exact this⟩
        · have z := List.mem_singleton.mp hPp
          exact ⟨by rw [z]; exact q.2.1, by have := q.2.2; rw [← z] at this; exact this⟩
      simp [scD, Cl_eq (r_lpoint (f := n) (by omega) hP'.1 (by have := hP'.2; show P2 ≤ 400; omega))]
    · have le : ∀ o, (RX.evn o ((flat s).map pt)).length ≤ 1000000 := fun o => Nat.le_trans (RX.evn_len o _) (by rw [List.length_map]; omega)
      refine ⟨le false, ?_⟩
      rw [flat_pt]
      have e0 : RX.evn false (s.reverse.flatMap fun p => [pt p.1, pt p.2]) = s.reverse.map fun p => pt p.1 := by unfold RX.evn; exact evs_two _ _ _
      rw [e0, evn_one, zip_two]
      rfl
  · rintro x items ρ ⟨k, s, a, b, c, d, e, hi, hk, ht, hs, hg, hd3, rfl⟩
    have hk2 : k < lv M.1 := by
      by_cases hc : k < lv M.1
      · exact hc
      · rw [List.drop_of_length_le (show (dl M.1 0).length ≤ k by omega)] at hi
        cases hi
    rw [List.drop_eq_getElem_cons (show k < (dl M.1 0).length by omega), List.drop_eq_getElem_cons (show k < (dl M.2 0).length by omega)] at hi
    simp only [List.map_cons, zip2, zipI_cons] at hi
    obtain ⟨rfl, rfl⟩ := List.cons.inj hi
    obtain ⟨w, hw⟩ : ∃ w, (pths M.1)[k]? = some w := ⟨_, List.getElem?_eq_getElem (by rw [pths_len]; omega)⟩
    obtain ⟨v, hv⟩ : ∃ v, (pths M.2)[k]? = some v := ⟨_, List.getElem?_eq_getElem (by rw [pths_len]; omega)⟩
    have w1 : (dl M.1 0)[k] = w.length := by
      have : (dl M.1 0)[k]? = some w.length := by rw [dl_pths, List.getElem?_map, hw]; simp
      exact (List.getElem?_eq_some_iff.mp this).2
    have v1 : (dl M.2 0)[k] = v.length := by
      have : (dl M.2 0)[k]? = some v.length := by rw [dl_pths, List.getElem?_map, hv]; simp
      exact (List.getElem?_eq_some_iff.mp this).2
    have lw := pths_hg _ _ (List.mem_of_getElem? hw)
    have lvv := pths_hg _ _ (List.mem_of_getElem? hv)
    obtain ⟨a1, a2⟩ := Bd.prs_at g1 (D := 400) (by omega) hw hv
    have hz : ((pths M.1).zip (pths M.2)).drop k = (w, v) :: ((pths M.1).zip (pths M.2)).drop (k + 1) := by
      have : ((pths M.1).zip (pths M.2))[k]? = some (w, v) := by rw [List.getElem?_zip_eq_some]; exact ⟨hw, hv⟩
      obtain ⟨hlt, he⟩ := List.getElem?_eq_some_iff.mp this
      rw [List.drop_eq_getElem_cons hlt, he]
    rw [hz] at ht
    have at1 : L2.atI (prsD M) (k : Int) = some (ptD (Bd.pn 400 (w, v))) := L2.atI_nat (by unfold prsD; rw [List.getElem?_map, a1]; rfl)
    refine ⟨_, rfl, ?_⟩
    by_cases hwv : w = v
    · subst hwv
      simp only [rsts, if_true] at ht
      have hx : (bin w : Int) * 2 ^ (400 - w.length) = Bd.sc 400 (vl w) := (Bd.sc_low (by omega)).symm
      have hx2 : (bin w : Int) * 2 ^ (400 - w.length) + 2 ^ (400 - w.length) = Bd.sc 400 (hi' w) := by
        unfold hi'
        rw [Bd.sc_low (by omega), Int.add_mul, Int.one_mul]
      have at2 : L2.atI (prsD M) ((k : Int) + 1) = some (ptD (Bd.sc 400 (hi' w), Bd.sc 400 (hi' w))) := by
        rw [show (k : Int) + 1 = ((k + 1 : Nat) : Int) by omega]
        exact L2.atI_nat (by unfold prsD; rw [List.getElem?_map, a2, hx2]; rfl)
      have hg' := ins_good (s := s) (w := w) (by omega) hg
      have hs' := ins_len s w
      have j1 : ∀ (ms : List PyData), ms ++ [scD (hi' w)] = (flat (ins s w)).map scD → ms.length < 1000 → ∀ (p1 p2 : Option PV) (p3 : PyData) (p4 : Option PV), Rf.W (Rf.run prg G n) G f_law_due_J1 [some (.d (mpD M)), some (.L ms), some (.d (.list (prsD M))), none, some (.d (.int k)), p1, p2, some (.d p3), p4]
          (Qs (Rf.run prg G n) G S.nil (Tu (Pu M (rsts ((pths M.1).zip (pths M.2)) []) (zipI ((k : Int) + 1) (zip2 (((dl M.1 0).drop (k + 1)).map nat) (((dl M.2 0).drop (k + 1)).map nat)))) (Qs (Rf.run prg G n) G f_law_due_R1 (Rt [] 1 fun x ρ => x = .d (.list (rL (rsts ((pths M.1).zip (pths M.2)) []))) ∧ ρ = [none])))) := by
        intro ms e hm p1 p2 p3 p4
        simp [f_law_due_J1, at2, ptD]
        exact ⟨by omega, k + 1, ins s w, _, _, _, _, _, by rw [show ((k + 1 : Nat) : Int) = (k : Int) + 1 by omega]; simp only [List.map_drop], by omega, ht, by omega, hg', .inr ⟨_, rfl⟩, by rw [Du, ← e]; rfl⟩
      simp only [List.map_drop] at j1
      have fl := flat_len s
      cases s with
      | nil =>
        simp [f_law_due_B1, Du, nat, w1, v1, at1, ptD, Bd.pn, flat]
        exact j1 _ (by simp [ins, flat_cons, flat, scD, hx]) (by simp) _ _ _ _
      | cons p s =>
        obtain ⟨p, q⟩ := p
        rw [flat_cons] at fl
        have l3 : L2.atI ((flat s).map scD ++ [scD p, scD q]) (-1) = some (scD q) := last_I2 _ _ _
        have hq := (hg (p, q) (by simp)).2
        simp only [List.length_cons] at hs
        have hq2 := hq.2
        simp only at hq2
        simp only [scD] at l3
        simp only [List.length_append, List.length_cons, List.length_nil] at fl
        simp [f_law_due_B1, Du, nat, w1, v1, at1, ptD, Bd.pn, flat_cons, scD, hx]
        refine ⟨_, l3, rfl, ?_⟩
        have i1 : IsP (vl w) := .inr ⟨w, rfl⟩
        have l1' : (vl w).2 ≤ 40 := Nat.le_trans (low_le w.length (bin w : Int)).1 (by omega)
        by_cases hqw : q = vl w
        · rw [if_pos (by rw [hqw]; simp [PyData.eqv])]
          exact j1 _ (by simp [ins, hqw, flat_cons, scD]) (by simp; omega) _ _ _ _
        · rw [if_neg (by simp [PyData.eqv]; exact fun z => hqw (Bd.sc_inj hq.1 i1 (by omega) (by omega) z))]
          exact ⟨by omega, j1 _ (by simp [ins, hqw, flat_cons, scD]) (by simp; omega) _ _ _ _⟩
    · simp only [rsts, if_neg hwv] at ht
      have hc : ¬ ((Bd.pn 400 (w, v)).1 = (Bd.pn 400 (w, v)).2 ∧ w.length = v.length) := fun ⟨q1, q2⟩ => by
        refine hwv (bin_inj q2 ?_)
        simp only [Bd.pn] at q1
        rw [q2] at q1
        have := Int.eq_of_mul_eq_mul_right (Int.ne_of_gt (Bd.pw2 (400 - v.length))) q1
        exact_mod_cast this
      have g : ∀ (p1 p2 p3 : Option PV) (p4 : PyData) (p5 : Option PV), Pu M (rsts ((pths M.1).zip (pths M.2)) []) (zipI ((k : Int) + 1) (zip2 (((dl M.1 0).drop (k + 1)).map nat) (((dl M.2 0).drop (k + 1)).map nat))) [some (.d (mpD M)), some (.L ((flat s).map scD)), some (.d (.list (prsD M))), none, p1, p2, p3, some (.d p4), p5] := fun p1 p2 p3 p4 p5 =>
        ⟨k + 1, s, p1, p2, p3, some (.d p4), p5, by rw [show ((k + 1 : Nat) : Int) = (k : Int) + 1 by omega], by omega, ht, by omega, hg, .inr ⟨p4, rfl⟩, rfl⟩
      simp only [List.map_drop] at g
      simp [f_law_due_B1, Du, nat, w1, v1, at1, ptD]
      by_cases q1 : (Bd.pn 400 (w, v)).1 = (Bd.pn 400 (w, v)).2
      · rw [if_pos q1, if_neg (fun z => hc ⟨q1, by omega⟩)]
        exact g _ _ _ _ _
      · rw [if_neg q1]
        exact g _ _ _ _ _
end K40
set_option maxRecDepth 100000
set_option maxHeartbeats 8000000
namespace Nd
end Nd
namespace Pw
end Pw
namespace Sp
end Sp
namespace K40
open PySem Rf Res Th Pn Nd Pw Sp
def fuel : Nat := 80
theorem rsts_swap : ∀ (ws vs : List (List Bool)) (s : List Q4), rsts (ws.zip vs) s = rsts (vs.zip ws) s
  | [], vs, s => by cases vs <;> rfl
  | w :: ws, [], s => rfl
  | w :: ws, v :: vs, s => by
    simp only [List.zip_cons_cons, rsts]
    by_cases h : w = v
    · subst h
      rw [if_pos rfl, if_pos rfl, rsts_swap ws vs]
    · rw [if_neg h, if_neg (fun z => h z.symm), rsts_swap ws vs]
theorem rsts_len : ∀ (xs : List (List Bool × List Bool)) (s : List Q4), (rsts xs s).length ≤ s.length + xs.length
  | [], s => by simp [rsts]
  | (w, v) :: r, s => by
    simp only [rsts, List.length_cons]
    split
    · have h1 := rsts_len r (ins s w)
      have h2 := ins_len s w
      omega
    · have h1 := rsts_len r s
      omega
theorem r_whole {f : Nat} (h : 1 ≤ f) (s : List Q4) : run prg G f 14 [.d (.list (s.map rD))] = ok (.d (.bool true), [none]) := by
  obtain ⟨n, rfl⟩ := Nat.exists_eq_add_of_le' h
  refine Cl_of (run_W (d := f_law_whole) rfl rfl ?_)
  simp [f_law_whole]
  refine W_for.mpr ?_
  simp
  refine for_typed rD (fun _ ρ => ∃ a b c : Option PV, ρ = [some (.d (.list (s.map rD))), a, b, c]) ?_ ?_ _ _ ⟨none, none, none, rfl⟩
  · rintro ρ ⟨a, b, c, rfl⟩
    simp [f_law_whole_R1, f_law_whole]
  · rintro p rs ρ ⟨a, b, c, rfl⟩
    refine ⟨_, rfl, ?_⟩
    simp [f_law_whole_B1, rD]
    refine ⟨rfl, W_for.mpr ?_⟩
    simp
    refine for_typed pt (fun _ ρ => ∃ b c : Option PV, ρ = [some (.d (.list (s.map rD))), some (.d (.tuple [pt p.1, pt p.2])), b, c]) ?_ ?_ [p.1, p.2] _ ⟨b, c, rfl⟩
    · rintro ρ ⟨b, c, rfl⟩
      simp
    · rintro q rs ρ ⟨b, c, rfl⟩
      refine ⟨_, rfl, ?_⟩
      simp [f_law_whole_B2, pt]
      refine ⟨rfl, W_for.mpr ?_⟩
      simp
      refine for_typed (fun i : Int => PyData.int i) (fun _ ρ => ∃ c : Option PV, ρ = [some (.d (.list (s.map rD))), some (.d (.tuple [pt p.1, pt p.2])), some (.d (.tuple [.int q.1, .int (q.2 : Int)])), c]) ?_ ?_ [q.1, (q.2 : Int)] _ ⟨c, rfl⟩
      · rintro ρ ⟨c, rfl⟩
        simp
        exact ⟨rfl, rfl⟩
      · rintro i rs ρ ⟨c, rfl⟩
        refine ⟨_, rfl, ?_⟩
        simp [f_law_whole_B3]
        exact ⟨rfl, rfl⟩
theorem law_ok : ∀ ns : List Int, ns.length ≤ 63 → (∀ z ∈ ns, Builtin.Int.intBits z ≤ 1048576) → ∃ os, run prg G fuel 15 [.d (scriptD ns)] = .ok (.d (.bool true), os) := by
  intro ns hl hb
  refine ⟨[none], ?_⟩
  refine Cl_of (run_W (n := 79) (d := f_law) rfl rfl ?_)
  simp [f_law]
  refine w_drawn (f := 79) (by omega) hl hb fun M hM => ?_
  obtain ⟨g1, g2, g3, g4⟩ := id hM
  have g1' : lv M.1 = lv M.2 := g1
  have t1 := w_tree (f := 79) (by omega) M.1 (by omega)
  have t2 := w_tree (f := 79) (by omega) M.2 (by omega)
  have t3 := w_due (f := 79) (by omega) hM
  have t4 := r_rests (f := 79) (by omega) g1 g2 g3 g4
  have t5 := r_rests (f := 79) (M := (M.2, M.1)) (by omega) g1'.symm g3 g2 (by show lv M.2 ≤ 60; omega)
  have sw : rsts ((pths M.2).zip (pths M.1)) [] = rsts ((pths M.1).zip (pths M.2)) [] := rsts_swap _ _ _
  simp only at t5
  have sl : (rsts ((pths M.1).zip (pths M.2)) []).length ≤ 60 := Nat.le_trans (rsts_len _ _) (by simp [pths_len]; omega)
  rw [sw] at t5
  generalize rsts ((pths M.1).zip (pths M.2)) [] = s at t3 t4 t5 sl
  have t6 := r_whole (f := 79) (by omega) s.reverse
  change run prg G 79 14 [.d (.list (rL s))] = _ at t6
  have eo := rL_eqOk s s
  have ee : PyData.eqvAll (rL s) (rL s) = true := SeqAt.eqvAll_refl _ (by rw [rL]; exact (rD_lay _).1)
  simp only [mp] at t4 t5
  simp [mpD, Cl_eq t1, Cl_eq t2]
  simp only [mpD] at t3
  have rl := rL_len s
  simp [Cl_eq t3, Cl_eq t4]
  refine ⟨rfl, eo, ee, ?_⟩
  simp [Cl_eq t6, Cl_eq t5, Cl_eq t4, ee, eo]
  omega
end K40
open PySem PySem.W PyProof.Rows
set_option maxHeartbeats 0 in
theorem PySem.Challenge.cw_halvewright_k40_whole_where_a_map_rests_holds : PySem.Challenge.rw_halvewright_k40_whole_where_a_map_rests.Holds := by
  w_on; o_law; k_head; (case hw => w_witness2)
  k_fill
  refine Rf.walkR (l := PySem.Challenge.rw_halvewright_k40_whole_where_a_map_rests) (m := 63) (k := K40.fuel) (f := 15) (x := "_law_script") (T := Rf.run K40.prg K40.G K40.fuel) rfl (by decide) rfl ⟨by decide, by decide, by decide⟩ (fun w h Y => by first | exact PySem.W.kIn_of Y | exact PySem.W.km_in_of Y) ?F K40.law_ok
  case F =>
    intro w mg fa h KX GN hmg
    refine Rf.law_mk (d := K40.f_law) (h := h) (K40.defs ⟨?d0, ?d1, ?d2, ?d3, ?d4, ?d5, ?d6, ?d7, ?d8, ?d9, ?d10, ?d11, ?d12, ?d13, ?d14, ?d15⟩) (K40.blts ⟨PySem.W.mg_none_of KX GN ?b0, PySem.W.mg_none_of KX GN ?b1, PySem.W.mg_none_of KX GN ?b2, PySem.W.mg_none_of KX GN ?b3, PySem.W.mg_none_of KX GN ?b4, PySem.W.mg_none_of KX GN ?b5, PySem.W.mg_none_of KX GN ?b6, PySem.W.mg_none_of KX GN ?b7, PySem.W.mg_none_of KX GN ?b8, PySem.W.mg_none_of KX GN ?b9, PySem.W.mg_none_of KX GN ?b10, PySem.W.mg_none_of KX GN ?b11, PySem.W.mg_none_of KX GN ?b12, PySem.W.mg_none_of KX GN ?b13, PySem.W.mg_none_of KX GN ?b14, PySem.W.mg_none_of KX GN ?b15, PySem.W.mg_none_of KX GN ?b16, PySem.W.mg_none_of KX GN ?b17, PySem.W.mg_none_of KX GN ?b18⟩) (fun _ _ h => by cases h) (K40.trysOk True.intro) (K40.errsOk True.intro) rfl hmg rfl rfl rfl
    (case d0 => refine' Rf.def_mk KX GN (x := "point") (y := "point") (st := K40.topS 1) (ps := ["n", "d"]) ?a ?l ?c ?k rfl rfl (fun _ _ _ _ _ _ us hl => match us, hl with | [_, _], _ => rfl) K40.c_point; (case a => k_is); (case l => k_is); (case c => k_is); (case k => k_is))
    (case d1 => refine' Rf.def_mk KX GN (x := "stretches") (y := "stretches") (st := K40.topS 3) (ps := ["tree", "n", "d"]) ?a ?l ?c ?k rfl rfl (fun _ _ _ _ _ _ us hl => match us, hl with | [_, _, _], _ => rfl) K40.c_stretches; (case a => k_is); (case l => k_is); (case c => k_is); (case k => k_is))
    (case d2 => refine' Rf.def_mk KX GN (x := "begins") (y := "begins") (st := K40.topS 4) (ps := ["tree"]) ?a ?l ?c ?k rfl rfl (fun _ _ _ _ _ _ us hl => match us, hl with | [_], _ => rfl) K40.c_begins; (case a => k_is); (case l => k_is); (case c => k_is); (case k => k_is))
    (case d3 => refine' Rf.def_mk KX GN (x := "rests") (y := "rests") (st := K40.topS 6) (ps := ["mapped"]) ?a ?l ?c ?k rfl rfl (fun _ _ _ _ _ _ us hl => match us, hl with | [_], _ => rfl) K40.c_rests; (case a => k_is); (case l => k_is); (case c => k_is); (case k => k_is))
    (case d4 => refine' Rf.def_mk KX GN (x := "_law_mixed") (y := "_law_mixed") (st := K40.topS 8) (ps := ["_law_script", "_law_at", "_law_k"]) ?a ?l ?c ?k rfl rfl (fun _ _ _ _ _ _ us hl => match us, hl with | [_, _, _], _ => rfl) K40.c_law_mixed; (case a => k_is); (case l => k_is); (case c => k_is); (case k => k_is))
    (case d5 => refine' Rf.def_mk KX GN (x := "_law_draws") (y := "_law_draws") (st := K40.topS 9) (ps := ["_law_script", "_law_at", "_law_many", "_law_m"]) ?a ?l ?c ?k rfl rfl (fun _ _ _ _ _ _ us hl => match us, hl with | [_, _, _, _], _ => rfl) K40.c_law_draws; (case a => k_is); (case l => k_is); (case c => k_is); (case k => k_is))
    (case d6 => refine' Rf.def_mk KX GN (x := "_law_grown") (y := "_law_grown") (st := K40.topS 10) (ps := ["_law_digits", "_law_shape"]) ?a ?l ?c ?k rfl rfl (fun _ _ _ _ _ _ us hl => match us, hl with | [_, _], _ => rfl) K40.c_law_grown; (case a => k_is); (case l => k_is); (case c => k_is); (case k => k_is))
    (case d7 => refine' Rf.def_mk KX GN (x := "_law_tree") (y := "_law_tree") (st := K40.topS 11) (ps := ["_law_depths"]) ?a ?l ?c ?k rfl rfl (fun _ _ _ _ _ _ us hl => match us, hl with | [_], _ => rfl) K40.c_law_tree; (case a => k_is); (case l => k_is); (case c => k_is); (case k => k_is))
    (case d8 => refine' Rf.def_mk KX GN (x := "_law_lists") (y := "_law_lists") (st := K40.topS 12) (ps := ["_law_script", "_law_at", "_law_most"]) ?a ?l ?c ?k rfl rfl (fun _ _ _ _ _ _ us hl => match us, hl with | [_, _, _], _ => rfl) K40.c_law_lists; (case a => k_is); (case l => k_is); (case c => k_is); (case k => k_is))
    (case d9 => refine' Rf.def_mk KX GN (x := "_law_bumped") (y := "_law_bumped") (st := K40.topS 13) (ps := ["_law_lists_here", "_law_digits"]) ?a ?l ?c ?k rfl rfl (fun _ _ _ _ _ _ us hl => match us, hl with | [_, _], _ => rfl) K40.c_law_bumped; (case a => k_is); (case l => k_is); (case c => k_is); (case k => k_is))
    (case d10 => refine' Rf.def_mk KX GN (x := "_law_pairs_of") (y := "_law_pairs_of") (st := K40.topS 14) (ps := ["_law_lists_here"]) ?a ?l ?c ?k rfl rfl (fun _ _ _ _ _ _ us hl => match us, hl with | [_], _ => rfl) K40.c_law_pairs_of; (case a => k_is); (case l => k_is); (case c => k_is); (case k => k_is))
    (case d11 => refine' Rf.def_mk KX GN (x := "_law_drawn") (y := "_law_drawn") (st := K40.topS 15) (ps := ["_law_script"]) ?a ?l ?c ?k rfl rfl (fun _ _ _ _ _ _ us hl => match us, hl with | [_], _ => rfl) K40.c_law_drawn; (case a => k_is); (case l => k_is); (case c => k_is); (case k => k_is))
    (case d12 => refine' Rf.def_mk KX GN (x := "_law_point") (y := "_law_point") (st := K40.topS 16) (ps := ["_law_x"]) ?a ?l ?c ?k rfl rfl (fun _ _ _ _ _ _ us hl => match us, hl with | [_], _ => rfl) K40.c_law_point; (case a => k_is); (case l => k_is); (case c => k_is); (case k => k_is))
    (case d13 => refine' Rf.def_mk KX GN (x := "_law_due") (y := "_law_due") (st := K40.topS 17) (ps := ["_law_lists_here"]) ?a ?l ?c ?k rfl rfl (fun _ _ _ _ _ _ us hl => match us, hl with | [_], _ => rfl) K40.c_law_due; (case a => k_is); (case l => k_is); (case c => k_is); (case k => k_is))
    (case d14 => refine' Rf.def_mk KX GN (x := "_law_whole") (y := "_law_whole") (st := K40.topS 18) (ps := ["_law_found"]) ?a ?l ?c ?k rfl rfl (fun _ _ _ _ _ _ us hl => match us, hl with | [_], _ => rfl) K40.c_law_whole; (case a => k_is); (case l => k_is); (case c => k_is); (case k => k_is))
    (case d15 => refine' Rf.def_mk KX GN (x := "law") (y := "law") (st := K40.topS 19) (ps := ["_law_script"]) ?a ?l ?c ?k rfl rfl (fun _ _ _ _ _ _ us hl => match us, hl with | [_], _ => rfl) K40.c_law; (case a => k_is); (case l => k_is); (case c => k_is); (case k => k_is))
    (case b0 => k_is)
    (case b1 => k_is)
    (case b2 => k_is)
    (case b3 => k_is)
    (case b4 => k_is)
    (case b5 => k_is)
    (case b6 => k_is)
    (case b7 => k_is)
    (case b8 => k_is)
    (case b9 => k_is)
    (case b10 => k_is)
    (case b11 => k_is)
    (case b12 => k_is)
    (case b13 => k_is)
    (case b14 => k_is)
    (case b15 => k_is)
    (case b16 => k_is)
    (case b17 => k_is)
    (case b18 => k_is)
