import PyProof.Rows.All
import HandS.Rev
import HandS.Conv
import KE.GoesMore
import KE.GoesEnum
import HandS.Walk
import HandS.Zip
import HandS.ExcIs
import HandS.More
import Wide.All
import OpenK.AllK
import Wide.FinOn
import HandS.ForMost
import HandS.Wide
import HandS.WideBits
import HandS.IsInst
import HandS.TupAny
import HandS.Exc
import HandS.ExcOwn
import HandS.TryOnly
import HandS.TryMany
import HandS.WordsExc
import KE.SortData
import HandS.Deep
import HandS.CallSlots
import HandS.SortKw
import KE.SortKeyHeap
import HandS.HotCalls
import HandS.Defaults
import PySem.Challenge.RW_tuningyard_k07_rising
set_option Elab.async false
set_option linter.all false
set_option maxRecDepth 100000
set_option maxHeartbeats 4000000
/-! PV, part 0: list(reversed(a list)) -/
namespace PV
open PySem PySem.Spec PyProof.Rows L2
section
variable {prog : Program} {w : World} {A : Around} {E : Value → Shared → Prop} {s : Shared}
theorem wpAny_extend_rev {R : Result → Shared → Prop} {it l : Addr} {items : Array Value} (hh : A.handled = none) (hit : s.heap.IsRevIter it l ((items.size : Int) - 1)) (hl : s.heap.IsList l items) (hne : l ≠ it) (hn : items.size ≤ sizeLine) (S : Addr) (res : Value) (c₀ : Nat) (hS : s.heap.get? S = some { cls := .type "list", data := .seq #[] c₀ }) (hSi : S ≠ it) (hSl : S ≠ l)
    (hR : ∀ h' tk acc' c', (∀ b o, b ≠ S → b ≠ it → s.heap.get? b = some o → h'.get? b = some o) → h'.get? S = some { cls := .type "list", dict := none, data := .seq acc' c', slots := #[] } →
      ItemsOf (fun i v => items[items.size - 1 - i]? = some v) acc' items.size → R (.ok (.ret res)) { s with heap := h', toks := tk }) :
    wpAny (model prog w) A.in1 (Builtin.List.listExtendWith (.ref S) (.ref it) res)
      (fun fin s' => match fin with | .done f => R (.ok f) s' | .again c' => c'.quiet = true ∧ codeAny (model prog w) A c' R s') (fun e s' => R (.error e) s') s := by
  have W := (Walks.listRev (prog := prog) (w := w) (A := A.in1) hh it l hne items).toS
  have hSf : S ∉ [it, l] := by simp only [List.mem_cons, List.not_mem_nil, or_false, not_or]; exact ⟨hSi, hSl⟩
  have hT : s.TypeIs (.ref it) "list_reverseiterator" := hit.typeIs
  have h1 : Builtin.List.listSameRef (.ref S) (.ref it) = false := by simp [Builtin.List.listSameRef, hSi]
  unfold Builtin.List.listExtendWith
  refine wpAny_bind (wpAny_typeOf hT ?_)
  rw [if_neg (by rw [h1]; decide)]
  refine wpAny_bind (wpAny_pyIter_revIter hit ?_)
  refine wpAny_bind (wpAny_holding ?_)
  unfold Builtin.List.listLengthHint
  refine wpAny_bind (wpAny_specialOf hT RT.nolen_lri ?_)
  show wpAny _ A.in1 (specialOf (Value.ref it) (Str.ofString "__length_hint__") >>= _) _ _ _
  refine wpAny_bind (wpAny_specialOf hT RT.hint_lri ?_)
  generalize hid : ("list_reverseiterator.__length_hint__" : String) = id0
  wp_delta
  rw [show splitId id0 = some ("list_reverseiterator", "__length_hint__") from by subst hid; decide +kernel]
  subst hid
  refine wpAny_bind (wpAny_isInstance (b := true) hT (by rw [isSubtype_type]; kernel_rfl) ?_)
  refine wpAny_pure ?_
  rw [if_neg (by decide)]
  have e0 : ((items.size : Nat) : Int) - 1 - ((0 : Nat) : Int) = (items.size : Int) - 1 := by omega
  refine wpAny_pure ⟨plainId_quiet F.plain_extend_loop _, codeAny_extend_loopS W hn _ hSf _ items.size 0 _ _ _ rfl (Nat.zero_le _) ⟨Nat.zero_le _, by rw [e0]; exact hit, hl⟩ hS (ItemsOf.nil _) fun s' acc' c' hm hS' hacc => ?_⟩
  rw [Moved.eq_with hm]
  refine hR s'.heap s'.toks acc' c' (fun b o hb1 hb2 e => hm.heap b o (fun hmem => ?_) e) hS' hacc
  rcases List.mem_cons.mp hmem with e' | hmem
  · exact hb1 e'
  · exact hb2 (List.mem_singleton.mp hmem)
theorem wpAny_list_init_rev {R : Result → Shared → Prop} {it l : Addr} {items : Array Value} (hh : A.handled = none) (hit : s.heap.IsRevIter it l ((items.size : Int) - 1)) (hl : s.heap.IsList l items) (hne : l ≠ it) (hn : items.size ≤ sizeLine) (S : Addr) (hS : s.heap.get? S = some { cls := .type "list", data := .seq #[] }) (hSi : S ≠ it) (hSl : S ≠ l)
    (hR : ∀ h' tk acc' c', (∀ b o, b ≠ S → b ≠ it → s.heap.get? b = some o → h'.get? b = some o) → h'.get? S = some { cls := .type "list", dict := none, data := .seq acc' c', slots := #[] } →
      ItemsOf (fun i v => items[items.size - 1 - i]? = some v) acc' items.size → R (.ok (.ret .none)) { s with heap := h', toks := tk }) :
    wpAny (model prog w) A.in1 (Builtin.«list.__init__» ⟨[.ref S, .ref it], []⟩)
      (fun fin s' => match fin with | .done f => R (.ok f) s' | .again c' => c'.quiet = true ∧ codeAny (model prog w) A c' R s') (fun e s' => R (.error e) s') s := by
  show wpAny _ _ (do let old ← Builtin.List.listItems (.ref S); Builtin.List.listUpdate (.ref S) (fun _ => #[]); letGo old.toList.reverse; Builtin.List.listExtendWith (.ref S) (.ref it) .none) _ _ s
  refine wpAny_bind ?_
  unfold Builtin.List.listItems
  refine wpAny_bind (wpAny_seqItems hS rfl (wpAny_pure ?_))
  show wpAny _ _ (updateSeq S (fun _ => #[]) >>= fun _ => letGo (#[] : Array Value).toList.reverse >>= fun _ => Builtin.List.listExtendWith (.ref S) (.ref it) .none) _ _ s
  refine wpAny_bind (wpAny_updateSeq hS rfl ?_)
  have hS₂ := Heap.get?_update_self (Obj.mapSeq (fun _ => (#[] : Array Value))) hS rfl
  have oth : ∀ b o, b ≠ S → s.heap.get? b = some o → (s.heap.update S (Obj.mapSeq (fun _ => (#[] : Array Value)))).get? b = some o :=
    fun b o hb e => (Heap.get?_update_other _ _ (Ne.symm hb)).trans e
  refine wpAny_bind (wpAny_letGo ?_)
  refine wpAny_extend_rev hh (hit.at fun o e => oth it o (Ne.symm hSi) e) (hl.at fun o e => oth l o (Ne.symm hSl) e) hne hn S .none _ hS₂ hSi hSl fun h' tk acc' c' hk hS' hacc => ?_
  exact hR h' tk acc' c' (fun b o hb1 hb2 e => hk b o hb1 hb2 (oth b o hb1 e)) hS' hacc
theorem call_list_rev {it l : Addr} {items : Array Value} {Q : Value → Shared → Prop} (hh : A.handled = none) (hit : s.heap.IsRevIter it l ((items.size : Int) - 1)) (hl : s.heap.IsList l items) (hne : l ≠ it) (hn : items.size ≤ sizeLine)
    (hQ : ∀ h' tk acc' c', (∀ b o, b ≠ it → s.heap.get? b = some o → h'.get? b = some o) →
      h'.get? s.heap.objs.size = some { cls := .type "list", dict := none, data := .seq acc' c', slots := #[] } → ItemsOf (fun i v => items[items.size - 1 - i]? = some v) acc' items.size → Q (.ref s.heap.objs.size) { s with heap := h', toks := tk }) :
    wpAny (model prog w) A (call (.type "list") [.ref it]) Q E s := by
  obtain ⟨oi, hoi, _⟩ := id hit
  obtain ⟨ol, hol, _⟩ := id hl
  have hSi : s.heap.objs.size ≠ it := Nat.ne_of_gt (Heap.lt_size hoi)
  have hSl : s.heap.objs.size ≠ l := Nat.ne_of_gt (Heap.lt_size hol)
  refine callType_codes (Q₁ := fun obj s₁ => obj = .ref s.heap.objs.size ∧ s₁ = { s with heap := s.heap.push { cls := .type "list", data := .seq #[] } }) F.called_list (F.typeCall_list_1 _) F.entry_list_init
    (code_list_new _ ⟨rfl, rfl⟩) fun obj s₁ h₁ => ?_
  obtain ⟨rfl, rfl⟩ := h₁
  have hS : (s.heap.push { cls := .type "list", data := .seq #[] }).get? s.heap.objs.size = some { cls := .type "list", data := .seq #[] } := Heap.get?_push_size _ rfl
  refine ⟨⟨_, hS, rfl⟩, F.args_list_init_2 _ _, wpAny_list_init_rev (A := A.in1) hh (hit.at fun o e => Heap.get?_push_of_some _ e) (hl.push _) hne hn _ hS hSi hSl fun h' tk acc' c' hk hS' hacc => ?_⟩
  exact ⟨rfl, hQ h' tk acc' c' (fun b o hb e => hk b o (Nat.ne_of_lt (Heap.lt_size e)) hb (Heap.get?_push_of_some _ e)) hS' hacc⟩
end
/-- list(reversed(x)), x a list: a new list -/
def tLstRev (K : PySem.W.Frag) (te : TE) : TE := fun σ H Q => te σ H fun v H1 => ∃ (a : Addr) (xs : List V), v = .ref a ∧ SqL K H1 a xs ∧ ∀ q, H1 q = none → Q (.ref q) (upd H1 q (.lst xs.reverse))
theorem pe_lstRev {X : Cx} {e : Expr} {te : TE} {p p2 pos pos2 : Pos} (hc : X.calm = true) (hg : Gl X "list") (hm : X.mg "list" = none) (hg2 : Gl X "reversed") (hm2 : X.mg "reversed" = none) (he : PE X e te)
    (hs : starEach [e] X.env = (false, eval e X.env) :: starEach [] X.env)
    (hs2 : starEach [.Call (.Name "reversed" p2) [e] [] pos2] X.env = (false, eval (.Call (.Name "reversed" p2) [e] [] pos2) X.env) :: starEach [] X.env) :
    PE X (.Call (.Name "list" p) [.Call (.Name "reversed" p2) [e] [] pos2] [] pos) (tLstRev X.K te) := by
  refine ⟨fun pins s σ H Q I h => ?_⟩
  refine Call_ (ld_blt I hg hm boot_list (PyProof.Rows.callWith_type1 (args_cons (Call_ (ld_blt I hg2 hm2 PyProof.Rows.boot_reversed (PyProof.Rows.callWith_type1 (args_cons (thn (he.run pins s σ H _ I h) fun u s1 ⟨v, H1, I1, r1, q1⟩ => args_nil ?_) hs) hs rfl))) hs2) hs2 rfl))
  obtain ⟨a, xs, ev, hq, q⟩ := q1
  subst ev
  obtain rfl : u = Value.ref a := r1
  obtain ⟨its, rv, p', hz⟩ := I1.list hq
  refine call_reversed_list p'.isList (args_nil ?_)
  have k0 : ∀ b o, s1.heap.get? b = some o → (s1.heap.push (revObj a ((its.toArray.size : Int) - 1))).get? b = some o := fun b o e => Heap.get?_push_of_some _ e
  have I2 : Inv X pins σ H1 { s1 with heap := s1.heap.push (revObj a ((its.toArray.size : Int) - 1)) } := I1.kept (t' := s1.toks) k0
  obtain ⟨f0, f1, f2, f3, f4, f5⟩ := I1.fpOk (H' := H1) (b := s1.heap.objs.size) (Nat.le_refl _) (I1.hok.fresh (Nat.le_refl _))
  have hl := p'.isList
  obtain ⟨ol, hol, _⟩ := id hl
  have hne : a ≠ s1.heap.objs.size := Nat.ne_of_lt (Heap.lt_size hol)
  have hn : its.toArray.size ≤ sizeLine := by rw [List.size_toArray, ← rv.length]; exact hz
  refine call_list_rev (s := { s1 with heap := s1.heap.push (revObj a ((its.toArray.size : Int) - 1)) }) (I1.ok.hd hc) ⟨_, Heap.get?_push_size _ rfl, rfl, rfl⟩ (hl.push _) hne hn fun h' tk acc c' hk hS hi => ?_
  have e1 : (s1.heap.push (revObj a ((its.toArray.size : Int) - 1))).objs.size = s1.heap.objs.size + 1 := Heap.size_push ..
  have fr : H1 (s1.heap.push (revObj a ((its.toArray.size : Int) - 1))).objs.size = none := I2.hok.fresh (Nat.le_refl _)
  have new : ObjOk X.prog X.w (upd H1 (s1.heap.push (revObj a ((its.toArray.size : Int) - 1))).objs.size (.lst xs.reverse)) h' (s1.heap.push (revObj a ((its.toArray.size : Int) - 1))).objs.size (.lst xs.reverse) :=
    ⟨by rw [List.length_reverse]; exact hz, acc.toList, c', RT.vals_rev rv hi, by rw [Array.toArray_toList]; exact hS⟩
  refine ⟨.ref (s1.heap.push (revObj a ((its.toArray.size : Int) - 1))).objs.size, _, I2.turnedNew (t' := tk) (ch := [s1.heap.objs.size]) (fun b o hb e => hk b o (fun z => hb (by simp [z])) e) (fun b hb => ?_) (Nat.le_refl _) new, rfl, q _ fr⟩
  rw [List.mem_singleton.mp hb]
  exact ⟨f0, f1, f2, f3, f4, f5⟩
end PV

/-! PV, part Z: zip of two or three, enumerate, over lists and tuples in any mix -/
namespace PV
open PySem PySem.Spec PyProof.Rows L2

/-- a list or a tuple -/
def SqA (K : PySem.W.Frag) (b : Bool) (H : Hp) (a : Addr) (xs : List V) : Prop := (b = true ∧ SqL K H a xs) ∨ (b = false ∧ SqT K H a xs)
def HIt (b : Bool) (h : Heap) (it a : Addr) (i : Nat) : Prop := if b = true then h.IsListIter it a i else h.IsTupleIter it a i
def HSq (b : Bool) (h : Heap) (a : Addr) (its : Array Value) : Prop := if b = true then h.IsList a its else h.IsTuple a its
def oIt (b : Bool) (a : Addr) : Obj := if b = true then { cls := .type "list_iterator", data := .fields #[.ref a, .int 0 0] } else { cls := .type "tuple_iterator", data := .fields #[.ref a, .int 0 0] }
theorem oIt_free {b : Bool} {a : Addr} : (oIt b a).isFreed = false := by cases b <;> rfl
theorem hIt_new {b : Bool} {h : Heap} {it a : Addr} (e : h.get? it = some (oIt b a)) : HIt b h it a 0 := by
  cases b with
  | true => exact ⟨_, e, rfl, rfl⟩
  | false => exact ⟨_, e, rfl, rfl⟩
theorem HIt.at {b : Bool} {h h' : Heap} {it a : Addr} {i : Nat} (x : HIt b h it a i) (k : ∀ o, h.get? it = some o → h'.get? it = some o) : HIt b h' it a i := by
  cases b with
  | true => exact Heap.IsListIter.at x k
  | false => exact Heap.IsTupleIter.at x k
theorem HIt.obj {b : Bool} {h : Heap} {it a : Addr} {i : Nat} (x : HIt b h it a i) : ∃ o, h.get? it = some o ∧ ∀ v, o.data ≠ .cell v := by
  cases b with
  | true => obtain ⟨o, e, _, d⟩ := x; exact ⟨o, e, fun v q => by rw [d] at q; cases q⟩
  | false => obtain ⟨o, e, _, d⟩ := x; exact ⟨o, e, fun v q => by rw [d] at q; cases q⟩
theorem HSq.at {b : Bool} {h h' : Heap} {a : Addr} {its : Array Value} (x : HSq b h a its) (k : ∀ o, h.get? a = some o → h'.get? a = some o) : HSq b h' a its := by
  cases b with
  | true => exact Heap.IsList.at x k
  | false => exact Heap.IsTuple.at x k
theorem HSq.lt {b : Bool} {h : Heap} {a : Addr} {its : Array Value} (x : HSq b h a its) : a < h.objs.size := by
  cases b with
  | true => obtain ⟨o, e, _⟩ := x; exact Heap.lt_size e
  | false => obtain ⟨o, e, _⟩ := x; exact Heap.lt_size e
theorem beginsA (b : Bool) (a : Addr) (its : Array Value) : Begins (.ref a) (oIt b a) (fun h => HSq b h a its) := by
  cases b with
  | true => exact begins_list a its
  | false => exact begins_tuple a its
theorem drawsA {P : Program} {w : World} {A : Around} (hh : A.handled = none) (b : Bool) (it a : Addr) (hne : a ≠ it) (its : Array Value) :
    Draws P w A it [it, a] its.size (fun i v => its[i]? = some v) (fun i h => HIt b h it a i ∧ HSq b h a its) := by
  cases b with
  | true => exact .list hh it a hne its
  | false => exact .tuple hh it a hne its
section
variable {X : Cx} {pins : List (Addr × Obj)} {σ : L2.St} {H : Hp} {s : Shared} {b : Bool} {a : Addr} {xs ys : List V}
theorem invA (I : Inv X pins σ H s) (h : SqA X.K b H a xs) : ∃ its : List Value, Vals xs its ∧ HSq b s.heap a its.toArray ∧ xs.length ≤ sizeLine := by
  rcases h with ⟨rfl, h⟩ | ⟨rfl, h⟩
  · obtain ⟨its, rv, p, z⟩ := I.list h
    exact ⟨its, rv, p.isList, z⟩
  · obtain ⟨its, rv, p, z⟩ := I.tuple h
    exact ⟨its, rv, p, z⟩
theorem invA_inj (I : Inv X pins σ H s) (h : SqA X.K b H a xs) (h' : SqA X.K b H a ys) : xs = ys := by
  rcases h with ⟨rfl, h⟩ | ⟨rfl, h⟩
  · rcases h' with ⟨_, h'⟩ | ⟨e, _⟩
    · exact I.list_inj h h'
    · cases e
  · rcases h' with ⟨e, _⟩ | ⟨_, h'⟩
    · cases e
    · exact I.tuple_inj h h'
end

/-- lists or tuples as they stand at each turn, the items in new tuples of 2 -/
def ItZ2 (K : PySem.W.Frag) (k1 k2 : Bool) (a1 a2 : Addr) : It :=
  ⟨fun i H => ∃ (xs1 xs2 : List V) (x1 x2 : V), SqA K k1 H a1 xs1 ∧ SqA K k2 H a2 xs2 ∧ xs1[i]? = some x1 ∧ xs2[i]? = some x2,
    fun i H v H' => ∃ T x1 x2, v = .ref T ∧ H T = none ∧ H' = upd H T (.tup [x1, x2]) ∧ (∀ xs, SqA K k1 H a1 xs → xs[i]? = some x1) ∧ (∀ xs, SqA K k2 H a2 xs → xs[i]? = some x2),
    fun i H => ∃ xs1 xs2 : List V, SqA K k1 H a1 xs1 ∧ SqA K k2 H a2 xs2 ∧ i = min xs1.length xs2.length⟩
theorem turn_z2 {P : Program} {w : World} {K : PySem.W.Frag} {elts : List Expr} {kk : Nat} {tpos : Pos} {k1 k2 : Bool} {a1 a2 z TI TO i1 i2 : Addr} (D : ZipSep2 z TI TO i1 i2 [i1, a1] [i2, a2]) (n1 : a1 ≠ i1) (n2 : a2 ≠ i2) :
    Turn P w K (.Tuple elts kk tpos) (ItZ2 K k1 k2 a1 a2) [z, TI, TO, i1, i2] z (fun i h => IsZip h z TI TO .none ∧ IsTupOf2 h TI (.ref i1) (.ref i2) ∧ (∃ x1 x2, IsTupOf2 h TO x1 x2) ∧ HIt k1 h i1 a1 i ∧ HIt k2 h i2 a2 i) where
  mem := by simp
  obj := fun i h st c hc => by
    obtain ⟨hz, hTI, ⟨x1, x2, hTO⟩, h1, h2⟩ := st
    have e' : c = z ∨ c = TI ∨ c = TO ∨ c = i1 ∨ c = i2 := by simpa using hc
    rcases e' with q | q | q | q | q
    · rw [q]; exact ⟨_, hz, fun v q => nomatch q⟩
    · rw [q]; exact ⟨_, hTI, fun v q => nomatch q⟩
    · rw [q]; exact ⟨_, hTO, fun v q => nomatch q⟩
    · rw [q]; exact h1.obj
    · rw [q]; exact h2.obj
  keep := fun i h h' st k => by
    obtain ⟨hz, hTI, ⟨x1, x2, hTO⟩, h1, h2⟩ := st
    exact ⟨k z (by simp) _ hz, k TI (by simp) _ hTI, ⟨x1, x2, k TO (by simp) _ hTO⟩, h1.at fun o q => k i1 (by simp) o q, h2.at fun o q => k i2 (by simp) o q⟩
  item := by
    intro X hP hw hK hc i pins s σ H E I hf st hg
    subst hP hw hK
    obtain ⟨hz, hTI, ⟨y1, y2, hTO⟩, h1, h2⟩ := st
    obtain ⟨xs1, xs2, x1, x2, hq1, hq2, hx1, hx2⟩ := hg
    obtain ⟨its1, rv1, p1, _⟩ := invA I hq1
    obtain ⟨u1, hu1, ru1⟩ := rv1.get hx1
    have hu1' : its1.toArray[i]? = some u1 := by simpa using hu1
    have lt1 : i < its1.toArray.size := (Array.getElem?_eq_some_iff.mp hu1').1
    obtain ⟨its2, rv2, p2, _⟩ := invA I hq2
    obtain ⟨u2, hu2, ru2⟩ := rv2.get hx2
    have hu2' : its2.toArray[i]? = some u2 := by simpa using hu2
    have lt2 : i < its2.toArray.size := (Array.getElem?_eq_some_iff.mp hu2').1
    have hzl : z < s.heap.objs.size := Heap.lt_size hz
    have hh : X.A.in1.handled = none := I.ok.hd hc
    refine wpAny_pyNext_zipD2_item D (drawsA hh k1 i1 a1 n1 its1.toArray) (drawsA hh k2 i2 a2 n2 its2.toArray) hz hTI hTO ⟨h1, p1⟩ ⟨h2, p2⟩ lt1 lt2 fun v1 v2 h' tk e1 e2 z' TO' g1 g2 hT hsz hk => ?_
    have ev1 : v1 = u1 := Option.some.inj (e1.symm.trans hu1')
    subst ev1
    have ev2 : v2 = u2 := Option.some.inj (e2.symm.trans hu2')
    subst ev2
    refine ⟨_, rfl, wpAny_letOwnedTupleGo_zip (s := { s with heap := h', toks := tk }) z' fun h'' z'' sb => ?_⟩
    have hT2 : h''.get? s.heap.objs.size = some { cls := .type "tuple", data := .seq #[v1, v2] } := (sb.2 _ (Nat.ne_of_gt hzl)).trans hT
    have new : ObjOk X.prog X.w (upd H s.heap.objs.size (.tup [x1, x2])) h'' s.heap.objs.size (.tup [x1, x2]) :=
      ⟨by show 2 ≤ sizeLine; decide, [v1, v2], .cons ru1 (.cons ru2 (.nil)), ⟨_, hT2, rfl, _, rfl⟩⟩
    have I1 : Inv X pins σ (upd H s.heap.objs.size (.tup [x1, x2])) { s with heap := h'', toks := tk } :=
      I.turnedNew (t' := tk) (ch := [z, TI, TO, i1, i2]) (fun c o hb q => (sb.2 c (fun q' => hb (by simp [q']))).trans (hk c o (fun q' => hb (by simp [q'])) (fun q' => hb (by simp [q'])) (fun q' => hb (by simp [q'])) (fun q' => hb (by simp [q'])) q)) hf (Nat.le_refl _) new
    refine ⟨.ref s.heap.objs.size, _, I1, rfl, ⟨_, x1, x2, rfl, I.hok.fresh (Nat.le_refl _), rfl, fun l hl => by rw [invA_inj I hl hq1]; exact hx1, fun l hl => by rw [invA_inj I hl hq2]; exact hx2⟩, ⟨z'', ?_, ⟨v1, v2, ?_⟩, ?_, ?_⟩, fun c hcm => ?_⟩
    · exact (sb.2 _ D.TIz).trans (hk _ _ D.TIz D.TITO D.TIi1 D.TIi2 hTI)
    · exact (sb.2 _ D.TOz).trans TO'
    · exact g1.1.at fun o q => (sb.2 _ (Ne.symm D.zi1)).trans q
    · exact g2.1.at fun o q => (sb.2 _ (Ne.symm D.zi2)).trans q
    · have hlt : c < s.heap.objs.size := by
        have e' : c = z ∨ c = TI ∨ c = TO ∨ c = i1 ∨ c = i2 := by simpa using hcm
        rcases e' with q | q | q | q | q
        · rw [q]; exact hzl
        · rw [q]; exact Heap.lt_size hTI
        · rw [q]; exact Heap.lt_size hTO
        · rw [q]; obtain ⟨_, e1, _⟩ := h1.obj; exact Heap.lt_size e1
        · rw [q]; obtain ⟨_, e1, _⟩ := h2.obj; exact Heap.lt_size e1
      rw [upd_ne (Nat.ne_of_lt hlt)]
      exact (hf c hcm).1
  done := by
    intro X hP hw hK hc i pins s σ H E I hf st hg
    subst hP hw hK
    obtain ⟨hz, hTI, ⟨y1, y2, hTO⟩, h1, h2⟩ := st
    obtain ⟨xs1, xs2, hq1, hq2, hend⟩ := hg
    obtain ⟨its1, rv1, p1, _⟩ := invA I hq1
    have l1 : xs1.length = its1.toArray.size := by rw [List.size_toArray]; exact rv1.length
    obtain ⟨its2, rv2, p2, _⟩ := invA I hq2
    have l2 : xs2.length = its2.toArray.size := by rw [List.size_toArray]; exact rv2.length
    have hh : X.A.in1.handled = none := I.ok.hd hc
    exact wpAny_pyNext_zipD2_end D (drawsA hh k1 i1 a1 n1 its1.toArray) (drawsA hh k2 i2 a2 n2 its2.toArray) hz hTI hTO ⟨h1, p1⟩ ⟨h2, p2⟩ (by omega) (by omega) (by omega) fun h' tk hk => ⟨rfl, I.turnedL (t' := tk) (ch := [z, TI, TO, i1, i2]) (fun c o hb q =>
      hk c o (fun q' => hb (by simp [q'])) (fun q' => hb (by simp [q'])) (fun q' => hb (by simp [q'])) (fun q' => hb (by simp [q'])) q) hf⟩
  self := fun A i s Q E st h => wpAny_pyIter_zip st.1 h
theorem below_two {N a : Nat} (h : a < N) : ∀ b ∈ [a], b < N := fun b hb => by
  rw [List.mem_singleton.mp hb]; exact h
def iZip2 (K : PySem.W.Frag) (ta : TA) : TI := fun σ H R => ta σ H fun vs H1 => ∃ (k1 k2 : Bool) (a1 a2 : Addr) (xs1 xs2 : List V), vs = [.ref a1, .ref a2] ∧ SqA K k1 H1 a1 xs1 ∧ SqA K k2 H1 a2 xs2 ∧ R (ItZ2 K k1 k2 a1 a2) H1
theorem pi_zip2 {X : Cx} {e1 e2 : Expr} {ta : TA} {p pos tpos : Pos} {elts : List Expr} {kk : Nat} (hg : Gl X "zip") (hm : X.mg "zip" = none) (ha : PA X [e1, e2] ta)
    (hs : starEach [e1, e2] X.env = (false, eval e1 X.env) :: starEach [e2] X.env) (hpl : (backTo pos (starEach [e2] X.env)).any (·.1) = false) :
    PI X (.Tuple elts kk tpos) (.Call (.Name "zip" p) [e1, e2] [] pos) (iZip2 X.K ta) := by
  refine ⟨fun pins s σ H R I h => ?_⟩
  refine Call_ (ld_blt I hg hm PyProof.Rows.boot_zip (PyProof.Rows.callWith_type1 (thn (ha.run pos pins s σ H _ I h) fun us s1 ⟨vs, H1, I1, r1, q1⟩ => ?_) hs hpl))
  obtain ⟨k1, k2, a1, a2, xs1, xs2, ex, hq1, hq2, q⟩ := q1
  subst ex
  obtain ⟨its1, rv1, p1, _⟩ := invA I1 hq1
  have lt1 := p1.lt
  obtain ⟨its2, rv2, p2, _⟩ := invA I1 hq2
  have lt2 := p2.lt
  have fresh : ∀ c, c ∈ [s1.heap.objs.size + 4, s1.heap.objs.size + 2, s1.heap.objs.size + 3, s1.heap.objs.size, s1.heap.objs.size + 1] → FpOk X pins H1 c := fun c hcm => by
    have e' : c = s1.heap.objs.size + 4 ∨ c = s1.heap.objs.size + 2 ∨ c = s1.heap.objs.size + 3 ∨ c = s1.heap.objs.size ∨ c = s1.heap.objs.size + 1 := by simpa using hcm
    have hle : s1.heap.objs.size ≤ c := by
      rcases e' with z | z | z | z | z <;> rw [z] <;> first | exact Nat.le_refl _ | exact Nat.le_add_right _ _
    exact I1.fpOk hle (I1.hok.fresh hle)
  have hvs : us = [Value.ref a1, Value.ref a2] := by
    cases r1 with
    | cons q1 r1 => cases r1 with
      | cons q2 r1 => cases r1; cases q1; cases q2; rfl
  subst hvs
  refine zip_begins2 (beginsA k1 a1 its1.toArray) (beginsA k2 a2 its2.toArray) p1 p2 fun h' hz hTI hTO h1 h2 hsz hk => wpAny_pyIter_zip hz ?_
  have I2 : Inv X pins σ H1 { s1 with heap := h' } := I1.kept (t' := s1.toks) hk
  refine ⟨s1.heap.objs.size + 4, [s1.heap.objs.size + 4, s1.heap.objs.size + 2, s1.heap.objs.size + 3, s1.heap.objs.size, s1.heap.objs.size + 1], _, _, H1, rfl, I2,
    turn_z2 (zip_sep2 (below_two lt1) (below_two lt2)) (Nat.ne_of_lt lt1) (Nat.ne_of_lt (Nat.lt_of_lt_of_le lt2 (Nat.le_add_right _ _))), ⟨hz, hTI, ⟨_, _, hTO⟩, hIt_new h1, hIt_new h2⟩, fresh, q⟩
/-- lists or tuples as they stand at each turn, the items in new tuples of 3 -/
def ItZ3 (K : PySem.W.Frag) (k1 k2 k3 : Bool) (a1 a2 a3 : Addr) : It :=
  ⟨fun i H => ∃ (xs1 xs2 xs3 : List V) (x1 x2 x3 : V), SqA K k1 H a1 xs1 ∧ SqA K k2 H a2 xs2 ∧ SqA K k3 H a3 xs3 ∧ xs1[i]? = some x1 ∧ xs2[i]? = some x2 ∧ xs3[i]? = some x3,
    fun i H v H' => ∃ T x1 x2 x3, v = .ref T ∧ H T = none ∧ H' = upd H T (.tup [x1, x2, x3]) ∧ (∀ xs, SqA K k1 H a1 xs → xs[i]? = some x1) ∧ (∀ xs, SqA K k2 H a2 xs → xs[i]? = some x2) ∧ (∀ xs, SqA K k3 H a3 xs → xs[i]? = some x3),
    fun i H => ∃ xs1 xs2 xs3 : List V, SqA K k1 H a1 xs1 ∧ SqA K k2 H a2 xs2 ∧ SqA K k3 H a3 xs3 ∧ i = min (min xs1.length xs2.length) xs3.length⟩
theorem turn_z3 {P : Program} {w : World} {K : PySem.W.Frag} {elts : List Expr} {kk : Nat} {tpos : Pos} {k1 k2 k3 : Bool} {a1 a2 a3 z TI TO i1 i2 i3 : Addr} (D : ZipSep3 z TI TO i1 i2 i3 [i1, a1] [i2, a2] [i3, a3]) (n1 : a1 ≠ i1) (n2 : a2 ≠ i2) (n3 : a3 ≠ i3) :
    Turn P w K (.Tuple elts kk tpos) (ItZ3 K k1 k2 k3 a1 a2 a3) [z, TI, TO, i1, i2, i3] z (fun i h => IsZip h z TI TO .none ∧ IsTupOf3 h TI (.ref i1) (.ref i2) (.ref i3) ∧ (∃ x1 x2 x3, IsTupOf3 h TO x1 x2 x3) ∧ HIt k1 h i1 a1 i ∧ HIt k2 h i2 a2 i ∧ HIt k3 h i3 a3 i) where
  mem := by simp
  obj := fun i h st c hc => by
    obtain ⟨hz, hTI, ⟨x1, x2, x3, hTO⟩, h1, h2, h3⟩ := st
    have e' : c = z ∨ c = TI ∨ c = TO ∨ c = i1 ∨ c = i2 ∨ c = i3 := by simpa using hc
    rcases e' with q | q | q | q | q | q
    · rw [q]; exact ⟨_, hz, fun v q => nomatch q⟩
    · rw [q]; exact ⟨_, hTI, fun v q => nomatch q⟩
    · rw [q]; exact ⟨_, hTO, fun v q => nomatch q⟩
    · rw [q]; exact h1.obj
    · rw [q]; exact h2.obj
    · rw [q]; exact h3.obj
  keep := fun i h h' st k => by
    obtain ⟨hz, hTI, ⟨x1, x2, x3, hTO⟩, h1, h2, h3⟩ := st
    exact ⟨k z (by simp) _ hz, k TI (by simp) _ hTI, ⟨x1, x2, x3, k TO (by simp) _ hTO⟩, h1.at fun o q => k i1 (by simp) o q, h2.at fun o q => k i2 (by simp) o q, h3.at fun o q => k i3 (by simp) o q⟩
  item := by
    intro X hP hw hK hc i pins s σ H E I hf st hg
    subst hP hw hK
    obtain ⟨hz, hTI, ⟨y1, y2, y3, hTO⟩, h1, h2, h3⟩ := st
    obtain ⟨xs1, xs2, xs3, x1, x2, x3, hq1, hq2, hq3, hx1, hx2, hx3⟩ := hg
    obtain ⟨its1, rv1, p1, _⟩ := invA I hq1
    obtain ⟨u1, hu1, ru1⟩ := rv1.get hx1
    have hu1' : its1.toArray[i]? = some u1 := by simpa using hu1
    have lt1 : i < its1.toArray.size := (Array.getElem?_eq_some_iff.mp hu1').1
    obtain ⟨its2, rv2, p2, _⟩ := invA I hq2
    obtain ⟨u2, hu2, ru2⟩ := rv2.get hx2
    have hu2' : its2.toArray[i]? = some u2 := by simpa using hu2
    have lt2 : i < its2.toArray.size := (Array.getElem?_eq_some_iff.mp hu2').1
    obtain ⟨its3, rv3, p3, _⟩ := invA I hq3
    obtain ⟨u3, hu3, ru3⟩ := rv3.get hx3
    have hu3' : its3.toArray[i]? = some u3 := by simpa using hu3
    have lt3 : i < its3.toArray.size := (Array.getElem?_eq_some_iff.mp hu3').1
    have hzl : z < s.heap.objs.size := Heap.lt_size hz
    have hh : X.A.in1.handled = none := I.ok.hd hc
    refine wpAny_pyNext_zipD3_item D (drawsA hh k1 i1 a1 n1 its1.toArray) (drawsA hh k2 i2 a2 n2 its2.toArray) (drawsA hh k3 i3 a3 n3 its3.toArray) hz hTI hTO ⟨h1, p1⟩ ⟨h2, p2⟩ ⟨h3, p3⟩ lt1 lt2 lt3 fun v1 v2 v3 h' tk e1 e2 e3 z' TO' g1 g2 g3 hT hsz hk => ?_
    have ev1 : v1 = u1 := Option.some.inj (e1.symm.trans hu1')
    subst ev1
    have ev2 : v2 = u2 := Option.some.inj (e2.symm.trans hu2')
    subst ev2
    have ev3 : v3 = u3 := Option.some.inj (e3.symm.trans hu3')
    subst ev3
    refine ⟨_, rfl, wpAny_letOwnedTupleGo_zip (s := { s with heap := h', toks := tk }) z' fun h'' z'' sb => ?_⟩
    have hT2 : h''.get? s.heap.objs.size = some { cls := .type "tuple", data := .seq #[v1, v2, v3] } := (sb.2 _ (Nat.ne_of_gt hzl)).trans hT
    have new : ObjOk X.prog X.w (upd H s.heap.objs.size (.tup [x1, x2, x3])) h'' s.heap.objs.size (.tup [x1, x2, x3]) :=
      ⟨by show 3 ≤ sizeLine; decide, [v1, v2, v3], .cons ru1 (.cons ru2 (.cons ru3 (.nil))), ⟨_, hT2, rfl, _, rfl⟩⟩
    have I1 : Inv X pins σ (upd H s.heap.objs.size (.tup [x1, x2, x3])) { s with heap := h'', toks := tk } :=
      I.turnedNew (t' := tk) (ch := [z, TI, TO, i1, i2, i3]) (fun c o hb q => (sb.2 c (fun q' => hb (by simp [q']))).trans (hk c o (fun q' => hb (by simp [q'])) (fun q' => hb (by simp [q'])) (fun q' => hb (by simp [q'])) (fun q' => hb (by simp [q'])) (fun q' => hb (by simp [q'])) q)) hf (Nat.le_refl _) new
    refine ⟨.ref s.heap.objs.size, _, I1, rfl, ⟨_, x1, x2, x3, rfl, I.hok.fresh (Nat.le_refl _), rfl, fun l hl => by rw [invA_inj I hl hq1]; exact hx1, fun l hl => by rw [invA_inj I hl hq2]; exact hx2, fun l hl => by rw [invA_inj I hl hq3]; exact hx3⟩, ⟨z'', ?_, ⟨v1, v2, v3, ?_⟩, ?_, ?_, ?_⟩, fun c hcm => ?_⟩
    · exact (sb.2 _ D.TIz).trans (hk _ _ D.TIz D.TITO D.TIi1 D.TIi2 D.TIi3 hTI)
    · exact (sb.2 _ D.TOz).trans TO'
    · exact g1.1.at fun o q => (sb.2 _ (Ne.symm D.zi1)).trans q
    · exact g2.1.at fun o q => (sb.2 _ (Ne.symm D.zi2)).trans q
    · exact g3.1.at fun o q => (sb.2 _ (Ne.symm D.zi3)).trans q
    · have hlt : c < s.heap.objs.size := by
        have e' : c = z ∨ c = TI ∨ c = TO ∨ c = i1 ∨ c = i2 ∨ c = i3 := by simpa using hcm
        rcases e' with q | q | q | q | q | q
        · rw [q]; exact hzl
        · rw [q]; exact Heap.lt_size hTI
        · rw [q]; exact Heap.lt_size hTO
        · rw [q]; obtain ⟨_, e1, _⟩ := h1.obj; exact Heap.lt_size e1
        · rw [q]; obtain ⟨_, e1, _⟩ := h2.obj; exact Heap.lt_size e1
        · rw [q]; obtain ⟨_, e1, _⟩ := h3.obj; exact Heap.lt_size e1
      rw [upd_ne (Nat.ne_of_lt hlt)]
      exact (hf c hcm).1
  done := by
    intro X hP hw hK hc i pins s σ H E I hf st hg
    subst hP hw hK
    obtain ⟨hz, hTI, ⟨y1, y2, y3, hTO⟩, h1, h2, h3⟩ := st
    obtain ⟨xs1, xs2, xs3, hq1, hq2, hq3, hend⟩ := hg
    obtain ⟨its1, rv1, p1, _⟩ := invA I hq1
    have l1 : xs1.length = its1.toArray.size := by rw [List.size_toArray]; exact rv1.length
    obtain ⟨its2, rv2, p2, _⟩ := invA I hq2
    have l2 : xs2.length = its2.toArray.size := by rw [List.size_toArray]; exact rv2.length
    obtain ⟨its3, rv3, p3, _⟩ := invA I hq3
    have l3 : xs3.length = its3.toArray.size := by rw [List.size_toArray]; exact rv3.length
    have hh : X.A.in1.handled = none := I.ok.hd hc
    exact wpAny_pyNext_zipD3_end D (drawsA hh k1 i1 a1 n1 its1.toArray) (drawsA hh k2 i2 a2 n2 its2.toArray) (drawsA hh k3 i3 a3 n3 its3.toArray) hz hTI hTO ⟨h1, p1⟩ ⟨h2, p2⟩ ⟨h3, p3⟩ (by omega) (by omega) (by omega) (by omega) fun h' tk hk => ⟨rfl, I.turnedL (t' := tk) (ch := [z, TI, TO, i1, i2, i3]) (fun c o hb q =>
      hk c o (fun q' => hb (by simp [q'])) (fun q' => hb (by simp [q'])) (fun q' => hb (by simp [q'])) (fun q' => hb (by simp [q'])) (fun q' => hb (by simp [q'])) q) hf⟩
  self := fun A i s Q E st h => wpAny_pyIter_zip st.1 h
def iZip3 (K : PySem.W.Frag) (ta : TA) : TI := fun σ H R => ta σ H fun vs H1 => ∃ (k1 k2 k3 : Bool) (a1 a2 a3 : Addr) (xs1 xs2 xs3 : List V), vs = [.ref a1, .ref a2, .ref a3] ∧ SqA K k1 H1 a1 xs1 ∧ SqA K k2 H1 a2 xs2 ∧ SqA K k3 H1 a3 xs3 ∧ R (ItZ3 K k1 k2 k3 a1 a2 a3) H1
theorem pi_zip3 {X : Cx} {e1 e2 e3 : Expr} {ta : TA} {p pos tpos : Pos} {elts : List Expr} {kk : Nat} (hg : Gl X "zip") (hm : X.mg "zip" = none) (ha : PA X [e1, e2, e3] ta)
    (hs : starEach [e1, e2, e3] X.env = (false, eval e1 X.env) :: starEach [e2, e3] X.env) (hpl : (backTo pos (starEach [e2, e3] X.env)).any (·.1) = false) :
    PI X (.Tuple elts kk tpos) (.Call (.Name "zip" p) [e1, e2, e3] [] pos) (iZip3 X.K ta) := by
  refine ⟨fun pins s σ H R I h => ?_⟩
  refine Call_ (ld_blt I hg hm PyProof.Rows.boot_zip (PyProof.Rows.callWith_type1 (thn (ha.run pos pins s σ H _ I h) fun us s1 ⟨vs, H1, I1, r1, q1⟩ => ?_) hs hpl))
  obtain ⟨k1, k2, k3, a1, a2, a3, xs1, xs2, xs3, ex, hq1, hq2, hq3, q⟩ := q1
  subst ex
  obtain ⟨its1, rv1, p1, _⟩ := invA I1 hq1
  have lt1 := p1.lt
  obtain ⟨its2, rv2, p2, _⟩ := invA I1 hq2
  have lt2 := p2.lt
  obtain ⟨its3, rv3, p3, _⟩ := invA I1 hq3
  have lt3 := p3.lt
  have fresh : ∀ c, c ∈ [s1.heap.objs.size + 5, s1.heap.objs.size + 3, s1.heap.objs.size + 4, s1.heap.objs.size, s1.heap.objs.size + 1, s1.heap.objs.size + 2] → FpOk X pins H1 c := fun c hcm => by
    have e' : c = s1.heap.objs.size + 5 ∨ c = s1.heap.objs.size + 3 ∨ c = s1.heap.objs.size + 4 ∨ c = s1.heap.objs.size ∨ c = s1.heap.objs.size + 1 ∨ c = s1.heap.objs.size + 2 := by simpa using hcm
    have hle : s1.heap.objs.size ≤ c := by
      rcases e' with z | z | z | z | z | z <;> rw [z] <;> first | exact Nat.le_refl _ | exact Nat.le_add_right _ _
    exact I1.fpOk hle (I1.hok.fresh hle)
  have hvs : us = [Value.ref a1, Value.ref a2, Value.ref a3] := by
    cases r1 with
    | cons q1 r1 => cases r1 with
      | cons q2 r1 => cases r1 with
        | cons q3 r1 => cases r1; cases q1; cases q2; cases q3; rfl
  subst hvs
  refine zip_begins3 (beginsA k1 a1 its1.toArray) (beginsA k2 a2 its2.toArray) (beginsA k3 a3 its3.toArray) p1 p2 p3 fun h' hz hTI hTO h1 h2 h3 hsz hk => wpAny_pyIter_zip hz ?_
  have I2 : Inv X pins σ H1 { s1 with heap := h' } := I1.kept (t' := s1.toks) hk
  refine ⟨s1.heap.objs.size + 5, [s1.heap.objs.size + 5, s1.heap.objs.size + 3, s1.heap.objs.size + 4, s1.heap.objs.size, s1.heap.objs.size + 1, s1.heap.objs.size + 2], _, _, H1, rfl, I2,
    turn_z3 (zip_sep3 (below_two lt1) (below_two lt2) (below_two lt3)) (Nat.ne_of_lt lt1) (Nat.ne_of_lt (Nat.lt_of_lt_of_le lt2 (Nat.le_add_right _ _))) (Nat.ne_of_lt (Nat.lt_of_lt_of_le lt3 (Nat.le_add_right _ _))), ⟨hz, hTI, ⟨_, _, _, hTO⟩, hIt_new h1, hIt_new h2, hIt_new h3⟩, fresh, q⟩

/-! ### enumerate(v) begins -/
set_option maxHeartbeats 4000000 in
theorem meets_enum1 {v : Value} {o : Obj} {H : Heap → Prop} (B : Begins v o H) :
    Meets (Builtin.«enumerate.__new__» ⟨[.type "enumerate", v], []⟩) (fun _ R s => H s.heap ∧
      R (.ok (.ret (.ref (s.heap.push o).objs.size))) { s with heap := (s.heap.push o).push { cls := .type "enumerate", data := .fields #[.none, .bool false, .ref s.heap.objs.size, rawInt 0, .none, .none] } }) :=
  .of_wp fun prog w A R s h => by
    obtain ⟨hp, g, d, tk, os⟩ := s; obtain ⟨h1, h⟩ := h
    have hsub := sub_enumerate
    have q1 : ∀ {A' : Around} {E : Value → Shared → Prop} {Q : Value → Shared → Prop}, Q (.ref hp.objs.size) ⟨hp.push o, g, d, tk, os⟩ → wpAny (model prog w) A' (pyIter v) Q E ⟨hp, g, d, tk, os⟩ :=
      fun q => B.iter prog w _ _ ⟨hp, g, d, tk, os⟩ _ h1 q
    wp_walk using q1
    refine wpAny_stack_any fun st => wpAny_pure ?_
    split
    · rename_i c _ _ _ _ _
      cases (c == Value.type "enumerate")
      · wp_walk using q1
        exact ⟨_, rfl, h⟩
      · wp_walk using q1
        exact ⟨_, rfl, h⟩
    · wp_walk using q1
      exact ⟨_, rfl, h⟩
theorem enum_begins1 {prog : Program} {w : World} {A : Around} {E : Value → Shared → Prop} {s : Shared} {v : Value} {o : Obj} {H : Heap → Prop} {Q : Value → Shared → Prop} (B : Begins v o H) (h1 : H s.heap)
    (h : ∀ h', IsEnum h' (s.heap.objs.size + 1) s.heap.objs.size 0 .none → h'.get? s.heap.objs.size = some o → h'.objs.size = s.heap.objs.size + 2 →
      (∀ b o, s.heap.get? b = some o → h'.get? b = some o) → Q (.ref (s.heap.objs.size + 1)) { s with heap := h' }) :
    wpAny (model prog w) A (call (.type "enumerate") [v]) Q E s := by
  refine callType_new F.called_enumerate (by decide) (F.typeCall_enumerate_1 _) (F.newCall_enumerate_1 _) (fun obj => F.args_object_init_2 obj _) F.entry_enumerate_new
    (meets_enum1 B) ⟨h1, ?_⟩
  have hz : (s.heap.push o).objs.size = s.heap.objs.size + 1 := Heap.size_push ..
  show _ ∧ _
  rw [hz]
  have he : IsEnum ((s.heap.push o).push { cls := .type "enumerate", data := .fields #[.none, .bool false, .ref s.heap.objs.size, rawInt 0, .none, .none] }) (s.heap.objs.size + 1) s.heap.objs.size 0 .none := by
    have := Heap.get?_push_size (s.heap.push o) (o := { cls := .type "enumerate", data := .fields #[.none, .bool false, .ref s.heap.objs.size, rawInt 0, .none, .none] }) rfl
    rw [hz] at this; exact this
  refine ⟨⟨_, he, rfl⟩, h _ he (Heap.get?_push_of_some _ (Heap.get?_push_size _ B.free)) (by rw [Heap.size_push, hz]) fun b o x => Heap.get?_push_of_some _ (Heap.get?_push_of_some _ x)⟩

/-! ### enumerate -/
def ItE1 (K : PySem.W.Frag) (k1 : Bool) (a : Addr) : It :=
  ⟨fun i H => ∃ (xs : List V) (x : V), SqA K k1 H a xs ∧ xs[i]? = some x, fun i H v H' => ∃ T x, v = .ref T ∧ H T = none ∧ H' = upd H T (.tup [.int (i : Nat), x]) ∧ ∀ xs, SqA K k1 H a xs → xs[i]? = some x, fun i H => ∃ xs : List V, SqA K k1 H a xs ∧ i = xs.length⟩
theorem turn_e1 {P : Program} {w : World} {K : PySem.W.Frag} {elts : List Expr} {kk : Nat} {tpos : Pos} {k1 : Bool} {a e it : Addr} (hne : e ≠ it) (ha : a ≠ it) (hea : e ≠ a) :
    Turn P w K (.Tuple elts kk tpos) (ItE1 K k1 a) [e, it] e (fun i h => (∃ old, IsEnum h e it ((i : Nat) : Int) old) ∧ HIt k1 h it a i) where
  mem := by simp
  obj := fun i h st b hb => by
    obtain ⟨⟨old, he⟩, hi⟩ := st
    have e' : b = e ∨ b = it := by simpa using hb
    rcases e' with z | z
    · rw [z]; exact ⟨_, he, fun v q => nomatch q⟩
    · rw [z]; exact hi.obj
  keep := fun i h h' st k => let ⟨⟨old, he⟩, hi⟩ := st; ⟨⟨old, k e (by simp) _ he⟩, hi.at fun o q => k it (by simp) o q⟩
  item := by
    intro X hP hw hK hc i pins s σ H E I hf st hg
    subst hP hw hK
    obtain ⟨⟨old, he⟩, hit⟩ := st
    obtain ⟨xs, x, hq, hx⟩ := hg
    obtain ⟨its, rv, p, hz⟩ := invA I hq
    obtain ⟨u, hu, ru⟩ := rv.get hx
    have hu' : its.toArray[i]? = some u := by simpa using hu
    have lt1 : i < its.toArray.size := (Array.getElem?_eq_some_iff.mp hu').1
    have hel : e < s.heap.objs.size := Heap.lt_size he
    have hil : it < s.heap.objs.size := by obtain ⟨_, q, _⟩ := hit.obj; exact Heap.lt_size q
    have hh : X.A.in1.handled = none := I.ok.hd hc
    refine wpAny_pyNext_enum_itemC (drawsA hh k1 it a ha its.toArray) he ⟨hit, p⟩ lt1 hne (by simp [hne, hea]) fun v h' tk ev ho hit' hT hsz hk => ?_
    have ev' : v = u := Option.some.inj (ev.symm.trans hu')
    subst ev'
    refine ⟨_, rfl, wpAny_letOwnedTupleGo_enum (s := { s with heap := h', toks := tk + 1 }) ho fun h'' he' sb => ?_⟩
    have hT2 : h''.get? s.heap.objs.size = some { cls := .type "tuple", data := .seq #[.int i tk, v] } := (sb.2 _ (Nat.ne_of_gt hel)).trans hT
    have new : ObjOk X.prog X.w (upd H s.heap.objs.size (.tup [.int (i : Nat), x])) h'' s.heap.objs.size (.tup [.int (i : Nat), x]) :=
      ⟨by show 2 ≤ sizeLine; decide, [.int i tk, v], .cons ⟨_, rfl⟩ (.cons ru .nil), ⟨_, hT2, rfl, _, rfl⟩⟩
    have I1 : Inv X pins σ (upd H s.heap.objs.size (.tup [.int (i : Nat), x])) { s with heap := h'', toks := tk + 1 } :=
      I.turnedNew (ch := [e, it]) (fun b ob hb q => (sb.2 b (fun z => hb (by simp [z]))).trans (hk b ob (fun z => hb (by simp [z])) (fun z => hb (by simp [z])) q)) hf (Nat.le_refl _) new
    refine ⟨.ref s.heap.objs.size, _, I1, rfl, ⟨_, x, rfl, I.hok.fresh (Nat.le_refl _), rfl, fun ys hy => by rw [invA_inj I hy hq]; exact hx⟩, ⟨⟨v, ?_⟩, hit'.1.at fun o q => (sb.2 it (Ne.symm hne)).trans q⟩, fun b hb => ?_⟩
    · have e1 : ((i + 1 : Nat) : Int) = (i : Int) + 1 := by omega
      rw [e1]; exact he'
    · have hb' : b < s.heap.objs.size := by
        have e' : b = e ∨ b = it := by simpa using hb
        rcases e' with z | z
        · rw [z]; exact hel
        · rw [z]; exact hil
      rw [upd_ne (Nat.ne_of_lt hb')]
      exact (hf b hb).1
  done := by
    intro X hP hw hK hc i pins s σ H E I hf st hg
    subst hP hw hK
    obtain ⟨⟨old, he⟩, hit⟩ := st
    obtain ⟨xs, hq, hx⟩ := hg
    obtain ⟨its, rv, p, hz⟩ := invA I hq
    obtain ⟨f0, f1, f2, f3, f4, f5⟩ := hf it (by simp)
    have hh : X.A.in1.handled = none := I.ok.hd hc
    have hl : i = its.toArray.size := by rw [hx, List.size_toArray]; exact rv.length
    subst hl
    exact wpAny_pyNext_enum_endD (drawsA hh k1 it a ha its.toArray) he ⟨hit, p⟩ fun h' eb => ⟨rfl, I.turned (t' := s.toks) (fun b o hb q => eb b o hb q) f0 f1 f3 f4 f5⟩
  self := fun A i s Q E st h => let ⟨⟨_, he⟩, _⟩ := st; wpAny_pyIter_enum he h
def iEnum1 (K : PySem.W.Frag) (ta : TA) : TI := fun σ H R => ta σ H fun vs H1 => ∃ (k1 : Bool) (a : Addr) (xs : List V), vs = [.ref a] ∧ SqA K k1 H1 a xs ∧ R (ItE1 K k1 a) H1
theorem pi_enum1 {X : Cx} {e : Expr} {ta : TA} {p pos tpos : Pos} {elts : List Expr} {kk : Nat} (hg : Gl X "enumerate") (hm : X.mg "enumerate" = none) (ha : PA X [e] ta) (hs : starEach [e] X.env = [(false, eval e X.env)]) :
    PI X (.Tuple elts kk tpos) (.Call (.Name "enumerate" p) [e] [] pos) (iEnum1 X.K ta) := by
  refine ⟨fun pins s σ H R I h => ?_⟩
  refine Call_ (ld_blt I hg hm boot_enumerate (PyProof.Rows.callWith_type1 (thn (ha.run pos pins s σ H _ I h) fun us s1 ⟨vs, H1, I1, r1, q1⟩ => ?_) hs rfl))
  obtain ⟨k1, a, xs, ex, hq, q⟩ := q1
  subst ex
  cases r1 with
  | cons r rr =>
    cases rr
    cases r
    obtain ⟨its, rv, p', hz⟩ := invA I1 hq
    have lt1 := p'.lt
    refine enum_begins1 (beginsA k1 a its.toArray) p' fun h' he hit hsz hk => wpAny_pyIter_enum he ?_
    have I2 : Inv X pins σ H1 { s1 with heap := h' } := I1.kept (t' := s1.toks) hk
    refine ⟨s1.heap.objs.size + 1, [s1.heap.objs.size + 1, s1.heap.objs.size], _, _, H1, rfl, I2, turn_e1 (Nat.succ_ne_self _) (Nat.ne_of_lt lt1) (Nat.ne_of_gt (Nat.lt_of_lt_of_le lt1 (Nat.le_add_right _ _))), ⟨⟨.none, he⟩, hIt_new hit⟩, fun b hb => ?_, q⟩
    have e' : b = s1.heap.objs.size + 1 ∨ b = s1.heap.objs.size := by simpa using hb
    have hle : s1.heap.objs.size ≤ b := by
      rcases e' with z | z
      · rw [z]; exact Nat.le_add_right _ _
      · rw [z]; exact Nat.le_refl _
    exact I1.fpOk hle (I1.hok.fresh hle)
end PV

/-! PV, part A: plain data, the compact program, what it comes to -/
namespace PV
open PySem PySem.Spec PyProof.Rows L2

/-! ### data -/
inductive Dat where
  | non | bl (b : Bool) | int (i : Int) | str (x : Str)
  | tup (xs : List Dat) | lst (xs : List Dat) | rol (xs : List Dat)
  | dct (t : Bool) (kvs : List (Dat × Dat))
  | ins (C : Nat) (fs : List (Str × Dat))
  | exc (C : Nat) (fs : List Dat)
  | clo (f : Nat) (cs : List Dat)
  deriving Inhabited

/-- what comes: a value, an exception, or nothing that is told -/
inductive Rs (α : Type) where
  | ok (a : α) | ex (x : Dat) | no
def Rs.bind {α β : Type} : Rs α → (α → Rs β) → Rs β
  | .ok a, f => f a
  | .ex x, _ => .ex x
  | .no, _ => .no
instance : Monad Rs where
  pure := Rs.ok
  bind := Rs.bind
@[simp] theorem Rs.ok_bind {α β : Type} (a : α) (f : α → Rs β) : (Rs.ok a).bind f = f a := eq_of_heq HEq.rfl
@[simp] theorem Rs.ex_bind {α β : Type} (x : Dat) (f : α → Rs β) : (Rs.ex x : Rs α).bind f = .ex x := eq_of_heq HEq.rfl
@[simp] theorem Rs.no_bind {α β : Type} (f : α → Rs β) : (Rs.no : Rs α).bind f = .no := eq_of_heq HEq.rfl
theorem Rs.bind_ok {α β : Type} {r : Rs α} {f : α → Rs β} {b : β} (h : r.bind f = .ok b) : ∃ a, r = .ok a ∧ f a = .ok b := by
  cases r with
  | ok a => exact ⟨a, rfl, h⟩
  | ex x => cases h
  | no => cases h
theorem Rs.bind_ex {α β : Type} {r : Rs α} {f : α → Rs β} {x : Dat} (h : r.bind f = .ex x) : r = .ex x ∨ ∃ a, r = .ok a ∧ f a = .ex x := by
  cases r with
  | ok a => exact .inr ⟨a, rfl, h⟩
  | ex y => cases h; exact .inl rfl
  | no => cases h

/-! ### == over data -/
mutual
def toPy : Dat → Option PyData
  | .non => some .none
  | .bl b => some (.bool b)
  | .int i => some (.int i)
  | .str x => some (.str x)
  | .tup xs => (toPyL xs).map .tuple
  | .lst xs => (toPyL xs).map .list
  | .rol _ => none
  | .dct _ _ => none
  | .ins _ _ => none
  | .exc _ _ => none
  | .clo _ _ => none
def toPyL : List Dat → Option (List PyData)
  | [] => some []
  | x :: xs => match toPy x, toPyL xs with
    | some p, some ps => some (p :: ps)
    | _, _ => none
end
def eqD (a b : Dat) : Rs Bool := match toPy a, toPy b with
  | some p, some q => if SeqAt.shaped p && SeqAt.shaped q then .ok (PyData.eqv p q) else .no
  | _, _ => .no
/-- in a list or tuple: equality with each item -/
def memD (x : Dat) (xs : List Dat) : Rs Bool := match toPy x, toPyL xs with
  | some p, some qs => if SeqAt.shaped p && SeqAt.shaped (.list qs) then .ok (qs.any fun z => PyData.eqv z p) else .no
  | _, _ => .no
mutual
def deqB : Dat → Dat → Bool
  | .non, .non => true
  | .bl a, .bl b => a == b
  | .int i, .int j => i == j
  | .str x, .str y => x == y
  | .tup xs, .tup ys => deqL xs ys
  | .lst xs, .lst ys => deqL xs ys
  | _, _ => false
def deqL : List Dat → List Dat → Bool
  | [], [] => true
  | x :: xs, y :: ys => deqB x y && deqL xs ys
  | _, _ => false
end
def lookD (k : Dat) : List (Dat × Dat) → Option Dat
  | [] => none
  | (a, v) :: r => if deqB a k then some v else lookD k r
def putD (k v : Dat) : List (Dat × Dat) → List (Dat × Dat)
  | [] => [(k, v)]
  | (a, u) :: r => if deqB a k then (a, v) :: r else (a, u) :: putD k v r

/-! ### operators -/
inductive Bop | add | sub | mul | fdiv | mod | pow | shl | shr | band
  deriving DecidableEq
inductive Cop | eq | ne | lt | le | gt | ge | isin | notin
  deriving DecidableEq
def mulOk (i j : Int) : Bool := !(decide (Builtin.Int.intBits i > shortFactorBits) && decide (Builtin.Int.intBits j > shortFactorBits) && Builtin.Int.intTooBig (Builtin.Int.intBits i + Builtin.Int.intBits j))
def divOk (i j : Int) : Bool := decide (j ≠ 0) && !Builtin.divisionGoesByPylong i j
def powOk (i j : Int) : Bool := decide (0 ≤ j) && decide (j ≤ 1000000) && decide (i.natAbs < 2 ^ 64)
def binop : Bop → Dat → Dat → Rs Dat
  | .add, .int i, .int j => .ok (.int (i + j))
  | .sub, .int i, .int j => .ok (.int (i - j))
  | .mul, .int i, .int j => if mulOk i j then .ok (.int (i * j)) else .no
  | .fdiv, .int i, .int j => if divOk i j then .ok (.int (i.fdiv j)) else .no
  | .mod, .int i, .int j => if decide (j ≠ 0) then .ok (.int (i.fmod j)) else .no
  | .pow, .int i, .int j => if powOk i j then .ok (.int (i ^ j.toNat)) else .no
  | .shl, .int i, .int j => if powOk i j then .ok (.int (i * 2 ^ j.toNat)) else .no
  | .shr, .int i, .int j => if decide (0 ≤ j) then .ok (.int (i / 2 ^ j.toNat)) else .no
  | .band, .int i, .int j => .ok (.int (Builtin.bitAnd i j))
  | .add, .str x, .str y => if decide (x.length + y.length ≤ sizeLine) then .ok (.str (x ++ y)) else .no
  | .add, .lst xs, .lst ys => if decide (xs.length + ys.length ≤ sizeLine) then .ok (.lst (xs ++ ys)) else .no
  | .add, .tup xs, .tup ys => if decide (xs.length + ys.length ≤ sizeLine) then .ok (.tup (xs ++ ys)) else .no
  | _, _, _ => .no
def intsOf : List Dat → Option (List Int)
  | [] => some []
  | .int i :: r => (intsOf r).map (i :: ·)
  | _ => none
def cmpop : Cop → Dat → Dat → Rs Dat
  | .lt, .int i, .int j => .ok (.bl (decide (i < j)))
  | .le, .int i, .int j => .ok (.bl (decide (i ≤ j)))
  | .gt, .int i, .int j => .ok (.bl (decide (j < i)))
  | .ge, .int i, .int j => .ok (.bl (decide (j ≤ i)))
  | .eq, a, b => (eqD a b).bind fun k => .ok (.bl k)
  | .ne, a, b => (eqD a b).bind fun k => .ok (.bl (!k))
  | .isin, a, .lst xs => (memD a xs).bind fun k => .ok (.bl k)
  | .notin, a, .lst xs => (memD a xs).bind fun k => .ok (.bl (!k))
  | .isin, .int i, .tup xs => match intsOf xs with
    | some ns => .ok (.bl (ns.any (· == i)))
    | none => .no
  | .notin, .int i, .tup xs => match intsOf xs with
    | some ns => .ok (.bl (!ns.any (· == i)))
    | none => .no
  | _, _, _ => .no

def isMut : Dat → Bool
  | .lst _ => true
  | .dct _ _ => true
  | .ins _ _ => true
  | _ => false
mutual
/-- nothing in it can be changed -/
def pureD : Dat → Bool
  | .non => true
  | .bl _ => true
  | .int _ => true
  | .str _ => true
  | .rol xs => pureL xs
  | .tup xs => pureL xs
  | _ => false
def pureL : List Dat → Bool
  | [] => true
  | x :: xs => pureD x && pureL xs
end

def cutD (xs : List Dat) (lo hi : Option Int) : List Dat := (xs.drop (HT.sIx xs.length 0 lo)).take (HT.sIx xs.length xs.length hi - HT.sIx xs.length 0 lo)

/-! ### the compact program -/
inductive Bi | len | abs | tuple | list | int | sum | min2 | max2 | divmod | all | any | str | minl | maxl | bool
  deriving DecidableEq
inductive Ty | int | bool | str | list | tuple | own (C : Nat)
  deriving DecidableEq
inductive Tgt | nm (i : Nat) | tp (is : List Nat)
  deriving DecidableEq
inductive Rf | own | shr | pur | ownp | io
  deriving DecidableEq
mutual
inductive Ex where
  | var (i : Nat)
  | cst (d : Dat)
  | glo (g : Nat)
  | tup (es : List Ex)
  | lst (es : List Ex)
  | bin (op : Bop) (a b : Ex)
  | neg (a : Ex)
  | cmp (op : Cop) (a b : Ex)
  | isn (neg : Bool) (a : Ex)
  | and (a b : Ex)
  | or (a b : Ex)
  | not (a : Ex)
  | ife (c a b : Ex)
  | idx (a i : Ex)
  | slc (a : Ex) (lo hi : List Ex)
  | cal (f : Nat) (es : List Ex)
  | bi (b : Bi) (es : List Ex)
  | isi (a : Ex) (ts : List Ty)
  | lrev (a : Ex)
  | bits (a : Ex)
  | srt (a : Ex) (f : Nat)
  | srt1 (a : Ex)
  | comp (e : Ex) (t : Tgt) (s : Sr) (c : List Ex)
inductive Sr where
  | seq (e : Ex)
  | rng (es : List Ex)
  | zip (a b : Ex)
  | zip3 (a b c : Ex)
  | enm (e : Ex)
  | rev (e : Ex)
end
inductive Sm where
  | asg (i : Nat) (e : Ex)
  | unp (is : List Nat) (e : Ex)
  | ret (e : Ex)
  | ret0
  | ite (c : Ex) (a b : List Sm)
  | whl (c : Ex) (b : List Sm)
  | fr (t : Tgt) (s : Sr) (b : List Sm)
  | brk | cnt | pas
  | exp (e : Ex)
  | app (i : Nat) (e : Ex)
  | sti (i : Nat) (k e : Ex)
  | rse (C : Nat)
  | cio (f i : Nat) (es : List Ex)
  | ins (i : Nat) (k e : Ex)
  | par (i j : Nat) (a b : Ex)
  | tryF (b : List Sm) (ei j : Nat) (tb : List (Nat × Option Dat))
  | xtd (i : Nat) (e : Ex)

/-! ### what it comes to -/
abbrev Env := List (Option Dat)
def truth : Dat → Rs Bool
  | .bl b => .ok b
  | _ => .no
def isNonD : Dat → Bool
  | .non => true
  | _ => false
def negD : Dat → Rs Dat
  | .int i => .ok (.int (-i))
  | _ => .no
def getV (ρ : Env) (i : Nat) : Rs Dat := match ρ[i]? with
  | some (some d) => .ok d
  | _ => .no
def bindT : Tgt → Dat → Env → Rs Env
  | .nm i, d, ρ => .ok (ρ.set i (some d))
  | .tp is, .tup ds, ρ => if is.length = ds.length then .ok ((is.zip ds).foldl (fun ρ p => ρ.set p.1 (some p.2)) ρ) else .no
  | .tp _, _, _ => .no
def boolsOf : List Dat → Option (List Bool)
  | [] => some []
  | .bl i :: r => (boolsOf r).map (i :: ·)
  | _ => none
def maxI : List Int → Int → Int
  | [], m => m
  | n :: ns, m => maxI ns (if m < n then n else m)
def minI : List Int → Int → Int
  | [], m => m
  | n :: ns, m => minI ns (if n < m then n else m)
def lrevD : Dat → Rs Dat
  | .lst xs => .ok (.lst xs.reverse)
  | _ => .no
def bitsD : Dat → Rs Dat
  | .int i => .ok (.int (Builtin.Int.intBits i : Nat))
  | _ => .no
def doBi : Bi → List Dat → Rs Dat
  | .len, [.lst xs] => .ok (.int xs.length)
  | .len, [.rol xs] => .ok (.int xs.length)
  | .len, [.tup xs] => .ok (.int xs.length)
  | .len, [.str x] => if decide (x.length ≤ sizeLine) then .ok (.int x.length) else .no
  | .abs, [.int i] => .ok (.int (if i < 0 then -i else i))
  | .tuple, [.lst xs] => .ok (.tup xs)
  | .tuple, [.tup xs] => .ok (.tup xs)
  | .list, [.lst xs] => .ok (.lst xs)
  | .list, [.tup xs] => .ok (.lst xs)
  | .list, [.rol xs] => .ok (.lst xs)
  | .int, [.int i] => .ok (.int i)
  | .int, [.bl k] => .ok (.int (if k then 1 else 0))
  | .sum, [.lst xs] => match intsOf xs with
    | some ns => .ok (.int ns.sum)
    | none => .no
  | .all, [.lst xs] => match boolsOf xs with
    | some bs => .ok (.bl (bs.all id))
    | none => .no
  | .any, [.lst xs] => match boolsOf xs with
    | some bs => .ok (.bl (bs.any id))
    | none => .no
  | .min2, [.int i, .int j] => .ok (.int (if j < i then j else i))
  | .max2, [.int i, .int j] => .ok (.int (if j > i then j else i))
  | .maxl, [.lst xs] => match intsOf xs with
    | some (n :: ns) => .ok (.int (maxI ns n))
    | _ => .no
  | .minl, [.lst xs] => match intsOf xs with
    | some (n :: ns) => .ok (.int (minI ns n))
    | _ => .no
  | .divmod, [.int i, .int j] => if decide (0 < j) && divOk i j then .ok (.tup [.int (i / j), .int (i % j)]) else .no
  | _, _ => .no
def tyOf : Dat → Ty → Option Bool
  | .int _, .int => some true
  | .int _, _ => some false
  | .bl _, .int => some true
  | .bl _, .bool => some true
  | .bl _, _ => some false
  | .str _, .str => some true
  | .str _, _ => some false
  | .lst _, .list => some true
  | .lst _, _ => some false
  | .tup _, .tuple => some true
  | .tup _, _ => some false
  | .non, _ => some false
  | _, _ => none
def idxD : Dat → Dat → Rs Dat
  | .rol xs, .int i => match atI xs i with
    | some d => .ok d
    | none => .no
  | .lst xs, .int i => match atI xs i with
    | some d => .ok d
    | none => .no
  | .tup xs, .int i => match atI xs i with
    | some d => .ok d
    | none => .no
  | .str z, .int i => if decide (z.length ≤ sizeLine) then (match atI z.cps.toList i with
    | some c => .ok (.str ⟨#[c]⟩)
    | none => .no) else .no
  | _, _ => .no
def partD : List Dat → Rs (Option Int)
  | [] => .ok none
  | [.int i] => .ok (some i)
  | _ => .no
def slcD : Dat → Option Int → Option Int → Rs Dat
  | .lst xs, lo, hi => .ok (.lst (cutD xs lo hi))
  | .rol xs, lo, hi => .ok (.lst (cutD xs lo hi))
  | .tup xs, lo, hi => .ok (.tup (cutD xs lo hi))
  | _, _, _ => .no
def rngD : List Dat → Rs (List Dat)
  | [.int n] => if decide (-(2 ^ 62) ≤ n) && decide (n < 2 ^ 62) then .ok ((List.range n.toNat).map fun i => Dat.int (0 + (i : Nat))) else .no
  | [.int a, .int b] => if decide (-(2 ^ 62) ≤ a) && decide (a < 2 ^ 62) && decide (-(2 ^ 62) ≤ b) && decide (b < 2 ^ 62) then .ok ((List.range (b - a).toNat).map fun i => Dat.int (a + (i : Nat))) else .no
  | _ => .no
def itemsD : Dat → Rs (List Dat)
  | .rol xs => .ok xs
  | .lst xs => .ok xs
  | .tup xs => .ok xs
  | .str z => .ok (z.cps.toList.map fun c => Dat.str ⟨#[c]⟩)
  | _ => .no
def seqD : Dat → Rs (List Dat)
  | .lst xs => .ok xs
  | .tup xs => .ok xs
  | .rol xs => .ok xs
  | _ => .no
def zipL (xs ys : List Dat) : List Dat := (xs.zip ys).map fun p => Dat.tup [p.1, p.2]
def zipL3 (xs ys zs : List Dat) : List Dat := (xs.zip (ys.zip zs)).map fun p => Dat.tup [p.1, p.2.1, p.2.2]
def zipD (a b : Dat) : Rs (List Dat) := (seqD a).bind fun xs => (seqD b).bind fun ys => .ok ((xs.zip ys).map fun p => Dat.tup [p.1, p.2])
def zipD3 (a b c : Dat) : Rs (List Dat) := (seqD a).bind fun xs => (seqD b).bind fun ys => (seqD c).bind fun zs => .ok (zipL3 xs ys zs)
def enmD (a : Dat) : Rs (List Dat) := (seqD a).bind fun xs => .ok (xs.zipIdx.map fun p => Dat.tup [.int (p.2 : Nat), p.1])
def revD : Dat → Rs (List Dat)
  | .lst xs => .ok xs.reverse
  | _ => .no
/-- items by their keys, stably -/
def sortV {α : Type} (ks : List Int) (xs : List α) : List α := ((ks.zip xs).mergeSort fun a b => decide (a.1 ≤ b.1)).map (·.2)
def keysD (f : List Dat → Rs Dat) : List Dat → Rs (List Int)
  | [] => .ok []
  | x :: xs => match f [x] with
    | .ok (.int k) => (keysD f xs).bind fun ks => .ok (k :: ks)
    | _ => .no
def srtD (f : List Dat → Rs Dat) : Dat → Rs Dat
  | .lst xs => (keysD f xs).bind fun ks => if decide (xs.length ≤ 1000) then .ok (.lst (sortV ks xs)) else .no
  | _ => .no
def rowsOf : List Dat → Option (List (List Int))
  | [] => some []
  | .tup xs :: r => match intsOf xs, rowsOf r with
    | some ns, some rs => some (ns :: rs)
    | _, _ => none
  | _ => none
def rowE (r : List Int) : PyData := .tuple (r.map .int)
/-- sorted(xs): whole numbers, or rows of whole numbers -/
def srt1D : Dat → Rs Dat
  | .lst xs => if decide (xs.length ≤ 1000) then (match intsOf xs with
    | some ns => .ok (.lst ((ns.mergeSort fun a b => decide (a ≤ b)).map .int))
    | none => match rowsOf xs with
      | some rs => if rs.all (fun r => decide (r.length = (rs.headD []).length) && decide (0 < r.length)) then .ok (.lst ((rs.mergeSort (PySem.W.dataLe false rowE)).map fun r => .tup (r.map .int))) else .no
      | none => .no) else .no
  | _ => .no
/-- the items that a comprehension makes -/
def mapC (f : Dat → Rs (Option Dat)) : List Dat → Rs (List Dat)
  | [] => .ok []
  | x :: xs => match f x with
    | .ok o => (mapC f xs).bind fun ys => .ok (match o with
      | some y => y :: ys
      | none => ys)
    | _ => .no

section
variable (cf : Nat → List Dat → Rs Dat) (gl : Nat → Dat)
mutual
def evE : Ex → Env → Rs Dat
  | .var i, ρ => getV ρ i
  | .cst d, _ => .ok d
  | .glo g, _ => .ok (gl g)
  | .tup es, ρ => (evL es ρ).bind fun ds => .ok (.tup ds)
  | .lst es, ρ => (evL es ρ).bind fun ds => .ok (.lst ds)
  | .bin op a b, ρ => (evE a ρ).bind fun x => (evE b ρ).bind fun y => binop op x y
  | .neg a, ρ => (evE a ρ).bind negD
  | .cmp op a b, ρ => (evE a ρ).bind fun x => (evE b ρ).bind fun y => cmpop op x y
  | .isn neg a, ρ => (evE a ρ).bind fun x => .ok (.bl (if neg then !isNonD x else isNonD x))
  | .and a b, ρ => (evE a ρ).bind fun x => (truth x).bind fun k => if k then (evE b ρ).bind fun y => (truth y).bind fun k => .ok (.bl k) else .ok (.bl false)
  | .or a b, ρ => (evE a ρ).bind fun x => (truth x).bind fun k => if k then .ok (.bl true) else (evE b ρ).bind fun y => (truth y).bind fun k => .ok (.bl k)
  | .not a, ρ => (evE a ρ).bind fun x => (truth x).bind fun k => .ok (.bl (!k))
  | .ife c a b, ρ => (evE c ρ).bind fun x => (truth x).bind fun k => if k then evE a ρ else evE b ρ
  | .idx a i, ρ => (evE a ρ).bind fun x => (evE i ρ).bind fun y => idxD x y
  | .slc a lo hi, ρ => (evE a ρ).bind fun x => (evL lo ρ).bind fun l => (partD l).bind fun l => (evL hi ρ).bind fun h => (partD h).bind fun h => slcD x l h
  | .cal f es, ρ => (evL es ρ).bind fun ds => cf f ds
  | .bi b es, ρ => (evL es ρ).bind fun ds => doBi b ds
  | .isi a ts, ρ => (evE a ρ).bind fun x => match ts.mapM (tyOf x) with
    | some bs => .ok (.bl (bs.any id))
    | none => .no
  | .lrev a, ρ => (evE a ρ).bind lrevD
  | .bits a, ρ => (evE a ρ).bind bitsD
  | .srt a f, ρ => (evE a ρ).bind (srtD (cf f))
  | .srt1 a, ρ => (evE a ρ).bind srt1D
  | .comp e t s c, ρ => (evS s ρ).bind fun xs => (mapC (fun x => (bindT t x ρ).bind fun ρ' => (evC c ρ').bind fun k => if k then (evE e ρ').bind fun y => .ok (some y) else .ok none) xs).bind fun ys =>
      if decide (ys.length ≤ sizeLine) then .ok (.lst ys) else .no
def evL : List Ex → Env → Rs (List Dat)
  | [], _ => .ok []
  | e :: es, ρ => (evE e ρ).bind fun x => (evL es ρ).bind fun xs => .ok (x :: xs)
/-- the test of a comprehension: none or one -/
def evC : List Ex → Env → Rs Bool
  | [], _ => .ok true
  | e :: es, ρ => (evE e ρ).bind fun x => (truth x).bind fun k => if k then evC es ρ else .ok false
def evS : Sr → Env → Rs (List Dat)
  | .seq e, ρ => (evE e ρ).bind itemsD
  | .rng es, ρ => (evL es ρ).bind rngD
  | .zip a b, ρ => (evE a ρ).bind fun x => (evE b ρ).bind fun y => zipD x y
  | .zip3 a b c, ρ => (evE a ρ).bind fun x => (evE b ρ).bind fun y => (evE c ρ).bind fun z => zipD3 x y z
  | .enm e, ρ => (evE e ρ).bind enmD
  | .rev e, ρ => (evE e ρ).bind revD
end
end

/-! ### who owns what -/
inductive SK | shr | own | lent | arg
  deriving DecidableEq
abbrev Kd := List SK
def kd (κ : Kd) (i : Nat) : SK := κ.getD i .shr
def setK (κ : Kd) (i : Nat) (k : SK) : Kd := κ.set i k
def Rf.fl : Rf → Bool → Nat
  | .own, true => 3
  | .shr, true => 2
  | .pur, _ => 3
  | .ownp, _ => 3
  | .io, _ => 0
  | _, false => 0
def bindK : Tgt → SK → Kd → Kd
  | .nm i, k, κ => setK κ i k
  | .tp is, k, κ => is.foldl (fun κ i => setK κ i k) κ
section
variable (rf : Nat → Rf)
mutual
/-- 3: new; 2: nothing of it is owned; 1: its root may be; 0: not known -/
def flE : Ex → Kd → Nat
  | .var i, κ => match kd κ i with
    | .shr => 2
    | .own => 1
    | .lent => 1
    | .arg => 1
  | .cst _, _ => 3
  | .glo _, _ => 2
  | .tup es, κ => if flL es κ then 2 else 0
  | .lst es, κ => if flL es κ then 3 else 0
  | .bin _ a b, κ => if 1 ≤ flE a κ ∧ 1 ≤ flE b κ then 3 else 0
  | .neg _, _ => 3
  | .cmp _ _ _, _ => 3
  | .isn _ _, _ => 3
  | .and _ _, _ => 3
  | .or _ _, _ => 3
  | .not _, _ => 3
  | .ife _ a b, κ => min (flE a κ) (flE b κ)
  | .idx a _, κ => if 1 ≤ flE a κ then 2 else 0
  | .slc a _ _, κ => if 1 ≤ flE a κ then 3 else 0
  | .cal f es, κ => (rf f).fl (flL es κ)
  | .bi .list es, κ => if flL1 es κ then 3 else 0
  | .bi .tuple es, κ => if flL1 es κ then 2 else 0
  | .bi _ _, _ => 3
  | .isi _ _, _ => 3
  | .lrev a, κ => if 1 ≤ flE a κ then 3 else 0
  | .bits _, _ => 3
  | .srt a _, κ => if 1 ≤ flE a κ then 3 else 0
  | .srt1 _, _ => 3
  | .comp e t s _, κ => if 2 ≤ flE e (bindK t .shr κ) ∧ flS s κ = true then 3 else 0
def flL : List Ex → Kd → Bool
  | [], _ => true
  | e :: es, κ => decide (2 ≤ flE e κ) && flL es κ
def flL1 : List Ex → Kd → Bool
  | [], _ => true
  | e :: es, κ => decide (1 ≤ flE e κ) && flL1 es κ
def flS : Sr → Kd → Bool
  | .seq e, κ => decide (1 ≤ flE e κ)
  | .rng _, _ => true
  | .zip a b, κ => decide (1 ≤ flE a κ) && decide (1 ≤ flE b κ)
  | .zip3 a b c, κ => (decide (1 ≤ flE a κ) && decide (1 ≤ flE b κ)) && decide (1 ≤ flE c κ)
  | .enm e, κ => decide (1 ≤ flE e κ)
  | .rev e, κ => decide (1 ≤ flE e κ)
end
/-- the names whose own object leaks by binding the value -/
def leak : Ex → List Nat
  | .var i => [i]
  | .tup es => leakL es
  | .lst es => leakL es
  | .ife _ a b => leak a ++ leak b
  | .cal f es => match rf f with
    | .pur => []
    | .ownp => []
    | _ => leakL es
  | _ => []
where leakL : List Ex → List Nat
  | [] => []
  | e :: es => leak e ++ leakL es
end
end PV

/-! PV, part B: data in the heap -/
namespace PV
open PySem PySem.Spec PyProof.Rows L2

/-- a list that may be read and that nobody owns -/
def LsR (K : PySem.W.Frag) (O : Addr → Prop) (H : Hp) (a : Addr) (vs : List V) : Prop :=
  H a = some (.lst vs) ∧ ¬ O a
theorem LsR.sq {K : PySem.W.Frag} {O : Addr → Prop} {H : Hp} {a : Addr} {vs : List V} (h : LsR K O H a vs) : SqL K H a vs := .of h.1
/-- a list that nobody changes: the script -/
def RoR (K : PySem.W.Frag) (H : Hp) (a : Addr) (vs : List V) : Prop :=
  (∃ o, H a = some (.frz o (.lst vs))) ∨ ∃ (o : Obj) (its : Array Value) (n : Nat), K.lookup a = some o ∧ o.cls = .type "list" ∧ o.dict = none ∧ o.data = .seq its n ∧ its.size ≤ sizeLine ∧ Vals vs its.toList
theorem RoR.sq {K : PySem.W.Frag} {H : Hp} {a : Addr} {vs : List V} (h : RoR K H a vs) : SqL K H a vs := by
  rcases h with h | h
  · exact .inl (.inr h)
  · exact .inr h
mutual
inductive Den (K : PySem.W.Frag) (O : Addr → Prop) (H : Hp) : V → Dat → Prop
  | non : Den K O H .non .non
  | bl (b : Bool) : Den K O H (.bl b) (.bl b)
  | int (i : Int) : Den K O H (.int i) (.int i)
  | str (x : Str) : Den K O H (.str x) (.str x)
  | tup {a : Addr} {vs : List V} {ds : List Dat} : SqT K H a vs → DenL K O H vs ds → Den K O H (.ref a) (.tup ds)
  | lst {a : Addr} {vs : List V} {ds : List Dat} : LsR K O H a vs → DenL K O H vs ds → Den K O H (.ref a) (.lst ds)
  | rol {a : Addr} {vs : List V} {ds : List Dat} : RoR K H a vs → DenL K O H vs ds → Den K O H (.ref a) (.rol ds)
inductive DenL (K : PySem.W.Frag) (O : Addr → Prop) (H : Hp) : List V → List Dat → Prop
  | nil : DenL K O H [] []
  | cons {v : V} {vs : List V} {d : Dat} {ds : List Dat} : Den K O H v d → DenL K O H vs ds → DenL K O H (v :: vs) (d :: ds)
end
abbrev O0 : Addr → Prop := fun _ => False

section
variable {K : PySem.W.Frag} {O O' : Addr → Prop} {H H' : Hp}
mutual
theorem Den.tr (hL : ∀ a vs, LsR K O H a vs → LsR K O' H' a vs) (hT : ∀ a vs, SqT K H a vs → SqT K H' a vs) (hR : ∀ a vs, RoR K H a vs → RoR K H' a vs) : ∀ (d : Dat) (v : V), Den K O H v d → Den K O' H' v d
  | .non, _, h => by cases h; exact .non
  | .bl b, _, h => by cases h; exact .bl b
  | .int i, _, h => by cases h; exact .int i
  | .str x, _, h => by cases h; exact .str x
  | .tup ds, _, h => by
    cases h with
    | tup hs hd => exact .tup (hT _ _ hs) (DenL.tr hL hT hR ds _ hd)
  | .lst ds, _, h => by
    cases h with
    | lst hs hd => exact .lst (hL _ _ hs) (DenL.tr hL hT hR ds _ hd)
  | .rol ds, _, h => by
    cases h with
    | rol hs hd => exact .rol (hR _ _ hs) (DenL.tr hL hT hR ds _ hd)
  | .dct _ _, _, h => by cases h
  | .ins _ _, _, h => by cases h
  | .exc _ _, _, h => by cases h
  | .clo _ _, _, h => by cases h
theorem DenL.tr (hL : ∀ a vs, LsR K O H a vs → LsR K O' H' a vs) (hT : ∀ a vs, SqT K H a vs → SqT K H' a vs) (hR : ∀ a vs, RoR K H a vs → RoR K H' a vs) : ∀ (ds : List Dat) (vs : List V), DenL K O H vs ds → DenL K O' H' vs ds
  | [], _, h => by cases h; exact .nil
  | d :: ds, _, h => by
    cases h with
    | cons h1 h2 => exact .cons (Den.tr hL hT hR d _ h1) (DenL.tr hL hT hR ds _ h2)
end
theorem SqT.mono {a : Addr} {vs : List V} (e : Same H H') (h : SqT K H a vs) : SqT K H' a vs := by
  rcases h with (h | ⟨o, h⟩) | h
  · exact .inl (.inl (e _ _ h))
  · exact .inl (.inr ⟨o, e _ _ h⟩)
  · exact .inr h
theorem LsR.mono {a : Addr} {vs : List V} (e : Same H H') (ho : ∀ a, O' a → O a) (h : LsR K O H a vs) : LsR K O' H' a vs := by
  exact ⟨e _ _ h.1, fun z => h.2 (ho _ z)⟩
theorem RoR.mono {a : Addr} {vs : List V} (e : Same H H') (h : RoR K H a vs) : RoR K H' a vs := by
  rcases h with ⟨o, h⟩ | h
  · exact .inl ⟨o, e _ _ h⟩
  · exact .inr h
theorem Den.mono {d : Dat} {v : V} (e : Same H H') (ho : ∀ a, O' a → O a) (h : Den K O H v d) : Den K O' H' v d := Den.tr (fun _ _ q => q.mono e ho) (fun _ _ q => SqT.mono e q) (fun _ _ q => q.mono e) d v h
theorem DenL.mono {ds : List Dat} {vs : List V} (e : Same H H') (ho : ∀ a, O' a → O a) (h : DenL K O H vs ds) : DenL K O' H' vs ds := DenL.tr (fun _ _ q => q.mono e ho) (fun _ _ q => SqT.mono e q) (fun _ _ q => q.mono e) ds vs h
theorem Den.same {d : Dat} {v : V} (e : Same H H') (h : Den K O H v d) : Den K O H' v d := h.mono e fun _ z => z
theorem DenL.same {ds : List Dat} {vs : List V} (e : Same H H') (h : DenL K O H vs ds) : DenL K O H' vs ds := h.mono e fun _ z => z
theorem Den.zero {d : Dat} {v : V} (h : Den K O H v d) : Den K O0 H v d := h.mono (Same.refl H) fun _ z => z.elim
theorem DenL.zero {ds : List Dat} {vs : List V} (h : DenL K O H vs ds) : DenL K O0 H vs ds := h.mono (Same.refl H) fun _ z => z.elim
/-- one more that is owned, new at H -/
abbrev plus (O : Addr → Prop) (p : Addr) : Addr → Prop := fun b => O b ∨ b = p
theorem LsR.plus {a p : Addr} {vs : List V} (hp : H p = none) (h : LsR K O H a vs) : LsR K (plus O p) H a vs := by
  refine ⟨h.1, fun z => z.elim h.2 fun e => ?_⟩
  have q := h.1
  rw [e, hp] at q
  cases q
theorem Den.plus {d : Dat} {v : V} {p : Addr} (hp : H p = none) (h : Den K O H v d) : Den K (plus O p) H v d := Den.tr (fun _ _ q => q.plus hp) (fun _ _ q => q) (fun _ _ q => q) d v h
theorem DenL.plus {ds : List Dat} {vs : List V} {p : Addr} (hp : H p = none) (h : DenL K O H vs ds) : DenL K (plus O p) H vs ds := DenL.tr (fun _ _ q => q.plus hp) (fun _ _ q => q) (fun _ _ q => q) ds vs h
/-- what is owned changes -/
theorem LsR.upd {a p : Addr} {vs : List V} {o : HO} (hO : O p) (h : LsR K O H a vs) : LsR K O (L2.upd H p o) a vs := by
  have ne : a ≠ p := fun e => h.2 (by rw [e]; exact hO)
  exact ⟨by rw [upd_ne ne]; exact h.1, h.2⟩
theorem RoR.upd {a p : Addr} {vs : List V} {o : HO} {xs : List V} (hp : H p = some (.lst xs)) (h : RoR K H a vs) : RoR K (L2.upd H p o) a vs := by
  rcases h with ⟨ob, h⟩ | h
  · exact .inl ⟨ob, by rw [upd_ne fun z => by subst z; rw [hp] at h; cases h]; exact h⟩
  · exact .inr h
theorem SqT.upd {a p : Addr} {vs : List V} {o : HO} {xs : List V} (hp : H p = some (.lst xs)) (h : SqT K H a vs) : SqT K (L2.upd H p o) a vs := by
  have ne : ∀ u, H a = some u → (∀ xs, u ≠ .lst xs) → a ≠ p := fun u e n z => by subst z; rw [hp] at e; cases e; exact n xs rfl
  rcases h with (h | ⟨ob, h⟩) | h
  · exact .inl (.inl (by rw [upd_ne (ne _ h fun _ z => nomatch z)]; exact h))
  · exact .inl (.inr ⟨ob, by rw [upd_ne (ne _ h fun _ z => nomatch z)]; exact h⟩)
  · exact .inr h
theorem Den.upd {d : Dat} {v : V} {p : Addr} {o : HO} {xs : List V} (hO : O p) (hp : H p = some (.lst xs)) (h : Den K O H v d) : Den K O (L2.upd H p o) v d := Den.tr (fun _ _ q => q.upd hO) (fun _ _ q => SqT.upd hp q) (fun _ _ q => q.upd hp) d v h
theorem DenL.upd {ds : List Dat} {vs : List V} {p : Addr} {o : HO} {xs : List V} (hO : O p) (hp : H p = some (.lst xs)) (h : DenL K O H vs ds) : DenL K O (L2.upd H p o) vs ds := DenL.tr (fun _ _ q => q.upd hO) (fun _ _ q => SqT.upd hp q) (fun _ _ q => q.upd hp) ds vs h
theorem same_new {p : Addr} {o : HO} (h : H p = none) : Same H (upd H p o) := fun b u q => by rw [upd_ne (ne_of_none q h)]; exact q

/-! lists of data -/
theorem DenL.len : ∀ {vs : List V} {ds : List Dat}, DenL K O H vs ds → vs.length = ds.length
  | _, [], h => by cases h; rfl
  | _, d :: ds, h => by
    cases h with
    | cons _ h2 => exact congrArg (· + 1) h2.len
theorem DenL.get : ∀ {vs : List V} {ds : List Dat} {i : Nat} {d : Dat}, DenL K O H vs ds → ds[i]? = some d → ∃ v, vs[i]? = some v ∧ Den K O H v d
  | _, [], _, _, _, e => by simp at e
  | _, x :: ds, 0, d, h, e => by
    cases h with
    | cons h1 _ =>
      simp at e
      subst e
      exact ⟨_, rfl, h1⟩
  | _, x :: ds, i + 1, d, h, e => by
    cases h with
    | cons _ h2 =>
      obtain ⟨v, q1, q2⟩ := h2.get (i := i) (d := d) (by simpa using e)
      exact ⟨v, by simpa using q1, q2⟩
theorem DenL.get' : ∀ {vs : List V} {ds : List Dat} {i : Nat} {v : V}, DenL K O H vs ds → vs[i]? = some v → ∃ d, ds[i]? = some d ∧ Den K O H v d
  | _, [], _, _, h, e => by cases h; simp at e
  | _, x :: ds, 0, v, h, e => by
    cases h with
    | cons h1 _ =>
      simp at e
      subst e
      exact ⟨_, rfl, h1⟩
  | _, x :: ds, i + 1, d, h, e => by
    cases h with
    | cons _ h2 =>
      obtain ⟨v, q1, q2⟩ := h2.get' (i := i) (by simpa using e)
      exact ⟨v, by simpa using q1, q2⟩
theorem DenL.append : ∀ {vs ws : List V} {ds es : List Dat}, DenL K O H vs ds → DenL K O H ws es → DenL K O H (vs ++ ws) (ds ++ es)
  | _, _, [], _, h, h' => by cases h; exact h'
  | _, _, d :: ds, _, h, h' => by
    cases h with
    | cons h1 h2 => exact .cons h1 (h2.append h')
theorem DenL.take : ∀ {vs : List V} {ds : List Dat} (n : Nat), DenL K O H vs ds → DenL K O H (vs.take n) (ds.take n)
  | _, _, 0, _ => .nil
  | _, [], n + 1, h => by cases h; exact .nil
  | _, d :: ds, n + 1, h => by
    cases h with
    | cons h1 h2 => exact .cons h1 (h2.take n)
theorem DenL.drop : ∀ {vs : List V} {ds : List Dat} (n : Nat), DenL K O H vs ds → DenL K O H (vs.drop n) (ds.drop n)
  | _, _, 0, h => h
  | _, [], n + 1, h => by cases h; exact .nil
  | _, d :: ds, n + 1, h => by
    cases h with
    | cons _ h2 => exact h2.drop n
theorem DenL.set : ∀ {vs : List V} {ds : List Dat} {v : V} {d : Dat} (n : Nat), DenL K O H vs ds → Den K O H v d → DenL K O H (vs.set n v) (ds.set n d)
  | _, [], _, _, _, h, _ => by cases h; exact .nil
  | _, d :: ds, _, _, 0, h, q => by
    cases h with
    | cons _ h2 => exact .cons q h2
  | _, d :: ds, _, _, n + 1, h, q => by
    cases h with
    | cons h1 h2 => exact .cons h1 (h2.set n q)
theorem DenL.reverse {vs : List V} {ds : List Dat} (h : DenL K O H vs ds) : DenL K O H vs.reverse ds.reverse := by
  induction ds generalizing vs with
  | nil => cases h; exact .nil
  | cons d ds ih =>
    cases h with
    | cons h1 h2 =>
      rw [List.reverse_cons, List.reverse_cons]
      exact (ih h2).append (.cons h1 .nil)

/-! scalars -/
def scalD : Dat → Option V
  | .non => some .non
  | .bl b => some (.bl b)
  | .int i => some (.int i)
  | .str x => some (.str x)
  | _ => none
theorem den_int {v : V} {i : Int} (h : Den K O H v (.int i)) : v = .int i := by cases h; rfl
theorem den_bl {v : V} {b : Bool} (h : Den K O H v (.bl b)) : v = .bl b := by cases h; rfl
theorem den_str {v : V} {x : Str} (h : Den K O H v (.str x)) : v = .str x := by cases h; rfl
theorem den_tup {v : V} {ds : List Dat} (h : Den K O H v (.tup ds)) : ∃ a vs, v = .ref a ∧ SqT K H a vs ∧ DenL K O H vs ds := by
  cases h with
  | tup hs hd => exact ⟨_, _, rfl, hs, hd⟩
theorem den_lst {v : V} {ds : List Dat} (h : Den K O H v (.lst ds)) : ∃ a vs, v = .ref a ∧ LsR K O H a vs ∧ DenL K O H vs ds := by
  cases h with
  | lst hs hd => exact ⟨_, _, rfl, hs, hd⟩
theorem den_rol {v : V} {ds : List Dat} (h : Den K O H v (.rol ds)) : ∃ a vs, v = .ref a ∧ RoR K H a vs ∧ DenL K O H vs ds := by
  cases h with
  | rol hs hd => exact ⟨_, _, rfl, hs, hd⟩
/-! what cannot be changed is owned by nobody -/
mutual
theorem Den.pure : ∀ (d : Dat) (v : V), pureD d = true → Den K O H v d → Den K O' H v d
  | .non, _, _, h => by cases h; exact .non
  | .bl b, _, _, h => by cases h; exact .bl b
  | .int i, _, _, h => by cases h; exact .int i
  | .str x, _, _, h => by cases h; exact .str x
  | .tup ds, _, p, h => by
    cases h with
    | tup hs hd => exact .tup hs (DenL.pure ds _ (by simpa [pureD] using p) hd)
  | .rol ds, _, p, h => by
    cases h with
    | rol hs hd => exact .rol hs (DenL.pure ds _ (by simpa [pureD] using p) hd)
  | .lst ds, _, p, h => by simp [pureD] at p
  | .dct _ _, _, _, h => by cases h
  | .ins _ _, _, _, h => by cases h
  | .exc _ _, _, _, h => by cases h
  | .clo _ _, _, _, h => by cases h
theorem DenL.pure : ∀ (ds : List Dat) (vs : List V), pureL ds = true → DenL K O H vs ds → DenL K O' H vs ds
  | [], _, _, h => by cases h; exact .nil
  | d :: ds, _, p, h => by
    have p' : pureD d = true ∧ pureL ds = true := by simpa [pureL] using p
    cases h with
    | cons h1 h2 => exact .cons (Den.pure d _ p'.1 h1) (DenL.pure ds _ p'.2 h2)
end
mutual
theorem Den.dp : ∀ (d : Dat) (v : V) (p : PyData), toPy d = some p → Den K O H v d → Dp K H v p
  | .non, _, _, e, h => by cases h; simp [toPy] at e; subst e; exact .non
  | .bl b, _, _, e, h => by cases h; simp [toPy] at e; subst e; exact .bl b
  | .int i, _, _, e, h => by cases h; simp [toPy] at e; subst e; exact .int i
  | .str x, _, _, e, h => by cases h; simp [toPy] at e; subst e; exact .str x
  | .tup ds, _, _, e, h => by
    obtain ⟨ps, e1, e2⟩ := Option.map_eq_some_iff.mp (show (toPyL ds).map PyData.tuple = some _ by simpa [toPy] using e)
    subst e2
    cases h with
    | tup hs hd => exact .tup hs (DenL.dp ds _ ps e1 hd)
  | .lst ds, _, _, e, h => by
    obtain ⟨ps, e1, e2⟩ := Option.map_eq_some_iff.mp (show (toPyL ds).map PyData.list = some _ by simpa [toPy] using e)
    subst e2
    cases h with
    | lst hs hd => exact .lst hs.sq (DenL.dp ds _ ps e1 hd)
  | .rol _, _, _, e, _ => by simp [toPy] at e
  | .dct _ _, _, _, _, h => by cases h
  | .ins _ _, _, _, _, h => by cases h
  | .exc _ _, _, _, _, h => by cases h
  | .clo _ _, _, _, _, h => by cases h
theorem DenL.dp : ∀ (ds : List Dat) (vs : List V) (ps : List PyData), toPyL ds = some ps → DenL K O H vs ds → DpAll K H vs ps
  | [], _, _, e, h => by cases h; simp [toPyL] at e; subst e; exact .nil
  | d :: ds, _, ps, e, h => by
    cases h with
    | cons h1 h2 =>
      cases e1 : toPy d with
      | none => simp [toPyL, e1] at e
      | some p =>
        cases e2 : toPyL ds with
        | none => simp [toPyL, e1, e2] at e
        | some qs =>
          simp [toPyL, e1, e2] at e
          subst e
          exact .cons (Den.dp d _ p e1 h1) (DenL.dp ds _ qs e2 h2)
end

/-! ### what an owner holds -/
def Own (K : PySem.W.Frag) (O : Addr → Prop) (H : Hp) (a : Addr) : Dat → Prop
  | .lst ds => ∃ vs, H a = some (.lst vs) ∧ DenL K O H vs ds
  | _ => False
theorem Own.mono {a : Addr} {d : Dat} (e : Same H H') (ho : ∀ a, O' a → O a) (h : Own K O H a d) : Own K O' H' a d := by
  cases d with
  | lst ds =>
    obtain ⟨vs, h1, h2⟩ := h
    exact ⟨vs, e _ _ h1, h2.mono e ho⟩
  | _ => exact False.elim h
theorem Own.den {a : Addr} {d : Dat} (h : Own K O H a d) : Den K O0 H (.ref a) d := by
  cases d with
  | lst ds =>
    obtain ⟨vs, h1, h2⟩ := h
    exact .lst ⟨h1, id⟩ h2.zero
  | _ => exact False.elim h
theorem Own.tracked {a : Addr} {d : Dat} (h : Own K O H a d) : ∃ xs, H a = some (.lst xs) := by
  cases d with
  | lst ds =>
    obtain ⟨vs, h1, _⟩ := h
    exact ⟨vs, h1⟩
  | _ => exact False.elim h
theorem Own.mut {a : Addr} {d : Dat} (h : Own K O H a d) : isMut d = true := by
  cases d with
  | lst ds => rfl
  | _ => exact False.elim h
/-- its root perhaps owned, all else not -/
def D1 (K : PySem.W.Frag) (O : Addr → Prop) (H : Hp) (v : V) : Dat → Prop
  | .lst ds => ∃ a vs, v = .ref a ∧ H a = some (.lst vs) ∧ DenL K O H vs ds
  | d => Den K O H v d
theorem Den.d1 {d : Dat} {v : V} (h : Den K O H v d) : D1 K O H v d := by
  cases d with
  | lst ds =>
    obtain ⟨a, vs, rfl, h1, h2⟩ := den_lst h
    exact ⟨a, vs, rfl, h1.1, h2⟩
  | _ => exact h
theorem D1.same {d : Dat} {v : V} (e : Same H H') (h : D1 K O H v d) : D1 K O H' v d := by
  cases d with
  | lst ds =>
    obtain ⟨a, vs, rfl, h1, h2⟩ := h
    exact ⟨a, vs, rfl, e _ _ h1, h2.same e⟩
  | _ => exact Den.same e h
theorem Own.d1 {a : Addr} {d : Dat} (h : Own K O H a d) : D1 K O H (.ref a) d := by
  cases d with
  | lst ds =>
    obtain ⟨vs, h1, h2⟩ := h
    exact ⟨a, vs, rfl, h1, h2⟩
  | _ => exact False.elim h

/-- the value that came from H on is known to this grade -/
structure Pst (K : PySem.W.Frag) (fl : Nat) (O : Addr → Prop) (H H' : Hp) (v : V) (d : Dat) : Prop where
  any : Den K O0 H' v d
  one : 1 ≤ fl → D1 K O H' v d
  two : 2 ≤ fl → Den K O H' v d
  three : 3 ≤ fl → isMut d = true → ∃ a, v = .ref a ∧ H a = none ∧ Own K (PV.plus O a) H' a d
theorem Pst.low {fl fl' : Nat} {v : V} {d : Dat} (h : Pst K fl O H H' v d) (e : fl' ≤ fl) : Pst K fl' O H H' v d :=
  ⟨h.any, fun q => h.one (Nat.le_trans q e), fun q => h.two (Nat.le_trans q e), fun q => h.three (Nat.le_trans q e)⟩
theorem Pst.same {fl : Nat} {H2 : Hp} {v : V} {d : Dat} (h : Pst K fl O H H' v d) (e : Same H' H2) : Pst K fl O H H2 v d :=
  ⟨h.any.same e, fun q => (h.one q).same e, fun q => (h.two q).same e, fun q m => by
    obtain ⟨a, h1, h2, h3⟩ := h.three q m
    exact ⟨a, h1, h2, h3.mono e fun _ z => z⟩⟩
theorem Pst.base {fl : Nat} {H2 : Hp} {v : V} {d : Dat} (h : Pst K fl O H2 H' v d) (e : Same H H2) : Pst K fl O H H' v d :=
  ⟨h.any, h.one, h.two, fun q m => by
    obtain ⟨a, h1, h2, h3⟩ := h.three q m
    exact ⟨a, h1, e.free h2, h3⟩⟩
/-- of what can't be changed at its root, grade 2 is grade 3 -/
theorem Pst.of2 {fl : Nat} {v : V} {d : Dat} (h : Den K O H' v d) (m : isMut d = false ∨ fl ≤ 2) : Pst K fl O H H' v d :=
  ⟨h.zero, fun _ => h.d1, fun _ => h, fun q e => by
    rcases m with m | m
    · rw [m] at e; cases e
    · omega⟩
theorem Pst.of0 {v : V} {d : Dat} (h : Den K O0 H' v d) : Pst K 0 O H H' v d := ⟨h, fun q => by omega, fun q => by omega, fun q => by omega⟩
theorem Pst.scal {fl : Nat} {v : V} {d : Dat} (e : scalD d = some v) : Pst K fl O H H' v d := by
  cases d with
  | non => cases e; exact .of2 .non (.inl rfl)
  | bl b => cases e; exact .of2 (.bl b) (.inl rfl)
  | int i => cases e; exact .of2 (.int i) (.inl rfl)
  | str x => cases e; exact .of2 (.str x) (.inl rfl)
  | _ => cases e
/-- a new list -/
theorem Pst.new {fl : Nat} {H1 : Hp} {p : Addr} {vs : List V} {ds : List Dat} (hO : ∀ a, O a → ∃ o, H a = some o) (e : Same H H1) (hp : H1 p = none) (h : DenL K O H1 vs ds) : Pst K fl O H (upd H1 p (.lst vs)) (.ref p) (.lst ds) := by
  have s := same_new (o := .lst vs) hp
  have h' : DenL K (PV.plus O p) (upd H1 p (.lst vs)) vs ds := (h.plus hp).same s
  have e1 : Den K O0 (upd H1 p (.lst vs)) (.ref p) (.lst ds) := .lst ⟨upd_same, id⟩ h'.zero
  refine ⟨e1, fun _ => ⟨p, vs, rfl, upd_same, h.same s⟩, fun _ => ?_, fun _ _ => ⟨p, rfl, e.free hp, vs, upd_same, h'⟩⟩
  refine .lst ⟨upd_same, fun z => ?_⟩ (h.same s)
  obtain ⟨o, q⟩ := hO p z
  rw [e.free hp] at q
  cases q
end
end PV

/-! PV, part C: expressions keep what the evaluator tells -/
namespace PV
open PySem PySem.Spec PyProof.Rows L2

/-! ### outcomes -/
def Post {α : Type} (r : Rs α) (A : α → Prop) (B : Dat → Prop) : Prop := match r with
  | .ok a => A a
  | .ex z => B z
  | .no => False
theorem Post.bind {α β : Type} {r : Rs α} {f : α → Rs β} {A : β → Prop} {B : Dat → Prop} (h : Post (r.bind f) A B) : Post r (fun a => Post (f a) A B) B := by
  cases r <;> exact h
theorem Post.imp {α : Type} {r : Rs α} {A A' : α → Prop} {B B' : Dat → Prop} (h : Post r A B) (f : ∀ a, r = .ok a → A a → A' a) (g : ∀ z, B z → B' z) : Post r A' B' := by
  cases r with
  | ok a => exact f a rfl h
  | ex z => exact g z h
  | no => exact h

/-! ### the weakest readings -/
def wE (X : Cx) (e : Expr) : TE := fun σ H Q => ∀ (pins : List (Addr × Obj)) (s : Shared), Inv X pins σ H s → wpAny (model X.prog X.w) X.A (eval e X.env) (EP X pins σ Q) X.xe s
def wT (X : Cx) (e : Expr) : TT := fun σ H Q => ∀ (pins : List (Addr × Obj)) (s : Shared), Inv X pins σ H s → wpAny (model X.prog X.w) X.A (isTrue e X.env (eval e X.env)) (TP X pins σ Q) X.xe s
def wW (X : Cx) (e : Expr) : TT := fun σ H Q => ∀ (whole : Sem Value) (pins : List (Addr × Obj)) (s : Shared), Inv X pins σ H s → wpAny (model X.prog X.w) X.A (isTrue e X.env whole) (TP X pins σ Q) X.xe s
def wO (X : Cx) (f : Value → Value → Sem Value) : R2 := fun x y H Q => ∀ (pins : List (Addr × Obj)) (s : Shared) (σ : L2.St) (v u : Value), Inv X pins σ H s → RelV x v → RelV y u → wpAny (model X.prog X.w) X.A (f v u) (EP X pins σ Q) X.xe s
def wC (X : Cx) (f : Value) : List V → Hp → VK → Prop := fun xs H Q => ∀ (pins : List (Addr × Obj)) (s : Shared) (σ : L2.St) (us : List Value), Inv X pins σ H s → Vals xs us → wpAny (model X.prog X.w) X.A (call f us) (EP X pins σ Q) X.xe s
def wI (X : Cx) (tg iter : Expr) : TI := fun σ H R => ∀ (pins : List (Addr × Obj)) (s : Shared), Inv X pins σ H s → wpAny (model X.prog X.w) X.A (eval iter X.env) (fun v s1 => wpAny (model X.prog X.w) X.A (pyIter v) (PIE X pins σ tg R) X.xe s1) X.xe s
section
variable {X : Cx} {e : Expr} {σ : L2.St} {H : Hp}
theorem pe_w : PE X e (wE X e) := ⟨fun pins s σ H Q I h => h pins s I⟩
theorem of_pe {t : TE} {Q : VK} (h : PE X e t) (q : t σ H Q) : wE X e σ H Q := fun pins s I => h.run pins s σ H Q I q
theorem pt_w : PT X e (wT X e) := ⟨fun pins s σ H Q I h => h pins s I⟩
theorem of_pt {t : TT} {Q : Bool → Hp → Prop} (h : PT X e t) (q : t σ H Q) : wT X e σ H Q := fun pins s I => h.run pins s σ H Q I q
theorem pw_w : PW X e (wW X e) := ⟨fun wh pins s σ H Q I h => h wh pins s I⟩
theorem of_pw {t : TT} {Q : Bool → Hp → Prop} (h : PW X e t) (q : t σ H Q) : wW X e σ H Q := fun wh pins s I => h.run wh pins s σ H Q I q
theorem wW.t {Q : Bool → Hp → Prop} (h : wW X e σ H Q) : wT X e σ H Q := fun pins s I => h _ pins s I
theorem op_w {f : Value → Value → Sem Value} : OpR X f (wO X f) := fun pins s σ H x y v u Q I rx ry h => h pins s σ v u I rx ry
theorem of_op {f : Value → Value → Sem Value} {r : R2} {x y : V} {Q : VK} (h : OpR X f r) (q : r x y H Q) : wO X f x y H Q := fun pins s σ v u I rx ry => h pins s σ H x y v u Q I rx ry q
theorem call_w {f : Value} : CallR X f (wC X f) := fun pins s σ H xs us Q I r h => h pins s σ us I r
theorem of_call {f : Value} {r : List V → Hp → VK → Prop} {xs : List V} {Q : VK} (h : CallR X f r) (q : r xs H Q) : wC X f xs H Q := fun pins s σ us I rv => h pins s σ H xs us Q I rv q
theorem pi_w {tg iter : Expr} : PI X tg iter (wI X tg iter) := ⟨fun pins s σ H R I h => h pins s I⟩
theorem of_pi {tg iter : Expr} {t : TI} {R : It → Hp → Prop} (h : PI X tg iter t) (q : t σ H R) : wI X tg iter σ H R := fun pins s I => h.run pins s σ H R I q
end

/-! ### slots -/
def isOwn : SK → Bool
  | .own => true
  | .lent => true
  | .arg => true
  | _ => false
def SlotOk (K : PySem.W.Frag) (O : Addr → Prop) (H : Hp) : SK → V → Dat → Prop
  | .shr, v, d => Den K O H v d
  | .own, v, d => ∃ a, v = .ref a ∧ O a ∧ Own K O H a d
  | .lent, v, d => ∃ a, v = .ref a ∧ O a ∧ Own K O H a d
  | .arg, v, d => ∃ a, v = .ref a ∧ O a ∧ Own K O H a d
/-- a list that may be changed through this name -/
def isMu : SK → Bool
  | .own => true
  | .arg => true
  | _ => false
theorem isMu_own {k : SK} (h : isMu k = true) : isOwn k = true := by
  cases k <;> first | rfl | cases h
structure Rel (K : PySem.W.Frag) (κ : Kd) (ρ : Env) (σ : L2.St) (H : Hp) (O : Addr → Prop) : Prop where
  len : ρ.length = σ.length
  lenK : κ.length = σ.length
  slot : ∀ (i : Nat) (d : Dat), ρ[i]? = some (some d) → ∃ v, σ[i]? = some (some v) ∧ SlotOk K O H (kd κ i) v d
  inj : ∀ (i j : Nat) (d e : Dat) (a : Addr), ρ[i]? = some (some d) → ρ[j]? = some (some e) → isOwn (kd κ i) = true → isOwn (kd κ j) = true → σ[i]? = some (some (.ref a)) → σ[j]? = some (some (.ref a)) → i = j
  trk : ∀ a, O a → ∃ o, H a = some o
section
variable {K : PySem.W.Frag} {κ : Kd} {ρ : Env} {σ : L2.St} {H H' : Hp} {O : Addr → Prop}
theorem SlotOk.same {k : SK} {v : V} {d : Dat} (e : Same H H') (h : SlotOk K O H k v d) : SlotOk K O H' k v d := by
  cases k with
  | shr => exact Den.same e h
  | own => obtain ⟨a, h1, h2, h3⟩ := h; exact ⟨a, h1, h2, h3.mono e fun _ z => z⟩
  | lent => obtain ⟨a, h1, h2, h3⟩ := h; exact ⟨a, h1, h2, h3.mono e fun _ z => z⟩
  | arg => obtain ⟨a, h1, h2, h3⟩ := h; exact ⟨a, h1, h2, h3.mono e fun _ z => z⟩
theorem SlotOk.ref {k : SK} {v : V} {d : Dat} (h : SlotOk K O H k v d) (q : isOwn k = true) : ∃ a, v = .ref a ∧ O a ∧ Own K O H a d := by
  cases k with
  | shr => cases q
  | own => exact h
  | lent => exact h
  | arg => exact h
theorem slot_of {k : SK} {a : Addr} {d : Dat} (q : isOwn k = true) (h1 : O a) (h2 : Own K O H a d) : SlotOk K O H k (.ref a) d := by
  cases k with
  | shr => cases q
  | own => exact ⟨a, rfl, h1, h2⟩
  | lent => exact ⟨a, rfl, h1, h2⟩
  | arg => exact ⟨a, rfl, h1, h2⟩
theorem Rel.same (e : Same H H') (h : Rel K κ ρ σ H O) : Rel K κ ρ σ H' O :=
  ⟨h.len, h.lenK, fun i d q => by
    obtain ⟨v, h1, h2⟩ := h.slot i d q
    exact ⟨v, h1, h2.same e⟩, h.inj, fun a q => by
    obtain ⟨o, z⟩ := h.trk a q
    exact ⟨o, e a o z⟩⟩
end

/-! ### exceptions; calls -/
section
variable (cadr : Nat → Addr)
/-- the exception z lies there -/
def XD (cls : Value) (dd : Option Addr) (H : Hp) (z : Dat) : Prop := match z with
  | .exc C fs => cls = .ref (cadr C) ∧ (fs = [] → dd = none)
  | _ => False
end
def rfOk : Rf → Dat → Bool
  | .pur, d => pureD d
  | .ownp, .lst ds => pureL ds
  | .ownp, d => pureD d
  | _, _ => true
/-- the world of a law: its functions' values, constants, grades, classes -/
structure Wd where
  cf : Nat → List Dat → Rs Dat
  gl : Nat → Dat
  rf : Nat → Rf
  cadr : Nat → Addr
/-- what a def promises -/
def spF (D : Wd) (K : PySem.W.Frag) (f ar : Nat) : Sp := fun vs H Q E => ∃ (O : Addr → Prop) (ds : List Dat), DenL K O H vs ds ∧ (∀ a, O a → ∃ o, H a = some o) ∧ vs.length = ar ∧
  Post (D.cf f ds) (fun d => ∀ v H', Same H H' → Pst K ((D.rf f).fl true) O H H' v d → Q v H') (fun z => ∀ cls dd H', Same H H' → XD D.cadr cls dd H' z → E cls dd H')
/-- a name's own list, as a call leaves it -/
structure IoP (K : PySem.W.Frag) (O : Addr → Prop) (H : Hp) (a : Addr) (O' : Addr → Prop) (H' : Hp) (d : Dat) : Prop where
  den : ∀ v d, Den K O H v d → Den K O' H' v d
  frm : ∀ b o, H b = some o → b ≠ a → H' b = some o
  kep : ∀ b, O b → O' b
  trk : ∀ b, O' b → ∃ o, H' b = some o
  own : Own K O' H' a d
/-- what a def promises that changes its first list and hands back nothing -/
def spIO (D : Wd) (K : PySem.W.Frag) (f ar : Nat) : Sp := fun vs H Q E => ∃ (O : Addr → Prop) (a : Addr) (us : List V) (d0 : Dat) (ds : List Dat), vs = .ref a :: us ∧ O a ∧ Own K O H a d0 ∧ DenL K O H us ds ∧ (∀ a, O a → ∃ o, H a = some o) ∧ vs.length = ar ∧
  Post (D.cf f (d0 :: ds)) (fun d => ∀ O' H', IoP K O H a O' H' d → Q .non H') (fun _ => False)
/-- the compile context -/
structure Ctx where
  N : List Str
  funs : List (Str × Nat × Nat)
  glos : List (Str × Nat)
  free : List Str
  ios : List (Str × Nat × Nat)
  dfl : List (Str × Nat × Nat × List Int)
structure CxOk (D : Wd) (X : Cx) (c : Ctx) (raw sc : Scope) (k : Nat) : Prop where
  scope : X.env.scope = sc
  names : X.N = c.N
  nd : c.N.Nodup
  calm : X.calm = true
  fnc : ∀ x, raw.names.lookup x = some .cell → X.fn x = true
  room : Room (k + 1) X.A
  bi : ∀ x ∈ c.free, X.mg x = none
  fn : ∀ x f ar, c.funs.lookup x = some (f, ar) → ∃ fa fd ps, X.mg x = some (.ref fa) ∧ PySem.W.keepIn X.K (.ref fa) = true ∧ Binds X.K fd ps [] ∧ ps.length = ar ∧ FnOk X.prog X.w X.K X.mg X.base (L2.CX X.prog X.w) k fa fd ps (spF D X.K f ar)
  io : ∀ x f ar, c.ios.lookup x = some (f, ar) → ∃ fa fd ps, X.mg x = some (.ref fa) ∧ PySem.W.keepIn X.K (.ref fa) = true ∧ Binds X.K fd ps [] ∧ ps.length = ar ∧ FnOk X.prog X.w X.K X.mg X.base (L2.CX X.prog X.w) k fa fd ps (spIO D X.K f ar)
  glo : ∀ x g, c.glos.lookup x = some g → ∃ v u, X.mg x = some u ∧ RelV v u ∧ ∀ O H, Den X.K O H v (D.gl g)
  dfl : ∀ x f n ns, c.dfl.lookup x = some (f, n, ns) → ∃ fa fd ps us0, X.mg x = some (.ref fa) ∧ PySem.W.keepIn X.K (.ref fa) = true ∧ Binds X.K fd ps us0 ∧ Vals (ns.map V.int) us0 ∧ FnOk X.prog X.w X.K X.mg X.base (L2.CX X.prog X.w) k fa fd ps (spF D X.K f (n + ns.length))

/-- what is wanted where an expression raises -/
def exB (D : Wd) (X : Cx) (W : WX) (σ : L2.St) (H : Hp) (z : Dat) : Prop := L2.Takes X W ∧ ∀ cls dd H', Same H H' → XD D.cadr cls dd H' z → W cls dd σ H'
theorem exB.step {D : Wd} {X : Cx} {W : WX} {σ : L2.St} {H H1 : Hp} {z : Dat} (e : Same H H1) (h : exB D X W σ H z) : exB D X W σ H1 z := ⟨h.1, fun cls dd H' s q => h.2 cls dd H' (e.trans s) q⟩
/-- THE PROMISE of an expression -/
structure SE (D : Wd) (X : Cx) (e : Expr) (x : Ex) : Prop where
  run : ∀ (κ : Kd) (ρ : Env) (σ : L2.St) (H : Hp) (O : Addr → Prop) (W : WX) (Q : VK), Rel X.K κ ρ σ H O →
    Post (evE D.cf D.gl x ρ) (fun d => ∀ v H', Same H H' → Pst X.K (flE D.rf x κ) O H H' v d → Q v H') (exB D X W σ H) → wE X e σ H Q
  tst : ∀ (κ : Kd) (ρ : Env) (σ : L2.St) (H : Hp) (O : Addr → Prop) (W : WX) (Q : Bool → Hp → Prop), Rel X.K κ ρ σ H O →
    Post ((evE D.cf D.gl x ρ).bind truth) (fun b => ∀ H', Same H H' → Q b H') (exB D X W σ H) → wT X e σ H Q

/-! ### arguments -/
def tAs (X : Cx) : List Expr → TA
  | [] => tNil
  | e :: es => tCons (wE X e) (tAs X es)
inductive PL (K : PySem.W.Frag) (rf : Nat → Rf) (κ : Kd) (O : Addr → Prop) (H H' : Hp) : List Ex → List V → List Dat → Prop
  | nil : PL K rf κ O H H' [] [] []
  | cons {x : Ex} {xs : List Ex} {v : V} {vs : List V} {d : Dat} {ds : List Dat} : Pst K (flE rf x κ) O H H' v d → PL K rf κ O H H' xs vs ds → PL K rf κ O H H' (x :: xs) (v :: vs) (d :: ds)
section
variable {K : PySem.W.Frag} {rf : Nat → Rf} {κ : Kd} {O : Addr → Prop} {H H1 H' H2 : Hp} {xs : List Ex} {vs : List V} {ds : List Dat}
theorem PL.any (h : PL K rf κ O H H' xs vs ds) : DenL K O0 H' vs ds := by
  induction h with
  | nil => exact .nil
  | cons p _ ih => exact .cons p.any ih
theorem PL.two (h : PL K rf κ O H H' xs vs ds) (f : flL rf xs κ = true) : DenL K O H' vs ds := by
  induction h with
  | nil => exact .nil
  | @cons x xs _ _ _ _ p _ ih =>
    have f' : 2 ≤ flE rf x κ ∧ flL rf xs κ = true := by simpa [flL] using f
    exact .cons (p.two f'.1) (ih f'.2)
theorem PL.same (h : PL K rf κ O H H' xs vs ds) (e : Same H' H2) : PL K rf κ O H H2 xs vs ds := by
  induction h with
  | nil => exact .nil
  | cons p _ ih => exact .cons (p.same e) ih
theorem PL.base (h : PL K rf κ O H1 H' xs vs ds) (e : Same H H1) : PL K rf κ O H H' xs vs ds := by
  induction h with
  | nil => exact .nil
  | cons p _ ih => exact .cons (p.base e) ih
theorem PL.len (h : PL K rf κ O H H' xs vs ds) : vs.length = ds.length := h.any.len
end
/-- element by element -/
inductive F2 {α β : Type} (P : α → β → Prop) : List α → List β → Prop
  | nil : F2 P [] []
  | cons {a : α} {b : β} {as : List α} {bs : List β} : P a b → F2 P as bs → F2 P (a :: as) (b :: bs)
section
variable {D : Wd} {X : Cx}
theorem as_run {es : List Expr} {xs : List Ex} (h : F2 (SE D X) es xs) : ∀ {κ : Kd} {ρ : Env} {σ : L2.St} {H : Hp} {O : Addr → Prop} {W : WX} {Q : List V → Hp → Prop}, Rel X.K κ ρ σ H O →
    Post (evL D.cf D.gl xs ρ) (fun ds => ∀ vs H', Same H H' → PL X.K D.rf κ O H H' xs vs ds → Q vs H') (exB D X W σ H) → tAs X es σ H Q := by
  induction h with
  | nil => intro κ ρ σ H O W Q r p; exact p [] H (Same.refl H) .nil
  | @cons e x es xs h1 _ ih =>
    intro κ ρ σ H O W Q r p
    simp only [evL] at p
    refine h1.run κ ρ σ H O W _ r (p.bind.imp (fun d _ q v H1 s1 p1 => ?_) fun z q => q)
    refine ih (r.same s1) (q.bind.imp (fun ds _ q vs H2 s2 p2 => ?_) fun z q => q.step s1)
    exact q (v :: vs) H2 (s1.trans s2) (.cons (p1.same s2) (p2.base s1))
end

/-! ### operators -/
def opOf : Bop → Operator
  | .add => .Add
  | .sub => .Sub
  | .mul => .Mult
  | .fdiv => .FloorDiv
  | .mod => .Mod
  | .pow => .Pow
  | .shl => .LShift
  | .shr => .RShift
  | .band => .BitAnd
def copOf : Cop → CmpOp
  | .eq => .Eq
  | .ne => .NotEq
  | .lt => .Lt
  | .le => .LtE
  | .gt => .Gt
  | .ge => .GtE
  | .isin => .In
  | .notin => .NotIn
section
variable {D : Wd} {X : Cx} {H H2 H' : Hp} {O : Addr → Prop} {Q : VK} {B : Dat → Prop}
theorem scal_now {v : V} {d : Dat} {fl : Nat} (q : ∀ v H', Same H2 H' → Pst X.K fl O H H' v d → Q v H') (e : scalD d = some v) : Q v H2 := q v H2 (Same.refl _) (.scal e)
theorem bin_ok {op : Bop} {x y : V} {a b : Dat} {fl fx fy : Nat} (ht : ∀ a, O a → ∃ o, H a = some o) (sH : Same H H2) (px : Pst X.K fx O H H2 x a) (py : Pst X.K fy O H H2 y b) (hf : fl = if 1 ≤ fx ∧ 1 ≤ fy then 3 else 0)
    (h : Post (binop op a b) (fun d => ∀ v H', Same H2 H' → Pst X.K fl O H H' v d → Q v H') B) : wO X (binaryOp (opOf op)) x y H2 Q := by
  unfold binop at h
  split at h
  · cases px.any; cases py.any
    exact of_op op_add ⟨_, _, rfl, rfl, scal_now h rfl⟩
  · cases px.any; cases py.any
    exact of_op op_sub ⟨_, _, rfl, rfl, scal_now h rfl⟩
  · cases px.any; cases py.any
    split at h
    · rename_i hc
      refine of_op (opI (C := IntMulOk) (g := fun i j => i * j) fun _ _ _ _ _ _ _ hc q => mul_int q hc) ⟨_, _, rfl, rfl, ?_, scal_now h rfl⟩
      unfold IntMulOk
      unfold mulOk at hc
      rw [Bool.not_eq_true'] at hc
      rw [hc]
      exact Bool.false_ne_true
    · exact False.elim h
  · cases px.any; cases py.any
    split at h
    · rename_i hc
      have hc' := hc
      unfold divOk at hc'
      rw [Bool.and_eq_true, decide_eq_true_eq, Bool.not_eq_true'] at hc'
      exact of_op (opI (C := fun i j => j ≠ 0 ∧ Builtin.divisionGoesByPylong i j = false) (g := fun i j => i.fdiv j) fun _ _ _ _ _ _ _ hc q => floordiv_int hc.1 q (.inl hc.2)) ⟨_, _, rfl, rfl, hc', scal_now h rfl⟩
    · exact False.elim h
  · cases px.any; cases py.any
    split at h
    · rename_i hc
      exact of_op op_modN ⟨_, _, rfl, rfl, of_decide_eq_true hc, scal_now h rfl⟩
    · exact False.elim h
  · cases px.any; cases py.any
    split at h
    · rename_i hc
      have hc' := hc
      unfold powOk at hc'
      rw [Bool.and_eq_true, Bool.and_eq_true, decide_eq_true_eq, decide_eq_true_eq, decide_eq_true_eq] at hc'
      exact of_op op_pow ⟨_, _, rfl, rfl, ⟨hc'.1.1, hc'.1.2, hc'.2⟩, scal_now h rfl⟩
    · exact False.elim h
  · cases px.any; cases py.any
    split at h
    · rename_i hc
      have hc' := hc
      unfold powOk at hc'
      rw [Bool.and_eq_true, Bool.and_eq_true, decide_eq_true_eq, decide_eq_true_eq, decide_eq_true_eq] at hc'
      exact of_op op_shl ⟨_, _, rfl, rfl, ⟨hc'.1.1, hc'.1.2, hc'.2⟩, scal_now h rfl⟩
    · exact False.elim h
  · cases px.any; cases py.any
    split at h
    · rename_i hc
      exact of_op op_shr ⟨_, _, rfl, rfl, of_decide_eq_true hc, scal_now h rfl⟩
    · exact False.elim h
  · cases px.any; cases py.any
    exact of_op op_and ⟨_, _, rfl, rfl, scal_now h rfl⟩
  · cases px.any; cases py.any
    split at h
    · rename_i hc
      exact of_op op_add_str ⟨_, _, rfl, rfl, of_decide_eq_true hc, scal_now h rfl⟩
    · exact False.elim h
  · rename_i xs ys
    split at h
    · rename_i hc
      have hz := of_decide_eq_true hc
      by_cases hg : 1 ≤ fx ∧ 1 ≤ fy
      · obtain ⟨b1, ws1, rfl, m1, n1⟩ := px.one hg.1
        obtain ⟨b2, ws2, rfl, m2, n2⟩ := py.one hg.2
        exact of_op op_cat ⟨_, _, ws1, ws2, rfl, rfl, m1, m2, by rw [n1.len, n2.len]; exact hz, fun t ht' => h _ _ (same_new ht') (.new ht sH ht' (n1.append n2))⟩
      · rw [if_neg hg] at hf
        obtain ⟨a1, vs1, rfl, l1, d1⟩ := den_lst px.any
        obtain ⟨a2, vs2, rfl, l2, d2⟩ := den_lst py.any
        refine of_op op_cat ⟨_, _, vs1, vs2, rfl, rfl, l1.1, l2.1, by rw [d1.len, d2.len]; exact hz, fun t ht' => h _ _ (same_new ht') ?_⟩
        rw [hf]
        exact .of0 (.lst ⟨upd_same, id⟩ ((d1.append d2).same (same_new ht')))
    · exact False.elim h
  · rename_i xs ys
    split at h
    · rename_i hc
      have hz := of_decide_eq_true hc
      have main : ∀ (O' : Addr → Prop), Den X.K O' H2 x (.tup xs) → Den X.K O' H2 y (.tup ys) → (∀ v H', Same H2 H' → Den X.K O' H' v (.tup (xs ++ ys)) → Q v H') → wO X (binaryOp .Add) x y H2 Q := by
        intro O' q1 q2 k
        obtain ⟨a1, vs1, rfl, l1, d1⟩ := den_tup q1
        obtain ⟨a2, vs2, rfl, l2, d2⟩ := den_tup q2
        refine of_op op_catA ⟨_, _, vs1, vs2, rfl, rfl, l1, l2, by rw [d1.len, d2.len]; exact hz, fun e => ?_, fun _ e => ?_, fun _ _ p hp => ?_⟩
        · subst e
          cases d1
          exact k _ _ (Same.refl _) q2
        · subst e
          cases d2
          rw [List.append_nil] at k
          exact k _ _ (Same.refl _) q1
        · exact k _ _ (same_new hp) (.tup (.of upd_same) ((d1.append d2).same (same_new hp)))
      by_cases hg : 1 ≤ fx ∧ 1 ≤ fy
      · exact main O (px.one hg.1) (py.one hg.2) fun v H' s q => h v H' s (.of2 q (.inl rfl))
      · rw [if_neg hg] at hf
        exact main O0 px.any py.any fun v H' s q => h v H' s (by rw [hf]; exact .of0 q)
    · exact False.elim h
  · exact False.elim h
theorem ints_flat {K : PySem.W.Frag} {O : Addr → Prop} {H : Hp} : ∀ (xs : List Dat) (vs : List V) (ns : List Int), intsOf xs = some ns → DenL K O H vs xs → vs.all flatV = true ∧ ∀ i, inV (.int i) vs = ns.any (· == i)
  | [], _, _, e, h => by
    cases e; cases h
    exact ⟨rfl, fun i => rfl⟩
  | x :: xs, vs, ns, e, h => by
    cases x with
    | int j =>
      obtain ⟨ms, e1, rfl⟩ := Option.map_eq_some_iff.mp e
      cases h with
      | cons h1 h2 =>
        cases h1
        obtain ⟨p1, p2⟩ := ints_flat xs _ ms e1 h2
        exact ⟨by rw [List.all_cons, p1]; rfl, fun i => by
          have := p2 i
          unfold inV at this ⊢
          rw [List.any_cons, List.any_cons, this]
          rfl⟩
    | _ => cases e
theorem cmp_ok {op : Cop} {x y : V} {a b : Dat} {fl : Nat} (hu : X.A.units + 65 < cLine) (px : Den X.K O0 H2 x a) (py : Den X.K O0 H2 y b)
    (h : Post (cmpop op a b) (fun d => ∀ v H', Same H2 H' → Pst X.K fl O H H' v d → Q v H') B) : wO X (compareOp (copOf op)) x y H2 Q := by
  unfold cmpop at h
  split at h
  · cases px; cases py
    exact of_op op_lt ⟨_, _, rfl, rfl, scal_now h rfl⟩
  · cases px; cases py
    exact of_op op_le ⟨_, _, rfl, rfl, scal_now h rfl⟩
  · cases px; cases py
    exact of_op op_gt ⟨_, _, rfl, rfl, scal_now h rfl⟩
  · cases px; cases py
    exact of_op op_ge ⟨_, _, rfl, rfl, scal_now h rfl⟩
  · unfold eqD at h
    split at h
    · rename_i p q e1 e2
      split at h
      · rename_i hs
        rw [Bool.and_eq_true] at hs
        exact of_op (op_eqD (by omega)) ⟨p, q, Den.dp _ _ _ e1 px, Den.dp _ _ _ e2 py, hs.1, hs.2, scal_now h rfl⟩
      · exact False.elim h
    · exact False.elim h
  · unfold eqD at h
    split at h
    · rename_i p q e1 e2
      split at h
      · rename_i hs
        rw [Bool.and_eq_true] at hs
        exact of_op (op_neD (by omega)) ⟨p, q, Den.dp _ _ _ e1 px, Den.dp _ _ _ e2 py, hs.1, hs.2, scal_now h rfl⟩
      · exact False.elim h
    · exact False.elim h
  · unfold memD at h
    split at h
    · rename_i xs p qs e1 e2
      split at h
      · rename_i hs
        rw [Bool.and_eq_true] at hs
        obtain ⟨a2, vs2, rfl, l2, d2⟩ := den_lst py
        exact of_op (op_inD (by omega)) ⟨p, qs, Den.dp _ _ _ e1 px, .lst (.of l2.1) (DenL.dp _ _ _ e2 d2), hs.1, hs.2, scal_now h rfl⟩
      · exact False.elim h
    · exact False.elim h
  · unfold memD at h
    split at h
    · rename_i xs p qs e1 e2
      split at h
      · rename_i hs
        rw [Bool.and_eq_true] at hs
        obtain ⟨a2, vs2, rfl, l2, d2⟩ := den_lst py
        exact of_op (op_notInD (by omega)) ⟨p, qs, Den.dp _ _ _ e1 px, .lst (.of l2.1) (DenL.dp _ _ _ e2 d2), hs.1, hs.2, scal_now h rfl⟩
      · exact False.elim h
    · exact False.elim h
  · split at h
    · rename_i ns hn
      cases px
      obtain ⟨a2, vs2, rfl, l2, d2⟩ := den_tup py
      obtain ⟨f1, f2⟩ := ints_flat _ _ _ hn d2
      exact of_op op_in_seq ⟨a2, vs2, rfl, .inr l2, rfl, f1, scal_now h (by rw [f2]; rfl)⟩
    · exact False.elim h
  · split at h
    · rename_i ns hn
      cases px
      obtain ⟨a2, vs2, rfl, l2, d2⟩ := den_tup py
      obtain ⟨f1, f2⟩ := ints_flat _ _ _ hn d2
      exact of_op op_notIn_seq ⟨a2, vs2, rfl, .inr l2, rfl, f1, scal_now h (by rw [f2]; rfl)⟩
    · exact False.elim h
  · exact False.elim h
end
end PV

/-! PV, part D: each expression's promise -/
namespace PV
open PySem PySem.Spec PyProof.Rows L2

def isStar : Expr → Bool
  | .Starred _ _ => true
  | _ => false
theorem starEach_cons {e : Expr} {es : List Expr} {env : PySem.Env} (h : isStar e = false) : starEach (e :: es) env = (false, eval e env) :: starEach es env := by
  cases e <;> first | rfl | exact Bool.noConfusion h
theorem starEach_any {es : List Expr} {env : PySem.Env} {pos : Pos} (h : es.all (fun e => !isStar e) = true) : (backTo pos (starEach es env)).any (·.1) = false := by
  have : ∀ es : List Expr, es.all (fun e => !isStar e) = true → (starEach es env).any (·.1) = false := by
    intro es
    induction es with
    | nil => intro _; rfl
    | cons e es ih =>
      intro h
      rw [List.all_cons, Bool.and_eq_true, Bool.not_eq_true'] at h
      rw [starEach_cons h.1, List.any_cons, ih h.2]
      rfl
  have q := this es h
  generalize starEach es env = l at q ⊢
  clear h this
  induction l with
  | nil => rfl
  | cons p l ih =>
    cases l with
    | nil => exact q
    | cons p' l =>
      rw [List.any_cons, Bool.or_eq_false_iff] at q
      have := ih q.2
      first
        | (unfold backTo; rw [List.any_cons, q.1]; exact this)
        | (unfold backTo; rw [List.any_cons, q.1, Bool.false_or]; exact this)
        | (simp [backTo, q.1] at this ⊢; exact this)
section
variable {D : Wd} {X : Cx} {c : Ctx} {raw sc : Scope} {k : Nat}
theorem pa_as : ∀ {es : List Expr}, es.all (fun e => !isStar e) = true → PA X es (tAs X es)
  | [], _ => pa_nil
  | e :: es, h => by
    rw [List.all_cons, Bool.and_eq_true, Bool.not_eq_true'] at h
    exact pa_cons pe_w (pa_as h.2) (starEach_cons h.1)

/-- from the value's promise the test's, where the test looks at the value -/
theorem se_of {e : Expr} {x : Ex} (he : ∀ whole, isTrue e X.env whole = (do let v ← whole; standAt e.pos; holding [v] (truthy v)))
    (run : ∀ (κ : Kd) (ρ : Env) (σ : L2.St) (H : Hp) (O : Addr → Prop) (W : WX) (Q : VK), Rel X.K κ ρ σ H O →
      Post (evE D.cf D.gl x ρ) (fun d => ∀ v H', Same H H' → Pst X.K (flE D.rf x κ) O H H' v d → Q v H') (exB D X W σ H) → wE X e σ H Q) : SE D X e x := by
  refine ⟨run, fun κ ρ σ H O W Q r p => of_pt (pt_val pe_w he) (run κ ρ σ H O W (fun v H' => ∃ b, v = .bl b ∧ Q b H') r (p.bind.imp (fun d _ q v H' s q' => ?_) fun z q => q))⟩
  cases d with
  | bl b => exact ⟨b, den_bl q'.any, q H' s⟩
  | _ => exact False.elim q

theorem se_var {i : Nat} {y : Str} {pos : Pos} (hN : X.N[i]? = some y) (hv : Vis X.env.scope y) (hd : (y == ("__debug__" : Str)) = false) (hcd : (y == ("__classdict__" : Str)) = false) : SE D X (.Name y pos) (.var i) := by
  refine se_of (fun _ => rfl) fun κ ρ σ H O W Q r p => of_pe (pe_var hN hv hd hcd) ?_
  simp only [evE, getV] at p
  split at p
  · rename_i d e
    obtain ⟨v, h1, h2⟩ := r.slot i d e
    refine ⟨v, h1, p v H (Same.refl H) ?_⟩
    simp only [flE]
    cases hk : kd κ i with
    | shr => rw [hk] at h2; exact .of2 h2 (.inr (Nat.le_refl _))
    | own =>
      rw [hk] at h2
      obtain ⟨a, rfl, o1, o2⟩ := h2
      exact ⟨o2.den, fun _ => o2.d1, fun q => by simp at q, fun q => by simp at q⟩
    | lent =>
      rw [hk] at h2
      obtain ⟨a, rfl, o1, o2⟩ := h2
      exact ⟨o2.den, fun _ => o2.d1, fun q => by simp at q, fun q => by simp at q⟩
    | arg =>
      rw [hk] at h2
      obtain ⟨a, rfl, o1, o2⟩ := h2
      exact ⟨o2.den, fun _ => o2.d1, fun q => by simp at q, fun q => by simp at q⟩
  · exact False.elim p
theorem se_glo {g : Nat} {y : Str} {pos : Pos} {v : V} {u : Value} (hg : Gl X y) (hm : X.mg y = some u) (rv : RelV v u) (hd : (y == ("__debug__" : Str)) = false) (hD : ∀ O H, Den X.K O H v (D.gl g)) : SE D X (.Name y pos) (.glo g) := by
  refine se_of (fun _ => rfl) fun κ ρ σ H O W Q r p => of_pe (pe_glob hg hm rv hd) ?_
  simp only [evE, Post] at p
  exact p v H (Same.refl H) (.of2 (hD O H) (.inr (by simp [flE])))
theorem se_cst {e : Expr} {d : Dat} {v : V} (he : ∀ whole, isTrue e X.env whole = (do let v ← whole; standAt e.pos; holding [v] (truthy v))) (h : PE X e (tC v)) (hs : scalD d = some v) : SE D X e (.cst d) := by
  refine se_of he fun κ ρ σ H O W Q r p => of_pe h ?_
  simp only [evE, Post] at p
  exact p v H (Same.refl H) (.scal hs)
theorem PL.lenx {K : PySem.W.Frag} {rf : Nat → Rf} {κ : Kd} {O : Addr → Prop} {H H' : Hp} {xs : List Ex} {vs : List V} {ds : List Dat} (h : PL K rf κ O H H' xs vs ds) : vs.length = xs.length := by
  induction h with
  | nil => rfl
  | cons _ _ ih => exact congrArg (· + 1) ih
theorem F2.len {α β : Type} {P : α → β → Prop} {as : List α} {bs : List β} (h : F2 P as bs) : as.length = bs.length := by
  induction h with
  | nil => rfl
  | cons _ _ ih => exact congrArg (· + 1) ih
theorem line_of {n : Nat} (h : n ≤ 1000) : n ≤ sizeLine := Nat.le_of_lt (small1000 h)
theorem se_tup {es : List Expr} {xs : List Ex} {k : Nat} {pos : Pos} (h : F2 (SE D X) es xs) (hs : es.all (fun e => !isStar e) = true) (hl : es.length ≤ 1000) : SE D X (.Tuple es k pos) (.tup xs) := by
  refine se_of (fun _ => rfl) fun κ ρ σ H O W Q r p => of_pe (pe_tup (pa_as hs)) ?_
  simp only [evE] at p
  refine as_run h r (p.bind.imp (fun ds _ q vs H1 s1 pl => ⟨line_of (by rw [pl.lenx, ← h.len]; exact hl), fun a ha => ?_⟩) fun z q => q)
  have s2 := same_new (o := .tup vs) ha
  refine q _ _ (s1.trans s2) ?_
  simp only [flE]
  by_cases hf : flL D.rf xs κ = true
  · rw [if_pos hf]
    exact .of2 (.tup (.of upd_same) ((pl.two hf).same s2)) (.inr (Nat.le_refl _))
  · rw [if_neg hf]
    exact .of0 (.tup (.of upd_same) (pl.any.same s2))
theorem se_lst {es : List Expr} {xs : List Ex} {pos : Pos} (h : F2 (SE D X) es xs) (hs : es.all (fun e => !isStar e) = true) (hl : es.length ≤ 1000) : SE D X (.List es pos) (.lst xs) := by
  refine se_of (fun _ => rfl) fun κ ρ σ H O W Q r p => of_pe (pe_lst (pa_as hs)) ?_
  simp only [evE] at p
  refine as_run h r (p.bind.imp (fun ds _ q vs H1 s1 pl => ⟨line_of (by rw [pl.lenx, ← h.len]; exact hl), fun a ha => ?_⟩) fun z q => q)
  have s2 := same_new (o := .lst vs) ha
  refine q _ _ (s1.trans s2) ?_
  simp only [flE]
  by_cases hf : flL D.rf xs κ = true
  · rw [if_pos hf]
    exact .new r.trk s1 ha (pl.two hf)
  · rw [if_neg hf]
    exact .of0 (.lst ⟨upd_same, id⟩ (pl.any.same s2))
theorem se_bin {a b : Expr} {x y : Ex} {op : Bop} {pos : Pos} (ha : SE D X a x) (hb : SE D X b y) : SE D X (.BinOp a (opOf op) b pos) (.bin op x y) := by
  refine se_of (fun _ => rfl) fun κ ρ σ H O W Q r p => of_pe (pe_op op_w pe_w pe_w) ?_
  simp only [evE] at p
  refine ha.run κ ρ σ H O W _ r (p.bind.imp (fun d1 _ q v1 H1 s1 p1 => ?_) fun z q => q)
  refine hb.run κ ρ σ H1 O W _ (r.same s1) (q.bind.imp (fun d2 _ q v2 H2 s2 p2 => ?_) fun z q => q.step s1)
  refine bin_ok r.trk (s1.trans s2) (p1.same s2) (p2.base s1) rfl (q.imp (fun d _ q v H' s p => q v H' ((s1.trans s2).trans s) p) fun z q => q)
theorem se_cmp {a b : Expr} {x y : Ex} {op : Cop} {pos : Pos} (hu : X.A.units + 65 < cLine) (ha : SE D X a x) (hb : SE D X b y) (hm : behindInMarks (copOf op) b = false) : SE D X (.Compare a [copOf op] [b] pos) (.cmp op x y) := by
  have main : ∀ (κ : Kd) (ρ : Env) (σ : L2.St) (H : Hp) (O : Addr → Prop) (W : WX) (Q : VK), Rel X.K κ ρ σ H O →
      Post (evE D.cf D.gl (.cmp op x y) ρ) (fun d => ∀ v H', Same H H' → Pst X.K 3 O H H' v d → Q v H') (exB D X W σ H) → tOp (wO X (compareOp (copOf op))) (wE X a) (wE X b) σ H Q := by
    intro κ ρ σ H O W Q r p
    simp only [evE] at p
    refine ha.run κ ρ σ H O W _ r (p.bind.imp (fun d1 _ q v1 H1 s1 p1 => ?_) fun z q => q)
    refine hb.run κ ρ σ H1 O W _ (r.same s1) (q.bind.imp (fun d2 _ q v2 H2 s2 p2 => ?_) fun z q => q.step s1)
    exact cmp_ok (O := O) (H := H) (fl := 3) hu (p1.any.same s2) p2.any (q.imp (fun d _ q v H' s p => q v H' ((s1.trans s2).trans s) p) fun z q => q)
  refine ⟨fun κ ρ σ H O W Q r p => of_pe (pe_cmpR op_w pe_w pe_w hm) (main κ ρ σ H O W Q r (by simpa only [flE] using p)), fun κ ρ σ H O W Q r p => of_pt (pt_cmpR op_w pe_w pe_w hm) ?_⟩
  refine main κ ρ σ H O W _ r (p.bind.imp (fun d _ q v H' s q' => ?_) fun z q => q)
  cases d with
  | bl b => exact ⟨b, den_bl q'.any, q H' s⟩
  | _ => exact False.elim q
theorem den_non {K : PySem.W.Frag} {O : Addr → Prop} {H : Hp} {v : V} {d : Dat} (h : Den K O H v d) : isNonD d = decide (v = .non) := by
  cases h <;> rfl
theorem se_isn {a : Expr} {x : Ex} {neg : Bool} {j : Nat} {pos pos' : Pos} (ha : SE D X a x) : SE D X (.Compare a [if neg then .IsNot else .Is] [.Constant .none j pos'] pos) (.isn neg x) := by
  have hb : behindInMarks (if neg then .IsNot else .Is) (.Constant .none j pos') = false := by cases neg <;> rfl
  have main : ∀ (κ : Kd) (ρ : Env) (σ : L2.St) (H : Hp) (O : Addr → Prop) (W : WX) (Q : VK), Rel X.K κ ρ σ H O →
      Post (evE D.cf D.gl (.isn neg x) ρ) (fun d => ∀ v H', Same H H' → Pst X.K 3 O H H' v d → Q v H') (exB D X W σ H) → tOp (wO X (compareOp (if neg then .IsNot else .Is))) (wE X a) (tC .non) σ H Q := by
    intro κ ρ σ H O W Q r p
    simp only [evE] at p
    refine ha.run κ ρ σ H O W _ r (p.bind.imp (fun d1 _ q v1 H1 s1 p1 => ?_) fun z q => q)
    show wO X _ v1 .non H1 Q
    have q' := q _ H1 s1 (.scal rfl)
    rw [den_non p1.any] at q'
    cases neg with
    | true => exact of_op op_notN ⟨rfl, q'⟩
    | false => exact of_op op_isN ⟨rfl, q'⟩
  refine ⟨fun κ ρ σ H O W Q r p => of_pe (pe_cmpR op_w pe_w pe_non hb) (main κ ρ σ H O W Q r (by simpa only [flE] using p)), fun κ ρ σ H O W Q r p => of_pt (pt_cmpR op_w pe_w pe_non hb) ?_⟩
  refine main κ ρ σ H O W _ r (p.bind.imp (fun d _ q v H' s q' => ?_) fun z q => q)
  cases d with
  | bl b => exact ⟨b, den_bl q'.any, q H' s⟩
  | _ => exact False.elim q
theorem se_neg {a : Expr} {x : Ex} {pos : Pos} (ha : SE D X a x) : SE D X (.UnaryOp .USub a pos) (.neg x) := by
  refine se_of (fun _ => rfl) fun κ ρ σ H O W Q r p => of_pe (pe_un un_neg pe_w) ?_
  simp only [evE] at p
  refine ha.run κ ρ σ H O W _ r (p.bind.imp (fun d1 _ q v1 H1 s1 p1 => ?_) fun z q => q)
  cases d1 with
  | int i => exact ⟨i, den_int p1.any, q _ _ s1 (.scal rfl)⟩
  | _ => exact False.elim q
/-- by a test alone: a value that is the test's truth -/
theorem tru_b {r : Rs Dat} {A : Bool → Prop} {B : Dat → Prop} {b : Bool} (h : Post ((Rs.ok (.bl b) : Rs Dat).bind truth) A B) : A b := h
theorem se_not {a : Expr} {x : Ex} {pos : Pos} (ha : SE D X a x) : SE D X (.UnaryOp .Not a pos) (.not x) := by
  refine ⟨fun κ ρ σ H O W Q r p => of_pe (pe_not pe_w) ?_, fun κ ρ σ H O W Q r p => of_pt (pt_not pt_w) ?_⟩
  · simp only [evE] at p
    refine ha.run κ ρ σ H O W _ r (p.bind.imp (fun d1 _ q v1 H1 s1 p1 => ?_) fun z q => q)
    cases d1 with
    | bl b => exact ⟨b, den_bl p1.any, q _ _ s1 (.scal rfl)⟩
    | _ => exact False.elim q
  · simp only [evE] at p
    refine ha.tst κ ρ σ H O W _ r ?_
    have e : ((evE D.cf D.gl x ρ).bind fun d => (truth d).bind fun k => (Rs.ok (.bl (!k)) : Rs Dat)).bind truth = ((evE D.cf D.gl x ρ).bind truth).bind fun k => .ok (!k) := by
      cases evE D.cf D.gl x ρ with
      | ok d => cases d <;> rfl
      | ex z => rfl
      | no => rfl
    rw [e] at p
    exact p.bind.imp (fun b _ q H' s => q H' s) fun z q => q
end
end PV

/-! PV, part E: and, or, if, subscripts, calls -/
namespace PV
open PySem PySem.Spec PyProof.Rows L2
section
variable {D : Wd} {X : Cx} {c : Ctx} {raw sc : Scope} {k : Nat}

theorem wT.w {op : BoolOp} {es : List Expr} {pos : Pos} {σ : L2.St} {H : Hp} {Q : Bool → Hp → Prop} (h : wT X (.BoolOp op es pos) σ H Q) : wW X (.BoolOp op es pos) σ H Q := fun _ pins s I => h pins s I
theorem se_bool1 {op : BoolOp} {a : Expr} {x : Ex} {pos : Pos} (ha : SE D X a x) : SE D X (.BoolOp op [a] pos) x := by
  refine ⟨fun κ ρ σ H O W Q r p => of_pe (pe_one pe_w) (ha.run κ ρ σ H O W Q r p), fun κ ρ σ H O W Q r p => ?_⟩
  have q := ha.tst κ ρ σ H O W Q r p
  cases op with
  | And => exact (of_pw (pw_and1 pt_w) q).t
  | Or => exact (of_pw (pw_or1 pt_w) q).t
theorem se_and {a b : Expr} {rest : List Expr} {x y : Ex} {pos : Pos} (ha : SE D X a x) (hb : SE D X (.BoolOp .And (b :: rest) pos) y) : SE D X (.BoolOp .And (a :: b :: rest) pos) (.and x y) := by
  refine ⟨fun κ ρ σ H O W Q r p => of_pe (pe_and pe_w pe_w) ?_, fun κ ρ σ H O W Q r p => (of_pw (pw_and pt_w pw_w) ?_).t⟩
  · simp only [evE] at p
    refine ha.run κ ρ σ H O W _ r (p.bind.imp (fun d1 _ q v1 H1 s1 p1 => ?_) fun z q => q)
    cases d1 with
    | bl b =>
      refine ⟨b, den_bl p1.any, ?_⟩
      cases b with
      | true =>
        rw [if_pos rfl]
        have q : Post ((evE D.cf D.gl y ρ).bind fun y => (truth y).bind fun k => (.ok (.bl k) : Rs Dat)) (fun d => ∀ v H', Same H H' → Pst X.K 3 O H H' v d → Q v H') (exB D X W σ H) := by simpa [truth, flE] using q
        refine hb.run κ ρ σ H1 O W _ (r.same s1) (q.bind.imp (fun d2 _ q v2 H2 s2 p2 => ?_) fun z q => q.step s1)
        cases d2 with
        | bl b =>
          cases p2.any
          exact q _ _ (s1.trans s2) (.scal rfl)
        | _ => exact False.elim q
      | false =>
        rw [if_neg Bool.false_ne_true]
        exact q _ _ s1 (.scal rfl)
    | _ => exact False.elim q
  · simp only [evE] at p
    have e : (((evE D.cf D.gl x ρ).bind fun x => (truth x).bind fun k => if k = true then (evE D.cf D.gl y ρ).bind fun y => (truth y).bind fun k => (.ok (.bl k) : Rs Dat) else .ok (.bl false)).bind truth) =
        ((evE D.cf D.gl x ρ).bind truth).bind fun k => if k = true then (evE D.cf D.gl y ρ).bind truth else .ok false := by
      cases evE D.cf D.gl x ρ with
      | ok d =>
        cases d with
        | bl b =>
          cases b with
          | true =>
            show (((evE D.cf D.gl y ρ).bind fun y => (truth y).bind fun k => (.ok (.bl k) : Rs Dat)).bind truth) = (evE D.cf D.gl y ρ).bind truth
            cases evE D.cf D.gl y ρ with
            | ok d => cases d <;> rfl
            | ex z => rfl
            | no => rfl
          | false => rfl
        | _ => rfl
      | ex z => rfl
      | no => rfl
    rw [e] at p
    refine ha.tst κ ρ σ H O W _ r (p.bind.imp (fun b _ q H1 s1 => ?_) fun z q => q)
    cases b with
    | true =>
      rw [if_pos rfl] at q ⊢
      exact (hb.tst κ ρ σ H1 O W _ (r.same s1) (q.imp (fun b _ q H2 s2 => q H2 (s1.trans s2)) fun z q => q.step s1)).w
    | false =>
      rw [if_neg Bool.false_ne_true] at q ⊢
      exact q H1 s1
theorem se_or {a b : Expr} {rest : List Expr} {x y : Ex} {pos : Pos} (ha : SE D X a x) (hb : SE D X (.BoolOp .Or (b :: rest) pos) y) : SE D X (.BoolOp .Or (a :: b :: rest) pos) (.or x y) := by
  refine ⟨fun κ ρ σ H O W Q r p => of_pe (pe_or pe_w pe_w) ?_, fun κ ρ σ H O W Q r p => (of_pw (pw_or pt_w pw_w) ?_).t⟩
  · simp only [evE] at p
    refine ha.run κ ρ σ H O W _ r (p.bind.imp (fun d1 _ q v1 H1 s1 p1 => ?_) fun z q => q)
    cases d1 with
    | bl b =>
      refine ⟨b, den_bl p1.any, ?_⟩
      cases b with
      | false =>
        rw [if_neg Bool.false_ne_true]
        have q : Post ((evE D.cf D.gl y ρ).bind fun y => (truth y).bind fun k => (.ok (.bl k) : Rs Dat)) (fun d => ∀ v H', Same H H' → Pst X.K 3 O H H' v d → Q v H') (exB D X W σ H) := by simpa [truth, flE] using q
        refine hb.run κ ρ σ H1 O W _ (r.same s1) (q.bind.imp (fun d2 _ q v2 H2 s2 p2 => ?_) fun z q => q.step s1)
        cases d2 with
        | bl b =>
          cases p2.any
          exact q _ _ (s1.trans s2) (.scal rfl)
        | _ => exact False.elim q
      | true =>
        rw [if_pos rfl]
        exact q _ _ s1 (.scal rfl)
    | _ => exact False.elim q
  · simp only [evE] at p
    have e : (((evE D.cf D.gl x ρ).bind fun x => (truth x).bind fun k => if k = true then .ok (.bl true) else (evE D.cf D.gl y ρ).bind fun y => (truth y).bind fun k => (.ok (.bl k) : Rs Dat)).bind truth) =
        ((evE D.cf D.gl x ρ).bind truth).bind fun k => if k = true then .ok true else (evE D.cf D.gl y ρ).bind truth := by
      cases evE D.cf D.gl x ρ with
      | ok d =>
        cases d with
        | bl b =>
          cases b with
          | false =>
            show (((evE D.cf D.gl y ρ).bind fun y => (truth y).bind fun k => (.ok (.bl k) : Rs Dat)).bind truth) = (evE D.cf D.gl y ρ).bind truth
            cases evE D.cf D.gl y ρ with
            | ok d => cases d <;> rfl
            | ex z => rfl
            | no => rfl
          | true => rfl
        | _ => rfl
      | ex z => rfl
      | no => rfl
    rw [e] at p
    refine ha.tst κ ρ σ H O W _ r (p.bind.imp (fun b _ q H1 s1 => ?_) fun z q => q)
    cases b with
    | false =>
      rw [if_neg Bool.false_ne_true] at q ⊢
      exact (hb.tst κ ρ σ H1 O W _ (r.same s1) (q.imp (fun b _ q H2 s2 => q H2 (s1.trans s2)) fun z q => q.step s1)).w
    | true =>
      rw [if_pos rfl] at q ⊢
      exact q H1 s1
theorem bind_assoc {α β γ : Type} (r : Rs α) (f : α → Rs β) (g : β → Rs γ) : (r.bind f).bind g = r.bind fun a => (f a).bind g := by cases r <;> rfl
theorem se_ife {c a b : Expr} {z x y : Ex} {pos : Pos} (hc : SE D X c z) (ha : SE D X a x) (hb : SE D X b y) : SE D X (.IfExp c a b pos) (.ife z x y) := by
  refine ⟨fun κ ρ σ H O W Q r p => of_pe (pe_ifExp pt_w pe_w pe_w) ?_, fun κ ρ σ H O W Q r p pins s I => ?_⟩
  · simp only [evE] at p
    rw [← bind_assoc] at p
    refine hc.tst κ ρ σ H O W _ r (p.bind.imp (fun k _ q H1 s1 => ?_) fun z q => q)
    cases k with
    | true =>
      rw [if_pos rfl] at q ⊢
      refine ha.run κ ρ σ H1 O W _ (r.same s1) (q.imp (fun d _ q v H2 s2 p2 => q v H2 (s1.trans s2) ((p2.base s1).low ?_)) fun z q => q.step s1)
      simp only [flE]
      exact Nat.min_le_left _ _
    | false =>
      rw [if_neg Bool.false_ne_true] at q ⊢
      refine hb.run κ ρ σ H1 O W _ (r.same s1) (q.imp (fun d _ q v H2 s2 p2 => q v H2 (s1.trans s2) ((p2.base s1).low ?_)) fun z q => q.step s1)
      simp only [flE]
      exact Nat.min_le_right _ _
  · simp only [evE] at p
    rw [← bind_assoc, bind_assoc] at p
    have main : wT X c σ H fun k H1 => if k = true then wT X a σ H1 Q else wT X b σ H1 Q := by
      refine hc.tst κ ρ σ H O W _ r (p.bind.imp (fun k _ q H1 s1 => ?_) fun z q => q)
      cases k with
      | true =>
        rw [if_pos rfl] at q ⊢
        exact ha.tst κ ρ σ H1 O W _ (r.same s1) (q.imp (fun b _ q H2 s2 => q H2 (s1.trans s2)) fun z q => q.step s1)
      | false =>
        rw [if_neg Bool.false_ne_true] at q ⊢
        exact hb.tst κ ρ σ H1 O W _ (r.same s1) (q.imp (fun b _ q H2 s2 => q H2 (s1.trans s2)) fun z q => q.step s1)
    refine isTrue_IfExp (thn (main pins s I) fun k s1 ⟨H1, I1, q⟩ => ?_)
    cases k with
    | true => exact q pins s1 I1
    | false => exact q pins s1 I1

/-! subscripts -/
theorem atI_den {K : PySem.W.Frag} {O : Addr → Prop} {H : Hp} {vs : List V} {ds : List Dat} {i : Int} {d : Dat} (h : DenL K O H vs ds) (e : atI ds i = some d) : ∃ v, atI vs i = some v ∧ Den K O H v d := by
  unfold atI at e ⊢
  rw [h.len]
  cases hi : ixN ds.length i with
  | none => rw [hi] at e; cases e
  | some j =>
    rw [hi] at e
    exact h.get (show ds[j]? = some d from e)
theorem idx_ok {H H2 : Hp} {O : Addr → Prop} {Q : VK} {B : Dat → Prop} {x y : V} {a b : Dat} {fx fl : Nat} (px : Pst X.K fx O H H2 x a) (py : Den X.K O0 H2 y b) (hf : fl = if 1 ≤ fx then 2 else 0)
    (h : Post (idxD a b) (fun d => ∀ v H', Same H2 H' → Pst X.K fl O H H' v d → Q v H') B) : rIx X.K x y H2 Q := by
  have main : ∀ (vs : List V) (ds : List Dat) (i : Int) (O' : Addr → Prop) (d : Dat), DenL X.K O' H2 vs ds → atI ds i = some d → (1 ≤ fx → ∀ a, O a → O' a) → ∃ v, atI vs i = some v ∧ Pst X.K fl O H H2 v d := by
    intro vs ds i O' d hd e hO
    obtain ⟨v, e1, e2⟩ := atI_den hd e
    refine ⟨v, e1, ?_⟩
    by_cases hg : 1 ≤ fx
    · rw [hf, if_pos hg]
      exact .of2 (e2.mono (Same.refl _) (hO hg)) (.inr (Nat.le_refl _))
    · rw [hf, if_neg hg]
      exact .of0 e2.zero
  unfold idxD at h
  split at h
  · rename_i xs i
    cases py
    split at h
    · rename_i d e
      obtain ⟨a, vs, rfl, l, dl⟩ := den_rol px.any
      by_cases hg : 1 ≤ fx
      · obtain ⟨_, vs', e2, l', dl'⟩ := den_rol (px.one hg)
        cases e2
        obtain ⟨v, e1, p⟩ := main vs' xs i O d dl' e fun _ _ z => z
        exact .inl ⟨a, vs', i, v, rfl, rfl, l'.sq, e1, h _ _ (Same.refl _) p⟩
      · obtain ⟨v, e1, p⟩ := main vs xs i O0 d dl e fun z => absurd z hg
        exact .inl ⟨a, vs, i, v, rfl, rfl, l.sq, e1, h _ _ (Same.refl _) p⟩
    · exact False.elim h
  · rename_i xs i
    cases py
    split at h
    · rename_i d e
      by_cases hg : 1 ≤ fx
      · obtain ⟨a, vs', rfl, l', dl'⟩ := px.one hg
        obtain ⟨v, e1, p⟩ := main vs' xs i O d dl' e fun _ _ z => z
        exact .inl ⟨a, vs', i, v, rfl, rfl, .of l', e1, h _ _ (Same.refl _) p⟩
      · obtain ⟨a, vs, rfl, l, dl⟩ := den_lst px.any
        obtain ⟨v, e1, p⟩ := main vs xs i O0 d dl e fun z => absurd z hg
        exact .inl ⟨a, vs, i, v, rfl, rfl, l.sq, e1, h _ _ (Same.refl _) p⟩
    · exact False.elim h
  · rename_i xs i
    cases py
    split at h
    · rename_i d e
      by_cases hg : 1 ≤ fx
      · obtain ⟨a, vs', rfl, l', dl'⟩ := den_tup (px.one hg)
        obtain ⟨v, e1, p⟩ := main vs' xs i O d dl' e fun _ _ z => z
        exact .inr (.inl ⟨a, vs', i, v, rfl, rfl, l', e1, h _ _ (Same.refl _) p⟩)
      · obtain ⟨a, vs, rfl, l, dl⟩ := den_tup px.any
        obtain ⟨v, e1, p⟩ := main vs xs i O0 d dl e fun z => absurd z hg
        exact .inr (.inl ⟨a, vs, i, v, rfl, rfl, l, e1, h _ _ (Same.refl _) p⟩)
    · exact False.elim h
  · rename_i z i
    cases py
    cases px.any
    split at h
    · rename_i hz
      split at h
      · rename_i ch e
        exact .inr (.inr ⟨z, i, ch, rfl, rfl, of_decide_eq_true hz, e, h _ _ (Same.refl _) (.scal rfl)⟩)
      · exact False.elim h
    · exact False.elim h
  · exact False.elim h
def isSlice : Expr → Bool
  | .Slice _ _ _ _ => true
  | _ => false
theorem plainIx {b : Expr} (h : isSlice b = false) : PlainIx b := by
  cases b <;> first | exact Bool.noConfusion h | exact fun _ _ => rfl
theorem se_idx {a b : Expr} {x y : Ex} {pos : Pos} (ha : SE D X a x) (hb : SE D X b y) (hs : isSlice b = false) : SE D X (.Subscript a b pos) (.idx x y) := by
  refine se_of (fun _ => rfl) fun κ ρ σ H O W Q r p => of_pe (pe_ix ix_seq pe_w pe_w (plainIx hs)) ?_
  simp only [evE] at p
  refine ha.run κ ρ σ H O W _ r (p.bind.imp (fun d1 _ q v1 H1 s1 p1 => ?_) fun z q => q)
  refine hb.run κ ρ σ H1 O W _ (r.same s1) (q.bind.imp (fun d2 _ q v2 H2 s2 p2 => ?_) fun z q => q.step s1)
  refine idx_ok (p1.same s2) p2.any (by simp only [flE]) (q.imp (fun d _ q v H' s p => q v H' ((s1.trans s2).trans s) p) fun z q => q)
/-! slices -/
inductive SO (D : Wd) (X : Cx) : Option Expr → List Ex → Prop
  | none : SO D X none []
  | some {e : Expr} {x : Ex} : SE D X e x → SO D X (some e) [x]
def tO (X : Cx) : Option Expr → TO
  | none => tNoPart
  | some e => tPart (wE X e)
theorem po_w : ∀ {o : Option Expr}, PO X o (tO X o)
  | none => po_none
  | some _ => po_some pe_w
theorem so_run {o : Option Expr} {xs : List Ex} (h : SO D X o xs) {κ : Kd} {ρ : Env} {σ : L2.St} {H : Hp} {O : Addr → Prop} {W : WX} {Q : Option Int → Hp → Prop} (r : Rel X.K κ ρ σ H O)
    (p : Post ((evL D.cf D.gl xs ρ).bind partD) (fun o => ∀ H', Same H H' → Q o H') (exB D X W σ H)) : tO X o σ H Q := by
  cases h with
  | none => exact p H (Same.refl H)
  | @some e x h =>
    simp only [evL] at p
    rw [bind_assoc] at p
    refine h.run κ ρ σ H O W _ r (p.bind.imp (fun d _ q v H1 s1 p1 => ?_) fun z q => q)
    cases d with
    | int i => exact ⟨i, den_int p1.any, q H1 s1⟩
    | _ => exact False.elim q
theorem cutV_den {K : PySem.W.Frag} {O : Addr → Prop} {H : Hp} {vs : List V} {ds : List Dat} (lo hi : Option Int) (h : DenL K O H vs ds) : DenL K O H (cutV vs lo hi) (cutD ds lo hi) := by
  unfold cutV cutD
  rw [h.len]
  exact (h.drop _).take _
def rSlc (K : PySem.W.Frag) : V → Option Int → Option Int → Hp → VK → Prop := fun x lo hi H Q => (rSlL K x lo hi H Q ∨ rSlA K x lo hi H Q) ∨ rSlS x lo hi H Q
theorem sl_all : SlR X (rSlc X.K) := SlR.or (SlR.or sl_list sl_tupA) sl_str
theorem slc_ok {H H2 : Hp} {O : Addr → Prop} {Q : VK} {B : Dat → Prop} {x : V} {a : Dat} {lo hi : Option Int} {fx fl : Nat} (ht : ∀ a, O a → ∃ o, H a = some o) (sH : Same H H2) (px : Pst X.K fx O H H2 x a) (hf : fl = if 1 ≤ fx then 3 else 0)
    (h : Post (slcD a lo hi) (fun d => ∀ v H', Same H2 H' → Pst X.K fl O H H' v d → Q v H') B) : rSlc X.K x lo hi H2 Q := by
  unfold slcD at h
  split at h
  · by_cases hg : 1 ≤ fx
    · obtain ⟨a, vs, rfl, l, dl⟩ := px.one hg
      exact .inl (.inl ⟨a, vs, rfl, .of l, fun p hp => h _ _ (same_new hp) (.new ht sH hp (cutV_den _ _ dl))⟩)
    · obtain ⟨a, vs, rfl, l, dl⟩ := den_lst px.any
      refine .inl (.inl ⟨a, vs, rfl, l.sq, fun p hp => h _ _ (same_new hp) ?_⟩)
      rw [hf, if_neg hg]
      exact .of0 (.lst ⟨upd_same, id⟩ ((cutV_den _ _ dl).same (same_new hp)))
  · by_cases hg : 1 ≤ fx
    · obtain ⟨a, vs, rfl, l, dl⟩ := den_rol (px.one hg)
      exact .inl (.inl ⟨a, vs, rfl, l.sq, fun p hp => h _ _ (same_new hp) (.new ht sH hp (cutV_den _ _ dl))⟩)
    · obtain ⟨a, vs, rfl, l, dl⟩ := den_rol px.any
      refine .inl (.inl ⟨a, vs, rfl, l.sq, fun p hp => h _ _ (same_new hp) ?_⟩)
      rw [hf, if_neg hg]
      exact .of0 (.lst ⟨upd_same, id⟩ ((cutV_den _ _ dl).same (same_new hp)))
  · rename_i xs
    have main : ∀ (O' : Addr → Prop), Den X.K O' H2 x (.tup xs) → (∀ v H', Same H2 H' → Den X.K O' H' v (.tup (cutD xs lo hi)) → Q v H') → rSlc X.K x lo hi H2 Q := by
      intro O' q1 k
      obtain ⟨a, vs, rfl, l, dl⟩ := den_tup q1
      refine .inl (.inr ⟨a, vs, rfl, l, fun e => ?_, fun _ p hp => k _ _ (same_new hp) (.tup (.of upd_same) ((cutV_den _ _ dl).same (same_new hp)))⟩)
      have e' : cutD xs lo hi = xs := by
        unfold cutD
        rw [← dl.len, e.1, e.2, List.drop_zero, Nat.sub_zero, dl.len, List.take_length]
      rw [e'] at k
      exact k _ _ (Same.refl _) q1
    by_cases hg : 1 ≤ fx
    · exact main O (px.one hg) fun v H' s q => h v H' s (.of2 q (.inl rfl))
    · rw [if_neg hg] at hf
      exact main O0 px.any fun v H' s q => h v H' s (by rw [hf]; exact .of0 q)
  · exact False.elim h
theorem se_slc {a : Expr} {lo hi : Option Expr} {x : Ex} {ls hs : List Ex} {pos p2 : Pos} (ha : SE D X a x) (hl : SO D X lo ls) (hh : SO D X hi hs) : SE D X (.Subscript a (.Slice lo hi none p2) pos) (.slc x ls hs) := by
  refine se_of (fun _ => rfl) fun κ ρ σ H O W Q r p => of_pe (pe_slice sl_all pe_w po_w po_w) ?_
  simp only [evE] at p
  refine ha.run κ ρ σ H O W _ r (p.bind.imp (fun d1 _ q v1 H1 s1 p1 => ?_) fun z q => q)
  rw [← bind_assoc] at q
  refine so_run hl (r.same s1) (q.bind.imp (fun l _ q H2 s2 => ?_) fun z q => q.step s1)
  rw [← bind_assoc] at q
  refine so_run hh (r.same (s1.trans s2)) (q.bind.imp (fun u _ q H3 s3 => ?_) fun z q => q.step (s1.trans s2))
  exact slc_ok r.trk ((s1.trans s2).trans s3) (p1.same (s2.trans s3)) (by simp only [flE]) (q.imp (fun d _ q v H' s p => q v H' (((s1.trans s2).trans s3).trans s) p) fun z q => q)

/-! calls of the program's functions -/
theorem passE0 {σ : L2.St} : PassesAt (L2.CX X.prog X.w) X σ E0 := fun _ _ _ _ _ _ h => by
  obtain ⟨_, _, _, _, _, _, _, _, _, _, _, _, z⟩ := h
  exact z.elim
theorem den_pure_root {K : PySem.W.Frag} {O : Addr → Prop} {H H' : Hp} {v : V} {d : Dat} (h : Pst K 3 O0 H H' v d) (p : rfOk .ownp d = true) (ht : ∀ a, O a → ∃ o, H a = some o) : Pst K 3 O H H' v d := by
  cases d with
  | lst ds =>
    obtain ⟨a, rfl, ha, vs, h1, h2⟩ := h.three (Nat.le_refl _) rfl
    have p' : pureL ds = true := p
    have h3 : DenL K (PV.plus O a) H' vs ds := DenL.pure ds vs p' h2
    have h4 : DenL K O H' vs ds := DenL.pure ds vs p' h2
    refine ⟨h.any, fun _ => ⟨a, vs, rfl, h1, h4⟩, fun _ => .lst ⟨h1, fun z => ?_⟩ h4, fun _ _ => ⟨a, rfl, ha, vs, h1, h3⟩⟩
    obtain ⟨o, q⟩ := ht a z
    rw [ha] at q
    cases q
  | _ => first
    | exact .of2 (Den.pure _ _ p h.any) (.inl rfl)
    | exact Bool.noConfusion p
theorem se_cal {f ar : Nat} {y : Str} {e : Expr} {es : List Expr} {xs : List Ex} {p pos : Pos} {fa : Addr} {fd : FuncData} {ps : List Str} (hcf : ∀ f ds d, D.cf f ds = .ok d → rfOk (D.rf f) d = true)
    (hm : X.mg y = some (.ref fa)) (hk : PySem.W.keepIn X.K (.ref fa) = true) (hb : Binds X.K fd ps []) (F : FnOk X.prog X.w X.K X.mg X.base (L2.CX X.prog X.w) k fa fd ps (spF D X.K f ar)) (hr : Room k X.A) (hg : Gl X y) (hdb : (y == ("__debug__" : Str)) = false)
    (hs : (e :: es).all (fun e => !isStar e) = true) (h : F2 (SE D X) (e :: es) xs) (har : xs.length = ar) : SE D X (.Call (.Name y p) (e :: es) [] pos) (.cal f xs) := by
  refine se_of (fun _ => rfl) fun κ ρ σ H O W Q r pp => ?_
  have hs' := hs
  rw [List.all_cons, Bool.and_eq_true, Bool.not_eq_true'] at hs'
  have star : starEach (e :: es) X.env = (false, eval e X.env) :: starEach es X.env := starEach_cons hs'.1
  have many : (backTo pos (starEach es X.env)).any (·.1) = false := starEach_any hs'.2
  simp only [evE] at pp
  have main : ∀ E : L2.St → XK, (∀ σ, PassesAt (L2.CX X.prog X.w) X σ (E σ)) → (∀ ds, evL D.cf D.gl xs ρ = .ok ds → ∀ H1 z, D.cf f ds = .ex z → Same H H1 → exB D X W σ H z → ∀ cls dd H', Same H1 H' → XD D.cadr cls dd H' z → E σ cls dd H') → wE X (.Call (.Name y p) (e :: es) [] pos) σ H Q := by
    intro E hE hex
    refine of_pe (pe_callS F hr hg hm hk hb hE (pa_as hs) hdb star many) ?_
    refine as_run h r (pp.bind.imp (fun ds eds q vs H1 s1 pl => ?_) fun z q => q)
    by_cases hf : flL D.rf xs κ = true
    · refine ⟨O, ds, pl.two hf, fun a z => ?_, by rw [pl.lenx, har], ?_⟩
      · obtain ⟨o, q⟩ := r.trk a z
        exact ⟨o, s1 _ _ q⟩
      · cases hc : D.cf f ds with
        | ok d =>
          rw [hc] at q
          refine fun v H' s p => q v H' (s1.trans s) ((p.base s1).low ?_)
          simp only [flE, hf]
          exact Nat.le_refl _
        | ex z =>
          rw [hc] at q
          exact fun cls dd H' s x => hex ds eds H1 z hc s1 q cls dd H' s x
        | no => rw [hc] at q; exact q
    · refine ⟨O0, ds, pl.any, fun a z => z.elim, by rw [pl.lenx, har], ?_⟩
      cases hc : D.cf f ds with
      | ok d =>
        rw [hc] at q
        refine fun v H' s p => q v H' (s1.trans s) ?_
        have ok := hcf f ds d hc
        simp only [flE, Bool.eq_false_iff.mpr hf]
        cases hrf : D.rf f with
        | own => exact .of0 p.any
        | shr => exact .of0 p.any
        | io => exact .of0 p.any
        | pur =>
          rw [hrf] at ok
          have ok : pureD d = true := ok
          refine .of2 (Den.pure _ _ ok p.any) (.inl ?_)
          cases d <;> first | rfl | exact Bool.noConfusion ok
        | ownp =>
          rw [hrf] at ok p
          exact den_pure_root (p.base s1) ok r.trk
      | ex z =>
        rw [hc] at q
        exact fun cls dd H' s x => hex ds eds H1 z hc s1 q cls dd H' s x
      | no => rw [hc] at q; exact q
  by_cases hz : ∃ ds z, evL D.cf D.gl xs ρ = .ok ds ∧ D.cf f ds = .ex z
  · obtain ⟨ds, z, h1, h2⟩ := hz
    have q := pp
    rw [h1] at q
    have q : Post (D.cf f ds) _ _ := q
    rw [h2] at q
    exact main (WE W) (fun σ => passAt q.1 σ) fun ds' _ H1 z' _ s1 q' cls dd H' s x => q'.2 cls dd H' (s1.trans s) x
  · exact main (fun _ => E0) (fun σ => passE0) fun ds' e1 H1 z' e2 _ _ _ _ _ _ _ => (hz ⟨ds', z', e1, e2⟩).elim
/-! ### calls that leave defaults out -/
theorem evL_ints {cf : Nat → List Dat → Rs Dat} {gl : Nat → Dat} {ρ : Env} {ns : List Int} : ∀ xs : List Ex, evL cf gl (xs ++ ns.map fun i => Ex.cst (.int i)) ρ = (evL cf gl xs ρ).bind fun ds => .ok (ds ++ ns.map .int)
  | [] => by
    induction ns with
    | nil => simp [evL]
    | cons i ns ih =>
      simp only [List.nil_append] at ih
      simp [evL, evE, ih]
  | x :: xs => by
    simp only [List.cons_append, evL, evL_ints xs]
    cases evE cf gl x ρ with
    | ok d =>
      simp only [Rs.ok_bind]
      cases evL cf gl xs ρ <;> rfl
    | ex z => rfl
    | no => rfl
theorem flL_ints {rf : Nat → Rf} {κ : Kd} {ns : List Int} : ∀ xs : List Ex, flL rf (xs ++ ns.map fun i => Ex.cst (.int i)) κ = flL rf xs κ
  | [] => by
    induction ns with
    | nil => rfl
    | cons i ns ih =>
      simp only [List.nil_append] at ih
      simp [flL, flE, ih]
  | x :: xs => by
    simp only [List.cons_append, flL, flL_ints xs]
theorem denl_ints {K : PySem.W.Frag} {O : Addr → Prop} {H : Hp} : ∀ ns : List Int, DenL K O H (ns.map V.int) (ns.map Dat.int)
  | [] => .nil
  | n :: ns => .cons (.int n) (denl_ints ns)
theorem DenL.app {K : PySem.W.Frag} {O : Addr → Prop} {H : Hp} : ∀ {vs vs' : List V} {ds ds' : List Dat}, DenL K O H vs ds → DenL K O H vs' ds' → DenL K O H (vs ++ vs') (ds ++ ds')
  | [], _, _, _, .nil, h' => h'
  | _ :: _, _, _, _, .cons h1 h, h' => .cons h1 (h.app h')
theorem se_cald {f n : Nat} {ns : List Int} {us0 : List Value} {y : Str} {e : Expr} {es : List Expr} {xs : List Ex} {p pos : Pos} {fa : Addr} {fd : FuncData} {ps : List Str} (hcf : ∀ f ds d, D.cf f ds = .ok d → rfOk (D.rf f) d = true)
    (hm : X.mg y = some (.ref fa)) (hk : PySem.W.keepIn X.K (.ref fa) = true) (hb : Binds X.K fd ps us0) (hv : Vals (ns.map V.int) us0) (F : FnOk X.prog X.w X.K X.mg X.base (L2.CX X.prog X.w) k fa fd ps (spF D X.K f (n + ns.length))) (hr : Room k X.A) (hg : Gl X y) (hdb : (y == ("__debug__" : Str)) = false)
    (hs : (e :: es).all (fun e => !isStar e) = true) (h : F2 (SE D X) (e :: es) xs) (har : xs.length = n) : SE D X (.Call (.Name y p) (e :: es) [] pos) (.cal f (xs ++ ns.map fun i => .cst (.int i))) := by
  refine se_of (fun _ => rfl) fun κ ρ σ H O W Q r pp => ?_
  have hs' := hs
  rw [List.all_cons, Bool.and_eq_true, Bool.not_eq_true'] at hs'
  have star : starEach (e :: es) X.env = (false, eval e X.env) :: starEach es X.env := starEach_cons hs'.1
  have many : (backTo pos (starEach es X.env)).any (·.1) = false := starEach_any hs'.2
  simp only [evE] at pp
  rw [evL_ints] at pp
  have main : ∀ E : L2.St → XK, (∀ σ, PassesAt (L2.CX X.prog X.w) X σ (E σ)) → (∀ ds, evL D.cf D.gl xs ρ = .ok ds → ∀ H1 z, D.cf f (ds ++ ns.map .int) = .ex z → Same H H1 → exB D X W σ H z → ∀ cls dd H', Same H1 H' → XD D.cadr cls dd H' z → E σ cls dd H') → wE X (.Call (.Name y p) (e :: es) [] pos) σ H Q := by
    intro E hE hex
    refine of_pe (pe_callSD F hr hg hm hk hb hv hE (pa_as hs) hdb star many) ?_
    refine as_run h r (pp.bind.bind.imp (fun ds eds q vs H1 s1 pl => ?_) fun z q => q)
    have q : Post (D.cf f (ds ++ ns.map .int)) _ _ := q
    have ll : (vs ++ ns.map V.int).length = n + ns.length := by rw [List.length_append, List.length_map, pl.lenx, har]
    have fe : flL D.rf (xs ++ ns.map fun i => Ex.cst (.int i)) κ = flL D.rf xs κ := flL_ints ..
    by_cases hf : flL D.rf xs κ = true
    · refine ⟨O, ds ++ ns.map .int, (pl.two hf).app (denl_ints ns), fun a z => ?_, ll, ?_⟩
      · obtain ⟨o, q⟩ := r.trk a z
        exact ⟨o, s1 _ _ q⟩
      · cases hc : D.cf f (ds ++ ns.map .int) with
        | ok d =>
          rw [hc] at q
          refine fun v H' s p => q v H' (s1.trans s) ((p.base s1).low ?_)
          simp only [flE, fe, hf]
          exact Nat.le_refl _
        | ex z =>
          rw [hc] at q
          exact fun cls dd H' s x => hex ds eds H1 z hc s1 q cls dd H' s x
        | no => rw [hc] at q; exact q
    · refine ⟨O0, ds ++ ns.map .int, pl.any.app (denl_ints ns), fun a z => z.elim, ll, ?_⟩
      cases hc : D.cf f (ds ++ ns.map .int) with
      | ok d =>
        rw [hc] at q
        refine fun v H' s p => q v H' (s1.trans s) ?_
        have ok := hcf f (ds ++ ns.map .int) d hc
        simp only [flE, fe, Bool.eq_false_iff.mpr hf]
        cases hrf : D.rf f with
        | own => exact .of0 p.any
        | shr => exact .of0 p.any
        | io => exact .of0 p.any
        | pur =>
          rw [hrf] at ok
          have ok : pureD d = true := ok
          refine .of2 (Den.pure _ _ ok p.any) (.inl ?_)
          cases d <;> first | rfl | exact Bool.noConfusion ok
        | ownp =>
          rw [hrf] at ok p
          exact den_pure_root (p.base s1) ok r.trk
      | ex z =>
        rw [hc] at q
        exact fun cls dd H' s x => hex ds eds H1 z hc s1 q cls dd H' s x
      | no => rw [hc] at q; exact q
  by_cases hz : ∃ ds z, evL D.cf D.gl xs ρ = .ok ds ∧ D.cf f (ds ++ ns.map .int) = .ex z
  · obtain ⟨ds, z, h1, h2⟩ := hz
    have q := pp
    rw [h1] at q
    have q : Post (D.cf f (ds ++ ns.map .int)) _ _ := q
    rw [h2] at q
    exact main (WE W) (fun σ => passAt q.1 σ) fun ds' _ H1 z' _ s1 q' cls dd H' s x => q'.2 cls dd H' (s1.trans s) x
  · exact main (fun _ => E0) (fun σ => passE0) fun ds' e1 H1 z' e2 _ _ _ _ _ _ _ => (hz ⟨ds', z', e1, e2⟩).elim
end
end PV

/-! PV, part F: built-ins, isinstance -/
namespace PV
open PySem PySem.Spec PyProof.Rows L2
section
variable {D : Wd} {X : Cx}

def biV : Bi → Value
  | .len => .builtin "len"
  | .abs => .builtin "abs"
  | .tuple => .type "tuple"
  | .list => .type "list"
  | .int => .type "int"
  | .sum => .builtin "sum"
  | .min2 => .builtin "min"
  | .max2 => .builtin "max"
  | .divmod => .builtin "divmod"
  | .all => .builtin "all"
  | .any => .builtin "any"
  | .str => .type "str"
  | .minl => .builtin "min"
  | .maxl => .builtin "max"
  | .bool => .type "bool"
theorem ints_den {K : PySem.W.Frag} {O : Addr → Prop} {H : Hp} : ∀ {vs : List V} {ds : List Dat} {ns : List Int}, intsOf ds = some ns → DenL K O H vs ds → vs = ns.map V.int
  | _, [], _, e, h => by cases h; cases e; rfl
  | _, d :: ds, ns, e, h => by
    cases h with
    | cons h1 h2 =>
      cases d with
      | int i =>
        cases h1
        unfold intsOf at e
        obtain ⟨ms, e1, e2⟩ := Option.map_eq_some_iff.mp e
        rw [← e2, ints_den e1 h2]
        rfl
      | _ => cases e
theorem bools_den {K : PySem.W.Frag} {O : Addr → Prop} {H : Hp} : ∀ {vs : List V} {ds : List Dat} {ns : List Bool}, boolsOf ds = some ns → DenL K O H vs ds → vs = ns.map V.bl
  | _, [], _, e, h => by cases h; cases e; rfl
  | _, d :: ds, ns, e, h => by
    cases h with
    | cons h1 h2 =>
      cases d with
      | bl i =>
        cases h1
        unfold boolsOf at e
        obtain ⟨ms, e1, e2⟩ := Option.map_eq_some_iff.mp e
        rw [← e2, bools_den e1 h2]
        rfl
      | _ => cases e
/-- the grade of a built-in's answer -/
def biFl (rf : Nat → Rf) (κ : Kd) (xs : List Ex) : Bi → Nat
  | .list => if flL1 rf xs κ then 3 else 0
  | .tuple => if flL1 rf xs κ then 2 else 0
  | _ => 3
theorem fl_bi {rf : Nat → Rf} {κ : Kd} {xs : List Ex} {b : Bi} : flE rf (.bi b xs) κ = biFl rf κ xs b := by
  cases b <;> simp [flE, biFl]
theorem PL.one {K : PySem.W.Frag} {rf : Nat → Rf} {κ : Kd} {O : Addr → Prop} {H H' : Hp} {xs : List Ex} {vs : List V} {d : Dat} (h : PL K rf κ O H H' xs vs [d]) : ∃ x v, xs = [x] ∧ vs = [v] ∧ Pst K (flE rf x κ) O H H' v d := by
  cases h with
  | cons p q =>
    cases q
    exact ⟨_, _, rfl, rfl, p⟩
theorem maxI_ok : ∀ (ns : List Int) (n : Int), maxI ns n ∈ n :: ns ∧ ∀ y ∈ n :: ns, y ≤ maxI ns n
  | [], n => ⟨List.mem_cons_self, fun y hy => by rw [List.mem_singleton.mp hy]; exact Int.le_refl _⟩
  | m :: ns, n => by
    obtain ⟨h1, h2⟩ := maxI_ok ns (if n < m then m else n)
    refine ⟨?_, fun y hy => ?_⟩
    · show maxI ns (if n < m then m else n) ∈ n :: m :: ns
      rcases List.mem_cons.mp h1 with h | h
      · rw [h]
        split
        · exact List.mem_cons_of_mem _ List.mem_cons_self
        · exact List.mem_cons_self
      · exact List.mem_cons_of_mem _ (List.mem_cons_of_mem _ h)
    · show y ≤ maxI ns (if n < m then m else n)
      have h3 := h2 _ List.mem_cons_self
      rcases List.mem_cons.mp hy with rfl | hy
      · split at h3 <;> split <;> omega
      · rcases List.mem_cons.mp hy with rfl | hy
        · split at h3 <;> split <;> omega
        · exact h2 y (List.mem_cons_of_mem _ hy)
theorem minI_ok : ∀ (ns : List Int) (n : Int), minI ns n ∈ n :: ns ∧ ∀ y ∈ n :: ns, minI ns n ≤ y
  | [], n => ⟨List.mem_cons_self, fun y hy => by rw [List.mem_singleton.mp hy]; exact Int.le_refl _⟩
  | m :: ns, n => by
    obtain ⟨h1, h2⟩ := minI_ok ns (if m < n then m else n)
    refine ⟨?_, fun y hy => ?_⟩
    · show minI ns (if m < n then m else n) ∈ n :: m :: ns
      rcases List.mem_cons.mp h1 with h | h
      · rw [h]
        split
        · exact List.mem_cons_of_mem _ List.mem_cons_self
        · exact List.mem_cons_self
      · exact List.mem_cons_of_mem _ (List.mem_cons_of_mem _ h)
    · show minI ns (if m < n then m else n) ≤ y
      have h3 := h2 _ List.mem_cons_self
      rcases List.mem_cons.mp hy with rfl | hy
      · split at h3 <;> split <;> omega
      · rcases List.mem_cons.mp hy with rfl | hy
        · split at h3 <;> split <;> omega
        · exact h2 y (List.mem_cons_of_mem _ hy)
theorem bi_ok {b : Bi} {ds : List Dat} {xs : List Ex} {vs : List V} {κ : Kd} {O : Addr → Prop} {H H1 : Hp} {Q : VK} {B : Dat → Prop} (hc : X.calm = true) (ht : ∀ a, O a → ∃ o, H a = some o) (sH : Same H H1) (pl : PL X.K D.rf κ O H H1 xs vs ds)
    (h : Post (doBi b ds) (fun d => ∀ v H', Same H1 H' → Pst X.K (biFl D.rf κ xs b) O H H' v d → Q v H') B) : wC X (biV b) vs H1 Q := by
  unfold doBi at h
  split at h
  · obtain ⟨x, v, rfl, rfl, p⟩ := pl.one
    obtain ⟨a, us, rfl, l, dl⟩ := den_lst p.any
    refine of_call call_len_seq ⟨a, us, rfl, .inl l.sq, ?_⟩
    rw [dl.len]
    exact h _ _ (Same.refl _) (.scal rfl)
  · obtain ⟨x, v, rfl, rfl, p⟩ := pl.one
    obtain ⟨a, us, rfl, l, dl⟩ := den_rol p.any
    refine of_call call_len_seq ⟨a, us, rfl, .inl l.sq, ?_⟩
    rw [dl.len]
    exact h _ _ (Same.refl _) (.scal rfl)
  · obtain ⟨x, v, rfl, rfl, p⟩ := pl.one
    obtain ⟨a, us, rfl, l, dl⟩ := den_tup p.any
    refine of_call call_len_seq ⟨a, us, rfl, .inr l, ?_⟩
    rw [dl.len]
    exact h _ _ (Same.refl _) (.scal rfl)
  · obtain ⟨x, v, rfl, rfl, p⟩ := pl.one
    cases p.any
    split at h
    · rename_i hz
      exact of_call call_len_str ⟨_, rfl, of_decide_eq_true hz, h _ _ (Same.refl _) (.scal rfl)⟩
    · exact False.elim h
  · obtain ⟨x, v, rfl, rfl, p⟩ := pl.one
    cases p.any
    exact of_call call_abs ⟨_, rfl, h _ _ (Same.refl _) (.scal rfl)⟩
  · obtain ⟨x, v, rfl, rfl, p⟩ := pl.one
    by_cases hg : 1 ≤ flE D.rf x κ
    · obtain ⟨a, us, rfl, l, dl⟩ := p.one hg
      exact of_call call_tuple_of ⟨a, us, rfl, .inl ⟨.of l, fun t ht' => h _ _ (same_new ht') (.of2 (.tup (.of upd_same) (dl.same (same_new ht'))) (.inl rfl))⟩⟩
    · obtain ⟨a, us, rfl, l, dl⟩ := den_lst p.any
      refine of_call call_tuple_of ⟨a, us, rfl, .inl ⟨l.sq, fun t ht' => h _ _ (same_new ht') ?_⟩⟩
      have e : biFl D.rf κ [x] .tuple = 0 := by simp [biFl, flL1, hg]
      rw [e]
      exact .of0 (.tup (.of upd_same) (dl.same (same_new ht')))
  · obtain ⟨x, v, rfl, rfl, p⟩ := pl.one
    by_cases hg : 1 ≤ flE D.rf x κ
    · have q := p.one hg
      obtain ⟨a, us, rfl, l, dl⟩ := den_tup q
      exact of_call call_tuple_of ⟨a, us, rfl, .inr ⟨l, h _ _ (Same.refl _) (.of2 q (.inl rfl))⟩⟩
    · obtain ⟨a, us, rfl, l, dl⟩ := den_tup p.any
      refine of_call call_tuple_of ⟨a, us, rfl, .inr ⟨l, h _ _ (Same.refl _) ?_⟩⟩
      have e : biFl D.rf κ [x] .tuple = 0 := by simp [biFl, flL1, hg]
      rw [e]
      exact .of0 p.any
  · obtain ⟨x, v, rfl, rfl, p⟩ := pl.one
    by_cases hg : 1 ≤ flE D.rf x κ
    · obtain ⟨a, us, rfl, l, dl⟩ := p.one hg
      exact of_call call_list_of ⟨a, us, rfl, .inl (.of l), fun t ht' => h _ _ (same_new ht') (.new ht sH ht' dl)⟩
    · obtain ⟨a, us, rfl, l, dl⟩ := den_lst p.any
      refine of_call call_list_of ⟨a, us, rfl, .inl l.sq, fun t ht' => h _ _ (same_new ht') ?_⟩
      have e : biFl D.rf κ [x] .list = 0 := by simp [biFl, flL1, hg]
      rw [e]
      exact .of0 (.lst ⟨upd_same, id⟩ (dl.same (same_new ht')))
  · obtain ⟨x, v, rfl, rfl, p⟩ := pl.one
    by_cases hg : 1 ≤ flE D.rf x κ
    · obtain ⟨a, us, rfl, l, dl⟩ := den_tup (p.one hg)
      exact of_call call_list_of ⟨a, us, rfl, .inr l, fun t ht' => h _ _ (same_new ht') (.new ht sH ht' dl)⟩
    · obtain ⟨a, us, rfl, l, dl⟩ := den_tup p.any
      refine of_call call_list_of ⟨a, us, rfl, .inr l, fun t ht' => h _ _ (same_new ht') ?_⟩
      have e : biFl D.rf κ [x] .list = 0 := by simp [biFl, flL1, hg]
      rw [e]
      exact .of0 (.lst ⟨upd_same, id⟩ (dl.same (same_new ht')))
  · obtain ⟨x, v, rfl, rfl, p⟩ := pl.one
    by_cases hg : 1 ≤ flE D.rf x κ
    · obtain ⟨a, us, rfl, l, dl⟩ := den_rol (p.one hg)
      exact of_call call_list_of ⟨a, us, rfl, .inl l.sq, fun t ht' => h _ _ (same_new ht') (.new ht sH ht' dl)⟩
    · obtain ⟨a, us, rfl, l, dl⟩ := den_rol p.any
      refine of_call call_list_of ⟨a, us, rfl, .inl l.sq, fun t ht' => h _ _ (same_new ht') ?_⟩
      have e : biFl D.rf κ [x] .list = 0 := by simp [biFl, flL1, hg]
      rw [e]
      exact .of0 (.lst ⟨upd_same, id⟩ (dl.same (same_new ht')))
  · obtain ⟨x, v, rfl, rfl, p⟩ := pl.one
    cases p.any
    exact of_call call_int1 (.inl ⟨_, rfl, h _ _ (Same.refl _) (.scal rfl)⟩)
  · obtain ⟨x, v, rfl, rfl, p⟩ := pl.one
    cases p.any
    exact of_call call_int1 (.inr ⟨_, rfl, h _ _ (Same.refl _) (.scal rfl)⟩)
  · split at h
    · rename_i ns e
      obtain ⟨x, v, rfl, rfl, p⟩ := pl.one
      obtain ⟨a, us, rfl, l, dl⟩ := den_lst p.any
      have e' := ints_den e dl
      subst e'
      exact of_call (cr_sum hc) ⟨a, ns, rfl, l.sq, h _ _ (Same.refl _) (.scal rfl)⟩
    · exact False.elim h
  · split at h
    · rename_i ns e
      obtain ⟨x, v, rfl, rfl, p⟩ := pl.one
      obtain ⟨a, us, rfl, l, dl⟩ := den_lst p.any
      have e' := bools_den e dl
      subst e'
      exact of_call (cr_all hc) ⟨a, ns, rfl, l.sq, h _ _ (Same.refl _) (.scal rfl)⟩
    · exact False.elim h
  · split at h
    · rename_i ns e
      obtain ⟨x, v, rfl, rfl, p⟩ := pl.one
      obtain ⟨a, us, rfl, l, dl⟩ := den_lst p.any
      have e' := bools_den e dl
      subst e'
      exact of_call (cr_any hc) ⟨a, ns, rfl, l.sq, h _ _ (Same.refl _) (.scal rfl)⟩
    · exact False.elim h
  · have q := pl.any
    cases q with
    | cons q1 q2 =>
      cases q2 with
      | cons q2 q3 =>
        cases q1; cases q2; cases q3
        exact of_call (call_min2 hc) ⟨_, _, rfl, h _ _ (Same.refl _) (.scal rfl)⟩
  · have q := pl.any
    cases q with
    | cons q1 q2 =>
      cases q2 with
      | cons q2 q3 =>
        cases q1; cases q2; cases q3
        exact of_call (call_max2 hc) ⟨_, _, rfl, h _ _ (Same.refl _) (.scal rfl)⟩
  · split at h
    · rename_i n ns e
      obtain ⟨x, v, rfl, rfl, p⟩ := pl.one
      obtain ⟨a, us, rfl, l, dl⟩ := den_lst p.any
      have e' := ints_den e dl
      subst e'
      refine of_call (cr_max hc) ⟨a, n :: ns, rfl, l.sq, Nat.succ_pos _, fun m h1 h2 => ?_⟩
      obtain ⟨m1, m2⟩ := maxI_ok ns n
      have em : m = maxI ns n := Int.le_antisymm (m2 m h1) (h2 _ m1)
      subst em
      exact h _ _ (Same.refl _) (.scal rfl)
    · exact False.elim h
  · split at h
    · rename_i n ns e
      obtain ⟨x, v, rfl, rfl, p⟩ := pl.one
      obtain ⟨a, us, rfl, l, dl⟩ := den_lst p.any
      have e' := ints_den e dl
      subst e'
      refine of_call (cr_min hc) ⟨a, n :: ns, rfl, l.sq, Nat.succ_pos _, fun m h1 h2 => ?_⟩
      obtain ⟨m1, m2⟩ := minI_ok ns n
      have em : m = minI ns n := Int.le_antisymm (h2 _ m1) (m2 m h1)
      subst em
      exact h _ _ (Same.refl _) (.scal rfl)
    · exact False.elim h
  · split at h
    · rename_i hz
      rw [Bool.and_eq_true, decide_eq_true_eq] at hz
      have toP : ∀ {i j : Int}, (0 < j ∧ divOk i j = true) → CDivP i j := fun {i j} hz => ⟨hz.1, by
        have h2 := hz.2
        unfold divOk at h2
        rw [Bool.and_eq_true, Bool.not_eq_true'] at h2
        exact h2.2⟩
      have q := pl.any
      cases q with
      | cons q1 q2 =>
        cases q2 with
        | cons q2 q3 =>
          cases q1; cases q2; cases q3
          exact of_call call_divmodW ⟨_, _, rfl, toP hz, fun t ht' => h _ _ (same_new ht') (.of2 (.tup (.of upd_same) (.cons (.int _) (.cons (.int _) .nil))) (.inl rfl))⟩
    · exact False.elim h
  · exact False.elim h
/-- how a built-in's name stands -/
def biNm (b : Bi) : String := match biV b with
  | .builtin s => s
  | .type s => s
  | _ => ""
theorem boot_bi (b : Bi) : bootBuiltins (biNm b : Str) = some (biV b) := by
  cases b with
  | len => exact PySem.boot_len
  | abs => exact PyProof.Rows.boot_abs
  | tuple => exact PyProof.Rows.boot_tuple
  | list => exact PyProof.Rows.boot_list
  | int => exact PyProof.Rows.boot_int
  | sum => exact PyProof.Rows.boot_sum
  | min2 => exact PyProof.Rows.boot_min
  | max2 => exact PyProof.Rows.boot_max
  | divmod => exact PyProof.Rows.boot_divmod
  | all => exact PyProof.Rows.boot_all
  | any => exact PyProof.Rows.boot_any
  | str => exact PyProof.Rows.boot_str
  | minl => exact PyProof.Rows.boot_min
  | maxl => exact PyProof.Rows.boot_max
  | bool => exact PyProof.Rows.boot_bool
theorem se_bi {b : Bi} {y : Str} {e : Expr} {es : List Expr} {xs : List Ex} {p pos : Pos} (hc : X.calm = true) (hy : y = (biNm b : Str)) (hg : Gl X y) (hm : X.mg y = none) (hn : y ≠ "__name__") (hdb : (y == ("__debug__" : Str)) = false)
    (hs : (e :: es).all (fun e => !isStar e) = true) (h : F2 (SE D X) (e :: es) xs) : SE D X (.Call (.Name y p) (e :: es) [] pos) (.bi b xs) := by
  refine se_of (fun _ => rfl) fun κ ρ σ H O W Q r pp => ?_
  have hs' := hs
  rw [List.all_cons, Bool.and_eq_true, Bool.not_eq_true'] at hs'
  have star : starEach (e :: es) X.env = (false, eval e X.env) :: starEach es X.env := starEach_cons hs'.1
  have many : (backTo pos (starEach es X.env)).any (·.1) = false := starEach_any hs'.2
  have hv := boot_bi b
  rw [← hy] at hv
  rw [fl_bi] at pp
  simp only [evE] at pp
  have main : tCB (wC X (biV b)) (tAs X (e :: es)) σ H Q := by
    refine as_run h r (pp.bind.imp (fun ds _ q vs H1 s1 pl => ?_) fun z q => q)
    exact bi_ok hc r.trk s1 pl (q.imp (fun d _ q v H' s p => q v H' (s1.trans s) p) fun z q => q)
  cases b <;> first
    | exact of_pe (pe_callB (id := "len") call_w hg hm hv (pa_as hs) hn hdb star many) main
    | exact of_pe (pe_callB (id := "abs") call_w hg hm hv (pa_as hs) hn hdb star many) main
    | exact of_pe (pe_callB (id := "sum") call_w hg hm hv (pa_as hs) hn hdb star many) main
    | exact of_pe (pe_callB (id := "min") call_w hg hm hv (pa_as hs) hn hdb star many) main
    | exact of_pe (pe_callB (id := "max") call_w hg hm hv (pa_as hs) hn hdb star many) main
    | exact of_pe (pe_callB (id := "divmod") call_w hg hm hv (pa_as hs) hn hdb star many) main
    | exact of_pe (pe_callB (id := "all") call_w hg hm hv (pa_as hs) hn hdb star many) main
    | exact of_pe (pe_callB (id := "any") call_w hg hm hv (pa_as hs) hn hdb star many) main
    | exact of_pe (pe_callTy (T := "tuple") call_w hg hm hv (pa_as hs) hn hdb star many) main
    | exact of_pe (pe_callTy (T := "list") call_w hg hm hv (pa_as hs) hn hdb star many) main
    | exact of_pe (pe_callTy (T := "int") call_w hg hm hv (pa_as hs) hn hdb star many) main
    | exact of_pe (pe_callTy (T := "str") call_w hg hm hv (pa_as hs) hn hdb star many) main
    | exact of_pe (pe_callTy (T := "bool") call_w hg hm hv (pa_as hs) hn hdb star many) main

/-! list(reversed(x)), x.bit_length() -/
theorem den_rev {K : PySem.W.Frag} {O : Addr → Prop} {H : Hp} {vs : List V} {ds : List Dat} (h : DenL K O H vs ds) : DenL K O H vs.reverse ds.reverse := by
  have app : ∀ {vs : List V} {ds : List Dat} {v : V} {d : Dat}, DenL K O H vs ds → Den K O H v d → DenL K O H (vs ++ [v]) (ds ++ [d]) := fun h q => h.append (.cons q .nil)
  induction ds generalizing vs with
  | nil => cases h; exact .nil
  | cons d ds ih =>
    cases h with
    | cons h1 h2 =>
      rw [List.reverse_cons, List.reverse_cons]
      exact app (ih h2) h1
theorem se_lrev {e : Expr} {x : Ex} {y y2 : Str} {p p2 pos pos2 : Pos} (hc : X.calm = true) (hy : y = "list") (hg : Gl X y) (hm : X.mg y = none) (hy2 : y2 = "reversed") (hg2 : Gl X y2) (hm2 : X.mg y2 = none) (hs : isStar e = false) (h : SE D X e x) : SE D X (.Call (.Name y p) [.Call (.Name y2 p2) [e] [] pos2] [] pos) (.lrev x) := by
  subst hy hy2
  refine se_of (fun _ => rfl) fun κ ρ σ H O W Q r pp => of_pe (pe_lstRev hc hg hm hg2 hm2 pe_w (starEach_cons hs) (starEach_cons rfl)) ?_
  simp only [evE] at pp
  refine h.run κ ρ σ H O W _ r (pp.bind.imp (fun d _ q v H1 s1 p1 => ?_) fun z q => q)
  have q9 : Post (lrevD d) _ _ := q
  unfold lrevD at q9
  split at q9
  · rename_i ds
    by_cases hgr : 1 ≤ flE D.rf x κ
    · obtain ⟨a, us, rfl, l, dl⟩ := p1.one hgr
      refine ⟨a, us, rfl, .of l, fun t ht' => q9 _ _ (s1.trans (same_new ht')) ?_⟩
      have e : flE D.rf (.lrev x) κ = 3 := by simp only [flE]; rw [if_pos hgr]
      rw [e]
      exact .new r.trk s1 ht' (den_rev dl)
    · obtain ⟨a, us, rfl, l, dl⟩ := den_lst p1.any
      refine ⟨a, us, rfl, l.sq, fun t ht' => q9 _ _ (s1.trans (same_new ht')) ?_⟩
      have e : flE D.rf (.lrev x) κ = 0 := by simp only [flE]; rw [if_neg hgr]
      rw [e]
      exact .of0 (.lst ⟨upd_same, id⟩ ((den_rev dl).same (same_new ht')))
  · exact False.elim q9
theorem se_bits {i : Nat} {n : Str} {p1 apos pos : Pos} (hN : X.N[i]? = some n) (hv : Vis X.env.scope n) (hd : (n == ("__debug__" : Str)) = false) (hcd : (n == ("__classdict__" : Str)) = false) (hline : (apos.endLine == pos.line) = true) : SE D X (.Call (.Attribute (.Name n p1) "bit_length" apos) [] [] pos) (.bits (.var i)) := by
  refine se_of (fun _ => rfl) fun κ ρ σ H O W Q r pp => of_pe (pe_bits (pe_var hN hv hd hcd) rfl hline) ?_
  simp only [evE, getV] at pp
  split at pp
  · rename_i d e
    obtain ⟨v, h1, h2⟩ := r.slot i d e
    have q9 : Post (bitsD d) _ _ := pp
    unfold bitsD at q9
    split at q9
    · rename_i m
      have hv : v = .int m := by
        cases hk : kd κ i with
        | shr => rw [hk] at h2; cases h2; rfl
        | own => rw [hk] at h2; obtain ⟨a, rfl, _, o⟩ := h2; exact False.elim o
        | lent => rw [hk] at h2; obtain ⟨a, rfl, _, o⟩ := h2; exact False.elim o
        | arg => rw [hk] at h2; obtain ⟨a, rfl, _, o⟩ := h2; exact False.elim o
      subst hv
      exact ⟨_, h1, _, rfl, q9 _ _ (Same.refl H) (.scal rfl)⟩
    · exact False.elim q9
  · exact False.elim pp

/-! isinstance -/
def tyNm : Ty → String
  | .int => "int"
  | .bool => "bool"
  | .str => "str"
  | .list => "list"
  | .tuple => "tuple"
  | .own _ => ""
def datTy : Dat → String
  | .int _ => "int"
  | .bl _ => "bool"
  | .str _ => "str"
  | .lst _ => "list"
  | .tup _ => "tuple"
  | .non => "NoneType"
  | _ => ""
theorem tyx_of {K : PySem.W.Frag} {O : Addr → Prop} {H : Hp} {v : V} {d : Dat} {t : Ty} {b : Bool} (h : Den K O H v d) (e : tyOf d t = some b) : TyX K H v (.type (datTy d)) := by
  cases h with
  | non => exact .base .non
  | bl b => exact .base (.bl b)
  | int i => exact .base (.int i)
  | str x => exact .base (.str x)
  | tup hs _ =>
    rcases hs with (hs | ⟨o, hs⟩) | ⟨o, its, n, h1, h2, _⟩
    · exact .base (.tup hs)
    · exact .fTuple hs
    · exact .kTuple h1 h2
  | lst hs _ => exact .base (.lst hs.1)
  | rol _ _ => cases t <;> cases e
structure KitT : Prop where
  ii : kitB "int" "int" = some true
  ib : kitB "int" "bool" = some false
  is : kitB "int" "str" = some false
  il : kitB "int" "list" = some false
  it : kitB "int" "tuple" = some false
  bi : kitB "bool" "int" = some true
  bb : kitB "bool" "bool" = some true
  bs : kitB "bool" "str" = some false
  bL : kitB "bool" "list" = some false
  bt : kitB "bool" "tuple" = some false
  si : kitB "str" "int" = some false
  sb : kitB "str" "bool" = some false
  ss : kitB "str" "str" = some true
  sl : kitB "str" "list" = some false
  st : kitB "str" "tuple" = some false
  li : kitB "list" "int" = some false
  lb : kitB "list" "bool" = some false
  ls : kitB "list" "str" = some false
  ll : kitB "list" "list" = some true
  lt : kitB "list" "tuple" = some false
  ti : kitB "tuple" "int" = some false
  tb : kitB "tuple" "bool" = some false
  ts : kitB "tuple" "str" = some false
  tl : kitB "tuple" "list" = some false
  tt : kitB "tuple" "tuple" = some true
  ni : kitB "NoneType" "int" = some false
  nb : kitB "NoneType" "bool" = some false
  ns : kitB "NoneType" "str" = some false
  nl : kitB "NoneType" "list" = some false
  nt : kitB "NoneType" "tuple" = some false
theorem kitAll : (decide (kitB "int" "int" = some true) && decide (kitB "int" "bool" = some false) && decide (kitB "int" "str" = some false) && decide (kitB "int" "list" = some false) && decide (kitB "int" "tuple" = some false) && decide (kitB "bool" "int" = some true) && decide (kitB "bool" "bool" = some true) && decide (kitB "bool" "str" = some false) && decide (kitB "bool" "list" = some false) && decide (kitB "bool" "tuple" = some false) && decide (kitB "str" "int" = some false) && decide (kitB "str" "bool" = some false) && decide (kitB "str" "str" = some true) && decide (kitB "str" "list" = some false) && decide (kitB "str" "tuple" = some false) && decide (kitB "list" "int" = some false) && decide (kitB "list" "bool" = some false) && decide (kitB "list" "str" = some false) && decide (kitB "list" "list" = some true) && decide (kitB "list" "tuple" = some false) && decide (kitB "tuple" "int" = some false) && decide (kitB "tuple" "bool" = some false) && decide (kitB "tuple" "str" = some false) && decide (kitB "tuple" "list" = some false) && decide (kitB "tuple" "tuple" = some true) && decide (kitB "NoneType" "int" = some false) && decide (kitB "NoneType" "bool" = some false) && decide (kitB "NoneType" "str" = some false) && decide (kitB "NoneType" "list" = some false) && decide (kitB "NoneType" "tuple" = some false)) = true := by decide +kernel
theorem kitT : KitT := by
  have h := kitAll
  simp only [Bool.and_eq_true, decide_eq_true_eq] at h
  exact ⟨h.1.1.1.1.1.1.1.1.1.1.1.1.1.1.1.1.1.1.1.1.1.1.1.1.1.1.1.1.1, h.1.1.1.1.1.1.1.1.1.1.1.1.1.1.1.1.1.1.1.1.1.1.1.1.1.1.1.1.2, h.1.1.1.1.1.1.1.1.1.1.1.1.1.1.1.1.1.1.1.1.1.1.1.1.1.1.1.2, h.1.1.1.1.1.1.1.1.1.1.1.1.1.1.1.1.1.1.1.1.1.1.1.1.1.1.2, h.1.1.1.1.1.1.1.1.1.1.1.1.1.1.1.1.1.1.1.1.1.1.1.1.1.2, h.1.1.1.1.1.1.1.1.1.1.1.1.1.1.1.1.1.1.1.1.1.1.1.1.2, h.1.1.1.1.1.1.1.1.1.1.1.1.1.1.1.1.1.1.1.1.1.1.1.2, h.1.1.1.1.1.1.1.1.1.1.1.1.1.1.1.1.1.1.1.1.1.1.2, h.1.1.1.1.1.1.1.1.1.1.1.1.1.1.1.1.1.1.1.1.1.2, h.1.1.1.1.1.1.1.1.1.1.1.1.1.1.1.1.1.1.1.1.2, h.1.1.1.1.1.1.1.1.1.1.1.1.1.1.1.1.1.1.1.2, h.1.1.1.1.1.1.1.1.1.1.1.1.1.1.1.1.1.1.2, h.1.1.1.1.1.1.1.1.1.1.1.1.1.1.1.1.1.2, h.1.1.1.1.1.1.1.1.1.1.1.1.1.1.1.1.2, h.1.1.1.1.1.1.1.1.1.1.1.1.1.1.1.2, h.1.1.1.1.1.1.1.1.1.1.1.1.1.1.2, h.1.1.1.1.1.1.1.1.1.1.1.1.1.2, h.1.1.1.1.1.1.1.1.1.1.1.1.2, h.1.1.1.1.1.1.1.1.1.1.1.2, h.1.1.1.1.1.1.1.1.1.1.2, h.1.1.1.1.1.1.1.1.1.2, h.1.1.1.1.1.1.1.1.2, h.1.1.1.1.1.1.1.2, h.1.1.1.1.1.1.2, h.1.1.1.1.1.2, h.1.1.1.1.2, h.1.1.1.2, h.1.1.2, h.1.2, h.2⟩
theorem kit_of_ty {K : PySem.W.Frag} {d : Dat} {t : Ty} {b : Bool} (ht : ∀ C, t ≠ .own C) (e : tyOf d t = some b) : PySem.W.kitOne K (.type (datTy d)) (.type (tyNm t)) = some b := by
  refine kit_ty ?_
  cases d with
  | non =>
    cases t with
    | int =>
      cases e
      exact kitT.ni
    | bool =>
      cases e
      exact kitT.nb
    | str =>
      cases e
      exact kitT.ns
    | list =>
      cases e
      exact kitT.nl
    | tuple =>
      cases e
      exact kitT.nt
    | own C => exact absurd rfl (ht C)
  | bl _ =>
    cases t with
    | int =>
      cases e
      exact kitT.bi
    | bool =>
      cases e
      exact kitT.bb
    | str =>
      cases e
      exact kitT.bs
    | list =>
      cases e
      exact kitT.bL
    | tuple =>
      cases e
      exact kitT.bt
    | own C => exact absurd rfl (ht C)
  | int _ =>
    cases t with
    | int =>
      cases e
      exact kitT.ii
    | bool =>
      cases e
      exact kitT.ib
    | str =>
      cases e
      exact kitT.is
    | list =>
      cases e
      exact kitT.il
    | tuple =>
      cases e
      exact kitT.it
    | own C => exact absurd rfl (ht C)
  | str _ =>
    cases t with
    | int =>
      cases e
      exact kitT.si
    | bool =>
      cases e
      exact kitT.sb
    | str =>
      cases e
      exact kitT.ss
    | list =>
      cases e
      exact kitT.sl
    | tuple =>
      cases e
      exact kitT.st
    | own C => exact absurd rfl (ht C)
  | tup _ =>
    cases t with
    | int =>
      cases e
      exact kitT.ti
    | bool =>
      cases e
      exact kitT.tb
    | str =>
      cases e
      exact kitT.ts
    | list =>
      cases e
      exact kitT.tl
    | tuple =>
      cases e
      exact kitT.tt
    | own C => exact absurd rfl (ht C)
  | lst _ =>
    cases t with
    | int =>
      cases e
      exact kitT.li
    | bool =>
      cases e
      exact kitT.lb
    | str =>
      cases e
      exact kitT.ls
    | list =>
      cases e
      exact kitT.ll
    | tuple =>
      cases e
      exact kitT.lt
    | own C => exact absurd rfl (ht C)
  | _ => cases t <;> cases e
/-- the class names of an isinstance -/
inductive TyE (X : Cx) : Expr → List Ty → Prop
  | one {t : Ty} {p : Pos} : (∀ C, t ≠ .own C) → Gl X (tyNm t : Str) → X.mg (tyNm t : Str) = none → TyE X (.Name (tyNm t : Str) p) [t]
theorem boot_ty (t : Ty) (ht : ∀ C, t ≠ .own C) : bootBuiltins (tyNm t : Str) = some (.type (tyNm t)) := by
  cases t with
  | int => exact PyProof.Rows.boot_int
  | bool => exact PyProof.Rows.boot_bool
  | str => exact PyProof.Rows.boot_str
  | list => exact PyProof.Rows.boot_list
  | tuple => exact PyProof.Rows.boot_tuple
  | own C => exact absurd rfl (ht C)
theorem ty_ne (t : Ty) (ht : ∀ C, t ≠ .own C) : (tyNm t : Str) ≠ "__name__" ∧ ((tyNm t : Str) == ("__debug__" : Str)) = false := by
  cases t <;> first
    | exact absurd rfl (ht _)
    | exact ⟨by decide, by decide⟩
theorem se_isi {a c : Expr} {x : Ex} {ts : List Ty} {y : Str} {p pos : Pos} (hy : y = "isinstance") (hg : Gl X y) (hm : X.mg y = none) (hs : isStar a = false) (h : SE D X a x) (hc : TyE X c ts) : SE D X (.Call (.Name y p) [a, c] [] pos) (.isi x ts) := by
  subst hy
  refine se_of (fun _ => rfl) fun κ ρ σ H O W Q r pp => ?_
  simp only [evE] at pp
  cases hc with
  | @one t p ht hg2 hm2 =>
    obtain ⟨n1, n2⟩ := ty_ne t ht
    have star : starEach [a, .Name (tyNm t : Str) p] X.env = (false, eval a X.env) :: starEach [.Name (tyNm t : Str) p] X.env := starEach_cons hs
    refine of_pe (pe_callB (id := "isinstance") call_isi hg hm PyProof.Rows.boot_isinstance (pa_cons pe_w (pa_cons (pe_bltn hg2 hm2 (boot_ty t ht) (v := .ty (tyNm t)) rfl n1 n2) pa_nil) star) (by decide) (by decide) star rfl) ?_
    refine h.run κ ρ σ H O W _ r (pp.bind.imp (fun d _ q v H1 s1 p1 => ?_) fun z q => q)
    cases e : tyOf d t with
    | none =>
      have e3 : [t].mapM (tyOf d) = none := by simp [e]
      rw [e3] at q
      exact False.elim q
    | some b =>
      have e3 : [t].mapM (tyOf d) = some [b] := by simp [e]
      rw [e3] at q
      refine ⟨v, .ty (tyNm t), _, _, b, rfl, .ty _, tyx_of p1.any e, kit_of_ty ht e, ?_⟩
      have e2 : [b].any id = b := by cases b <;> rfl
      rw [← e2]
      exact q _ _ s1 (.scal rfl)
end
end PV

/-! PV, part G: targets, what is walked, comprehensions -/
namespace PV
open PySem PySem.Spec PyProof.Rows L2

/-! ### setting slots -/
theorem getElem_set {α : Type} (l : List α) (i j : Nat) (a : α) : (l.set i a)[j]? = if i = j ∧ j < l.length then some a else l[j]? := by
  rw [List.getElem?_set]
  by_cases h : i = j
  · subst h
    rw [if_pos rfl]
    by_cases h2 : i < l.length
    · rw [if_pos h2, if_pos ⟨rfl, h2⟩]
    · rw [if_neg h2, if_neg (fun z => h2 z.2)]
      exact (List.getElem?_eq_none (Nat.not_lt.mp h2)).symm
  · rw [if_neg h, if_neg fun z => h z.1]
theorem kd_set (κ : Kd) (i j : Nat) (k : SK) : kd (setK κ i k) j = if i = j ∧ j < κ.length then k else kd κ j := by
  unfold kd setK
  rw [List.getD_eq_getElem?_getD, List.getD_eq_getElem?_getD, getElem_set]
  by_cases h : i = j ∧ j < κ.length
  · rw [if_pos h, if_pos h]
    rfl
  · rw [if_neg h, if_neg h]
section
variable {K : PySem.W.Frag} {κ : Kd} {ρ : Env} {σ : L2.St} {H H' : Hp} {O : Addr → Prop}
theorem Rel.set {k : SK} {i : Nat} {v : V} {d : Dat} (r : Rel K κ ρ σ H O) (h : SlotOk K O H k v d) (hk : isOwn k = false) : Rel K (setK κ i k) (ρ.set i (some d)) (σ.set i (some v)) H O := by
  have e1 := r.len
  have e2 := r.lenK
  refine ⟨by rw [List.length_set, List.length_set]; exact r.len, by unfold setK; rw [List.length_set, List.length_set]; exact r.lenK, fun j d' q => ?_, fun j l d1 d2 a q1 q2 h1 h2 h3 h4 => ?_, r.trk⟩
  · rw [getElem_set] at q
    rw [getElem_set, kd_set]
    by_cases hj : i = j ∧ j < ρ.length
    · rw [if_pos hj] at q
      cases q
      rw [if_pos ⟨hj.1, by omega⟩, if_pos ⟨hj.1, by omega⟩]
      exact ⟨v, rfl, h⟩
    · rw [if_neg hj] at q
      rw [if_neg (fun z => hj ⟨z.1, by omega⟩), if_neg (fun z => hj ⟨z.1, by omega⟩)]
      exact r.slot j d' q
  · have ne : ∀ j, isOwn (kd (setK κ i k) j) = true → ¬ (i = j ∧ j < κ.length) := fun j q z => by
      rw [kd_set, if_pos z, hk] at q
      cases q
    have n1 := ne j h1
    have n2 := ne l h2
    rw [kd_set, if_neg n1] at h1
    rw [kd_set, if_neg n2] at h2
    rw [getElem_set, if_neg (fun z => n1 ⟨z.1, by omega⟩)] at q1 h3
    rw [getElem_set, if_neg (fun z => n2 ⟨z.1, by omega⟩)] at q2 h4
    exact r.inj j l d1 d2 a q1 q2 h1 h2 h3 h4
/-- a slot forgotten -/
theorem Rel.forget {i : Nat} (r : Rel K κ ρ σ H O) : Rel K κ (ρ.set i none) (σ.set i none) H O := by
  have e1 := r.len
  refine ⟨by rw [List.length_set, List.length_set]; exact r.len, by rw [List.length_set]; exact r.lenK, fun j d' q => ?_, fun j l d1 d2 a q1 q2 h1 h2 h3 h4 => ?_, r.trk⟩
  · rw [getElem_set] at q ⊢
    by_cases hj : i = j ∧ j < ρ.length
    · rw [if_pos hj] at q
      cases q
    · rw [if_neg hj] at q
      rw [if_neg (fun z => hj ⟨z.1, by omega⟩)]
      exact r.slot j d' q
  · have f : ∀ (j : Nat) (d : Dat), (ρ.set i none)[j]? = some (some d) → ρ[j]? = some (some d) ∧ ¬ (i = j ∧ j < σ.length) := fun j d q => by
      rw [getElem_set] at q
      by_cases hj : i = j ∧ j < ρ.length
      · rw [if_pos hj] at q
        cases q
      · rw [if_neg hj] at q
        exact ⟨q, fun z => hj ⟨z.1, by omega⟩⟩
    obtain ⟨p1, n1⟩ := f j d1 q1
    obtain ⟨p2, n2⟩ := f l d2 q2
    rw [getElem_set, if_neg n1] at h3
    rw [getElem_set, if_neg n2] at h4
    exact r.inj j l d1 d2 a p1 p2 h1 h2 h3 h4
def wipeE (ρ : Env) : List Nat → Env
  | [] => ρ
  | v :: vs => (wipeE ρ vs).set v none
theorem Rel.wipe (r : Rel K κ ρ σ H O) : ∀ vs : List Nat, Rel K κ (wipeE ρ vs) (L2.wipe σ vs) H O
  | [] => r
  | v :: vs => (Rel.wipe r vs).forget
end
/-- on these places it does not matter what stood there -/
theorem wipe_get (σ : L2.St) (j : Nat) : ∀ vs : List Nat, (wipe σ vs)[j]? = if j ∈ vs ∧ j < σ.length then some none else σ[j]?
  | [] => by rw [if_neg (fun z => by cases z.1)]; rfl
  | v :: vs => by
    unfold wipe
    rw [getElem_set, wipe_length, wipe_get σ j vs]
    by_cases h : v = j ∧ j < σ.length
    · rw [if_pos h, if_pos ⟨by rw [h.1]; exact List.mem_cons_self, h.2⟩]
    · rw [if_neg h]
      by_cases h2 : j ∈ vs ∧ j < σ.length
      · rw [if_pos h2, if_pos ⟨List.mem_cons_of_mem _ h2.1, h2.2⟩]
      · rw [if_neg h2, if_neg]
        rintro ⟨h3, h4⟩
        rcases List.mem_cons.mp h3 with z | z
        · exact h ⟨z.symm, h4⟩
        · exact h2 ⟨z, h4⟩
theorem wipe_set {σ : L2.St} {i : Nat} {x : Option V} {vs : List Nat} (h : i ∈ vs) : wipe (σ.set i x) vs = wipe σ vs := by
  apply List.ext_getElem?
  intro j
  rw [wipe_get, wipe_get, List.length_set, getElem_set]
  by_cases hj : j ∈ vs ∧ j < σ.length
  · rw [if_pos hj, if_pos hj]
  · rw [if_neg hj, if_neg hj, if_neg]
    rintro ⟨e, h2⟩
    exact hj ⟨by rw [← e]; exact h, h2⟩
theorem wipe_wipe {σ : L2.St} {vs : List Nat} : wipe (wipe σ vs) vs = wipe σ vs := by
  apply List.ext_getElem?
  intro j
  rw [wipe_get, wipe_get, wipe_length]
  by_cases hj : j ∈ vs ∧ j < σ.length
  · rw [if_pos hj, if_pos hj]
  · rw [if_neg hj]

/-! ### targets -/
def gNs : List Nat → TGs
  | [] => gNil
  | i :: is => gCons (gName i) (gNs is)
def gT (K : PySem.W.Frag) : Tgt → TG
  | .nm i => gName i
  | .tp is => gTup K is.length (gNs is)
def tgIx : Tgt → List Nat
  | .nm i => [i]
  | .tp is => is
/-- the setting of several slots -/
def setsE (ρ : Env) (ps : List (Nat × Dat)) : Env := ps.foldl (fun ρ p => ρ.set p.1 (some p.2)) ρ
theorem bindT_tp {is : List Nat} {ds : List Dat} {ρ : Env} (h : is.length = ds.length) : bindT (.tp is) (.tup ds) ρ = .ok (setsE ρ (is.zip ds)) := by
  simp only [bindT]
  rw [if_pos h]
  rfl
section
variable {K : PySem.W.Frag} {H H' : Hp} {O : Addr → Prop}
theorem gNs_run {k : SK} (hk : isOwn k = false) : ∀ (is : List Nat) (ds : List Dat) (vs : List V) (κ : Kd) (ρ : Env) (σ : L2.St) (Q : L2.St → Hp → Prop) (V0 : List Nat), is.length = ds.length → (∀ i ∈ is, i ∈ V0) → Rel K κ ρ σ H O → (∀ (i : Nat) (d : Dat), ds[i]? = some d → ∃ v, vs[i]? = some v ∧ SlotOk K O H k v d) → vs.length = ds.length →
    (∀ σ', Rel K (is.foldl (fun κ i => setK κ i k) κ) (setsE ρ (is.zip ds)) σ' H O → wipe σ' V0 = wipe σ V0 → Q σ' H) → gNs is vs σ H Q
  | [], [], vs, κ, ρ, σ, Q, V0, _, _, r, _, e, q => by
    cases vs with
    | nil => exact ⟨rfl, q σ r rfl⟩
    | cons _ _ => cases e
  | i :: is, d :: ds, vs, κ, ρ, σ, Q, V0, hl, hV, r, hd, e, q => by
    cases vs with
    | nil => cases e
    | cons v vs =>
      refine ⟨v, vs, rfl, ?_⟩
      obtain ⟨v', e1, h1⟩ := hd 0 d rfl
      cases e1
      have r2 := r.set (i := i) h1 hk
      exact gNs_run hk is ds vs _ _ _ Q V0 (Nat.succ.inj hl) (fun j hj => hV j (List.mem_cons_of_mem _ hj)) r2 (fun j d' e => hd (j + 1) d' e) (Nat.succ.inj e) fun σ' r3 w => q σ' r3 (w.trans (wipe_set (hV i List.mem_cons_self)))
  | [], _ :: _, _, _, _, _, _, _, hl, _, _, _, _, _ => by cases hl
  | _ :: _, [], _, _, _, _, _, _, hl, _, _, _, _, _ => by cases hl
/-- an item: unowned, or known to be there -/
def ItD (K : PySem.W.Frag) (O : Addr → Prop) (b : Bool) (H : Hp) (v : V) (d : Dat) : Prop := Den K O H v d
def skOf (_ : Bool) : SK := .shr
theorem ItD.slot {b : Bool} {v : V} {d : Dat} (h : ItD K O b H v d) : SlotOk K O H (skOf b) v d := by
  cases b with
  | true => exact h
  | false => exact h
theorem tg_run {t : Tgt} {b : Bool} {κ : Kd} {ρ : Env} {σ : L2.St} {v : V} {d : Dat} {Q : L2.St → Hp → Prop} {B : Dat → Prop} (V0 : List Nat) (hV : ∀ i ∈ tgIx t, i ∈ V0) (r : Rel K κ ρ σ H O) (hd : ItD K O b H v d)
    (h : Post (bindT t d ρ) (fun ρ' => ∀ σ', Rel K (bindK t (skOf b) κ) ρ' σ' H O → wipe σ' V0 = wipe σ V0 → Q σ' H) B) : gT K t v σ H Q := by
  have hk : isOwn (skOf b) = false := by cases b <;> rfl
  cases t with
  | nm i => exact h _ (r.set hd.slot hk) (wipe_set (hV i (by simp [tgIx])))
  | tp is =>
    cases d with
    | tup ds =>
      by_cases hl : is.length = ds.length
      · rw [bindT_tp hl] at h
        have main : ∀ O', (∀ v d, Den K O' H v d → SlotOk K O H (skOf b) v d) → Den K O' H v (.tup ds) → gT K (.tp is) v σ H Q := by
          intro O' hO q
          obtain ⟨a, vs, rfl, l, dl⟩ := den_tup q
          refine ⟨a, vs, rfl, l, by rw [dl.len, hl], gNs_run hk is ds vs κ ρ σ Q V0 hl hV r (fun i d e => ?_) dl.len h⟩
          obtain ⟨v, e1, e2⟩ := dl.get e
          exact ⟨v, e1, hO v d e2⟩
        exact main O (fun v d q => q) hd
      · simp only [bindT] at h
        rw [if_neg hl] at h
        exact False.elim h
    | _ => exact False.elim h
end
/-- places that are set hide what stood there -/
theorem setsE_irr : ∀ (ps : List (Nat × Dat)) (ρ ρ' : Env), ρ.length = ρ'.length → (∀ j, j ∉ ps.map (·.1) → ρ[j]? = ρ'[j]?) → setsE ρ ps = setsE ρ' ps
  | [], ρ, ρ', _, h => List.ext_getElem? fun j => h j (by simp)
  | p :: ps, ρ, ρ', hl, h => by
    refine setsE_irr ps (ρ.set p.1 (some p.2)) (ρ'.set p.1 (some p.2)) (by rw [List.length_set, List.length_set]; exact hl) fun j hj => ?_
    rw [getElem_set, getElem_set, hl]
    by_cases hp : p.1 = j ∧ j < ρ'.length
    · rw [if_pos hp, if_pos hp]
    · rw [if_neg hp, if_neg hp]
      by_cases e : p.1 = j
      · have h2 : ρ'.length ≤ j := by
          rcases Nat.lt_or_ge j ρ'.length with z | z
          · exact absurd ⟨e, z⟩ hp
          · exact z
        rw [List.getElem?_eq_none h2, List.getElem?_eq_none (by omega)]
      · exact h j (by simp only [List.map_cons, List.mem_cons, not_or]; exact ⟨fun z => e z.symm, hj⟩)
theorem wipeE_length (ρ : Env) : ∀ vs : List Nat, (wipeE ρ vs).length = ρ.length
  | [] => rfl
  | v :: vs => by unfold wipeE; rw [List.length_set, wipeE_length ρ vs]
theorem wipeE_out {ρ : Env} {j : Nat} : ∀ {vs : List Nat}, j ∉ vs → (wipeE ρ vs)[j]? = ρ[j]?
  | [], _ => rfl
  | v :: vs, h => by
    unfold wipeE
    rw [getElem_set, if_neg, wipeE_out fun z => h (List.mem_cons_of_mem _ z)]
    rintro ⟨e, _⟩
    exact h (by rw [e]; exact List.mem_cons_self)
theorem bindT_wipe {t : Tgt} {d : Dat} {ρ : Env} : bindT t d (wipeE ρ (tgIx t)) = bindT t d ρ := by
  cases t with
  | nm i =>
    simp only [bindT, tgIx, wipeE]
    rw [List.set_set]
  | tp is =>
    cases d with
    | tup ds =>
      by_cases hl : is.length = ds.length
      · rw [bindT_tp hl, bindT_tp hl]
        refine congrArg Rs.ok (setsE_irr _ _ _ (wipeE_length _ _) fun j hj => wipeE_out fun z => hj ?_)
        rw [List.map_fst_zip (by omega)]
        exact z
      · simp only [bindT]
        rw [if_neg hl, if_neg hl]
    | _ => rfl

/-! ### what is walked -/
/-- none of these is the root of what may be changed -/
def NotOwn (κ : Kd) (ρ : Env) (σ : L2.St) (a : Addr) : Prop := ∀ (j : Nat) (d : Dat), ρ[j]? = some (some d) → isMu (kd κ j) = true → σ[j]? ≠ some (some (.ref a))
structure WD (K : PySem.W.Frag) (O : Addr → Prop) (b : Bool) (J : It) (H : Hp) (ds : List Dat) (fp : List Addr) : Prop where
  walk : Walk J ds.length (fun H2 => ∀ a ∈ fp, ∀ o, H a = some o → H2 a = some o)
    (fun i H2 v H3 => Same H2 H3 ∧ ∃ d, ds[i]? = some d ∧ ∀ O', (∀ v d, ItD K O b H v d → ItD K O' b H2 v d) → (∀ H4 v d, Same H2 H4 → ItD K O' b H2 v d → ItD K O' b H4 v d) → ItD K O' b H3 v d)
theorem ItD.same {K : PySem.W.Frag} {O : Addr → Prop} {b : Bool} {H H' : Hp} {v : V} {d : Dat} (e : Same H H') (h : ItD K O b H v d) : ItD K O b H' v d := by
  cases b with
  | true => exact Den.same e h
  | false => exact Den.same e h
section
variable {K : PySem.W.Frag} {O : Addr → Prop} {b : Bool} {H : Hp}
/-- the items of a list or tuple -/
def IL (K : PySem.W.Frag) (O : Addr → Prop) (b : Bool) (H : Hp) (vs : List V) (ds : List Dat) : Prop := vs.length = ds.length ∧ ∀ (i : Nat) (v : V), vs[i]? = some v → ∃ d, ds[i]? = some d ∧ ItD K O b H v d
theorem IL.of {O' : Addr → Prop} {vs : List V} {ds : List Dat} (h : DenL K O' H vs ds) (f : ∀ v d, Den K O' H v d → ItD K O b H v d) : IL K O b H vs ds :=
  ⟨h.len, fun i v e => by
    obtain ⟨d, e1, e2⟩ := h.get' e
    exact ⟨d, e1, f v d e2⟩⟩
theorem wd_at {J : It} {vs : List V} {ds : List Dat} {fp : List Addr} {G : Hp → Prop} (h : IL K O b H vs ds) (w : Walk J vs.length G (YAt vs)) (g : ∀ H2, (∀ a ∈ fp, ∀ o, H a = some o → H2 a = some o) → G H2) : WD K O b J H ds fp := by
  refine ⟨?_⟩
  rw [← h.1]
  refine w.mono g fun i H2 v H3 hi hg y => ?_
  obtain ⟨rfl, e⟩ := y
  obtain ⟨d, e1, e2⟩ := h.2 i v e
  exact ⟨Same.refl _, d, e1, fun O' f _ => f v d e2⟩
theorem wd_fn {J : It} {n : Nat} {f : Nat → V} {ds : List Dat} {G : Hp → Prop} (w : Walk J n G (YFn f)) (hn : n = ds.length) (g : ∀ H2, G H2) (hd : ∀ (i : Nat) (d : Dat), ds[i]? = some d → scalD d = some (f i)) : WD K O b J H ds [] := by
  subst hn
  refine ⟨w.mono (fun H2 _ => g H2) fun i H2 v H3 hi hg y => ?_⟩
  obtain ⟨rfl, rfl⟩ := y
  refine ⟨Same.refl _, ds[i], List.getElem?_eq_getElem hi, fun O' _ _ => ?_⟩
  have e := hd i ds[i] (List.getElem?_eq_getElem hi)
  show Den K O' _ _ _
  cases hq : ds[i] <;> rw [hq] at e <;> first
    | (have e' := Option.some.inj e; rw [← e']; constructor)
    | cases e
theorem wd_pair {J : It} {n : Nat} {fx fy : Nat → Option V} {gx gy : Nat → Option Dat} {ds : List Dat} {fp : List Addr} {G : Hp → Prop} (w : Walk J n G (YPair fx fy)) (hn : n = ds.length) (g : ∀ H2, (∀ a ∈ fp, ∀ o, H a = some o → H2 a = some o) → G H2)
    (hx : ∀ (i : Nat) (v : V), fx i = some v → ∃ d, gx i = some d ∧ ItD K O b H v d) (hy : ∀ (i : Nat) (v : V), fy i = some v → ∃ d, gy i = some d ∧ ItD K O b H v d) (hd : ∀ (i : Nat) (x y : Dat), gx i = some x → gy i = some y → ds[i]? = some (.tup [x, y])) : WD K O b J H ds fp := by
  subst hn
  refine ⟨w.mono g fun i H2 v H3 hi hg q => ?_⟩
  obtain ⟨T, x, y, rfl, hT, rfl, e1, e2⟩ := q
  obtain ⟨d1, p1, q1⟩ := hx i x e1
  obtain ⟨d2, p2, q2⟩ := hy i y e2
  have s := same_new (o := .tup [x, y]) hT
  refine ⟨s, _, hd i d1 d2 p1 p2, fun O' f f2 => ?_⟩
  have r1 := f2 _ _ _ s (f x d1 q1)
  have r2 := f2 _ _ _ s (f y d2 q2)
  exact .tup (.of upd_same) (.cons r1 (.cons r2 .nil))
end
end PV

/-! PV, part H: what is walked, comprehensions -/
namespace PV
open PySem PySem.Spec PyProof.Rows L2

/-! ### more known, a higher grade -/
def KLe (κ κ' : Kd) : Prop := κ.length = κ'.length ∧ ∀ i, kd κ i = .shr → kd κ' i = .shr
theorem KLe.set {κ κ' : Kd} (h : KLe κ κ') (i : Nat) : KLe (setK κ i .shr) (setK κ' i .shr) := by
  refine ⟨by unfold setK; rw [List.length_set, List.length_set]; exact h.1, fun j q => ?_⟩
  rw [kd_set] at q ⊢
  rw [← h.1]
  by_cases hj : i = j ∧ j < κ.length
  · rw [if_pos hj]
  · rw [if_neg hj] at q ⊢
    exact h.2 j q
theorem KLe.bind {κ κ' : Kd} (h : KLe κ κ') (t : Tgt) : KLe (bindK t .shr κ) (bindK t .shr κ') := by
  cases t with
  | nm i => exact h.set i
  | tp is =>
    unfold bindK
    induction is generalizing κ κ' with
    | nil => exact h
    | cons i is ih => exact ih (h.set i)
section
variable {rf : Nat → Rf}
theorem rf_mono {r : Rf} {b b' : Bool} (h : b = true → b' = true) : r.fl b ≤ r.fl b' := by
  cases b <;> cases b' <;> first
    | exact Nat.le_refl _
    | (cases r <;> decide)
    | exact absurd (h rfl) (by decide)
mutual
theorem fl_mono : ∀ (e : Ex) (κ κ' : Kd), KLe κ κ' → flE rf e κ ≤ flE rf e κ'
  | .var i, κ, κ', h => by
    simp only [flE]
    have := h.2 i
    cases h1 : kd κ i <;> cases h2 : kd κ' i <;> simp_all
  | .cst _, _, _, _ => Nat.le_refl _
  | .glo _, _, _, _ => Nat.le_refl _
  | .tup es, κ, κ', h => by
    simp only [flE]
    have := flL_mono es κ κ' h
    split <;> simp_all
  | .lst es, κ, κ', h => by
    simp only [flE]
    have := flL_mono es κ κ' h
    split <;> simp_all
  | .bin _ a b, κ, κ', h => by
    simp only [flE]
    have h1 := fl_mono a κ κ' h
    have h2 := fl_mono b κ κ' h
    split <;> split <;> omega
  | .neg _, _, _, _ => Nat.le_refl _
  | .cmp _ _ _, _, _, _ => Nat.le_refl _
  | .isn _ _, _, _, _ => Nat.le_refl _
  | .and _ _, _, _, _ => Nat.le_refl _
  | .or _ _, _, _, _ => Nat.le_refl _
  | .not _, _, _, _ => Nat.le_refl _
  | .ife _ a b, κ, κ', h => by
    simp only [flE]
    have h1 := fl_mono a κ κ' h
    have h2 := fl_mono b κ κ' h
    omega
  | .idx a _, κ, κ', h => by
    simp only [flE]
    have h1 := fl_mono a κ κ' h
    split <;> split <;> omega
  | .slc a _ _, κ, κ', h => by
    simp only [flE]
    have h1 := fl_mono a κ κ' h
    split <;> split <;> omega
  | .cal f es, κ, κ', h => by
    simp only [flE]
    exact rf_mono (flL_mono es κ κ' h)
  | .bi b es, κ, κ', h => by
    have := flL1_mono es κ κ' h
    cases b <;> simp only [flE] <;> first
      | exact Nat.le_refl _
      | (split <;> simp_all)
  | .isi _ _, _, _, _ => Nat.le_refl _
  | .lrev a, κ, κ', h => by
    simp only [flE]
    have h1 := fl_mono a κ κ' h
    split <;> split <;> omega
  | .bits _, _, _, _ => Nat.le_refl _
  | .srt a _, κ, κ', h => by
    simp only [flE]
    have h1 := fl_mono a κ κ' h
    split <;> split <;> omega
  | .srt1 _, _, _, _ => Nat.le_refl _
  | .comp e t s _, κ, κ', h => by
    simp only [flE]
    have h1 := fl_mono e _ _ (h.bind t)
    have h2 := flS_mono s κ κ' h
    by_cases q : 2 ≤ flE rf e (bindK t .shr κ) ∧ flS rf s κ = true
    · rw [if_pos q, if_pos ⟨by omega, h2 q.2⟩]
      exact Nat.le_refl _
    · rw [if_neg q]
      exact Nat.zero_le _
theorem flL_mono : ∀ (es : List Ex) (κ κ' : Kd), KLe κ κ' → flL rf es κ = true → flL rf es κ' = true
  | [], _, _, _, _ => rfl
  | e :: es, κ, κ', h, q => by
    simp only [flL, Bool.and_eq_true, decide_eq_true_eq] at q ⊢
    exact ⟨Nat.le_trans q.1 (fl_mono e κ κ' h), flL_mono es κ κ' h q.2⟩
theorem flL1_mono : ∀ (es : List Ex) (κ κ' : Kd), KLe κ κ' → flL1 rf es κ = true → flL1 rf es κ' = true
  | [], _, _, _, _ => rfl
  | e :: es, κ, κ', h, q => by
    simp only [flL1, Bool.and_eq_true, decide_eq_true_eq] at q ⊢
    exact ⟨Nat.le_trans q.1 (fl_mono e κ κ' h), flL1_mono es κ κ' h q.2⟩
theorem flS_mono : ∀ (s : Sr) (κ κ' : Kd), KLe κ κ' → flS rf s κ = true → flS rf s κ' = true
  | .seq e, κ, κ', h, q => by
    simp only [flS, decide_eq_true_eq] at q ⊢
    exact Nat.le_trans q (fl_mono e κ κ' h)
  | .rng _, _, _, _, _ => rfl
  | .zip a b, κ, κ', h, q => by
    simp only [flS, Bool.and_eq_true, decide_eq_true_eq] at q ⊢
    exact ⟨Nat.le_trans q.1 (fl_mono a κ κ' h), Nat.le_trans q.2 (fl_mono b κ κ' h)⟩
  | .zip3 a b c, κ, κ', h, q => by
    simp only [flS, Bool.and_eq_true, decide_eq_true_eq] at q ⊢
    exact ⟨⟨Nat.le_trans q.1.1 (fl_mono a κ κ' h), Nat.le_trans q.1.2 (fl_mono b κ κ' h)⟩, Nat.le_trans q.2 (fl_mono c κ κ' h)⟩
  | .enm e, κ, κ', h, q => by
    simp only [flS, decide_eq_true_eq] at q ⊢
    exact Nat.le_trans q (fl_mono e κ κ' h)
  | .rev e, κ, κ', h, q => by
    simp only [flS, decide_eq_true_eq] at q ⊢
    exact Nat.le_trans q (fl_mono e κ κ' h)
end
end

/-! ### the walked -/
/-- what is walked is not what the body may change -/
def okS (rf : Nat → Rf) : Sr → Kd → Bool
  | .seq (.var i), κ => match kd κ i with
    | .own => false
    | .arg => false
    | _ => true
  | .seq e, κ => decide (2 ≤ flE rf e κ)
  | .rng _, _ => true
  | .zip a b, κ => decide (2 ≤ flE rf a κ) && decide (2 ≤ flE rf b κ)
  | .zip3 a b c, κ => (decide (2 ≤ flE rf a κ) && decide (2 ≤ flE rf b κ)) && decide (2 ≤ flE rf c κ)
  | .enm e, κ => decide (2 ≤ flE rf e κ)
  | .rev e, κ => decide (2 ≤ flE rf e κ)
structure SS (D : Wd) (X : Cx) (tg it : Expr) (s : Sr) : Prop where
  run : ∀ (κ : Kd) (ρ : Env) (σ : L2.St) (H : Hp) (O : Addr → Prop) (W : WX) (R : It → Hp → Prop), Rel X.K κ ρ σ H O → flS D.rf s κ = true →
    Post (evS D.cf D.gl s ρ) (fun ds => ∀ J H' fp, Same H H' → WD X.K O true J H' ds fp → (okS D.rf s κ = true → ∀ a ∈ fp, NotOwn κ ρ σ a) → R J H') (exB D X W σ H) → wI X tg it σ H R
section
variable {D : Wd} {X : Cx} {K : PySem.W.Frag} {κ : Kd} {ρ : Env} {σ : L2.St} {H H' : Hp} {O : Addr → Prop}
theorem notOwn_free {a : Addr} (r : Rel K κ ρ σ H O) (h : ¬ O a) : NotOwn κ ρ σ a := fun j d e k q => by
  obtain ⟨v, h1, h2⟩ := r.slot j d e
  obtain ⟨b, rfl, o1, _⟩ := h2.ref (isMu_own k)
  rw [h1] at q
  cases q
  exact h o1
theorem notOwn_kind {a : Addr} {u : HO} (r : Rel K κ ρ σ H O) (h : H a = some u) (n : ∀ xs, u ≠ .lst xs) : NotOwn κ ρ σ a := fun j d e k q => by
  obtain ⟨v, h1, h2⟩ := r.slot j d e
  obtain ⟨b, rfl, o1, o2⟩ := h2.ref (isMu_own k)
  rw [h1] at q
  cases q
  obtain ⟨xs, q⟩ := o2.tracked
  rw [h] at q
  cases q
  exact n xs rfl
/-- the tuple at a stands while its tracked cells stand -/
theorem sqT_fp {a : Addr} {vs : List V} (h : SqT K H a vs) : ∃ fp : List Addr, (∀ H2 : Hp, (∀ b ∈ fp, ∀ o, H b = some o → H2 b = some o) → SqT K H2 a vs) ∧ ∀ b ∈ fp, ∃ u, H b = some u ∧ ∀ xs, u ≠ .lst xs := by
  rcases h with (h | ⟨o, h⟩) | h
  · exact ⟨[a], fun H2 q => .inl (.inl (q a (by simp) _ h)), fun b hb => by
      have e : b = a := by simpa using hb
      subst e
      exact ⟨_, h, fun xs z => by cases z⟩⟩
  · exact ⟨[a], fun H2 q => .inl (.inr ⟨o, q a (by simp) _ h⟩), fun b hb => by
      have e : b = a := by simpa using hb
      subst e
      exact ⟨_, h, fun xs z => by cases z⟩⟩
  · exact ⟨[], fun H2 _ => .inr h, fun b hb => by cases hb⟩
theorem roR_fp {a : Addr} {vs : List V} (h : RoR K H a vs) : ∃ fp : List Addr, (∀ H2 : Hp, (∀ b ∈ fp, ∀ o, H b = some o → H2 b = some o) → SqL K H2 a vs) ∧ ∀ b ∈ fp, ∃ u, H b = some u ∧ ∀ xs, u ≠ .lst xs := by
  rcases h with ⟨o, h⟩ | h
  · exact ⟨[a], fun H2 q => .inl (.inr ⟨o, q a (by simp) _ h⟩), fun b hb => by
      have e : b = a := by simpa using hb
      subst e
      exact ⟨_, h, fun xs z => by cases z⟩⟩
  · exact ⟨[], fun H2 _ => .inr h, fun b hb => by cases hb⟩
/-- a value that is walked: list, tuple, text -/
theorem seq_w {tg it : Expr} {v : V} {d : Dat} {R : It → Hp → Prop} {B : Dat → Prop} (h : D1 X.K O H v d)
    (q : Post (itemsD d) (fun ds => ∀ J fp, WD X.K O true J H ds fp → ((∀ a es, v = .ref a → d = .lst es → NotOwn κ ρ σ a) → ∀ a ∈ fp, NotOwn κ ρ σ a) → R J H) B) (r : Rel X.K κ ρ σ H O) :
    (∃ a, v = .ref a ∧ (∃ xs, SqL X.K H a xs) ∧ R (Itl X.K a) H) ∨ (∃ a, v = .ref a ∧ (∃ xs, SqT X.K H a xs) ∧ R (Itt X.K a) H) ∨ ∃ z, v = .str z ∧ R (Its z) H := by
  unfold itemsD at q
  split at q
  · obtain ⟨a, vs, rfl, l, dl⟩ := den_rol h
    obtain ⟨fp, f1, f2⟩ := roR_fp l
    exact .inl ⟨a, rfl, ⟨vs, l.sq⟩, q _ fp (wd_at (.of dl fun _ _ z => z) walk_list f1) fun _ b hb => by
      obtain ⟨u, h1, h2⟩ := f2 b hb
      exact notOwn_kind r h1 h2⟩
  · obtain ⟨a, vs, rfl, l, dl⟩ := h
    exact .inl ⟨a, rfl, ⟨vs, .of l⟩, q _ [a] (wd_at (.of dl fun _ _ z => z) walk_list fun H2 q => .of (q a (by simp) _ l)) fun n b hb => by
      have e : b = a := by simpa using hb
      subst e
      exact n b _ rfl rfl⟩
  · obtain ⟨a, vs, rfl, l, dl⟩ := den_tup h
    obtain ⟨fp, f1, f2⟩ := sqT_fp l
    exact .inr (.inl ⟨a, rfl, ⟨vs, l⟩, q _ fp (wd_at (.of dl fun _ _ z => z) walk_tup f1) fun _ b hb => by
      obtain ⟨u, h1, h2⟩ := f2 b hb
      exact notOwn_kind r h1 h2⟩)
  · rename_i z
    cases h
    refine .inr (.inr ⟨z, rfl, q _ [] ⟨?_⟩ fun _ b hb => by cases hb⟩)
    rw [List.length_map, Array.length_toList]
    refine walk_str.mono (fun _ _ => trivial) fun i H2 v H3 hi _ y => ?_
    obtain ⟨rfl, c, e, rfl⟩ := y
    refine ⟨Same.refl _, .str ⟨#[c]⟩, ?_, fun O' _ _ => .str _⟩
    rw [List.getElem?_map, Array.getElem?_toList, e]
    rfl
  · exact False.elim q
theorem wI_seq {tg it : Expr} {R : It → Hp → Prop} (h : wE X it σ H fun v H1 => (∃ a, v = .ref a ∧ (∃ xs, SqL X.K H1 a xs) ∧ R (Itl X.K a) H1) ∨ (∃ a, v = .ref a ∧ (∃ xs, SqT X.K H1 a xs) ∧ R (Itt X.K a) H1) ∨ ∃ z, v = .str z ∧ R (Its z) H1) : wI X tg it σ H R := by
  intro pins s I
  refine thn (h pins s I) fun u s1 ⟨v, H1, I1, rv, q⟩ => ?_
  rcases q with ⟨a, rfl, ⟨xs, hq⟩, q⟩ | ⟨a, rfl, ⟨xs, hq⟩, q⟩ | ⟨x, rfl, q⟩
  · cases rv
    obtain ⟨its, rv, p, hz⟩ := I1.list hq
    refine wpAny_pyIter_list p.isList ?_
    refine ⟨s1.heap.objs.size, [s1.heap.objs.size], _, _, H1, rfl, I1.kept (t' := s1.toks) fun b o e => Heap.get?_push_of_some _ e, turn_list a _, ⟨_, Heap.get?_push_size _ rfl, rfl, rfl⟩, fun b hb => ?_, q⟩
    have e : b = s1.heap.objs.size := by simpa using hb
    subst e
    exact I1.fpOk (Nat.le_refl _) (I1.hok.fresh (Nat.le_refl _))
  · cases rv
    obtain ⟨its, rv, p, hz⟩ := I1.tuple hq
    refine wpAny_pyIter_tuple (show s1.heap.IsTuple a its.toArray from p) ?_
    refine ⟨s1.heap.objs.size, [s1.heap.objs.size], _, _, H1, rfl, I1.kept (t' := s1.toks) fun b o e => Heap.get?_push_of_some _ e, turn_tuple a _, ⟨_, Heap.get?_push_size _ rfl, rfl, rfl⟩, fun b hb => ?_, q⟩
    have e : b = s1.heap.objs.size := by simpa using hb
    subst e
    exact I1.fpOk (Nat.le_refl _) (I1.hok.fresh (Nat.le_refl _))
  · obtain ⟨t, rfl⟩ := rv
    cases ha : x.cps.all (· < 128)
    · exact wpAny_pyIter_wide ha (pi_one (tk := s1.toks) I1 _ (turn_str _ x t "str_iterator" (.inr rfl)) ⟨_, Heap.get?_push_size _ rfl, rfl, rfl⟩ q)
    · exact wpAny_pyIter_ascii ha (pi_one (tk := s1.toks) I1 _ (turn_str _ x t "str_ascii_iterator" (.inl rfl)) ⟨_, Heap.get?_push_size _ rfl, rfl, rfl⟩ q)
theorem ss_seq {tg it : Expr} {x : Ex} (h : SE D X it x) (hv : ∀ i, x ≠ .var i) : SS D X tg it (.seq x) := by
  refine ⟨fun κ ρ σ H O W R r fs p => wI_seq ?_⟩
  simp only [evS] at p
  simp only [flS, decide_eq_true_eq] at fs
  refine h.run κ ρ σ H O W _ r (p.bind.imp (fun d _ q v H1 s1 p1 => ?_) fun z q => q)
  refine seq_w (κ := κ) (ρ := ρ) (σ := σ) (tg := tg) (it := it) (p1.one fs) (q.imp (fun ds _ q J fp w n => q J H1 fp s1 w fun ok => n fun a es e ed => ?_) fun z q => q) (r.same s1)
  subst e ed
  have ok : 2 ≤ flE D.rf x κ := by
    cases x with
    | var i => exact absurd rfl (hv i)
    | _ => simpa [okS] using ok
  obtain ⟨a', vs, e, l, _⟩ := den_lst (p1.two ok)
  cases e
  exact notOwn_free r l.2
theorem ss_var {tg : Expr} {i : Nat} {y : Str} {pos : Pos} (hN : X.N[i]? = some y) (hv : Vis X.env.scope y) (hd : (y == ("__debug__" : Str)) = false) (hcd : (y == ("__classdict__" : Str)) = false) : SS D X tg (.Name y pos) (.seq (.var i)) := by
  refine ⟨fun κ ρ σ H O W R r fs p => wI_seq (of_pe (pe_var hN hv hd hcd) ?_)⟩
  simp only [evS, evE, getV] at p
  split at p
  · rename_i d e
    obtain ⟨v, h1, h2⟩ := r.slot i d e
    have hd1 : D1 X.K O H v d := by
      cases hk : kd κ i with
      | shr => rw [hk] at h2; exact Den.d1 h2
      | own => rw [hk] at h2; obtain ⟨a, rfl, _, o⟩ := h2; exact o.d1
      | lent => rw [hk] at h2; obtain ⟨a, rfl, _, o⟩ := h2; exact o.d1
      | arg => rw [hk] at h2; obtain ⟨a, rfl, _, o⟩ := h2; exact o.d1
    refine ⟨v, h1, seq_w (κ := κ) (ρ := ρ) (σ := σ) (tg := tg) (it := .Name y pos) hd1 ((show Post (itemsD d) _ _ from p).imp (fun ds _ q J fp w n => q J H fp (Same.refl H) w fun ok => n fun a es ea ed j dj ej kj qj => ?_) fun z q => q) r⟩
    subst ea ed
    simp only [okS] at ok
    cases hk : kd κ i with
    | own => rw [hk] at ok; cases ok
    | arg => rw [hk] at ok; cases ok
    | shr =>
      rw [hk] at h2
      obtain ⟨w, g1, g2⟩ := r.slot j dj ej
      obtain ⟨b, rfl, o1, o2⟩ := g2.ref (isMu_own kj)
      rw [qj] at g1
      cases g1
      obtain ⟨xs, hx⟩ := o2.tracked
      cases h2 with
      | lst l _ => exact l.2 o1
    | lent =>
      have := r.inj i j (.lst es) dj a e ej (by rw [hk]; rfl) (isMu_own kj) h1 qj
      rw [← this, hk] at kj
      cases kj
  · exact False.elim p
/-! ranges -/
theorem map_get {α β : Type} (f : α → β) (l : List α) (i : Nat) : (l.map f)[i]? = l[i]?.map f := List.getElem?_map
theorem range_get {n i : Nat} (h : i < n) : (List.range n)[i]? = some i := by rw [List.getElem?_range h]
theorem wd_range {lo : Int} {n : Nat} : WD K O true (Itr lo n) H ((List.range n).map fun i => Dat.int (lo + (i : Nat))) [] := by
  refine wd_fn (walk_range (lo := lo) (n := n)) (by rw [List.length_map, List.length_range]) (fun _ => trivial) fun i d e => ?_
  rw [map_get] at e
  obtain ⟨j, e1, e2⟩ := Option.map_eq_some_iff.mp e
  have hj : i < n := by
    have := (List.getElem?_eq_some_iff.mp e1).1
    rwa [List.length_range] at this
  rw [range_get hj] at e1
  cases e1
  rw [← e2]
  rfl
theorem ss_rng1 {tg a : Expr} {x : Ex} {y : Str} {p pos : Pos} (hy : y = "range") (hg : Gl X y) (hm : X.mg y = none) (hs : isStar a = false) (h : SE D X a x) : SS D X tg (.Call (.Name y p) [a] [] pos) (.rng [x]) := by
  subst hy
  refine ⟨fun κ ρ σ H O W R r fs p => of_pi (pi_range1 hg hm (pa_cons pe_w pa_nil (starEach_cons hs)) (starEach_cons hs)) ?_⟩
  simp only [evS, evL] at p
  rw [bind_assoc] at p
  refine h.run κ ρ σ H O W _ r (p.bind.imp (fun d _ q v H1 s1 p1 => ?_) fun z q => q)
  have q9 : Post (rngD [d]) _ _ := q
  unfold rngD at q9
  split at q9
  · rename_i n e
    cases e
    cases p1.any
    split at q9
    · rename_i hz
      rw [Bool.and_eq_true, decide_eq_true_eq, decide_eq_true_eq] at hz
      exact ⟨n, rfl, hz.1, hz.2, q9 _ H1 [] s1 wd_range fun _ b hb => by cases hb⟩
    · exact False.elim q9
  · rename_i e
    cases e
  · exact False.elim q9
theorem ss_rng2 {tg a b : Expr} {x x2 : Ex} {y : Str} {p pos : Pos} (hy : y = "range") (hg : Gl X y) (hm : X.mg y = none) (hs : isStar a = false) (hs2 : isStar b = false) (h : SE D X a x) (h2 : SE D X b x2) : SS D X tg (.Call (.Name y p) [a, b] [] pos) (.rng [x, x2]) := by
  subst hy
  have st2 : starEach [b] X.env = [(false, eval b X.env)] := starEach_cons hs2
  have st1 : starEach [a, b] X.env = [(false, eval a X.env), (false, eval b X.env)] := by rw [starEach_cons hs, st2]
  refine ⟨fun κ ρ σ H O W R r fs p => of_pi (pi_range2 hg hm (pa_cons pe_w (pa_cons pe_w pa_nil st2) (starEach_cons hs)) st1 st2) ?_⟩
  simp only [evS, evL] at p
  rw [bind_assoc] at p
  refine h.run κ ρ σ H O W _ r (p.bind.imp (fun d _ q v H1 s1 p1 => ?_) fun z q => q)
  rw [bind_assoc, bind_assoc] at q
  refine h2.run κ ρ σ H1 O W _ (r.same s1) (q.bind.imp (fun d2 _ q v2 H2 s2 p2 => ?_) fun z q => q.step s1)
  have q9 : Post (rngD [d, d2]) _ _ := q
  unfold rngD at q9
  split at q9
  · rename_i e
    cases e
  · rename_i n m e
    cases e
    cases p1.any
    cases p2.any
    split at q9
    · rename_i hz
      simp only [Bool.and_eq_true, decide_eq_true_eq] at hz
      exact ⟨n, m, rfl, ⟨hz.1.1.1, hz.1.1.2, hz.1.2, hz.2⟩, q9 _ H2 [] (s1.trans s2) wd_range fun _ b hb => by cases hb⟩
    · exact False.elim q9
  · exact False.elim q9
/-! zip, enumerate, reversed -/
theorem il_get {vs : List V} {ds : List Dat} (h : DenL K O H vs ds) : ∀ (i : Nat) (v : V), vs[i]? = some v → ∃ d, ds[i]? = some d ∧ ItD K O true H v d := fun i v e => h.get' e
theorem zip_get {xs ys : List Dat} (i : Nat) (x y : Dat) (h1 : xs[i]? = some x) (h2 : ys[i]? = some y) : ((xs.zip ys).map fun p => Dat.tup [p.1, p.2])[i]? = some (.tup [x, y]) := by
  have e : (xs.zip ys)[i]? = some (x, y) := List.getElem?_zip_eq_some.mpr ⟨h1, h2⟩
  rw [map_get, e]
  rfl
theorem zip_len (xs ys : List Dat) : ((xs.zip ys).map fun p => Dat.tup [p.1, p.2]).length = min xs.length ys.length := by rw [List.length_map, List.length_zip]
theorem walk_z2 {K : PySem.W.Frag} {k1 k2 : Bool} {a1 a2 : Addr} {xs ys : List V} {n : Nat} (hn : n = min xs.length ys.length) : Walk (ItZ2 K k1 k2 a1 a2) n (fun H => SqA K k1 H a1 xs ∧ SqA K k2 H a2 ys) (YPair (fun i => xs[i]?) (fun i => ys[i]?)) := by
  subst hn
  refine ⟨fun i _ hi q => ?_, fun _ q => ⟨xs, ys, q.1, q.2, rfl⟩, fun i H v H' _ q y => ?_⟩
  · have h1 : i < xs.length := by omega
    have h2 : i < ys.length := by omega
    exact ⟨xs, ys, xs[i], ys[i], q.1, q.2, by simp [h1], by simp [h2]⟩
  · obtain ⟨T, x, z, h1, h2, h3, h4, h5⟩ := y
    exact ⟨T, x, z, h1, h2, h3, h4 xs q.1, h5 ys q.2⟩
/-- a new tuple of the i-th of each -/
def YTrip (xs ys zs : Nat → Option V) : Nat → Hp → V → Hp → Prop := fun i H v H' => ∃ T x y z, v = .ref T ∧ H T = none ∧ H' = upd H T (.tup [x, y, z]) ∧ xs i = some x ∧ ys i = some y ∧ zs i = some z
theorem walk_z3 {K : PySem.W.Frag} {k1 k2 k3 : Bool} {a1 a2 a3 : Addr} {xs ys zs : List V} {n : Nat} (hn : n = min (min xs.length ys.length) zs.length) : Walk (ItZ3 K k1 k2 k3 a1 a2 a3) n (fun H => SqA K k1 H a1 xs ∧ SqA K k2 H a2 ys ∧ SqA K k3 H a3 zs) (YTrip (fun i => xs[i]?) (fun i => ys[i]?) (fun i => zs[i]?)) := by
  subst hn
  refine ⟨fun i _ hi q => ?_, fun _ q => ⟨xs, ys, zs, q.1, q.2.1, q.2.2, rfl⟩, fun i H v H' _ q y => ?_⟩
  · have h1 : i < xs.length := by omega
    have h2 : i < ys.length := by omega
    have h3 : i < zs.length := by omega
    exact ⟨xs, ys, zs, xs[i], ys[i], zs[i], q.1, q.2.1, q.2.2, by simp [h1], by simp [h2], by simp [h3]⟩
  · obtain ⟨T, x, y, z, h1, h2, h3, h4, h5, h6⟩ := y
    exact ⟨T, x, y, z, h1, h2, h3, h4 xs q.1, h5 ys q.2.1, h6 zs q.2.2⟩
theorem walk_e1 {K : PySem.W.Frag} {k1 : Bool} {a : Addr} {xs : List V} : Walk (ItE1 K k1 a) xs.length (fun H => SqA K k1 H a xs) (YPair (fun i => some (.int (i : Nat))) (fun i => xs[i]?)) := by
  refine ⟨fun i _ hi q => ⟨xs, xs[i], q, by simp [hi]⟩, fun _ q => ⟨xs, q, rfl⟩, fun i H v H' _ q y => ?_⟩
  obtain ⟨T, x, h1, h2, h3, h4⟩ := y
  exact ⟨T, _, x, h1, h2, h3, rfl, h4 xs q⟩
theorem wd_trip {b : Bool} {J : It} {n : Nat} {fx fy fz : Nat → Option V} {gx gy gz : Nat → Option Dat} {ds : List Dat} {fp : List Addr} {G : Hp → Prop} (w : Walk J n G (YTrip fx fy fz)) (hn : n = ds.length) (g : ∀ H2, (∀ a ∈ fp, ∀ o, H a = some o → H2 a = some o) → G H2)
    (hx : ∀ (i : Nat) (v : V), fx i = some v → ∃ d, gx i = some d ∧ ItD K O b H v d) (hy : ∀ (i : Nat) (v : V), fy i = some v → ∃ d, gy i = some d ∧ ItD K O b H v d) (hz : ∀ (i : Nat) (v : V), fz i = some v → ∃ d, gz i = some d ∧ ItD K O b H v d)
    (hd : ∀ (i : Nat) (x y z : Dat), gx i = some x → gy i = some y → gz i = some z → ds[i]? = some (.tup [x, y, z])) : WD K O b J H ds fp := by
  subst hn
  refine ⟨w.mono g fun i H2 v H3 hi hg q => ?_⟩
  obtain ⟨T, x, y, z, rfl, hT, rfl, e1, e2, e3⟩ := q
  obtain ⟨d1, p1, q1⟩ := hx i x e1
  obtain ⟨d2, p2, q2⟩ := hy i y e2
  obtain ⟨d3, p3, q3⟩ := hz i z e3
  have s := same_new (o := .tup [x, y, z]) hT
  refine ⟨s, _, hd i d1 d2 d3 p1 p2 p3, fun O' f f2 => ?_⟩
  have r1 := f2 _ _ _ s (f x d1 q1)
  have r2 := f2 _ _ _ s (f y d2 q2)
  have r3 := f2 _ _ _ s (f z d3 q3)
  exact .tup (.of upd_same) (.cons r1 (.cons r2 (.cons r3 .nil)))
theorem zip3_get {xs ys zs : List Dat} (i : Nat) (x y z : Dat) (h1 : xs[i]? = some x) (h2 : ys[i]? = some y) (h3 : zs[i]? = some z) : (zipL3 xs ys zs)[i]? = some (.tup [x, y, z]) := by
  have e1 : (ys.zip zs)[i]? = some (y, z) := List.getElem?_zip_eq_some.mpr ⟨h2, h3⟩
  have e : (xs.zip (ys.zip zs))[i]? = some (x, (y, z)) := List.getElem?_zip_eq_some.mpr ⟨h1, e1⟩
  unfold zipL3
  rw [map_get, e]
  rfl
theorem zip3_len (xs ys zs : List Dat) : (zipL3 xs ys zs).length = min (min xs.length ys.length) zs.length := by
  unfold zipL3
  rw [List.length_map, List.length_zip, List.length_zip]
  omega
/-- a list or tuple as data: what stands at its root -/
theorem seq_den' {v : V} {d : Dat} {ds : List Dat} (e : seqD d = .ok ds) (h : D1 K O H v d) : ∃ (k : Bool) (a : Addr) (us : List V) (fp : List Addr), v = .ref a ∧ SqA K k H a us ∧ DenL K O H us ds ∧ (∀ H2 : Hp, (∀ b ∈ fp, ∀ o, H b = some o → H2 b = some o) → SqA K k H2 a us) ∧
    ∀ (κ : Kd) (ρ : Env) (σ : L2.St) (H0 : Hp), Rel K κ ρ σ H O → (∀ xs, d = .lst xs → Den K O H0 v d) → ∀ b ∈ fp, NotOwn κ ρ σ b := by
  unfold seqD at e
  split at e
  · cases e
    obtain ⟨a, us, rfl, l, dl⟩ := h
    refine ⟨true, a, us, [a], rfl, .inl ⟨rfl, .of l⟩, dl, fun H2 q => .inl ⟨rfl, .of (q a (by simp) _ l)⟩, fun κ ρ σ H0 r n b hb => ?_⟩
    have e : b = a := by simpa using hb
    subst e
    obtain ⟨_, _, e, l2, _⟩ := den_lst (n _ rfl)
    cases e
    exact notOwn_free r l2.2
  · cases e
    obtain ⟨a, us, rfl, l, dl⟩ := den_tup h
    obtain ⟨fp, g, n⟩ := sqT_fp l
    exact ⟨false, a, us, fp, rfl, .inr ⟨rfl, l⟩, dl, fun H2 q => .inr ⟨rfl, g H2 q⟩, fun κ ρ σ H0 r _ b hb => by
      obtain ⟨u, e1, e2⟩ := n b hb
      exact notOwn_kind r e1 e2⟩
  · cases e
    obtain ⟨a, us, rfl, l, dl⟩ := den_rol h
    obtain ⟨fp, g, n⟩ := roR_fp l
    exact ⟨true, a, us, fp, rfl, .inl ⟨rfl, l.sq⟩, dl, fun H2 q => .inl ⟨rfl, g H2 q⟩, fun κ ρ σ H0 r _ b hb => by
      obtain ⟨u, e1, e2⟩ := n b hb
      exact notOwn_kind r e1 e2⟩
  · cases e
theorem fp_app {f1 f2 : List Addr} {H2 : Hp} (g : ∀ b ∈ f1 ++ f2, ∀ o, H b = some o → H2 b = some o) : (∀ b ∈ f1, ∀ o, H b = some o → H2 b = some o) ∧ ∀ b ∈ f2, ∀ o, H b = some o → H2 b = some o :=
  ⟨fun b hb => g b (List.mem_append_left _ hb), fun b hb => g b (List.mem_append_right _ hb)⟩
theorem post_seq {d : Dat} {α : Type} {f : List Dat → Rs α} {Q : α → Prop} {B : Dat → Prop} (h : Post ((seqD d).bind f) Q B) : ∃ ds, seqD d = .ok ds ∧ Post (f ds) Q B := by
  cases e : seqD d with
  | ok ds => rw [e] at h; exact ⟨ds, rfl, h⟩
  | ex x =>
    unfold seqD at e
    split at e <;> cases e
  | no => rw [e] at h; exact False.elim h
theorem ss_zip {elts : List Expr} {kk : Nat} {tpos : Pos} {a b : Expr} {x x2 : Ex} {y : Str} {p pos : Pos} (hy : y = "zip") (hg : Gl X y) (hm : X.mg y = none) (hs : isStar a = false) (hs2 : isStar b = false) (h : SE D X a x) (h2 : SE D X b x2) :
    SS D X (.Tuple elts kk tpos) (.Call (.Name y p) [a, b] [] pos) (.zip x x2) := by
  subst hy
  have st2 : starEach [b] X.env = (false, eval b X.env) :: starEach [] X.env := starEach_cons hs2
  refine ⟨fun κ ρ σ H O W R r fs p => of_pi (pi_zip2 hg hm (pa_cons pe_w (pa_cons pe_w pa_nil st2) (starEach_cons hs)) (starEach_cons hs) (by rw [st2]; rfl)) ?_⟩
  simp only [evS] at p
  simp only [flS, Bool.and_eq_true, decide_eq_true_eq] at fs
  refine h.run κ ρ σ H O W _ r (p.bind.imp (fun d _ q v H1 s1 p1 => ?_) fun z q => q)
  refine h2.run κ ρ σ H1 O W _ (r.same s1) (q.bind.imp (fun d2 _ q v2 H2 s2 p2 => ?_) fun z q => q.step s1)
  unfold zipD at q
  obtain ⟨xs, e1, q⟩ := post_seq q
  obtain ⟨ys, e2, q⟩ := post_seq q
  obtain ⟨k1, a1, us, f1, rfl, l1, d1, g1, n1⟩ := seq_den' e1 ((p1.same s2).one fs.1)
  obtain ⟨k2, a2, ws, f2, rfl, l2, d2', g2, n2⟩ := seq_den' e2 (p2.one fs.2)
  refine ⟨k1, k2, a1, a2, us, ws, rfl, l1, l2, q _ H2 (f1 ++ f2) (s1.trans s2) ?_ ?_⟩
  · exact wd_pair (gx := fun i => xs[i]?) (gy := fun i => ys[i]?) (walk_z2 rfl) (by rw [zip_len, d1.len, d2'.len]) (fun H3 g => ⟨g1 H3 (fp_app g).1, g2 H3 (fp_app g).2⟩) (il_get d1) (il_get d2') zip_get
  · intro ok b hb
    simp only [okS, Bool.and_eq_true, decide_eq_true_eq] at ok
    have r' := r.same (s1.trans s2)
    rcases List.mem_append.mp hb with hb | hb
    · exact n1 κ ρ σ H1 r' (fun _ _ => p1.two ok.1) b hb
    · exact n2 κ ρ σ H2 r' (fun _ _ => p2.two ok.2) b hb
theorem ss_zip3 {elts : List Expr} {kk : Nat} {tpos : Pos} {a b c : Expr} {x x2 x3 : Ex} {y : Str} {p pos : Pos} (hy : y = "zip") (hg : Gl X y) (hm : X.mg y = none) (hs : isStar a = false) (hs2 : isStar b = false) (hs3 : isStar c = false) (h : SE D X a x) (h2 : SE D X b x2) (h3 : SE D X c x3) :
    SS D X (.Tuple elts kk tpos) (.Call (.Name y p) [a, b, c] [] pos) (.zip3 x x2 x3) := by
  subst hy
  have st3 : starEach [c] X.env = (false, eval c X.env) :: starEach [] X.env := starEach_cons hs3
  have st2 : starEach [b, c] X.env = (false, eval b X.env) :: starEach [c] X.env := starEach_cons hs2
  refine ⟨fun κ ρ σ H O W R r fs p => of_pi (pi_zip3 hg hm (pa_cons pe_w (pa_cons pe_w (pa_cons pe_w pa_nil st3) st2) (starEach_cons hs)) (starEach_cons hs) (by rw [st2, st3]; rfl)) ?_⟩
  simp only [evS] at p
  simp only [flS, Bool.and_eq_true, decide_eq_true_eq] at fs
  refine h.run κ ρ σ H O W _ r (p.bind.imp (fun d _ q v H1 s1 p1 => ?_) fun z q => q)
  refine h2.run κ ρ σ H1 O W _ (r.same s1) (q.bind.imp (fun d2 _ q v2 H2 s2 p2 => ?_) fun z q => q.step s1)
  refine h3.run κ ρ σ H2 O W _ (r.same (s1.trans s2)) (q.bind.imp (fun d3 _ q v3 H3 s3 p3 => ?_) fun z q => q.step (s1.trans s2))
  unfold zipD3 at q
  obtain ⟨xs, e1, q⟩ := post_seq q
  obtain ⟨ys, e2, q⟩ := post_seq q
  obtain ⟨zs, e3, q⟩ := post_seq q
  obtain ⟨k1, a1, us, f1, rfl, l1, d1, g1, n1⟩ := seq_den' e1 ((p1.same (s2.trans s3)).one fs.1.1)
  obtain ⟨k2, a2, ws, f2, rfl, l2, d2', g2, n2⟩ := seq_den' e2 ((p2.same s3).one fs.1.2)
  obtain ⟨k3, a3, ts, f3, rfl, l3, d3', g3, n3⟩ := seq_den' e3 (p3.one fs.2)
  refine ⟨k1, k2, k3, a1, a2, a3, us, ws, ts, rfl, l1, l2, l3, q _ H3 (f1 ++ (f2 ++ f3)) ((s1.trans s2).trans s3) ?_ ?_⟩
  · exact wd_trip (gx := fun i => xs[i]?) (gy := fun i => ys[i]?) (gz := fun i => zs[i]?) (walk_z3 rfl) (by rw [zip3_len, d1.len, d2'.len, d3'.len]) (fun H4 g => ⟨g1 H4 (fp_app g).1, g2 H4 (fp_app (fp_app g).2).1, g3 H4 (fp_app (fp_app g).2).2⟩) (il_get d1) (il_get d2') (il_get d3') zip3_get
  · intro ok b hb
    simp only [okS, Bool.and_eq_true, decide_eq_true_eq] at ok
    have r' := r.same ((s1.trans s2).trans s3)
    rcases List.mem_append.mp hb with hb | hb
    · exact n1 κ ρ σ H1 r' (fun _ _ => p1.two ok.1.1) b hb
    · rcases List.mem_append.mp hb with hb | hb
      · exact n2 κ ρ σ H2 r' (fun _ _ => p2.two ok.1.2) b hb
      · exact n3 κ ρ σ H3 r' (fun _ _ => p3.two ok.2) b hb
theorem ss_enm {elts : List Expr} {kk : Nat} {tpos : Pos} {a : Expr} {x : Ex} {y : Str} {p pos : Pos} (hy : y = "enumerate") (hg : Gl X y) (hm : X.mg y = none) (hs : isStar a = false) (h : SE D X a x) :
    SS D X (.Tuple elts kk tpos) (.Call (.Name y p) [a] [] pos) (.enm x) := by
  subst hy
  refine ⟨fun κ ρ σ H O W R r fs p => of_pi (pi_enum1 hg hm (pa_cons pe_w pa_nil (starEach_cons hs)) (starEach_cons hs)) ?_⟩
  simp only [evS] at p
  simp only [flS, decide_eq_true_eq] at fs
  refine h.run κ ρ σ H O W _ r (p.bind.imp (fun d _ q v H1 s1 p1 => ?_) fun z q => q)
  unfold enmD at q
  obtain ⟨xs, e1, q⟩ := post_seq q
  obtain ⟨k1, a1, us, f1, rfl, l1, d1, g1, n1⟩ := seq_den' e1 (p1.one fs)
  refine ⟨k1, a1, us, rfl, l1, q _ H1 f1 s1 ?_ ?_⟩
  · refine wd_pair (gx := fun i => some (.int (i : Nat))) (gy := fun i => xs[i]?) walk_e1 (by rw [List.length_map, List.length_zipIdx, d1.len]) (fun H3 g => g1 H3 g) (fun i v e => ⟨.int (i : Nat), rfl, ?_⟩) (il_get d1) fun i x y e1 e2 => ?_
    · cases e
      exact .int _
    · cases e1
      rw [map_get, List.getElem?_zipIdx, e2]
      simp
  · intro ok b hb
    simp only [okS, decide_eq_true_eq] at ok
    exact n1 κ ρ σ H1 (r.same s1) (fun _ _ => p1.two ok) b hb
theorem ss_rev {tg a : Expr} {x : Ex} {y : Str} {p pos : Pos} (hy : y = "reversed") (hg : Gl X y) (hm : X.mg y = none) (hs : isStar a = false) (h : SE D X a x) :
    SS D X tg (.Call (.Name y p) [a] [] pos) (.rev x) := by
  subst hy
  refine ⟨fun κ ρ σ H O W R r fs p => of_pi (pi_reversed hg hm (pa_cons pe_w pa_nil (starEach_cons hs)) (starEach_cons hs)) ?_⟩
  simp only [evS] at p
  simp only [flS, decide_eq_true_eq] at fs
  refine h.run κ ρ σ H O W _ r (p.bind.imp (fun d _ q v H1 s1 p1 => ?_) fun z q => q)
  have q1 := p1.one fs
  cases d with
  | lst xs =>
    obtain ⟨a1, us, rfl, l1, d1⟩ := q1
    refine ⟨a1, us, rfl, .of l1, q _ H1 [a1] s1 ⟨?_⟩ ?_⟩
    · rw [List.length_reverse, ← d1.len]
      refine walk_rev.mono (fun H3 g => .of (g a1 (by simp) _ l1)) fun i H2 v H3 hi hg e => ?_
      obtain ⟨rfl, e⟩ := e
      obtain ⟨d, e1, e2⟩ := d1.get' e
      refine ⟨Same.refl _, d, ?_, fun O' f _ => f v d e2⟩
      rw [List.getElem?_reverse (by rw [← d1.len]; exact hi), ← d1.len]
      exact e1
    · intro ok b hb
      simp only [okS, decide_eq_true_eq] at ok
      have e : b = a1 := by simpa using hb
      subst e
      obtain ⟨_, _, e, l, _⟩ := den_lst (p1.two ok)
      cases e
      exact notOwn_free r l.2
  | _ => exact False.elim q
end
end PV

/-! PV, part I: comprehensions -/
namespace PV
open PySem PySem.Spec PyProof.Rows L2

theorem mapC_split {f : Dat → Rs (Option Dat)} : ∀ {ds : List Dat} {ys : List Dat}, mapC f ds = .ok ys → ∀ i, i ≤ ds.length → ∃ ys0, mapC f (ds.take i) = .ok ys0 ∧ ys0.length ≤ ys.length ∧
    ∀ d, ds[i]? = some d → ∃ o, f d = .ok o ∧ mapC f (ds.take (i + 1)) = .ok (ys0 ++ o.toList) ∧ (ys0 ++ o.toList).length ≤ ys.length
  | [], ys, h, i, hi => by
    have e : i = 0 := by simpa using hi
    subst e
    exact ⟨[], rfl, Nat.zero_le _, fun d e => by simp at e⟩
  | x :: xs, ys, h, i, hi => by
    unfold mapC at h
    cases hf : f x with
    | ok o =>
      rw [hf] at h
      obtain ⟨zs, h1, h2⟩ := Rs.bind_ok h
      cases h2
      cases i with
      | zero =>
        refine ⟨[], rfl, Nat.zero_le _, fun d e => ?_⟩
        have e' : x = d := by simpa using e
        subst e'
        refine ⟨o, hf, ?_, ?_⟩
        · show mapC f [x] = _
          simp only [mapC, hf]
          cases o <;> rfl
        · cases o <;> simp
      | succ i =>
        obtain ⟨ys0, g1, g2, g3⟩ := mapC_split h1 i (by simpa using hi)
        have e1 : mapC f (x :: xs.take i) = .ok (o.toList ++ ys0) := by
          unfold mapC
          rw [hf]
          show (mapC f (xs.take i)).bind _ = _
          rw [g1]
          cases o <;> rfl
        refine ⟨o.toList ++ ys0, e1, ?_, fun d e => ?_⟩
        · cases o with
          | none => exact g2
          | some y => exact Nat.succ_le_succ g2
        · obtain ⟨o', k1, k2, k3⟩ := g3 d (by simpa using e)
          refine ⟨o', k1, ?_, ?_⟩
          · show mapC f (x :: xs.take (i + 1)) = _
            unfold mapC
            rw [hf]
            show (mapC f (xs.take (i + 1))).bind _ = _
            rw [k2]
            cases o <;> rfl
          · cases o with
            | none => exact k3
            | some y => exact Nat.succ_le_succ k3
    | ex z => rw [hf] at h; cases h
    | no => rw [hf] at h; cases h

section
variable {D : Wd} {X : Cx}
/-- an expression of a block, whatever block it is -/
def bE (X : Cx) (scope : Scope) (e : Expr) : TE := fun σ H Q => ∀ (s0 : Shared) (H0 : Hp) (C : Addr) (cl : List (Str × Addr)) (fp : List Addr), wE (X.blk s0 H0 scope (compEnvC scope cl C X.env) fp) e σ H Q
def bT (X : Cx) (scope : Scope) (e : Expr) : TT := fun σ H Q => ∀ (s0 : Shared) (H0 : Hp) (C : Addr) (cl : List (Str × Addr)) (fp : List Addr), wT (X.blk s0 H0 scope (compEnvC scope cl C X.env) fp) e σ H Q
def bTs (X : Cx) (scope : Scope) : List Expr → TT
  | [] => tYes
  | e :: _ => bT X scope e
theorem pe_b {scope : Scope} {e : Expr} (s0 : Shared) (H0 : Hp) (C : Addr) (cl : List (Str × Addr)) (fp : List Addr) : PE (X.blk s0 H0 scope (compEnvC scope cl C X.env) fp) e (bE X scope e) := ⟨fun pins s σ H Q I h => h s0 H0 C cl fp pins s I⟩
theorem pt_b {scope : Scope} {e : Expr} (s0 : Shared) (H0 : Hp) (C : Addr) (cl : List (Str × Addr)) (fp : List Addr) : PT (X.blk s0 H0 scope (compEnvC scope cl C X.env) fp) e (bT X scope e) := ⟨fun pins s σ H Q I h => h s0 H0 C cl fp pins s I⟩
theorem pts_b {scope : Scope} : ∀ {es : List Expr}, es.length ≤ 1 → ∀ (s0 : Shared) (H0 : Hp) (C : Addr) (cl : List (Str × Addr)) (fp : List Addr), PTs (X.blk s0 H0 scope (compEnvC scope cl C X.env) fp) es (bTs X scope es)
  | [], _, _, _, _, _, _ => pts_nil
  | [e], _, s0, H0, C, cl, fp => pts_one (pt_b s0 H0 C cl fp)
  | _ :: _ :: _, h, _, _, _, _, _ => absurd h (by simp)
theorem Rel.frame {K : PySem.W.Frag} {κ : Kd} {ρ : Env} {σ : L2.St} {H H' : Hp} {O : Addr → Prop} {p : Addr} (r : Rel K κ ρ σ H O) (hp : H p = none) (e : Same H H') (ht : ∃ o, H' p = some o) : Rel K κ ρ σ H' (PV.plus O p) := by
  refine ⟨r.len, r.lenK, fun i d q => ?_, r.inj, fun a q => ?_⟩
  · obtain ⟨v, h1, h2⟩ := r.slot i d q
    refine ⟨v, h1, ?_⟩
    have own : ∀ a, Own K O H a d → Own K (PV.plus O p) H a d := fun a o => by
      cases d with
      | lst ds =>
        obtain ⟨vs, o1, o2⟩ := o
        exact ⟨vs, o1, o2.plus hp⟩
      | _ => exact False.elim o
    cases hk : kd κ i with
    | shr => rw [hk] at h2; exact (Den.plus hp h2).same e
    | own => rw [hk] at h2; obtain ⟨a, rfl, o1, o2⟩ := h2; exact ⟨a, rfl, .inl o1, (own a o2).mono e fun _ z => z⟩
    | lent => rw [hk] at h2; obtain ⟨a, rfl, o1, o2⟩ := h2; exact ⟨a, rfl, .inl o1, (own a o2).mono e fun _ z => z⟩
    | arg => rw [hk] at h2; obtain ⟨a, rfl, o1, o2⟩ := h2; exact ⟨a, rfl, .inl o1, (own a o2).mono e fun _ z => z⟩
  · rcases q with q | q
    · obtain ⟨o, z⟩ := r.trk a q
      exact ⟨o, e a o z⟩
    · rw [q]
      exact ht
/-- the test of a comprehension in a block -/
theorem tst_run {scope : Scope} {ifs : List Expr} {cs : List Ex} (h : ∀ (s0 : Shared) (H0 : Hp) (C : Addr) (cl : List (Str × Addr)) (fp : List Addr), F2 (SE D (X.blk s0 H0 scope (compEnvC scope cl C X.env) fp)) ifs cs) (hl : ifs.length ≤ 1) (hcl : ifs.length = cs.length) {κ : Kd} {ρ : Env} {σ : L2.St} {H : Hp} {O : Addr → Prop} {Q : Bool → Hp → Prop} {b : Bool}
    (r : Rel X.K κ ρ σ H O) (e : evC D.cf D.gl cs ρ = .ok b) (q : ∀ H', Same H H' → Q b H') : bTs X scope ifs σ H Q := by
  cases ifs with
  | nil =>
    cases cs with
    | cons _ _ => cases hcl
    | nil =>
      simp only [evC] at e
      cases e
      exact q H (Same.refl H)
  | cons c ifs =>
    cases ifs with
    | nil =>
      intro s0 H0 C cl fp
      cases h s0 H0 C cl fp with
      | @cons _ x _ xs h1 h2 =>
        cases h2
        simp only [evC] at e
        refine h1.tst κ ρ σ H O (fun _ _ _ _ => True) Q r ?_
        have e' : (evE D.cf D.gl x ρ).bind truth = .ok b := by
          rw [← bind_assoc] at e
          cases hh : (evE D.cf D.gl x ρ).bind truth with
          | ok k =>
            rw [hh] at e
            cases k with
            | true => simpa using e
            | false => simpa using e
          | ex z => rw [hh] at e; cases e
          | no => rw [hh] at e; cases e
        rw [e']
        exact q
    | cons _ _ => simp at hl
theorem comp_run {elt tg it : Expr} {ifs : List Expr} {scope : Scope} {x : Ex} {s : Sr} {cs : List Ex} {t : Tgt} {own : List (Str × Nat)} (hc : X.calm = true) (hN : X.N.Nodup) (ok : BlkOk X.N X.env.scope scope own) (how : own.map (·.2) = tgIx t)
    (hg : ∀ (s0 : Shared) (H0 : Hp) (C : Addr) (cl : List (Str × Addr)) (fp : List Addr), PG (X.blk s0 H0 scope (compEnvC scope cl C X.env) fp) tg (gT X.K t))
    (hS : SS D X tg it s) (hE : ∀ (s0 : Shared) (H0 : Hp) (C : Addr) (cl : List (Str × Addr)) (fp : List Addr), SE D (X.blk s0 H0 scope (compEnvC scope cl C X.env) fp) elt x)
    (hI : ∀ (s0 : Shared) (H0 : Hp) (C : Addr) (cl : List (Str × Addr)) (fp : List Addr), F2 (SE D (X.blk s0 H0 scope (compEnvC scope cl C X.env) fp)) ifs cs) (hl : ifs.length ≤ 1) (hcl : ifs.length = cs.length) (hs : ∀ x, foldedSetIterable it X.env x = pure x)
    {κ : Kd} {ρ : Env} {σ : L2.St} {H : Hp} {O : Addr → Prop} {W : WX} {Q : VK} (hfl : 2 ≤ flE D.rf x (bindK t .shr κ) ∧ flS D.rf s κ = true) (r : Rel X.K κ ρ σ H O)
    (p : Post (evE D.cf D.gl (.comp x t s cs) ρ) (fun d => ∀ v H', Same H H' → Pst X.K (flE D.rf (.comp x t s cs) κ) O H H' v d → Q v H') (exB D X W σ H)) : tLc (wI X tg it) (gT X.K t) (bTs X scope ifs) (bE X scope elt) (own.map (·.2)) σ H Q := by
  obtain ⟨fl1, fl2⟩ := hfl
  rw [how]
  simp only [evE] at p
  refine hS.run κ ρ σ H O W _ r fl2 (p.bind.imp (fun ds _ q J H1 fp s1 w _ => ?_) fun z q => q)
  intro A hA
  generalize hf : (fun x₁ => (bindT t x₁ ρ).bind fun ρ' => (evC D.cf D.gl cs ρ').bind fun k => if k = true then (evE D.cf D.gl x ρ').bind fun y => Rs.ok (some y) else Rs.ok none) = f at q
  cases hm : mapC f ds with
  | ex z =>
    have : ∀ (ds : List Dat) z, mapC f ds ≠ .ex z := by
      intro ds
      induction ds with
      | nil => intro z h; cases h
      | cons d ds ih =>
        intro z h
        unfold mapC at h
        split at h
        · rcases Rs.bind_ex h with h | ⟨a, h1, h2⟩
          · exact ih z h
          · cases h2
        · cases h
    exact absurd hm (this ds z)
  | no => rw [hm] at q; exact False.elim q
  | ok ys =>
    rw [hm] at q
    have q : Post (if decide (ys.length ≤ sizeLine) = true then (Rs.ok (.lst ys) : Rs Dat) else .no) _ _ := q
    split at q
    case isFalse => exact False.elim q
    rename_i hz
    have hz := of_decide_eq_true hz
    have q : ∀ v H', Same H H' → Pst X.K (flE D.rf (.comp x t s cs) κ) O H H' v (.lst ys) → Q v H' := q
    have r1 := r.same s1
    have nA : ∀ a, O a → a ≠ A := fun a ha e => by
      obtain ⟨o, z⟩ := r1.trk a ha
      rw [e, hA] at z
      cases z
    refine lc_it w.walk (Qd := fun H2 => Q (.ref A) H2) (fun i H2 => Same H1 H2 ∧ ∃ ys0 vs0, mapC f (ds.take i) = .ok ys0 ∧ H2 A = some (.lst vs0) ∧ DenL X.K (PV.plus O A) H2 vs0 ys0) ⟨same_new hA, [], [], rfl, upd_same, .nil⟩ (fun i H2 _ hp a _ o ha => hp.1 a o ha) ?_ ?_
    · rintro i v H2 H3 hi ⟨e2, ys0, vs0, m1, m2, m3⟩ ⟨s3, d, ed, hd⟩
      have rw1 := r1.wipe (tgIx t)
      have r3 : Rel X.K κ (wipeE ρ (tgIx t)) (wipe σ (tgIx t)) H3 (PV.plus O A) := rw1.frame hA (e2.trans s3) ⟨_, s3 _ _ m2⟩
      have id : ItD X.K (PV.plus O A) true H3 v d := hd (PV.plus O A) (fun v d q => (Den.plus hA q).same e2) fun H4 v d e q => q.same e
      obtain ⟨ys0', g1, g2, g3⟩ := mapC_split hm i (Nat.le_of_lt hi)
      rw [m1] at g1
      cases g1
      obtain ⟨o, k1, k2, k3⟩ := g3 d ed
      have k1' := k1
      rw [← hf] at k1'
      obtain ⟨ρ', b1, b2⟩ := Rs.bind_ok k1'
      obtain ⟨kb, b3, b4⟩ := Rs.bind_ok b2
      refine tg_run (b := true) (B := fun _ => True) (tgIx t) (fun _ z => z) r3 id ?_
      rw [bindT_wipe, b1]
      refine fun σ2 r4 w4 => ⟨w4.trans wipe_wipe, tst_run (X := X) (D := D) hI hl hcl r4 b3 fun H5 s5 => ?_⟩
      cases kb with
      | false =>
        rw [if_neg Bool.false_ne_true] at b4 ⊢
        cases b4
        have sm : Same H2 H5 := s3.trans s5
        refine ⟨e2.trans sm, ys0, vs0, ?_, sm _ _ m2, m3.same sm⟩
        rw [k2]
        simp
      | true =>
        rw [if_pos rfl] at b4 ⊢
        obtain ⟨y, b5, b6⟩ := Rs.bind_ok b4
        cases b6
        intro s0 H0 C cl fp'
        refine (hE s0 H0 C cl fp').run (bindK t (skOf true) κ) ρ' σ2 H5 (PV.plus O A) (fun _ _ _ _ => True) _ (r4.same s5) ?_
        rw [b5]
        intro vy H6 s6 p6
        have sm : Same H2 H6 := (s3.trans s5).trans s6
        have hH6 := sm _ _ m2
        have len0 : vs0.length = ys0.length := m3.len
        refine ⟨vs0, hH6, ?_, ?_, ys0 ++ [y], vs0 ++ [vy], k2, upd_same, ?_⟩
        · rw [len0]
          have : ys0.length + 1 ≤ ys.length := by simpa using k3
          omega
        · intro b u hb
          rw [upd_ne (ne_of_none hb hA)]
          exact (e2.trans sm) b u hb
        · exact ((m3.same sm).upd (.inr rfl) hH6).append (.cons ((p6.two fl1).upd (.inr rfl) hH6) .nil)
    · rintro H2 ⟨e2, ys0, vs0, m1, m2, m3⟩
      rw [List.take_length, hm] at m1
      cases m1
      have m4 : DenL X.K O H2 vs0 ys := m3.mono (Same.refl _) fun a ha => .inl ha
      refine q _ _ (s1.trans e2) ⟨.lst ⟨m2, id⟩ m4.zero, fun _ => ⟨A, vs0, rfl, m2, m4⟩, fun _ => .lst ⟨m2, fun z => nA A z rfl⟩ m4, fun _ _ => ⟨A, rfl, s1.free hA, vs0, m2, m3⟩⟩
theorem se_comp {elt tg it : Expr} {ifs : List Expr} {scope : Scope} {pos : Pos} {x : Ex} {s : Sr} {cs : List Ex} {t : Tgt} {own : List (Str × Nat)} (hc : X.calm = true) (hN : X.N.Nodup) (ok : BlkOk X.N X.env.scope scope own) (how : own.map (·.2) = tgIx t)
    (hg : ∀ (s0 : Shared) (H0 : Hp) (C : Addr) (cl : List (Str × Addr)) (fp : List Addr), PG (X.blk s0 H0 scope (compEnvC scope cl C X.env) fp) tg (gT X.K t))
    (hS : SS D X tg it s) (hE : ∀ (s0 : Shared) (H0 : Hp) (C : Addr) (cl : List (Str × Addr)) (fp : List Addr), SE D (X.blk s0 H0 scope (compEnvC scope cl C X.env) fp) elt x)
    (hI : ∀ (s0 : Shared) (H0 : Hp) (C : Addr) (cl : List (Str × Addr)) (fp : List Addr), F2 (SE D (X.blk s0 H0 scope (compEnvC scope cl C X.env) fp)) ifs cs) (hl : ifs.length ≤ 1) (hcl : ifs.length = cs.length) (hs : ∀ x, foldedSetIterable it X.env x = pure x)
    (hfl : ∀ κ : Kd, κ.length = X.N.length → 2 ≤ flE D.rf x (bindK t .shr κ) ∧ flS D.rf s κ = true) (hlen : ∀ (σ : L2.St) H s pins, Inv X pins σ H s → σ.length = X.N.length) : SE D X (.ListComp elt [⟨tg, it, ifs, 0⟩] scope pos) (.comp x t s cs) := by
  refine se_of (fun _ => rfl) fun κ ρ σ H O W Q r p pins s₀ I => ?_
  have hk : κ.length = X.N.length := by rw [r.lenK, hlen σ H s₀ pins I]
  exact of_pe (Q := Q) (pe_lc hc hN pi_w ok hg (pts_b hl) (fun s0 H0 C cl fp => pe_b s0 H0 C cl fp) hs) (comp_run hc hN ok how hg hS hE hI hl hcl hs (hfl κ hk) r p) pins s₀ I
end
end PV

/-! PV, part 3: sorted(xs, key=f), sorted(xs) -/
namespace PV
open PySem PySem.Spec PyProof.Rows L2
open PySem.W (KeepsBut EachIs AllAlike Sortable SortsAt dataKind sortVals KeyedOut dataLe copyHeap sortingHeap)

/-! ### the keys are asked -/
section
variable {X : Cx} {pins : List (Addr × Obj)} {σ : L2.St} {H0 : Hp}
/-- an address that nothing of the frame knows -/
structure Loose (X : Cx) (pins : List (Addr × Obj)) (b : Addr) : Prop where
  above : X.s_0.heap.objs.size ≤ b
  loc : b ≠ X.env.locals
  cel : ∀ x c, X.env.cells.lookup x = some c → c ≠ b
  pin : ∀ p ∈ X.pn ++ pins, p.1 ≠ b
theorem Loose.of {H : Hp} {s : Shared} {b : Addr} (I : Inv X pins σ H s) (h : s.heap.objs.size ≤ b) : Loose X pins b :=
  ⟨Nat.le_trans I.sz h, fun z => absurd h (by rw [z]; exact Nat.not_le.mpr I.lt), fun x c e z => by
    obtain ⟨v, o, ho, _⟩ := I.cell x c e
    exact absurd h (by rw [← z]; exact Nat.not_le.mpr (Heap.lt_size ho)), fun p hp z => absurd h (by rw [← z]; exact Nat.not_le.mpr (Heap.lt_size (I.pin p hp).1))⟩
/-- one item's key: a whole number, nothing else changed -/
def Turn (X : Cx) (pins : List (Addr × Obj)) (σ : L2.St) (H0 : Hp) (f : Value) (v : V) (k : Int) : Prop :=
  ∀ (H : Hp) (s : Shared) (u : Value), Inv X pins σ H s → Same H0 H → RelV v u → wpAny (model X.prog X.w) X.A.in1.in1 (call f [u]) (EP X pins σ fun r H' => r = .int k ∧ Same H H') (fun _ _ => False) s
theorem ints_each : ∀ {ks : List Int} {us : List Value} {h : Heap}, Vals (ks.map V.int) us → EachIs (fun v d => ∃ as, Reads h v d as) us (ks.map PyData.int)
  | [], _, _, .nil => .nil
  | k :: ks, _, h, .cons r t => by
    obtain ⟨tk, rfl⟩ := r
    exact .cons ⟨[], .int k tk⟩ (ints_each t)
theorem key_vals : ∀ {ks : List Int} {vs : List V} {us : List Value}, ks.length = vs.length → Vals vs us → EachIs (fun (u : Value) (p : Int × V) => RelV p.2 u) us (ks.zip vs)
  | [], [], _, _, .nil => .nil
  | k :: ks, v :: vs, _, hl, .cons r t => .cons r (key_vals (by simpa using hl) t)
theorem each_vals : ∀ {us : List Value} {ps : List (Int × V)}, EachIs (fun (u : Value) (p : Int × V) => RelV p.2 u) us ps → Vals (ps.map (·.2)) us
  | _, _, .nil => .nil
  | _, _, .cons r t => .cons r (each_vals t)
theorem zip_keys : ∀ {ks : List Int} {vs : List V}, ks.length = vs.length → (ks.zip vs).map (fun p => PyData.int p.1) = ks.map PyData.int
  | [], [], _ => rfl
  | k :: ks, v :: vs, h => by
    rw [List.zip_cons_cons, List.map_cons, List.map_cons, zip_keys (by simpa using h)]
/-- the loop over the items, the sort, what is laid -/
theorem sort_keys {f : Value} {a kS : Addr} {e1 : Nat} {its : List Value} {vs : List V} {ks : List Int} {s0 : Shared} {Ha : Hp} {E : Value → Shared → Prop} {Q : VK} (hlen : ks.length = vs.length) (hz : vs.length ≤ 1000) (rv : Vals vs its) (hu : X.A.units + 64 < cLine)
    (ask : ∀ (i : Nat) v k, vs[i]? = some v → ks[i]? = some k → Turn X pins σ H0 f v k) (I0 : Inv X pins σ Ha s0) (sm : Same H0 Ha) (ea : Ha a = some (.ext fun h => h.get? a = some (seqObj "list" #[] e1))) (ek : Ha kS = some (.lst [])) (hak : kS ≠ a) (na : H0 a = none) (nk : H0 kS = none) (lo : Loose X pins kS)
    (q : ∀ H', Same H0 H' → H' a = some (.lst (sortV ks vs)) → Q (.ref a) H') :
    wpAny (model X.prog X.w) X.A.in1.in1 (ksk_rest a f false its.toArray e1 (.ref kS)) (fun fl s' => fl = .done (.ret .none) ∧ EP X pins σ Q (.ref a) s') E s0 := by
  have il : its.length = vs.length := rv.length.symm
  unfold ksk_rest
  refine wpAny_bind (wpAny_rule ?_)
  rw [List.forIn_toArray]
  refine wpAny_bind (ksk_fold (fun i s' => ∃ H', Inv X pins σ H' s' ∧ Same H0 H' ∧ H' a = Ha a ∧ H' kS = some (.lst ((ks.take i).map V.int))) its 0 s0 ⟨Ha, I0, sm, rfl, by rw [ek]; rfl⟩ ?turn ?rest)
  case turn =>
    rintro j x s' hx ⟨H', I, s1, e2, e3⟩
    rw [Nat.zero_add] at e3 ⊢
    have hj : j < its.length := (List.getElem?_eq_some_iff.mp hx).1
    obtain ⟨k, hk⟩ : ∃ k, ks[j]? = some k := ⟨_, List.getElem?_eq_getElem (by omega)⟩
    obtain ⟨v, hv⟩ : ∃ v, vs[j]? = some v := ⟨_, List.getElem?_eq_getElem (by omega)⟩
    obtain ⟨u, hu1, ru⟩ := rv.get hv
    rw [hx] at hu1
    cases hu1
    refine wpAny_bind (wpAny_attempt (wpAny_mono (ask j v k hv hk H' s' x I s1 ru) (fun r s2 out => ?_) fun _ _ bad => bad.elim))
    obtain ⟨v', H2, I2, r2, rfl, s2'⟩ := out
    have e3' := s2' _ _ e3
    have e2' := s2' _ _ (e2.trans ea)
    obtain ⟨z, kI, n, rk, kl, there⟩ := I2.lstM e3'
    have l1 : kI.length ≤ 1000 := by
      have := List.length_take_le j ks
      rw [← kl, List.length_map, List.length_take]
      omega
    refine wpAny_bind (listUpdate_at there rfl (wpAny_pure ⟨rfl, upd H2 kS (.lst ((ks.take (j + 1)).map V.int)), ?_, ?_, ?_, upd_same⟩) (by rw [List.size_toArray]; exact Nat.le_of_lt (small1000 l1)) (by rw [Array.size_push, List.size_toArray]; exact Nat.succ_le_succ (Nat.le_of_lt (small1000 l1))))
    · refine I2.lset (its' := kI ++ [r]) (f := (·.push r)) e3' there (by simp) ?_ ?_
      · rw [List.take_add_one, hk, List.map_append]
        exact rk.append (.cons r2 .nil)
      · rw [List.length_map, List.length_take]
        exact Nat.le_of_lt (small1000 (by omega))
    · intro b o hb
      have nb : b ≠ kS := fun z => by rw [z, nk] at hb; cases hb
      rw [upd_ne nb]
      exact s2' b o (s1 b o hb)
    · rw [upd_ne hak.symm, e2', ea]
  case rest =>
    rintro s' ⟨H', I, s1, e2, e3⟩
    rw [Nat.zero_add, List.take_of_length_le (by omega)] at e3
    obtain ⟨z, kI, n, rk, kl, there⟩ := I.lstM e3
    have ax := I.hok a _ (e2.trans ea)
    have nA : s'.heap.get? a = some (seqObj "list" #[] e1) := ax.1
    refine wpAny_bind (listItems_at there rfl ?_)
    obtain ⟨G, g1, g2⟩ := restrict s'.heap fun b => decide (b ≠ kS)
    have gk : G.get? kS = none := g2 kS (by simp)
    have gk2 : ∀ b, b ≠ kS → G.get? b = s'.heap.get? b := fun b hb => g1 b (by simp [hb])
    have kp : KeepsBut a G s'.heap := fun b o hb e => by
      have nb : b ≠ kS := fun z => by rw [z, gk] at e; cases e
      rw [gk2 b nb] at e
      exact e
    have kl' : ks.length = kI.length := by rw [← kl, List.length_map]
    have each := ints_each (h := s'.heap) rk
    have alike : AllAlike (ks.map PyData.int) := fun d hd d' hd' => by
      obtain ⟨i, _, rfl⟩ := List.mem_map.mp hd
      obtain ⟨i', _, rfl⟩ := List.mem_map.mp hd'
      rfl
    have sortable : Sortable (ks.map PyData.int) := .inr fun d hd => by
      obtain ⟨i, _, rfl⟩ := List.mem_map.mp hd
      exact ⟨fun z => (by cases z), fun xs z => (by cases z)⟩
    have units : ∀ d ∈ ks.map PyData.int, X.A.in1.in1.units + d.depth < cLine := fun d hd => by
      obtain ⟨i, _, rfl⟩ := List.mem_map.mp hd
      show X.A.units + 1 + 1 + 0 < cLine
      omega
    refine PySem.W.keyH_end (κ := dataKind s'.heap (ks.map PyData.int)) (h₁ := G) kp gk there nA hak (SortsAt.data each alike sortable units) (by rw [List.size_toArray]; omega) (by rw [il]; exact Nat.le_of_lt (small1000 hz)) fun h' tk c keep out => ⟨rfl, ?_⟩
    have ko : KeyedOut false ((ks.zip vs).map fun p => PyData.int p.1) its (sortVals (dataKind s'.heap (ks.map PyData.int)) false kI its) := by
      rw [zip_keys hlen]
      exact ⟨s'.heap, kI, alike, rfl, each⟩
    have ordered := PySem.W.keyedOut_each (R := fun (u : Value) (p : Int × V) => RelV p.2 u) (fun p => PyData.int p.1) ko (key_vals hlen rv)
    rw [PySem.W.dataLe_int] at ordered
    have vals := each_vals ordered
    have len : (sortV ks vs).length ≤ sizeLine := by
      unfold sortV
      rw [List.length_map, List.length_mergeSort, List.length_zip]
      exact Nat.le_of_lt (small1000 (by omega))
    let H2 : Hp := fun b => if b = a then some (.lst (sortV ks vs)) else if b = kS then none else H' b
    have hA : H2 a = some (.lst (sortV ks vs)) := if_pos rfl
    have hK : H2 kS = none := by show (if _ then _ else _) = _; rw [if_neg hak, if_pos rfl]
    have hO : ∀ b, b ≠ a → b ≠ kS → H2 b = H' b := fun b h1 h2 => by show (if _ then _ else _) = _; rw [if_neg h1, if_neg h2]
    have stay : ∀ b o, b ≠ a → b ≠ kS → s'.heap.get? b = some o → h'.get? b = some o := fun b o h1 h2 e => keep b o h1 (by rw [gk2 b h2]; exact e)
    have notA : ∀ b o, H' b = some o → (∀ φ, o ≠ .ext φ) → b ≠ a := fun b o e no z => by
      rw [z, e2, ea] at e
      cases e
      exact no _ rfl
    have notK : ∀ b o, H' b = some o → (∀ xs, o ≠ .lst xs) → b ≠ kS := fun b o e no z => by
      rw [z, e3] at e
      cases e
      exact no _ rfl
    have hok : HOk X.prog X.w H2 h' := fun b o e => by
      by_cases h1 : b = a
      · subst h1
        rw [hA] at e
        cases e
        exact ⟨len, _, c, vals, out⟩
      · by_cases h2 : b = kS
        · rw [h2, hK] at e
          cases e
        · rw [hO b h1 h2] at e
          refine (I.hok b o e).stay (fun c2 u hc ec => ?_) (fun c2 hc => ?_) fun c2 xs hc => ?_
          · rcases hc with rfl | hc
            · exact stay _ _ h1 h2 ec
            · exact stay _ _ (notA _ _ hc fun φ z => (by cases z)) (notK _ _ hc fun xs z => (by cases z)) ec
          · rw [hO c2 (notA _ _ hc fun φ z => (by cases z)) (notK _ _ hc fun xs z => (by cases z))]
            exact hc
          · rw [hO c2 (notA _ _ hc fun φ z => (by cases z)) (notK _ _ hc fun xs z => (by cases z))]
            exact hc
    have un : Un (frs X.stack) [kS] H' H2 s'.heap h' := by
      have off : ∀ b, H' b = none → b ≠ a ∧ b ≠ kS := fun b e => ⟨fun z => (by rw [z, e2, ea] at e; cases e), fun z => (by rw [z, e3] at e; cases e)⟩
      refine ⟨fun b o e n _ _ => stay b o (off b n).1 (off b n).2 e, fun b o e n _ _ => ⟨o.slots, stay b o (off b n).1 (off b n).2 e⟩, fun b o e n _ => by rw [hO b (off b n).1 (off b n).2]; exact n, fun b o e nb => ?_, fun b xs e => ?_, fun b o u e => ?_, fun b ps e => ⟨#[], ?_⟩⟩
      · by_cases h1 : b = a
        · exact ⟨_, by rw [h1]; exact out⟩
        · exact ⟨o, stay b o h1 (fun z => nb (by rw [z]; exact List.mem_singleton.mpr rfl)) e⟩
      · rw [hO b (notA _ _ e fun φ z => (by cases z)) (notK _ _ e fun xs z => (by cases z))]
        exact e
      · rw [hO b (notA _ _ e fun φ z => (by cases z)) (notK _ _ e fun xs z => (by cases z))]
        exact e
      · rw [hO b (notA _ _ e fun φ z => (by cases z)) (notK _ _ e fun xs z => (by cases z)), Array.append_empty]
        exact e
    have fin := I.call (g' := s'.gens) (d' := s'.drawn) (t' := tk) un hok I.bare fun b hb => by
      rw [List.mem_singleton.mp hb]
      exact ⟨.inr lo.above, lo.loc, lo.cel, lo.pin⟩
    refine ⟨.ref a, H2, fin, rfl, q H2 (fun b o hb => ?_) hA⟩
    rw [hO b (fun z => by rw [z, na] at hb; cases hb) (fun z => by rw [z, nk] at hb; cases hb)]
    exact s1 b o hb
/-- sorted(l, key=f) -/
theorem sorted_run {l : Addr} {f : Addr} {vs : List V} {ks : List Int} {s : Shared} {Q : VK} (hlen : ks.length = vs.length) (hz : vs.length ≤ 1000) (hu : X.A.units + 64 < cLine) (I : Inv X pins σ H0 s) (hl : SqL X.K H0 l vs)
    (ask : ∀ (i : Nat) v k, vs[i]? = some v → ks[i]? = some k → Turn X pins σ H0 (.ref f) v k) (q : ∀ a H', Same H0 H' → H0 a = none → H' a = some (.lst (sortV ks vs)) → Q (.ref a) H') :
    wpAny (model X.prog X.w) X.A (call (.builtin "sorted") [.ref l] [(Str.ofString "key", .ref f)]) (EP X pins σ Q) X.xe s := by
  obtain ⟨its, rv, isl⟩ : ∃ its, Vals vs its ∧ s.heap.IsList l its.toArray := by
    rcases hl with h | ⟨o, arr, n, lk, c, d, dt, sz, r⟩
    · obtain ⟨_, its, n, r, e⟩ := h.ok I.hok
      exact ⟨its, r, _, e, rfl, n, rfl⟩
    · exact ⟨arr.toList, r, o, I.kIn _ _ lk, c, n, by rw [dt, Array.toArray_toList]⟩
  have il : its.length = vs.length := rv.length.symm
  have fits : its.length ≤ sizeLine := by rw [il]; exact Nat.le_of_lt (small1000 hz)
  obtain ⟨a, ha⟩ : ∃ a, a = s.heap.objs.size + 1 := ⟨_, rfl⟩
  refine PySem.W.sorted_of_sort isl fits (PyProof.Rows.ksk_s1 _ _) (fun _ => PyProof.Rows.ksk_l1 _ _) fun E' => ?_
  rw [PyProof.Rows.ksk_t1, ← ha]
  have at0 : (copyHeap s.heap its).get? a = some (seqObj "list" its.toArray 0) := by rw [ha]; exact PySem.W.copyHeap_at s.heap its
  obtain ⟨e1, at1⟩ : ∃ e1, ((copyHeap s.heap its).update a (Obj.mapSeq fun _ => (#[] : Array Value))).get? a = some (seqObj "list" #[] e1) := ⟨_, get?_update_seq at0 fun _ => #[]⟩
  have keep1 : ∀ b o, s.heap.get? b = some o → ((copyHeap s.heap its).update a (Obj.mapSeq fun _ => (#[] : Array Value))).get? b = some o := fun b o e => by
    rw [Heap.get?_update_ne _ _ _ _ (show b ≠ a by rw [ha]; exact Nat.ne_of_lt (Nat.lt_succ_of_lt (Heap.lt_size e)))]
    exact PySem.W.copyHeap_old e
  unfold ksk_tree
  refine wpAny_bind (listItems_at at0 rfl (wpAny_bind (listUpdate_at at0 rfl ?_ (by rw [List.size_toArray]; exact fits) (Nat.zero_le _))))
  refine wpAny_bind (seqEpoch_at at1 rfl (wpAny_bind (wpAny_newTuple (wpAny_bind (wpAny_newList (wpAny_holding ?_) (Nat.zero_le _))) (by show its.length ≤ _; exact fits))))
  have I1 : Inv X pins σ (upd H0 a (.ext fun h => h.get? a = some (seqObj "list" #[] e1))) { s with heap := (copyHeap s.heap its).update a (Obj.mapSeq fun _ => (#[] : Array Value)) } :=
    I.laid (t' := s.toks) keep1 (by rw [ha]; exact Nat.le_succ _) ⟨at1, ⟨_, at1⟩, fun h1 h2 p k => k _ p⟩
  have sz : s.heap.objs.size + 1 ≤ ((copyHeap s.heap its).update a (Obj.mapSeq fun _ => (#[] : Array Value))).objs.size := by
    have := Heap.lt_size at1
    rw [ha] at this ⊢
    exact Nat.le_of_lt this
  generalize (copyHeap s.heap its).update a (Obj.mapSeq fun _ => (#[] : Array Value)) = h1 at *
  have I2 := I1.laid (a := (h1.push { cls := .type "tuple", data := .seq its.toArray }).objs.size) (o := .lst []) (h' := (h1.push { cls := .type "tuple", data := .seq its.toArray }).push { cls := .type "list", data := .seq ([] : List Value).toArray }) (t' := s.toks)
    (fun b u e => Heap.get?_push_of_some _ (Heap.get?_push_of_some _ e)) (by rw [size_push']; exact Nat.le_succ _) ⟨Nat.zero_le _, [], 0, .nil, Heap.get?_push_size _ rfl⟩
  have big : s.heap.objs.size + 1 < (h1.push { cls := .type "tuple", data := .seq its.toArray }).objs.size := by
    rw [size_push']
    omega
  have lo := Loose.of I (b := (h1.push { cls := .type "tuple", data := .seq its.toArray }).objs.size) (by omega)
  have nk : H0 (h1.push { cls := .type "tuple", data := .seq its.toArray }).objs.size = none := I.hok.fresh (by omega)
  generalize (h1.push { cls := .type "tuple", data := .seq its.toArray }).objs.size = kS at *
  have nA : H0 a = none := I.hok.fresh (by rw [ha]; exact Nat.le_succ _)
  have hak : kS ≠ a := by rw [ha]; exact Nat.ne_of_gt big
  refine sort_keys (H0 := H0) (Q := Q) hlen hz rv hu ask I2 (fun b o hb => ?_) (by rw [upd_ne hak.symm, upd_same]) upd_same hak nA nk lo fun H' s1 e => q a H' s1 nA e
  have n1 : b ≠ a := fun z => by rw [z, nA] at hb; cases hb
  have n2 : b ≠ kS := fun z => by rw [z, nk] at hb; cases hb
  rw [upd_ne n2, upd_ne n1]
  exact hb
end

/-! ### the expressions -/
section
variable {K : PySem.W.Frag} {O : Addr → Prop} {H H1 H2 : Hp}
theorem Pst.newG {fl : Nat} {p : Addr} {vs : List V} {ds : List Dat} (hO : ∀ a, O a → ∃ o, H a = some o) (e : Same H H1) (s : Same H1 H2) (hp : H1 p = none) (h : DenL K O H1 vs ds) (hq : H2 p = some (.lst vs)) : Pst K fl O H H2 (.ref p) (.lst ds) := by
  have h' : DenL K (PV.plus O p) H2 vs ds := (h.plus hp).same s
  have e1 : Den K O0 H2 (.ref p) (.lst ds) := .lst ⟨hq, id⟩ h'.zero
  refine ⟨e1, fun _ => ⟨p, vs, rfl, hq, h.same s⟩, fun _ => ?_, fun _ _ => ⟨p, rfl, e.free hp, vs, hq, h'⟩⟩
  refine .lst ⟨hq, fun z => ?_⟩ (h.same s)
  obtain ⟨o, q⟩ := hO p z
  rw [e.free hp] at q
  cases q
theorem keysD_ok {f : List Dat → Rs Dat} : ∀ {xs : List Dat} {ks : List Int}, keysD f xs = .ok ks → ks.length = xs.length ∧ ∀ (i : Nat) x k, xs[i]? = some x → ks[i]? = some k → f [x] = .ok (.int k)
  | [], ks, h => by
    cases h
    exact ⟨rfl, fun i x k e => by cases e⟩
  | x :: xs, ks, h => by
    unfold keysD at h
    split at h
    · rename_i k hk
      obtain ⟨ks', e1, e2⟩ := Rs.bind_ok h
      cases e2
      obtain ⟨l, a⟩ := keysD_ok e1
      refine ⟨by rw [List.length_cons, List.length_cons, l], fun i y k' e3 e4 => ?_⟩
      cases i with
      | zero => cases e3; cases e4; exact hk
      | succ i => exact a i y k' e3 e4
    · cases h
theorem keysD_ex {f : List Dat → Rs Dat} : ∀ {xs : List Dat} {z : Dat}, keysD f xs = .ex z → False
  | [], _, h => by cases h
  | x :: xs, z, h => by
    unfold keysD at h
    split at h
    · rcases Rs.bind_ex h with e | ⟨_, _, e⟩
      · exact keysD_ex e
      · cases e
    · cases h
theorem each_den : ∀ {ks : List Int} {vs : List V} {ds : List Dat}, DenL K O H vs ds → EachIs (fun (p : Int × V) (q : Int × Dat) => p.1 = q.1 ∧ Den K O H p.2 q.2) (ks.zip vs) (ks.zip ds)
  | [], _, _, _ => .nil
  | _ :: _, [], _, h => by cases h; exact .nil
  | k :: ks, v :: vs, _, .cons h t => .cons ⟨rfl, h⟩ (each_den t)
theorem den_each : ∀ {ps : List (Int × V)} {qs : List (Int × Dat)}, EachIs (fun (p : Int × V) (q : Int × Dat) => p.1 = q.1 ∧ Den K O H p.2 q.2) ps qs → DenL K O H (ps.map (·.2)) (qs.map (·.2))
  | _, _, .nil => .nil
  | _, _, .cons h t => .cons h.2 (den_each t)
theorem sortV_den {ks : List Int} {vs : List V} {ds : List Dat} (h : DenL K O H vs ds) : DenL K O H (sortV ks vs) (sortV ks ds) := by
  have e := each_den (ks := ks) h
  refine den_each (PySem.W.sort_each e fun p hp q hq => ?_)
  have h1 := (e.zip p hp).1
  have h2 := (e.zip q hq).1
  rw [h1, h2]
end
/-- sorted(e, key=g) -/
theorem se_srt {D : Wd} {X : Cx} {k f : Nat} {e : Expr} {x : Ex} {y g : Str} {p p2 kp pos : Pos} {fa : Addr} {fd : FuncData} {ps : List Str} (hy : y = "sorted") (hg : Gl X y) (hm : X.mg y = none) (hgf : Gl X g) (hgd : (g == ("__debug__" : Str)) = false) (hmf : X.mg g = some (.ref fa)) (hb : Binds X.K fd ps []) (F : FnOk X.prog X.w X.K X.mg X.base (L2.CX X.prog X.w) k fa fd ps (spF D X.K f 1)) (hr : Room (k + 1) X.A)
    (hs : isStar e = false) (h : SE D X e x) : SE D X (.Call (.Name y p) [e] [⟨some "key", .Name g p2, kp⟩] pos) (.srt x f) := by
  subst hy
  have star : starEach [e] X.env = (false, eval e X.env) :: starEach [] X.env := starEach_cons hs
  refine se_of (fun _ => rfl) fun κ ρ σ H O W Q r pp => of_pe (pe_callBK (id := "sorted") (r := fun vs zs H Q => ∃ l vs' ks, vs = [.ref l] ∧ zs = [.ref fa] ∧ SqL X.K H l vs' ∧ ks.length = vs'.length ∧ vs'.length ≤ 1000 ∧ (∀ (i : Nat) v k, vs'[i]? = some v → ks[i]? = some k → ∀ pins σ, Turn X pins σ H (.ref fa) v k) ∧ ∀ a H', Same H H' → H a = none → H' a = some (.lst (sortV ks vs')) → Q (.ref a) H')
    (ks := [Str.ofString "key"]) ?_ hg hm (by decide +kernel) (pa_cons pe_w pa_nil star) (pk_cons (pe_glob (v := V.ref fa) hgf hmf rfl hgd) pk_nil) (by decide) (by decide) (by show backTo pos (starEach [e] X.env) = _; rw [star]; rfl) (by rw [star]; rfl)) ?_
  · rintro pins s σ' H' xs zs us ws Q' I rx rz ⟨l, vs', ks, rfl, rfl, sq, e1, e2, ask, fin⟩
    obtain ⟨u1, rfl, r1⟩ := rx.one
    obtain ⟨u2, rfl, r2⟩ := rz.one
    cases (show u1 = Value.ref l from r1)
    cases (show u2 = Value.ref fa from r2)
    exact sorted_run e1 e2 (by have := hr.units; omega) I sq (fun i v k a b => ask i v k a b pins σ') fin
  simp only [evE] at pp
  refine h.run κ ρ σ H O W _ r (pp.bind.imp (fun d _ q v H1 s1 p1 => ?_) fun z q => q)
  have q9 : Post (srtD (D.cf f) d) _ _ := q
  unfold srtD at q9
  split at q9
  case h_2 => exact False.elim q9
  rename_i ds _
  cases hk : keysD (D.cf f) ds with
  | no => rw [hk] at q9; exact False.elim q9
  | ex z => exact (keysD_ex hk).elim
  | ok ks =>
    rw [hk] at q9
    simp only [Rs.ok_bind] at q9
    split at q9
    case isFalse => exact False.elim q9
    rename_i hz
    have hz := of_decide_eq_true hz
    obtain ⟨kl, ka⟩ := keysD_ok hk
    have turn : ∀ {us : List V}, DenL X.K O0 H1 us ds → ∀ (i : Nat) v k, us[i]? = some v → ks[i]? = some k → ∀ pins σ, Turn X pins σ H1 (.ref fa) v k := by
      intro us dl i v kk e1 e2 pins σ2 H2 s2 u I sm rv
      obtain ⟨d, e3, dd⟩ := dl.get' e1
      have e4 := ka i d kk e3 e2
      have sp : spF D X.K f 1 [v] H2 (fun r H' => r = .int kk ∧ Same H2 H') (fun _ _ _ => False) := by
        refine ⟨O0, [d], .cons (dd.same sm) .nil, fun a z => z.elim, rfl, ?_⟩
        rw [e4]
        intro v' H' s3 p3
        have := p3.any
        cases this
        exact ⟨rfl, s3⟩
      have l1 : [u].length = ps.length := F.len _ _ _ _ sp
      have b := hb s2 [u] I.kIn (by rw [List.append_nil]; exact l1)
      rw [List.append_nil] at b
      have room : Room k X.A.in1.in1 := ⟨hr.hd, by have := hr.dp; show X.A.depth + 3 * k + 5 < _; omega, by have := hr.un; show X.A.units + 1 + 1 + 16 * k + 200 < _; omega⟩
      refine wpAny_call (codeAny_mono (F.run X.A.in1.in1 X.stack s2 H2 ⟨[u], []⟩ [u] [v] _ _ room I.env0.in1.in1 b (.cons rv .nil) sp) fun r s' out => ?_)
      cases r with
      | error z =>
        obtain ⟨_, _, _, _, _, _, _, _, _, _, _, _, bad⟩ := out
        exact bad.elim
      | ok fl =>
        cases fl with
        | ret u => exact I.after out
        | next => exact out.elim
        | brk => exact out.elim
        | cont => exact out.elim
    by_cases hgr : 1 ≤ flE D.rf x κ
    · obtain ⟨a, us, rfl, l, dl⟩ := p1.one hgr
      refine ⟨a, us, ks, rfl, rfl, .of l, by rw [kl, dl.len], by rw [dl.len]; exact hz, turn dl.zero, fun t H' s2 e1 e2 => q9 _ _ (s1.trans s2) ?_⟩
      have e : flE D.rf (.srt x f) κ = 3 := by simp only [flE]; rw [if_pos hgr]
      rw [e]
      exact .newG r.trk s1 s2 e1 (sortV_den dl) e2
    · obtain ⟨a, us, rfl, l, dl⟩ := den_lst p1.any
      refine ⟨a, us, ks, rfl, rfl, l.sq, by rw [kl, dl.len], by rw [dl.len]; exact hz, turn dl, fun t H' s2 e1 e2 => q9 _ _ (s1.trans s2) ?_⟩
      have e : flE D.rf (.srt x f) κ = 0 := by simp only [flE]; rw [if_neg hgr]
      rw [e]
      exact .of0 (.lst ⟨e2, id⟩ ((sortV_den dl).same s2))

/-! ### sorted(xs): whole numbers, rows of whole numbers -/
section
variable {X : Cx} {pins : List (Addr × Obj)} {σ : L2.St} {H0 : Hp} {β : Type} {enc : β → PyData}
theorem dp_each {s : Shared} (I : Inv X pins σ H0 s) : ∀ {vs : List V} {bs : List β} {us : List Value}, DpAll X.K H0 vs (bs.map enc) → Vals vs us → EachIs (fun (u : Value) (p : V × β) => RelV p.1 u) us (vs.zip bs) ∧ EachIs (fun (u : Value) (p : V × β) => ∃ as, Reads s.heap u (enc p.2) as) us (vs.zip bs)
  | [], [], _, _, .nil => ⟨.nil, .nil⟩
  | v :: vs, b :: bs, _, .cons h t, .cons r rs => by
    obtain ⟨e1, e2⟩ := dp_each I t rs
    exact ⟨.cons r e1, .cons (Dp.reads I _ _ _ h r) e2⟩
theorem each_fst : ∀ {us : List Value} {ps : List (V × β)}, EachIs (fun (u : Value) (p : V × β) => RelV p.1 u) us ps → Vals (ps.map (·.1)) us
  | _, _, .nil => .nil
  | _, _, .cons r t => .cons r (each_fst t)
/-- the things beside what they stand for, in order -/
def sortB (enc : β → PyData) (vs : List V) (bs : List β) : List (V × β) := (vs.zip bs).mergeSort fun p q => dataLe false enc p.2 q.2
theorem sorted1_run {l : Addr} {vs : List V} {bs : List β} {s : Shared} {Q : VK} (hlen : vs.length = bs.length) (hz : vs.length ≤ 1000) (hu : X.A.units + 64 < cLine) (I : Inv X pins σ H0 s) (hl : SqL X.K H0 l vs) (dp : DpAll X.K H0 vs (bs.map enc)) (al : AllAlike (bs.map enc)) (so : Sortable (bs.map enc)) (de : ∀ b ∈ bs, (enc b).depth ≤ 8)
    (q : ∀ a H', Same H0 H' → H0 a = none → H' a = some (.lst ((sortB enc vs bs).map (·.1))) → Q (.ref a) H') : wpAny (model X.prog X.w) X.A (call (.builtin "sorted") [.ref l]) (EP X pins σ Q) X.xe s := by
  obtain ⟨its, rv, isl⟩ : ∃ its, Vals vs its ∧ s.heap.IsList l its.toArray := by
    rcases hl with h | ⟨o, arr, n, lk, c, d, dt, sz, r⟩
    · obtain ⟨_, its, n, r, e⟩ := h.ok I.hok
      exact ⟨its, r, _, e, rfl, n, rfl⟩
    · exact ⟨arr.toList, r, o, I.kIn _ _ lk, c, n, by rw [dt, Array.toArray_toList]⟩
  obtain ⟨e1, e2⟩ := dp_each I dp rv
  have mp : (vs.zip bs).map (fun p => enc p.2) = bs.map enc := by
    have zs : (vs.zip bs).map (fun p => p.2) = bs := List.map_snd_zip (by omega)
    rw [show (vs.zip bs).map (fun p => enc p.2) = ((vs.zip bs).map (fun p => p.2)).map enc by rw [List.map_map]; rfl, zs]
  refine PySem.W.sorted_data (R := fun (u : Value) (p : V × β) => RelV p.1 u) (enc := fun p => enc p.2) (bs := vs.zip bs) isl e1 e2 (by rw [mp]; exact al) (by rw [mp]; exact so) (by rw [List.length_zip]; exact Nat.le_of_lt (small1000 (by omega))) (fun p hp => ?_) fun out ho hs => ?_
  · have := de p.2 (List.of_mem_zip hp).2
    omega
  · obtain ⟨n, at'⟩ := PyProof.Rows.sortedAll_at s.heap its out.toArray
    have va := each_fst hs
    have len : ((sortB enc vs bs).map (·.1)).length ≤ sizeLine := by
      unfold sortB
      rw [List.length_map, List.length_mergeSort, List.length_zip]
      exact Nat.le_of_lt (small1000 (by omega))
    have na : H0 (s.heap.objs.size + 1) = none := I.hok.fresh (Nat.le_succ _)
    refine ⟨V.ref (s.heap.objs.size + 1), upd H0 (s.heap.objs.size + 1) (.lst ((sortB enc vs bs).map (·.1))), I.laid (t' := s.toks) (fun b o e => PyProof.Rows.sortedAll_old e) (Nat.le_succ _) ⟨len, out, n, va, at'⟩, rfl, q _ _ (same_new na) na upd_same⟩
end
theorem sortB_snd {β : Type} {enc : β → PyData} {vs : List V} {bs : List β} (h : vs.length = bs.length) : (sortB enc vs bs).map (·.2) = bs.mergeSort (dataLe false enc) := by
  unfold sortB
  rw [PySem.W.sort_maps (s := dataLe false enc) (fun p : V × β => p.2) (fun _ _ _ _ => rfl)]
  rw [show (vs.zip bs).map (fun p : V × β => p.2) = bs from List.map_snd_zip (by omega)]
theorem sortB_den {K : PySem.W.Frag} {O : Addr → Prop} {H : Hp} {β : Type} {enc : β → PyData} {f : β → Dat} {vs : List V} {bs : List β} (h : DenL K O H vs (bs.map f)) : DenL K O H ((sortB enc vs bs).map (·.1)) ((bs.mergeSort (dataLe false enc)).map f) := by
  have l : vs.length = bs.length := by rw [h.len, List.length_map]
  rw [← sortB_snd l, List.map_map]
  have each : ∀ p ∈ vs.zip bs, Den K O H p.1 (f p.2) := by
    clear l
    induction bs generalizing vs with
    | nil => intro p hp; rw [List.zip_nil_right] at hp; cases hp
    | cons b bs ih =>
      cases h with
      | cons h1 h2 =>
        intro p hp
        rw [List.zip_cons_cons] at hp
        rcases List.mem_cons.mp hp with rfl | hp
        · exact h1
        · exact ih h2 p hp
  have all : ∀ p ∈ sortB enc vs bs, Den K O H p.1 (f p.2) := fun p hp => each p (List.mem_mergeSort.mp hp)
  generalize sortB enc vs bs = ps at all
  induction ps with
  | nil => exact .nil
  | cons p ps ih => exact .cons (all p List.mem_cons_self) (ih fun q hq => all q (List.mem_cons_of_mem _ hq))
theorem intsOf_ok : ∀ {xs : List Dat} {ns : List Int}, intsOf xs = some ns → xs = ns.map Dat.int
  | [], ns, h => by cases h; rfl
  | x :: xs, ns, h => by
    unfold intsOf at h
    split at h
    · rename_i e
      cases e
    · rename_i i r e
      cases e
      obtain ⟨ns', e1, rfl⟩ := Option.map_eq_some_iff.mp h
      rw [intsOf_ok e1]
      rfl
    · cases h
theorem rowsOf_ok : ∀ {xs : List Dat} {rs : List (List Int)}, rowsOf xs = some rs → xs = rs.map fun r => Dat.tup (r.map .int)
  | [], rs, h => by cases h; rfl
  | x :: xs, rs, h => by
    unfold rowsOf at h
    split at h
    · rename_i e
      cases e
    · rename_i ys r e
      cases e
      split at h
      · rename_i ns rs' e1 e2
        cases h
        rw [rowsOf_ok e2, intsOf_ok e1]
        rfl
      · cases h
    · cases h
theorem pureL_ints (ns : List Int) : pureL (ns.map Dat.int) = true := by
  induction ns with
  | nil => rfl
  | cons n ns ih => exact ih
theorem pureL_rows (rs : List (List Int)) : pureL (rs.map fun r => Dat.tup (r.map .int)) = true := by
  induction rs with
  | nil => rfl
  | cons r rs ih =>
    show (pureL (r.map Dat.int) && pureL (rs.map fun r => Dat.tup (r.map .int))) = true
    rw [pureL_ints, ih]
    rfl
theorem toPyL_ints (ns : List Int) : toPyL (ns.map Dat.int) = some (ns.map PyData.int) := by
  induction ns with
  | nil => rfl
  | cons n ns ih => simp [toPyL, toPy, ih]
theorem toPyL_rows (rs : List (List Int)) : toPyL (rs.map fun r => Dat.tup (r.map .int)) = some (rs.map rowE) := by
  induction rs with
  | nil => rfl
  | cons r rs ih => simp [toPyL, toPy, toPyL_ints, ih, rowE]
theorem alike_rows : ∀ {a b : List Int}, a.length = b.length → PySem.W.alikeAll (a.map PyData.int) (b.map PyData.int) = true
  | [], [], _ => by simp [PySem.W.alikeAll]
  | x :: a, y :: b, h => by
    have ih := alike_rows (a := a) (b := b) (by simpa using h)
    simp [PySem.W.alikeAll, PySem.W.alike, ih]
theorem dep_ints (b : List Int) : PyData.depthAll (b.map PyData.int) ≤ 0 := by
  induction b with
  | nil => simp [PyData.depthAll]
  | cons z zs ih => simp [PyData.depthAll, PyData.depth] at ih ⊢; exact ih
/-- sorted(e) -/
theorem se_srt1 {D : Wd} {X : Cx} {k : Nat} {e : Expr} {x : Ex} {y : Str} {p pos : Pos} (hy : y = "sorted") (hg : Gl X y) (hm : X.mg y = none) (hr : Room k X.A) (hs : isStar e = false) (h : SE D X e x) : SE D X (.Call (.Name y p) [e] [] pos) (.srt1 x) := by
  subst hy
  have star : starEach [e] X.env = (false, eval e X.env) :: starEach [] X.env := starEach_cons hs
  refine se_of (fun _ => rfl) fun κ ρ σ H O W Q r pp => of_pe (pe_callB (id := "sorted") (r := fun vs H Q => ∃ l, vs = [.ref l] ∧ ∀ pins σ s, Inv X pins σ H s → wpAny (model X.prog X.w) X.A (call (.builtin "sorted") [.ref l]) (EP X pins σ Q) X.xe s)
    (fun pins s σ' H' xs us Q' I rx ⟨l, e1, go⟩ => by
      subst e1
      obtain ⟨u1, rfl, r1⟩ := rx.one
      cases (show u1 = Value.ref l from r1)
      exact go pins σ' s I) hg hm (by decide +kernel) (pa_cons pe_w pa_nil star) (by decide) (by decide) star rfl) ?_
  simp only [evE] at pp
  refine h.run κ ρ σ H O W _ r (pp.bind.imp (fun d _ q v H1 s1 p1 => ?_) fun z q => q)
  have q9 : Post (srt1D d) _ _ := q
  unfold srt1D at q9
  split at q9
  case h_2 => exact False.elim q9
  rename_i ds _
  split at q9
  case isFalse => exact False.elim q9
  rename_i hz
  have hz := of_decide_eq_true hz
  obtain ⟨a, us, rfl, l, dl⟩ := den_lst p1.any
  have ul : us.length = ds.length := dl.len
  have hu := hr.units
  split at q9
  · rename_i ns e1
    have e2 := intsOf_ok e1
    subst e2
    have e3 : ns.mergeSort (dataLe false PyData.int) = ns.mergeSort fun a b => decide (a ≤ b) := by rw [show dataLe false PyData.int = dataLe false (fun n => .int ((fun i : Int => i) n)) from rfl, PySem.W.dataLe_int]
    rw [← e3] at q9
    have dO : DenL X.K O H1 us (ns.map Dat.int) := DenL.pure _ _ (pureL_ints ns) dl
    refine ⟨a, rfl, fun pins σ2 s2 I => sorted1_run (enc := PyData.int) (bs := ns) (by rw [ul, List.length_map]) (by omega) hu I l.sq (DenL.dp _ _ _ (toPyL_ints ns) dl) (fun d hd d' hd' => ?_) (.inr fun d hd => ?_) (fun b _ => Nat.zero_le _) fun t H' s3 e4 e5 => q9 _ _ (s1.trans s3) (.newG r.trk s1 s3 e4 (sortB_den dO) e5)⟩
    · obtain ⟨i, _, rfl⟩ := List.mem_map.mp hd
      obtain ⟨i', _, rfl⟩ := List.mem_map.mp hd'
      rfl
    · obtain ⟨i, _, rfl⟩ := List.mem_map.mp hd
      exact ⟨fun z => (by cases z), fun xs z => (by cases z)⟩
  · split at q9
    case h_2 => exact False.elim q9
    rename_i rs e1
    split at q9
    case isFalse => exact False.elim q9
    rename_i hw
    have e2 := rowsOf_ok e1
    subst e2
    have dO : DenL X.K O H1 us (rs.map fun r => Dat.tup (r.map .int)) := DenL.pure _ _ (pureL_rows rs) dl
    have len : ∀ r ∈ rs, r.length = (rs.headD []).length ∧ 0 < r.length := fun r hr => by
      have := List.all_eq_true.mp hw r hr
      simpa using this
    refine ⟨a, rfl, fun pins σ2 s2 I => sorted1_run (enc := rowE) (bs := rs) (by rw [ul, List.length_map]) (by omega) hu I l.sq (DenL.dp _ _ _ (toPyL_rows rs) dl) (fun d hd d' hd' => ?_) (.inl fun d hd => ?_) (fun b _ => ?_) fun t H' s3 e4 e5 => q9 _ _ (s1.trans s3) (.newG r.trk s1 s3 e4 (sortB_den dO) e5)⟩
    · obtain ⟨i, hi, rfl⟩ := List.mem_map.mp hd
      obtain ⟨i', hi', rfl⟩ := List.mem_map.mp hd'
      have l1 : i.length = i'.length := by rw [(len i hi).1, (len i' hi').1]
      show PySem.W.alike (.tuple (i.map .int)) (.tuple (i'.map .int)) = true
      have := alike_rows l1
      simp [PySem.W.alike, this, l1]
    · obtain ⟨i, hi, rfl⟩ := List.mem_map.mp hd
      obtain ⟨_, l2⟩ := len i hi
      cases i with
      | nil => cases l2
      | cons z zs => exact ⟨_, _, rfl⟩
    · have := dep_ints b
      show PyData.depth (.tuple _) ≤ 8
      simp only [PyData.depth]
      omega
end PV

/-! PV, part J: from the text to the compact program; expressions -/
namespace PV
open PySem PySem.Spec PyProof.Rows L2

def visB (sc : Scope) (x : Str) : Bool := match sc.names.lookup x with
  | some .local => true
  | some .cell => true
  | some .free => true
  | _ => false
def oddB (x : Str) : Bool := (x == ("__debug__" : Str)) || (x == ("__classdict__" : Str)) || decide (x = ("__name__" : Str))
def ixOf (N : List Str) (x : Str) : Option Nat := if decide (N[N.findIdx (· == x)]? = some x) then some (N.findIdx (· == x)) else none
def slotOf (N : List Str) (sc : Scope) (x : Str) : Option Nat := if visB sc x && !oddB x then ixOf N x else none
def glB (sc : Scope) (x : Str) : Bool := decide (sc.names.lookup x = some .globalImplicit) && !oddB x
def mapO {α β : Type} (f : α → Option β) : List α → Option (List β)
  | [] => some []
  | a :: as => match f a with
    | some b => (mapO f as).map (b :: ·)
    | none => none
theorem mapO_f2 {α β : Type} {f : α → Option β} {P : α → β → Prop} (h : ∀ a b, f a = some b → P a b) : ∀ {as : List α} {bs : List β}, mapO f as = some bs → F2 P as bs
  | [], bs, e => by cases e; exact .nil
  | a :: as, bs, e => by
    unfold mapO at e
    split at e
    · rename_i b hb
      obtain ⟨cs, e1, e2⟩ := Option.map_eq_some_iff.mp e
      subst e2
      exact .cons (h a b hb) (mapO_f2 h e1)
    · cases e
def cOp : Operator → Option Bop
  | .Add => some .add
  | .Sub => some .sub
  | .Mult => some .mul
  | .FloorDiv => some .fdiv
  | .Mod => some .mod
  | .Pow => some .pow
  | .LShift => some .shl
  | .RShift => some .shr
  | .BitAnd => some .band
  | _ => none
theorem cOp_ok {o : Operator} {b : Bop} (h : cOp o = some b) : o = opOf b := by cases o <;> cases h <;> rfl
def cCop : CmpOp → Option Cop
  | .Eq => some .eq
  | .NotEq => some .ne
  | .Lt => some .lt
  | .LtE => some .le
  | .Gt => some .gt
  | .GtE => some .ge
  | .In => some .isin
  | .NotIn => some .notin
  | _ => none
theorem cCop_ok {o : CmpOp} {b : Cop} (h : cCop o = some b) : o = copOf b := by cases o <;> cases h <;> rfl
def allBi : List (Bi × Nat) := [(.len, 1), (.abs, 1), (.tuple, 1), (.list, 1), (.int, 1), (.sum, 1), (.maxl, 1), (.minl, 1), (.min2, 2), (.max2, 2), (.divmod, 2), (.all, 1), (.any, 1), (.str, 1)]
def biOf (y : Str) (n : Nat) : Option Bi := (allBi.find? fun p => decide (y = (biNm p.1 : Str)) && p.2 == n).map (·.1)
theorem biOf_ok {y : Str} {n : Nat} {b : Bi} (h : biOf y n = some b) : y = (biNm b : Str) := by
  obtain ⟨p, h1, h2⟩ := Option.map_eq_some_iff.mp h
  have := List.find?_some h1
  rw [Bool.and_eq_true, decide_eq_true_eq] at this
  rw [this.1, h2]
def allTy : List Ty := [.int, .bool, .str, .list, .tuple]
def tyNamed (x : Str) : Option Ty := allTy.find? fun t => decide (x = (tyNm t : Str))
theorem tyNamed_ok {x : Str} {t : Ty} (h : tyNamed x = some t) : x = (tyNm t : Str) ∧ ∀ C, t ≠ .own C := by
  have h1 := List.find?_some h
  have h2 := List.mem_of_find?_eq_some h
  rw [decide_eq_true_eq] at h1
  refine ⟨h1, fun C e => ?_⟩
  subst e
  simp [allTy] at h2
def isSetE : Expr → Bool
  | .Set _ _ _ => true
  | _ => false
/-- a target -/
def tgNm (N : List Str) (raw sc : Scope) (x : Str) : Option Nat :=
  if !oddB x && (decide (sc.names.lookup x = some .local) || (decide (sc.names.lookup x = some .cell) && decide (raw.names.lookup x = some .cell))) then ixOf N x else none
def cT (N : List Str) (raw sc : Scope) : Expr → Option Tgt
  | .Name x _ => (tgNm N raw sc x).map .nm
  | .Tuple es _ _ => (mapO (fun
    | .Name x _ => tgNm N raw sc x
    | _ => none) es).map .tp
  | _ => none
/-- what is walked -/
def cSrc (c : Ctx) (sc : Scope) (f : Expr → Option Ex) (tg : Expr) : Expr → Option Sr
  | .Name x p => match slotOf c.N sc x with
    | some i => some (.seq (.var i))
    | none => match f (.Name x p) with
      | some (.var _) => none
      | some y => some (.seq y)
      | none => none
  | .Call (.Name y p) args [] pos =>
    if glB sc y && c.free.contains y && decide (y = ("range" : Str)) then match args with
      | [a] => match f a with
        | some x => some (.rng [x])
        | none => none
      | [a, b] => match f a, f b with
        | some x, some y => some (.rng [x, y])
        | _, _ => none
      | _ => none
    else if glB sc y && c.free.contains y && decide (y = ("zip" : Str)) then match tg, args with
      | .Tuple _ _ _, [a, b] => match f a, f b with
        | some x, some y => some (.zip x y)
        | _, _ => none
      | .Tuple _ _ _, [a, b, d] => match f a, f b, f d with
        | some x, some y, some z => some (.zip3 x y z)
        | _, _, _ => none
      | _, _ => none
    else if glB sc y && c.free.contains y && decide (y = ("enumerate" : Str)) then match tg, args with
      | .Tuple _ _ _, [a] => match f a with
        | some x => some (.enm x)
        | _ => none
      | _, _ => none
    else if glB sc y && c.free.contains y && decide (y = ("reversed" : Str)) then match args with
      | [a] => match f a with
        | some x => some (.rev x)
        | _ => none
      | _ => none
    else match f (.Call (.Name y p) args [] pos) with
      | some (.var _) => none
      | some x => some (.seq x)
      | none => none
  | e => match f e with
    | some (.var _) => none
    | some x => some (.seq x)
    | none => none
def kw (c : Ctx) : Kd := List.replicate c.N.length .own
def ownOf (N : List Str) (t : Tgt) : List (Str × Nat) := (tgIx t).map fun i => (N.getD i "", i)
section
variable (rf : Nat → Rf) (c : Ctx)
def cBool (op : BoolOp) : List Ex → Option Ex
  | [] => none
  | [x] => some x
  | x :: y :: r => match op with
    | .And => (cBool op (y :: r)).map (.and x)
    | .Or => (cBool op (y :: r)).map (.or x)
def cPart (f : Expr → Option Ex) : Option Expr → Option (List Ex)
  | none => some []
  | some e => (f e).map fun x => [x]
def cE : Nat → Scope → Scope → Expr → Option Ex
  | 0, _, _, _ => none
  | n + 1, raw, sc, e => match e with
    | .Name x _ => match slotOf c.N sc x with
      | some i => some (.var i)
      | none => if glB sc x then (c.glos.lookup x).map .glo else none
    | .Constant k _ _ => match k with
      | .int i => some (.cst (.int i))
      | .bool b => some (.cst (.bl b))
      | .str s => some (.cst (.str s))
      | .none => some (.cst .non)
      | _ => none
    | .Tuple es _ _ => if decide (es.length ≤ 1000) then (mapO (cE n raw sc) es).map .tup else none
    | .List es _ => if decide (es.length ≤ 1000) then (mapO (cE n raw sc) es).map .lst else none
    | .BinOp a op b _ => match cOp op, cE n raw sc a, cE n raw sc b with
      | some o, some x, some y => some (.bin o x y)
      | _, _, _ => none
    | .UnaryOp op a _ => match op, cE n raw sc a with
      | .USub, some x => some (.neg x)
      | .Not, some x => some (.not x)
      | _, _ => none
    | .BoolOp op es _ => if decide (2 ≤ es.length) then match mapO (cE n raw sc) es with
      | some xs => cBool op xs
      | none => none else none
    | .Compare a [op] [b] _ => match op, b with
      | .Is, .Constant .none _ _ => (cE n raw sc a).map (.isn false)
      | .IsNot, .Constant .none _ _ => (cE n raw sc a).map (.isn true)
      | _, _ => match cCop op, cE n raw sc a, cE n raw sc b with
        | some o, some x, some y => if behindInMarks op b then none else some (.cmp o x y)
        | _, _, _ => none
    | .IfExp t a b _ => match cE n raw sc t, cE n raw sc a, cE n raw sc b with
      | some z, some x, some y => some (.ife z x y)
      | _, _, _ => none
    | .Subscript a i _ => match i with
      | .Slice lo hi none _ =>
        match cE n raw sc a, cPart (cE n raw sc) lo, cPart (cE n raw sc) hi with
        | some x, some l, some h => some (.slc x l h)
        | _, _, _ => none
      | _ => match cE n raw sc a, cE n raw sc i with
        | some x, some y => if isSlice i then none else some (.idx x y)
        | _, _ => none
    | .Call (.Attribute (.Name o _) m apos) [] [] pos => if decide (m = ("bit_length" : Str)) && (apos.endLine == pos.line) then (slotOf c.N sc o).map fun i => .bits (.var i) else none
    | .Call (.Name y _) [.Call (.Name y2 p2) [b] [] pos2] [] _ =>
      if glB sc y && c.free.contains y && decide (y = ("list" : Str)) && (glB sc y2 && c.free.contains y2 && decide (y2 = ("reversed" : Str))) then (cE n raw sc b).map .lrev
      else if glB sc y then
        if c.free.contains y then match biOf y 1 with
          | some b1 => (mapO (cE n raw sc) [.Call (.Name y2 p2) [b] [] pos2]).map (.bi b1)
          | none => none
        else match c.funs.lookup y with
          | some (f, ar) => if decide (1 = ar) then (mapO (cE n raw sc) [.Call (.Name y2 p2) [b] [] pos2]).map (.cal f) else none
          | none => none
      else none
    | .Call (.Name y _) [e] [⟨some kn, .Name g _, _⟩] _ => if glB sc y && c.free.contains y && decide (y = ("sorted" : Str)) && decide (kn = ("key" : Str)) && glB sc g then (match c.funs.lookup g with
      | some (f, ar) => if decide (ar = 1) then (cE n raw sc e).map fun x => .srt x f else none
      | none => none) else none
    | .Call (.Name y _) (a :: as) [] _ =>
      if glB sc y then
        if c.free.contains y && decide (y = ("sorted" : Str)) then (match as with
          | [] => (cE n raw sc a).map .srt1
          | _ => none) else
        if c.free.contains y && decide (y = ("isinstance" : Str)) then match as with
          | [.Name t _] => match cE n raw sc a, tyNamed t with
            | some x, some ty => if glB sc t && c.free.contains t then some (.isi x [ty]) else none
            | _, _ => none
          | _ => none
        else if c.free.contains y then match biOf y (a :: as).length with
          | some b => (mapO (cE n raw sc) (a :: as)).map (.bi b)
          | none => none
        else match c.funs.lookup y with
          | some (f, ar) => if decide ((a :: as).length = ar) then (mapO (cE n raw sc) (a :: as)).map (.cal f) else (match c.dfl.lookup y with
            | some (f, m, ns) => if decide ((a :: as).length = m) then (mapO (cE n raw sc) (a :: as)).map fun xs => .cal f (xs ++ ns.map fun i => .cst (.int i)) else none
            | none => none)
          | none => none
      else none
    | .ListComp elt [⟨tg, it, ifs, 0⟩] scope _ =>
      match cT c.N scope (relS scope sc) tg, cSrc c sc (cE n raw sc) tg it, cE n scope (relS scope sc) elt, mapO (cE n scope (relS scope sc)) ifs with
      | some t, some s, some x, some cs =>
        if blkC c.N sc scope (ownOf c.N t) && decide (ifs.length ≤ 1) && !isSetE it && decide (2 ≤ flE rf x (bindK t .shr (kw c))) && flS rf s (kw c) then some (.comp x t s cs) else none
      | _, _, _, _ => none
    | _ => none
end

/-! ### it is right -/
theorem ixOf_ok {N : List Str} {x : Str} {i : Nat} (h : ixOf N x = some i) : N[i]? = some x := by
  unfold ixOf at h
  split at h
  · rename_i hz
    cases h
    exact of_decide_eq_true hz
  · cases h
theorem oddB_ok {x : Str} (h : (!oddB x) = true) : (x == ("__debug__" : Str)) = false ∧ (x == ("__classdict__" : Str)) = false ∧ x ≠ "__name__" := by
  rw [Bool.not_eq_true'] at h
  unfold oddB at h
  rw [Bool.or_eq_false_iff, Bool.or_eq_false_iff] at h
  exact ⟨h.1.1, h.1.2, of_decide_eq_false h.2⟩
theorem slotOf_ok {N : List Str} {sc : Scope} {x : Str} {i : Nat} (h : slotOf N sc x = some i) : N[i]? = some x ∧ Vis sc x ∧ (x == ("__debug__" : Str)) = false ∧ (x == ("__classdict__" : Str)) = false := by
  unfold slotOf at h
  split at h
  · rename_i hz
    rw [Bool.and_eq_true] at hz
    obtain ⟨o1, o2, _⟩ := oddB_ok hz.2
    refine ⟨ixOf_ok h, ?_, o1, o2⟩
    have v := hz.1
    unfold visB at v
    unfold Vis
    split at v
    · exact .inl (by assumption)
    · exact .inr (.inl (by assumption))
    · exact .inr (.inr (by assumption))
    · cases v
  · cases h
theorem glB_ok {sc : Scope} {x : Str} (h : glB sc x = true) : sc.names.lookup x = some .globalImplicit ∧ (x == ("__debug__" : Str)) = false ∧ x ≠ "__name__" := by
  unfold glB at h
  rw [Bool.and_eq_true, decide_eq_true_eq] at h
  obtain ⟨o1, _, o3⟩ := oddB_ok h.2
  exact ⟨h.1, o1, o3⟩
theorem cE_star {rf : Nat → Rf} {c : Ctx} {n : Nat} {raw sc : Scope} {e : Expr} {x : Ex} (h : cE rf c n raw sc e = some x) : isStar e = false := by
  cases n with
  | zero => cases h
  | succ n => cases e <;> first | rfl | (simp [cE] at h)
theorem cEs_star {rf : Nat → Rf} {c : Ctx} {n : Nat} {raw sc : Scope} : ∀ {es : List Expr} {xs : List Ex}, mapO (cE rf c n raw sc) es = some xs → es.all (fun e => !isStar e) = true
  | [], _, _ => rfl
  | e :: es, xs, h => by
    unfold mapO at h
    split at h
    · rename_i b hb
      obtain ⟨cs, e1, e2⟩ := Option.map_eq_some_iff.mp h
      rw [List.all_cons, cE_star hb, cEs_star e1]
      rfl
    · cases h
theorem kle_kw {c : Ctx} {κ : Kd} (h : κ.length = c.N.length) : KLe (kw c) κ := by
  refine ⟨by rw [kw, List.length_replicate, h], fun i q => ?_⟩
  unfold kd at q ⊢
  rw [List.getD_eq_getElem?_getD] at q ⊢
  rcases Nat.lt_or_ge i c.N.length with z | z
  · rw [kw, List.getElem?_replicate, if_pos z] at q
    cases q
  · rw [List.getElem?_eq_none (by omega)]
    rfl
section
variable {D : Wd} {X : Cx} {c : Ctx} {raw sc : Scope} {k : Nat}
theorem CxOk.gl (h : CxOk D X c raw sc k) {x : Str} (g : glB sc x = true) : Gl X x ∧ (x == ("__debug__" : Str)) = false ∧ x ≠ "__name__" := by
  obtain ⟨g1, g2, g3⟩ := glB_ok g
  exact ⟨by unfold Gl PySem.Env.kindOf; rw [h.scope]; exact g1, g2, g3⟩
theorem CxOk.fr (h : CxOk D X c raw sc k) {x : Str} (g : c.free.contains x = true) : X.mg x = none := h.bi x (List.contains_iff_mem.mp g)
theorem CxOk.vis (h : CxOk D X c raw sc k) {x : Str} {i : Nat} (g : slotOf c.N sc x = some i) : X.N[i]? = some x ∧ Vis X.env.scope x ∧ (x == ("__debug__" : Str)) = false ∧ (x == ("__classdict__" : Str)) = false := by
  rw [h.names, h.scope]
  exact slotOf_ok g
/-- into a block -/
theorem CxOk.blk (h : CxOk D X c raw sc k) (scope : Scope) (s0 : Shared) (H0 : Hp) (C : Addr) (cl : List (Str × Addr)) (fp : List Addr) : CxOk D (X.blk s0 H0 scope (compEnvC scope cl C X.env) fp) c scope (relS scope sc) k := by
  refine ⟨?_, h.names, h.nd, h.calm, fun x q => ?_, h.room, h.bi, h.fn, h.io, h.glo, h.dfl⟩
  · rw [← h.scope]
    rfl
  · show (scope.names.lookup x == some .cell) = true
    rw [q]
    rfl
theorem tgNm_ok (h : CxOk D X c raw sc k) {x : Str} {i : Nat} {p : Pos} (g : tgNm c.N raw sc x = some i) : PG X (.Name x p) (gName i) := by
  unfold tgNm at g
  split at g
  · rename_i hz
    rw [Bool.and_eq_true, Bool.or_eq_true, Bool.and_eq_true, decide_eq_true_eq, decide_eq_true_eq, decide_eq_true_eq] at hz
    have hi := ixOf_ok g
    rw [← h.names] at hi
    have nd : X.N.Nodup := by rw [h.names]; exact h.nd
    rcases hz.2 with q | ⟨q1, q2⟩
    · rw [← h.scope] at q
      exact pg_name nd hi (.inl q) (.inr q)
    · rw [← h.scope] at q1
      exact pg_name nd hi (.inr q1) (.inl (h.fnc x q2))
  · cases g
theorem cT_ok (h : CxOk D X c raw sc k) {tg : Expr} {t : Tgt} (g : cT c.N raw sc tg = some t) : PG X tg (gT X.K t) := by
  cases tg with
  | Name x p =>
    obtain ⟨i, e1, e2⟩ := Option.map_eq_some_iff.mp g
    subst e2
    exact tgNm_ok h e1
  | Tuple es kk p =>
    obtain ⟨is, e1, e2⟩ := Option.map_eq_some_iff.mp g
    subst e2
    have main : ∀ {es : List Expr} {is : List Nat}, F2 (fun e i => PG X e (gName i) ∧ ∃ x p, e = .Name x p) es is → PGs X es (gNs is) ∧ (assignEach es X.env).length = is.length ∧ (assignEach es X.env).findIdx? (·.1) = none := by
      intro es is f
      induction f with
      | nil => exact ⟨pgs_nil, rfl, rfl⟩
      | @cons e i es is f1 _ ih =>
        obtain ⟨f1, x, p, rfl⟩ := f1
        have e1 : assignEach (.Name x p :: es) X.env = (false, assign (.Name x p) X.env) :: assignEach es X.env := rfl
        refine ⟨pgs_cons f1 ih.1 (by rw [e1]; rfl), by rw [e1, List.length_cons, ih.2.1]; rfl, ?_⟩
        rw [e1, List.findIdx?_cons, ih.2.2]
        rfl
    have f2 : F2 (fun e i => PG X e (gName i) ∧ ∃ x p, e = .Name x p) es is := mapO_f2 (fun e i q => by
      split at q
      · exact ⟨tgNm_ok h q, _, _, rfl⟩
      · cases q) e1
    obtain ⟨m1, m2, m3⟩ := main f2
    exact pg_tup h.calm m1 m2 m3
  | _ => cases g
theorem notSet {it : Expr} (h : isSetE it = false) : ∀ x, foldedSetIterable it X.env x = pure x := by
  intro x
  cases it <;> first | rfl | exact Bool.noConfusion h
theorem cSrc_ok (h : CxOk D X c raw sc k) {f : Expr → Option Ex} (hf : ∀ e x, f e = some x → SE D X e x ∧ isStar e = false) {tg it : Expr} {s : Sr} (g : cSrc c sc f tg it = some s) : SS D X tg it s := by
  have rest : ∀ {it : Expr} {s : Sr}, (match f it with
    | some (.var _) => none
    | some x => some (Sr.seq x)
    | none => none) = some s → SS D X tg it s := by
    intro it s q
    split at q
    · cases q
    · rename_i x e hv
      cases q
      exact ss_seq (hf _ _ hv).1 (fun i z => e i z)
    · cases q
  unfold cSrc at g
  split at g
  · rename_i y p
    split at g
    · rename_i i hi
      cases g
      obtain ⟨v1, v2, v3, v4⟩ := h.vis hi
      exact ss_var v1 v2 v3 v4
    · exact rest g
  · rename_i y p args pos
    split at g
    · rename_i hz
      simp only [Bool.and_eq_true, decide_eq_true_eq] at hz
      obtain ⟨g1, _, _⟩ := h.gl hz.1.1
      have m := h.fr hz.1.2
      split at g
      · rename_i a
        split at g
        · rename_i x hx
          cases g
          exact ss_rng1 hz.2 g1 m (hf _ _ hx).2 (hf _ _ hx).1
        · cases g
      · rename_i a b
        split at g
        · rename_i x y hx hy
          cases g
          exact ss_rng2 hz.2 g1 m (hf _ _ hx).2 (hf _ _ hy).2 (hf _ _ hx).1 (hf _ _ hy).1
        · cases g
      · cases g
    · split at g
      · rename_i hz
        simp only [Bool.and_eq_true, decide_eq_true_eq] at hz
        obtain ⟨g1, _, _⟩ := h.gl hz.1.1
        have m := h.fr hz.1.2
        split at g
        · split at g
          · rename_i x y hx hy
            cases g
            exact ss_zip hz.2 g1 m (hf _ _ hx).2 (hf _ _ hy).2 (hf _ _ hx).1 (hf _ _ hy).1
          · cases g
        · split at g
          · rename_i x y z hx hy hw
            cases g
            exact ss_zip3 hz.2 g1 m (hf _ _ hx).2 (hf _ _ hy).2 (hf _ _ hw).2 (hf _ _ hx).1 (hf _ _ hy).1 (hf _ _ hw).1
          · cases g
        · cases g
      · split at g
        · rename_i hz
          simp only [Bool.and_eq_true, decide_eq_true_eq] at hz
          obtain ⟨g1, _, _⟩ := h.gl hz.1.1
          have m := h.fr hz.1.2
          split at g
          · split at g
            · rename_i x hx
              cases g
              exact ss_enm hz.2 g1 m (hf _ _ hx).2 (hf _ _ hx).1
            · cases g
          · cases g
        · split at g
          · rename_i hz
            simp only [Bool.and_eq_true, decide_eq_true_eq] at hz
            obtain ⟨g1, _, _⟩ := h.gl hz.1.1
            have m := h.fr hz.1.2
            split at g
            · split at g
              · rename_i x hx
                cases g
                exact ss_rev hz.2 g1 m (hf _ _ hx).2 (hf _ _ hx).1
              · cases g
            · cases g
          · exact rest g
  · exact rest g
theorem cBool_ok {op : BoolOp} {pos : Pos} : ∀ {es : List Expr} {xs : List Ex} {x : Ex}, F2 (SE D X) es xs → cBool op xs = some x → SE D X (.BoolOp op es pos) x
  | _, _, _, .nil, g => by cases g
  | _, _, _, .cons h1 .nil, g => by
    cases g
    exact se_bool1 h1
  | _, _, _, .cons h1 (.cons h2 h3), g => by
    cases op with
    | And =>
      obtain ⟨y, e1, e2⟩ := Option.map_eq_some_iff.mp (show (cBool .And _).map _ = some _ from g)
      subst e2
      exact se_and h1 (cBool_ok (.cons h2 h3) e1)
    | Or =>
      obtain ⟨y, e1, e2⟩ := Option.map_eq_some_iff.mp (show (cBool .Or _).map _ = some _ from g)
      subst e2
      exact se_or h1 (cBool_ok (.cons h2 h3) e1)
end
/-- EVERY EXPRESSION that the compiler takes keeps what the evaluator tells -/
theorem cE_ok {D : Wd} {c : Ctx} {k : Nat} (hcf : ∀ f ds d, D.cf f ds = .ok d → rfOk (D.rf f) d = true) : ∀ (n : Nat) (raw sc : Scope) (e : Expr) (x : Ex), cE D.rf c n raw sc e = some x → ∀ X, CxOk D X c raw sc k → SE D X e x := by
  intro n
  induction n with
  | zero => intro raw sc e x h; cases h
  | succ n ih =>
    intro raw sc e x h X cx
    have hu : X.A.units + 65 < cLine := by
      have := cx.room.un
      omega
    have many : ∀ {es : List Expr} {xs : List Ex}, mapO (cE D.rf c n raw sc) es = some xs → F2 (SE D X) es xs := fun q => mapO_f2 (fun e x q => ih raw sc e x q X cx) q
    unfold cE at h
    split at h
    · -- Name
      split at h
      · rename_i i hi
        cases h
        obtain ⟨v1, v2, v3, v4⟩ := cx.vis hi
        exact se_var v1 v2 v3 v4
      · split at h
        · rename_i hg
          obtain ⟨g, e1, e2⟩ := Option.map_eq_some_iff.mp h
          subst e2
          obtain ⟨v, u, m1, m2, m3⟩ := cx.glo _ _ e1
          obtain ⟨g1, g2, _⟩ := cx.gl hg
          exact se_glo g1 m1 m2 g2 m3
        · cases h
    · -- Constant
      split at h
      · cases h; exact se_cst (fun _ => rfl) pe_int rfl
      · cases h; exact se_cst (fun _ => rfl) pe_bl rfl
      · cases h; exact se_cst (fun _ => rfl) pe_str rfl
      · cases h; exact se_cst (fun _ => rfl) pe_non rfl
      · cases h
    · -- Tuple
      split at h
      · rename_i hz
        obtain ⟨xs, e1, e2⟩ := Option.map_eq_some_iff.mp h
        subst e2
        exact se_tup (many e1) (cEs_star e1) (of_decide_eq_true hz)
      · cases h
    · -- List
      split at h
      · rename_i hz
        obtain ⟨xs, e1, e2⟩ := Option.map_eq_some_iff.mp h
        subst e2
        exact se_lst (many e1) (cEs_star e1) (of_decide_eq_true hz)
      · cases h
    · -- BinOp
      split at h
      · rename_i o x y h1 h2 h3
        cases h
        rw [cOp_ok h1]
        exact se_bin (ih _ _ _ _ h2 X cx) (ih _ _ _ _ h3 X cx)
      · cases h
    · -- UnaryOp
      split at h
      · rename_i h1
        cases h
        exact se_neg (ih _ _ _ _ h1 X cx)
      · rename_i h1
        cases h
        exact se_not (ih _ _ _ _ h1 X cx)
      · cases h
    · -- BoolOp
      split at h
      · split at h
        · rename_i xs h1
          exact cBool_ok (many h1) h
        · cases h
      · cases h
    · -- Compare
      split at h
      · obtain ⟨y, e1, e2⟩ := Option.map_eq_some_iff.mp h
        subst e2
        exact se_isn (neg := false) (ih _ _ _ _ e1 X cx)
      · obtain ⟨y, e1, e2⟩ := Option.map_eq_some_iff.mp h
        subst e2
        exact se_isn (neg := true) (ih _ _ _ _ e1 X cx)
      · split at h
        · rename_i o x y h1 h2 h3
          split at h
          · cases h
          · rename_i hb
            cases h
            rw [cCop_ok h1] at hb ⊢
            exact se_cmp hu (ih _ _ _ _ h2 X cx) (ih _ _ _ _ h3 X cx) (Bool.eq_false_iff.mpr hb)
        · cases h
    · -- IfExp
      split at h
      · rename_i z x y h1 h2 h3
        cases h
        exact se_ife (ih _ _ _ _ h1 X cx) (ih _ _ _ _ h2 X cx) (ih _ _ _ _ h3 X cx)
      · cases h
    · -- Subscript
      split at h
      · rename_i lo hi pp
        have part : ∀ {o : Option Expr} {l : List Ex}, cPart (cE D.rf c n raw sc) o = some l → SO D X o l := by
          intro o l q
          cases o with
          | none => cases q; exact .none
          | some e =>
            obtain ⟨y, e1, e2⟩ := Option.map_eq_some_iff.mp (show (cE D.rf c n raw sc e).map (fun x => [x]) = some l from q)
            subst e2
            exact .some (ih _ _ _ _ e1 X cx)
        split at h
        · rename_i x l hh h1 h2 h3
          cases h
          exact se_slc (ih _ _ _ _ h1 X cx) (part h2) (part h3)
        · cases h
      · split at h
        · rename_i x y h1 h2
          split at h
          · cases h
          · rename_i hs
            cases h
            exact se_idx (ih _ _ _ _ h1 X cx) (ih _ _ _ _ h2 X cx) (Bool.eq_false_iff.mpr hs)
        · cases h
    · -- o.bit_length()
      split at h
      · rename_i hz
        rw [Bool.and_eq_true, decide_eq_true_eq] at hz
        obtain ⟨rfl, hl⟩ := hz
        obtain ⟨i, e1, rfl⟩ := Option.map_eq_some_iff.mp h
        obtain ⟨v1, v2, v3, v4⟩ := cx.vis e1
        exact se_bits v1 v2 v3 v4 hl
      · cases h
    · -- f(g(x))
      split at h
      · rename_i hz
        simp only [Bool.and_eq_true, decide_eq_true_eq] at hz
        obtain ⟨⟨⟨z1, z2⟩, z3⟩, ⟨z4, z5⟩, z6⟩ := hz
        obtain ⟨g1, _, _⟩ := cx.gl z1
        obtain ⟨g2, _, _⟩ := cx.gl z4
        obtain ⟨xb, e1, rfl⟩ := Option.map_eq_some_iff.mp h
        exact se_lrev cx.calm z3 g1 (cx.fr z2) z6 g2 (cx.fr z5) (cE_star e1) (ih _ _ _ _ e1 X cx)
      · split at h
        · rename_i hg
          obtain ⟨g1, g2, g3⟩ := cx.gl hg
          split at h
          · rename_i hz
            split at h
            · rename_i b hb
              obtain ⟨xs, e1, e2⟩ := Option.map_eq_some_iff.mp h
              subst e2
              exact se_bi cx.calm (biOf_ok hb) g1 (cx.fr hz) g3 g2 (cEs_star e1) (many e1)
            · cases h
          · split at h
            · rename_i f ar hf
              split at h
              · rename_i har
                obtain ⟨xs, e1, e2⟩ := Option.map_eq_some_iff.mp h
                subst e2
                obtain ⟨fa, fd, ps, m1, m2, m3, m4, m5⟩ := cx.fn _ _ _ hf
                refine se_cal (k := k) (ar := ar) hcf m1 m2 m3 m5 (cx.room.mono (Nat.le_succ _)) g1 g2 (cEs_star e1) (many e1) ?_
                rw [← (many e1).len]
                exact of_decide_eq_true har
              · cases h
            · cases h
        · cases h
    · -- sorted(e, key=g)
      rename_i y p e kn g p2 kp pos
      split at h
      · rename_i hz
        simp only [Bool.and_eq_true, decide_eq_true_eq] at hz
        obtain ⟨⟨⟨⟨z1, z2⟩, z3⟩, rfl⟩, z4⟩ := hz
        obtain ⟨g1, _, _⟩ := cx.gl z1
        obtain ⟨g2, g3, _⟩ := cx.gl z4
        split at h
        · rename_i f ar hf
          split at h
          · rename_i har
            have har := of_decide_eq_true har
            subst har
            obtain ⟨x', e1, rfl⟩ := Option.map_eq_some_iff.mp h
            obtain ⟨fa, fd, ps, m1, m2, m3, m4, m5⟩ := cx.fn _ _ _ hf
            exact se_srt (k := k) z3 g1 (cx.fr z2) g2 g3 m1 m3 m5 cx.room (cE_star e1) (ih _ _ _ _ e1 X cx)
          · cases h
        · cases h
      · cases h
    · -- Call
      rename_i y p a as pos
      split at h
      · rename_i hg
        obtain ⟨g1, g2, g3⟩ := cx.gl hg
        split at h
        · rename_i hz
          rw [Bool.and_eq_true, decide_eq_true_eq] at hz
          split at h
          · obtain ⟨x', e1, rfl⟩ := Option.map_eq_some_iff.mp h
            exact se_srt1 (k := k) hz.2 g1 (cx.fr hz.1) (cx.room.mono (Nat.le_succ _)) (cE_star e1) (ih _ _ _ _ e1 X cx)
          · cases h
        split at h
        · rename_i hz
          rw [Bool.and_eq_true, decide_eq_true_eq] at hz
          split at h
          · rename_i t pt
            split at h
            · rename_i x ty h1 h2
              split at h
              · rename_i ht
                rw [Bool.and_eq_true] at ht
                cases h
                obtain ⟨t1, t2⟩ := tyNamed_ok h2
                obtain ⟨g4, _, _⟩ := cx.gl ht.1
                have m2 := cx.fr ht.2
                rw [t1] at g4 m2
                rw [t1]
                exact se_isi hz.2 g1 (cx.fr hz.1) (cE_star h1) (ih _ _ _ _ h1 X cx) (.one t2 g4 m2)
              · cases h
            · cases h
          · cases h
        · split at h
          · rename_i hz
            split at h
            · rename_i b hb
              obtain ⟨xs, e1, e2⟩ := Option.map_eq_some_iff.mp h
              subst e2
              exact se_bi cx.calm (biOf_ok hb) g1 (cx.fr hz) g3 g2 (cEs_star e1) (many e1)
            · cases h
          · split at h
            · rename_i f ar hf
              split at h
              · rename_i har
                obtain ⟨xs, e1, e2⟩ := Option.map_eq_some_iff.mp h
                subst e2
                obtain ⟨fa, fd, ps, m1, m2, m3, m4, m5⟩ := cx.fn _ _ _ hf
                refine se_cal (k := k) (ar := ar) hcf m1 m2 m3 m5 (cx.room.mono (Nat.le_succ _)) g1 g2 (cEs_star e1) (many e1) ?_
                rw [← (many e1).len]
                exact of_decide_eq_true har
              · split at h
                · rename_i f' m' ns hd
                  split at h
                  · rename_i har
                    obtain ⟨xs, e1, e2⟩ := Option.map_eq_some_iff.mp h
                    subst e2
                    obtain ⟨fa, fd, ps, us0, m1, m2, m3, m4, m5⟩ := cx.dfl _ _ _ _ hd
                    refine se_cald (k := k) (n := m') hcf m1 m2 m3 m4 m5 (cx.room.mono (Nat.le_succ _)) g1 g2 (cEs_star e1) (many e1) ?_
                    rw [← (many e1).len]
                    exact of_decide_eq_true har
                  · cases h
                · cases h
            · cases h
      · cases h
    · -- ListComp
      rename_i elt tg it ifs scope pos
      split at h
      · rename_i t s x cs h1 h2 h3 h4
        split at h
        · rename_i hz
          simp only [Bool.and_eq_true, decide_eq_true_eq, Bool.not_eq_true'] at hz
          obtain ⟨⟨⟨⟨z1, z2⟩, z3⟩, z4⟩, z5⟩ := hz
          cases h
          have f4 := mapO_f2 (P := fun e x => ∀ X, CxOk D X c scope (relS scope sc) k → SE D X e x) (fun e x q => ih _ _ e x q) h4
          have nd : X.N.Nodup := by rw [cx.names]; exact cx.nd
          refine se_comp cx.calm nd (own := ownOf c.N t) (by rw [cx.names, cx.scope]; exact blkOk_by z1) ?_ (fun s0 H0 C cl fp => cT_ok (cx.blk scope s0 H0 C cl fp) h1) (cSrc_ok cx (fun e x q => ⟨ih _ _ _ _ q X cx, cE_star q⟩) h2)
            (fun s0 H0 C cl fp => ih _ _ _ _ h3 _ (cx.blk scope s0 H0 C cl fp)) (fun s0 H0 C cl fp => ?_) z2 f4.len (notSet z3) (fun κ hk => ?_) (fun σ H s pins I => I.len)
          · unfold ownOf
            rw [List.map_map]
            exact List.map_id' _
          · have : ∀ {es : List Expr} {xs : List Ex}, F2 (fun e x => ∀ X, CxOk D X c scope (relS scope sc) k → SE D X e x) es xs → F2 (SE D (X.blk s0 H0 scope (compEnvC scope cl C X.env) fp)) es xs := by
              intro es xs f
              induction f with
              | nil => exact .nil
              | cons f1 _ ih2 => exact .cons (f1 _ (cx.blk scope s0 H0 C cl fp)) ih2
            exact this f4
          · have kl := kle_kw (c := c) (κ := κ) (by rw [hk, cx.names])
            exact ⟨Nat.le_trans z4 (fl_mono _ _ _ (kl.bind t)), flS_mono _ _ _ kl z5⟩
        · cases h
      · cases h
    · cases h
end PV

/-! PV, part K: statements: what they come to; the states -/
namespace PV
open PySem PySem.Spec PyProof.Rows L2

inductive End where
  | nx (κ : Kd) (ρ : Env)
  | rt (fl : Nat) (d : Dat)
  | bk (κ : Kd) (ρ : Env)
  | ct (κ : Kd) (ρ : Env)
  | xc (κ : Kd) (ρ : Env) (z : Dat)
  | r0 (κ : Kd) (ρ : Env)
@[irreducible] def FUEL : Nat := 2 ^ (2 ^ 20)
def frz1 (κ : Kd) (i : Nat) : Kd := if kd κ i = .own then setK κ i .shr else κ
def frz (κ : Kd) (is : List Nat) : Kd := is.foldl frz1 κ
def frzA (κ : Kd) : Kd := κ.map fun _ => .shr
def lend (κ : Kd) : Sr → Kd
  | .seq (.var i) => if kd κ i = .own then setK κ i .lent else κ
  | _ => κ
def unlend (κ κ' : Kd) : Sr → Kd
  | .seq (.var i) => if kd κ i = .own ∧ kd κ' i = .lent then setK κ' i .own else κ'
  | _ => κ'
def leakS (rf : Nat → Rf) : Sr → List Nat
  | .seq (.var _) => []
  | .seq e => leak rf e
  | .rng _ => []
  | .zip a b => leak rf a ++ leak rf b
  | .zip3 a b c => leak rf a ++ (leak rf b ++ leak rf c)
  | .enm e => leak rf e
  | .rev e => leak rf e
/-- behind an expression -/
def onE (κ : Kd) (ρ : Env) (r : Rs Dat) (f : Dat → Rs End) : Rs End := match r with
  | .ok d => f d
  | .ex z => .ok (.xc κ ρ z)
  | .no => .no
def onB (κ : Kd) (ρ : Env) (r : Rs Bool) (f : Bool → Rs End) : Rs End := match r with
  | .ok d => f d
  | .ex z => .ok (.xc κ ρ z)
  | .no => .no
def loopW (c : Env → Rs Bool) (b : Kd → Env → Rs End) : Nat → Kd → Env → Rs End
  | 0, _, _ => .no
  | n + 1, κ, ρ => onB κ ρ (c ρ) fun k => if k then (match b κ ρ with
    | .ok (.nx κ' ρ') => loopW c b n κ' ρ'
    | .ok (.ct κ' ρ') => loopW c b n κ' ρ'
    | .ok (.bk κ' ρ') => .ok (.nx κ' ρ')
    | r => r) else .ok (.nx κ ρ)
def loopF (t : Tgt) (b : Kd → Env → Rs End) : List Dat → Kd → Env → Rs End
  | [], κ, ρ => .ok (.nx κ ρ)
  | d :: ds, κ, ρ => match bindT t d ρ with
    | .ok ρ' => (match b (bindK t .shr κ) ρ' with
      | .ok (.nx κ' ρ'') => loopF t b ds κ' ρ''
      | .ok (.ct κ' ρ'') => loopF t b ds κ' ρ''
      | .ok (.bk κ' ρ'') => .ok (.nx κ' ρ'')
      | r => r)
    | _ => .no
def noLent (κ : Kd) : Bool := κ.all fun k => match k with
  | .lent => false
  | _ => true
theorem noLent_kd {κ : Kd} (h : noLent κ = true) (i : Nat) : kd κ i ≠ .lent := by
  unfold kd
  rw [List.getD_eq_getElem?_getD]
  cases e : κ[i]? with
  | none => exact fun z => by cases z
  | some k =>
    have m := List.mem_of_getElem? e
    have := List.all_eq_true.mp h k m
    intro z
    have z : k = .lent := z
    rw [z] at this
    cases this
section
variable (cf : Nat → List Dat → Rs Dat) (gl : Nat → Dat) (rf : Nat → Rf)
def isVar : Ex → Option Nat
  | .var i => some i
  | _ => none
mutual
def exS : Sm → Kd → Env → Rs End
  | .asg i e, κ, ρ => onE (frz κ (leak rf e)) ρ (evE cf gl e ρ) fun d =>
    if flE rf e (frz κ (leak rf e)) < 2 then .no else .ok (.nx (setK (frz κ (leak rf e)) i (if isMut d && decide (3 ≤ flE rf e (frz κ (leak rf e))) then .own else .shr)) (ρ.set i (some d)))
  | .unp is e, κ, ρ => onE (frz κ (leak rf e)) ρ (evE cf gl e ρ) fun d =>
    if flE rf e (frz κ (leak rf e)) < 2 then .no else (match bindT (.tp is) d ρ with
      | .ok ρ' => .ok (.nx (bindK (.tp is) .shr (frz κ (leak rf e))) ρ')
      | _ => .no)
  | .ret e, κ, ρ => match isVar e with
    | some i => if kd κ i = .own then onE κ ρ (getV ρ i) fun d => .ok (.rt 3 d) else onE κ ρ (getV ρ i) fun d => .ok (.rt 2 d)
    | none => onE κ ρ (evE cf gl e ρ) fun d => .ok (.rt (flE rf e (frzA κ)) d)
  | .ret0, κ, ρ => .ok (.r0 κ ρ)
  | .ite c a b, κ, ρ => onB κ ρ ((evE cf gl c ρ).bind truth) fun k => if k then exSs a κ ρ else exSs b κ ρ
  | .whl c b, κ, ρ => loopW (fun ρ => (evE cf gl c ρ).bind truth) (exSs b) FUEL κ ρ
  | .fr t s b, κ, ρ =>
    if flS rf s (lend (frz κ (leakS rf s)) s) && okS rf s (lend (frz κ (leakS rf s)) s) then (match evS cf gl s ρ with
      | .ok ds => (match loopF t (exSs b) ds (lend (frz κ (leakS rf s)) s) ρ with
        | .ok (.nx κ' ρ') => .ok (.nx (unlend (frz κ (leakS rf s)) κ' s) ρ')
        | .ok (.bk _ _) => .no
        | .ok (.ct _ _) => .no
        | r => r)
      | .ex z => .ok (.xc (lend (frz κ (leakS rf s)) s) ρ z)
      | .no => .no) else .no
  | .brk, κ, ρ => .ok (.bk κ ρ)
  | .cnt, κ, ρ => .ok (.ct κ ρ)
  | .pas, κ, ρ => .ok (.nx κ ρ)
  | .exp e, κ, ρ => onE κ ρ (evE cf gl e ρ) fun _ => .ok (.nx κ ρ)
  | .app i e, κ, ρ => if 2 ≤ flE rf e (frz κ (leak rf e)) ∧ isMu (kd (frz κ (leak rf e)) i) = true then (match getV ρ i with
      | .ok (.lst xs) => onE (frz κ (leak rf e)) ρ (evE cf gl e ρ) fun d =>
        if decide (xs.length < sizeLine) then .ok (.nx (frz κ (leak rf e)) (ρ.set i (some (.lst (xs ++ [d]))))) else .no
      | _ => .no) else .no
  | .sti i k e, κ, ρ => if 2 ≤ flE rf e (frz κ (leak rf e)) ∧ isMu (kd (frz κ (leak rf e)) i) = true then (match getV ρ i with
      | .ok (.lst xs) => onE (frz κ (leak rf e)) ρ (evE cf gl e ρ) fun d => onE (frz κ (leak rf e)) ρ (evE cf gl k ρ) fun ix => match ix with
        | .int n => (match ixN xs.length n with
          | some j => .ok (.nx (frz κ (leak rf e)) (ρ.set i (some (.lst (xs.set j d)))))
          | none => .no)
        | _ => .no
      | _ => .no) else .no
  | .rse C, κ, ρ => .ok (.xc κ ρ (.exc C []))
  | .cio f i es, κ, ρ => if flL rf es (frz κ (leak.leakL rf es)) = true ∧ isMu (kd (frz κ (leak.leakL rf es)) i) = true then (match getV ρ i with
      | .ok d0 => (match evL cf gl es ρ with
        | .ok ds => (match cf f (d0 :: ds) with
          | .ok d1 => .ok (.nx (frz κ (leak.leakL rf es)) (ρ.set i (some d1)))
          | _ => .no)
        | .ex z => .ok (.xc (frz κ (leak.leakL rf es)) ρ z)
        | .no => .no)
      | _ => .no) else .no
  | .xtd i e, κ, ρ => if 2 ≤ flE rf e (frz κ (leak rf e)) ∧ isMu (kd (frz κ (leak rf e)) i) = true then (match getV ρ i with
      | .ok (.lst xs) => onE (frz κ (leak rf e)) ρ (evE cf gl e ρ) fun d => match d with
        | .lst ys => if decide (xs.length + ys.length ≤ sizeLine) then .ok (.nx (frz κ (leak rf e)) (ρ.set i (some (.lst (xs ++ ys))))) else .no
        | _ => .no
      | _ => .no) else .no
  | .ins i k e, κ, ρ => if 2 ≤ flE rf e (frz κ (leak rf e)) ∧ isMu (kd (frz κ (leak rf e)) i) = true then (match getV ρ i with
      | .ok (.lst xs) => onE (frz κ (leak rf e)) ρ (evE cf gl k ρ) fun ix => onE (frz κ (leak rf e)) ρ (evE cf gl e ρ) fun d => match ix with
        | .int n => if decide (0 ≤ n) && decide (n < 1000000) && decide (xs.length < sizeLine) then .ok (.nx (frz κ (leak rf e)) (ρ.set i (some (.lst (xs.take n.toNat ++ [d] ++ xs.drop n.toNat))))) else .no
        | _ => .no
      | _ => .no) else .no
  | .par i j a b, κ, ρ => onE κ ρ (evE cf gl a ρ) fun d => onE κ ρ (evE cf gl b ρ) fun d2 =>
      if (decide (2 ≤ flE rf a κ) && decide (2 ≤ flE rf b κ)) && (!isMut d && !isMut d2) then .ok (.nx (setK (setK κ i .shr) j .shr) ((ρ.set i (some d)).set j (some d2))) else .no
  | .tryF b ei j tb, κ, ρ => match exSs b κ ρ with
    | .ok (.xc κ' ρ' (.exc C [])) => (match tb.lookup C with
      | some (some d) => if noLent κ' && decide (κ'.length = κ.length) then .ok (.nx (setK (setK κ' ei .shr) j .shr) ((ρ'.set ei none).set j (some d))) else .no
      | some none => .ok (.xc κ' ρ' (.exc C []))
      | none => .no)
    | .ok (.xc _ _ _) => .no
    | r => r
def exSs : List Sm → Kd → Env → Rs End
  | [], κ, ρ => .ok (.nx κ ρ)
  | s :: ss, κ, ρ => match exS s κ ρ with
    | .ok (.nx κ' ρ') => exSs ss κ' ρ'
    | r => r
end
end

/-! ### the states -/
section
variable {K : PySem.W.Frag} {κ κ' : Kd} {ρ ρ' : Env} {σ σ' : L2.St} {H H' : Hp} {O O' : Addr → Prop}
/-- the roots that may be changed; those that are owned -/
def Mr (κ : Kd) (ρ : Env) (σ : L2.St) (a : Addr) : Prop := ∃ i d, ρ[i]? = some (some d) ∧ isMu (kd κ i) = true ∧ σ[i]? = some (some (.ref a))
def Ar (κ : Kd) (ρ : Env) (σ : L2.St) (a : Addr) : Prop := ∃ i d, ρ[i]? = some (some d) ∧ isOwn (kd κ i) = true ∧ σ[i]? = some (some (.ref a))
theorem Mr.ar {a : Addr} (h : Mr κ ρ σ a) : Ar κ ρ σ a := by
  obtain ⟨i, d, h1, h2, h3⟩ := h
  exact ⟨i, d, h1, isMu_own h2, h3⟩
theorem Rel.ownO (r : Rel K κ ρ σ H O) {a : Addr} (h : Ar κ ρ σ a) : O a ∧ ∃ d, Own K O H a d := by
  obtain ⟨i, d, h1, h2, h3⟩ := h
  obtain ⟨v, g1, g2⟩ := r.slot i d h1
  rw [h3] at g1
  cases g1
  obtain ⟨b, e, o1, o2⟩ := g2.ref h2
  cases e
  exact ⟨o1, d, o2⟩
structure Stq (K : PySem.W.Frag) (κ : Kd) (ρ : Env) (σ : L2.St) (H : Hp) (O : Addr → Prop) (κ' : Kd) (ρ' : Env) (σ' : L2.St) (H' : Hp) (O' : Addr → Prop) : Prop where
  den : ∀ v d, Den K O H v d → Den K O' H' v d
  frm : ∀ a o, H a = some o → ¬ Mr κ ρ σ a → H' a = some o
  kep : ∀ a, O a → ¬ Ar κ ρ σ a → O' a
  mr : ∀ a, Mr κ' ρ' σ' a → Mr κ ρ σ a ∨ H a = none
  ar : ∀ a, Ar κ' ρ' σ' a → Ar κ ρ σ a ∨ H a = none
  par : ∀ i, kd κ' i = .arg → kd κ i = .arg ∧ σ'[i]? = σ[i]?
structure Stp (K : PySem.W.Frag) (κ : Kd) (ρ : Env) (σ : L2.St) (H : Hp) (O : Addr → Prop) (κ' : Kd) (ρ' : Env) (σ' : L2.St) (H' : Hp) (O' : Addr → Prop) : Prop where
  den : ∀ v d, Den K O H v d → Den K O' H' v d
  frm : ∀ a o, H a = some o → ¬ Mr κ ρ σ a → H' a = some o
  kep : ∀ a, O a → ¬ Ar κ ρ σ a → O' a
  mr : ∀ a, Mr κ' ρ' σ' a → Mr κ ρ σ a ∨ H a = none
  ar : ∀ a, Ar κ' ρ' σ' a → Ar κ ρ σ a ∨ H a = none
  par : ∀ i, kd κ' i = .arg → kd κ i = .arg ∧ σ'[i]? = σ[i]?
  len : ∀ i, kd κ' i = .lent → kd κ i = .lent ∧ σ'[i]? = σ[i]? ∧ ρ'[i]? = ρ[i]?
  lk : κ'.length = κ.length
theorem Stp.refl : Stp K κ ρ σ H O κ ρ σ H O := ⟨fun _ _ h => h, fun _ _ h _ => h, fun _ h _ => h, fun _ h => .inl h, fun _ h => .inl h, fun _ h => ⟨h, rfl⟩, fun _ h => ⟨h, rfl, rfl⟩, rfl⟩
theorem Stp.there (h : Stp K κ ρ σ H O κ' ρ' σ' H' O') (r : Rel K κ ρ σ H O) (r' : Rel K κ' ρ' σ' H' O') {a : Addr} (n : H' a = none) (hm : ¬ Mr κ ρ σ a) : H a = none := by
  cases q : H a with
  | none => rfl
  | some o =>
    rw [h.frm a o q hm] at n
    cases n
theorem Stp.trans {κ2 : Kd} {ρ2 : Env} {σ2 : L2.St} {H2 : Hp} {O2 : Addr → Prop} (r : Rel K κ ρ σ H O) (r1 : Rel K κ' ρ' σ' H' O') (h : Stp K κ ρ σ H O κ' ρ' σ' H' O') (h2 : Stp K κ' ρ' σ' H' O' κ2 ρ2 σ2 H2 O2) : Stp K κ ρ σ H O κ2 ρ2 σ2 H2 O2 := by
  refine ⟨fun v d q => h2.den v d (h.den v d q), fun a o q n => ?_, fun a q n => ?_, fun a q => ?_, fun a q => ?_, fun i q => ?_, fun i q => ?_, h2.lk.trans h.lk⟩
  · refine h2.frm a o (h.frm a o q n) fun z => ?_
    rcases h.mr a z with z | z
    · exact n z
    · rw [q] at z; cases z
  · refine h2.kep a (h.kep a q n) fun z => ?_
    rcases h.ar a z with z | z
    · exact n z
    · obtain ⟨o, q⟩ := r.trk a q
      rw [q] at z; cases z
  · rcases h2.mr a q with z | z
    · exact h.mr a z
    · by_cases hm : Mr κ ρ σ a
      · exact .inl hm
      · exact .inr (h.there r r1 z hm)
  · rcases h2.ar a q with z | z
    · exact h.ar a z
    · by_cases hm : Mr κ ρ σ a
      · exact .inl hm.ar
      · exact .inr (h.there r r1 z hm)
  · obtain ⟨q1, q2⟩ := h2.par i q
    obtain ⟨p1, p2⟩ := h.par i q1
    exact ⟨p1, q2.trans p2⟩
  · obtain ⟨q1, q2, q3⟩ := h2.len i q
    obtain ⟨p1, p2, p3⟩ := h.len i q1
    exact ⟨p1, q2.trans p2, q3.trans p3⟩
theorem Stp.q (h : Stp K κ ρ σ H O κ' ρ' σ' H' O') : Stq K κ ρ σ H O κ' ρ' σ' H' O' := ⟨h.den, h.frm, h.kep, h.mr, h.ar, h.par⟩
theorem Stq.there (h : Stq K κ ρ σ H O κ' ρ' σ' H' O') {a : Addr} (n : H' a = none) (hm : ¬ Mr κ ρ σ a) : H a = none := by
  cases q : H a with
  | none => rfl
  | some o =>
    rw [h.frm a o q hm] at n
    cases n
theorem Stq.trans {κ2 : Kd} {ρ2 : Env} {σ2 : L2.St} {H2 : Hp} {O2 : Addr → Prop} (r : Rel K κ ρ σ H O) (h : Stq K κ ρ σ H O κ' ρ' σ' H' O') (h2 : Stq K κ' ρ' σ' H' O' κ2 ρ2 σ2 H2 O2) : Stq K κ ρ σ H O κ2 ρ2 σ2 H2 O2 := by
  refine ⟨fun v d q => h2.den v d (h.den v d q), fun a o q n => ?_, fun a q n => ?_, fun a q => ?_, fun a q => ?_, fun i q => (let ⟨q1, q2⟩ := h2.par i q; let ⟨p1, p2⟩ := h.par i q1; ⟨p1, q2.trans p2⟩)⟩
  · refine h2.frm a o (h.frm a o q n) fun z => ?_
    rcases h.mr a z with z | z
    · exact n z
    · rw [q] at z; cases z
  · refine h2.kep a (h.kep a q n) fun z => ?_
    rcases h.ar a z with z | z
    · exact n z
    · obtain ⟨o, q⟩ := r.trk a q
      rw [q] at z; cases z
  · rcases h2.mr a q with z | z
    · exact h.mr a z
    · by_cases hm : Mr κ ρ σ a
      · exact .inl hm
      · exact .inr (h.there z hm)
  · rcases h2.ar a q with z | z
    · exact h.ar a z
    · by_cases hm : Mr κ ρ σ a
      · exact .inl hm.ar
      · exact .inr (h.there z hm)
/-- the heap has grown -/
theorem Stp.same (e : Same H H') : Stp K κ ρ σ H O κ ρ σ H' O := ⟨fun _ _ h => h.same e, fun a o h _ => e a o h, fun _ h _ => h, fun _ h => .inl h, fun _ h => .inl h, fun _ h => ⟨h, rfl⟩, fun _ h => ⟨h, rfl, rfl⟩, rfl⟩
/-- one name's object is frozen -/
def Ofrz (κ : Kd) (ρ : Env) (σ : L2.St) (O : Addr → Prop) (i : Nat) : Addr → Prop := fun a => O a ∧ ¬ ∃ d, ρ[i]? = some (some d) ∧ kd κ i = .own ∧ σ[i]? = some (some (.ref a))
theorem frz1_ok (r : Rel K κ ρ σ H O) (i : Nat) : ∃ O', Rel K (frz1 κ i) ρ σ H O' ∧ Stp K κ ρ σ H O (frz1 κ i) ρ σ H O' := by
  unfold frz1
  by_cases hk : kd κ i = .own
  · rw [if_pos hk]
    by_cases hd : ∃ d, ρ[i]? = some (some d)
    · obtain ⟨d, hd⟩ := hd
      obtain ⟨v, hv, o⟩ := r.slot i d hd
      rw [hk] at o
      obtain ⟨a, rfl, o1, o2⟩ := o
      have il : i < κ.length := by
        rw [r.lenK, ← r.len]
        exact (List.getElem?_eq_some_iff.mp hd).1
      have sub : ∀ b, (O b ∧ b ≠ a) → O b := fun b z => z.1
      have kdi : ∀ j, kd (setK κ i .shr) j = if i = j then .shr else kd κ j := fun j => by
        rw [kd_set]
        by_cases e : i = j
        · subst e
          rw [if_pos ⟨rfl, il⟩, if_pos rfl]
        · rw [if_neg (fun z => e z.1), if_neg e]
      have ne : ∀ j d' b, i ≠ j → ρ[j]? = some (some d') → isOwn (kd κ j) = true → σ[j]? = some (some (.ref b)) → b ≠ a := fun j d' b hij h1 h2 h3 e => by
        subst e
        exact hij (r.inj i j d d' b hd h1 (by rw [hk]; rfl) h2 hv h3)
      refine ⟨fun b => O b ∧ b ≠ a, ⟨r.len, by unfold setK; rw [List.length_set]; exact r.lenK, fun j d' q => ?_, fun j l d1 d2 b q1 q2 h1 h2 h3 h4 => ?_, fun b z => r.trk b z.1⟩, ?_⟩
      · rw [kdi]
        by_cases e : i = j
        · subst e
          rw [if_pos rfl]
          rw [hd] at q
          cases q
          refine ⟨.ref a, hv, ?_⟩
          cases d with
          | lst ds =>
            obtain ⟨vs, p1, p2⟩ := o2
            exact .lst ⟨p1, fun z => z.2 rfl⟩ (p2.mono (Same.refl _) sub)
          | _ => exact False.elim o2
        · rw [if_neg e]
          obtain ⟨v, g1, g2⟩ := r.slot j d' q
          refine ⟨v, g1, ?_⟩
          cases hkj : kd κ j with
          | shr => rw [hkj] at g2; exact Den.mono (Same.refl _) sub g2
          | own =>
            rw [hkj] at g2
            obtain ⟨b, rfl, p1, p2⟩ := g2
            exact ⟨b, rfl, ⟨p1, ne j d' b e q (by rw [hkj]; rfl) g1⟩, p2.mono (Same.refl _) sub⟩
          | lent =>
            rw [hkj] at g2
            obtain ⟨b, rfl, p1, p2⟩ := g2
            exact ⟨b, rfl, ⟨p1, ne j d' b e q (by rw [hkj]; rfl) g1⟩, p2.mono (Same.refl _) sub⟩
          | arg =>
            rw [hkj] at g2
            obtain ⟨b, rfl, p1, p2⟩ := g2
            exact ⟨b, rfl, ⟨p1, ne j d' b e q (by rw [hkj]; rfl) g1⟩, p2.mono (Same.refl _) sub⟩
      · rw [kdi] at h1 h2
        by_cases e1 : i = j
        · rw [if_pos e1] at h1; cases h1
        · by_cases e2 : i = l
          · rw [if_pos e2] at h2; cases h2
          · rw [if_neg e1] at h1
            rw [if_neg e2] at h2
            exact r.inj j l d1 d2 b q1 q2 h1 h2 h3 h4
      · have back : ∀ j, kd (setK κ i .shr) j ≠ .shr → kd (setK κ i .shr) j = kd κ j := fun j q => by
          rw [kdi] at q ⊢
          by_cases e : i = j
          · rw [if_pos e] at q; exact absurd rfl q
          · rw [if_neg e]
        refine ⟨fun v d h => h.mono (Same.refl _) sub, fun _ _ h _ => h, fun b ob n => ⟨ob, fun e => n ⟨i, d, hd, by rw [hk]; rfl, by rw [e]; exact hv⟩⟩, fun b q => ?_, fun b q => ?_, fun j q => ⟨by rw [← back j (by rw [q]; decide)]; exact q, rfl⟩, fun j q => ?_, by unfold setK; rw [List.length_set]⟩
        · obtain ⟨j, d', q1, q2, q3⟩ := q
          exact .inl ⟨j, d', q1, by rw [← back j (fun z => by rw [z] at q2; cases q2)]; exact q2, q3⟩
        · obtain ⟨j, d', q1, q2, q3⟩ := q
          exact .inl ⟨j, d', q1, by rw [← back j (fun z => by rw [z] at q2; cases q2)]; exact q2, q3⟩
        · exact ⟨by rw [← back j (by rw [q]; decide)]; exact q, rfl, rfl⟩
    · -- nothing stands there
      have kdi : ∀ j d', ρ[j]? = some (some d') → kd (setK κ i .shr) j = kd κ j := fun j d' q => by
        rw [kd_set, if_neg]
        rintro ⟨e, _⟩
        subst e
        exact hd ⟨d', q⟩
      refine ⟨O, ⟨r.len, by unfold setK; rw [List.length_set]; exact r.lenK, fun j d' q => by rw [kdi j d' q]; exact r.slot j d' q, fun j l d1 d2 b q1 q2 h1 h2 h3 h4 => by
        rw [kdi j d1 q1] at h1
        rw [kdi l d2 q2] at h2
        exact r.inj j l d1 d2 b q1 q2 h1 h2 h3 h4, r.trk⟩, ⟨fun _ _ h => h, fun _ _ h _ => h, fun _ h _ => h, fun a q => ?_, fun a q => ?_, fun j q => ?_, fun j q => ?_, by unfold setK; rw [List.length_set]⟩⟩
      · obtain ⟨j, d', q1, q2, q3⟩ := q
        exact .inl ⟨j, d', q1, by rw [← kdi j d' q1]; exact q2, q3⟩
      · obtain ⟨j, d', q1, q2, q3⟩ := q
        exact .inl ⟨j, d', q1, by rw [← kdi j d' q1]; exact q2, q3⟩
      · rw [kd_set] at q
        by_cases e : i = j ∧ j < κ.length
        · rw [if_pos e] at q; cases q
        · rw [if_neg e] at q
          exact ⟨q, rfl⟩
      · rw [kd_set] at q
        by_cases e : i = j ∧ j < κ.length
        · rw [if_pos e] at q; cases q
        · rw [if_neg e] at q
          exact ⟨q, rfl, rfl⟩
  · rw [if_neg hk]
    exact ⟨O, r, Stp.refl⟩
theorem frz_ok (is : List Nat) : ∀ {κ : Kd} {O : Addr → Prop}, Rel K κ ρ σ H O → ∃ O', Rel K (frz κ is) ρ σ H O' ∧ Stp K κ ρ σ H O (frz κ is) ρ σ H O' := by
  induction is with
  | nil => intro κ O r; exact ⟨O, r, Stp.refl⟩
  | cons i is ih =>
    intro κ O r
    obtain ⟨O1, r1, s1⟩ := frz1_ok r i
    obtain ⟨O2, r2, s2⟩ := ih r1
    exact ⟨O2, r2, s1.trans r r1 s2⟩
/-- an unowned thing is stored -/
theorem set_ok {i : Nat} {v : V} {d : Dat} (r : Rel K κ ρ σ H O) (h : Den K O H v d) : Rel K (setK κ i .shr) (ρ.set i (some d)) (σ.set i (some v)) H O ∧ Stp K κ ρ σ H O (setK κ i .shr) (ρ.set i (some d)) (σ.set i (some v)) H O := by
  have e1 := r.len
  have e2 := r.lenK
  have back : ∀ j d', (ρ.set i (some d))[j]? = some (some d') → kd (setK κ i .shr) j ≠ .shr → ρ[j]? = some (some d') ∧ kd κ j = kd (setK κ i .shr) j ∧ (σ.set i (some v))[j]? = σ[j]? := fun j d' q k => by
    rw [kd_set] at k ⊢
    by_cases hj : i = j ∧ j < κ.length
    · rw [if_pos hj] at k; exact absurd rfl k
    · rw [getElem_set, if_neg (fun z => hj ⟨z.1, by omega⟩)] at q
      rw [if_neg hj, getElem_set, if_neg (fun z => hj ⟨z.1, by omega⟩)]
      exact ⟨q, rfl, rfl⟩
  refine ⟨r.set (k := .shr) h rfl, fun _ _ h => h, fun _ _ h _ => h, fun _ h _ => h, fun a q => ?_, fun a q => ?_, fun j q => ?_, fun j q => ?_, by unfold setK; rw [List.length_set]⟩
  · obtain ⟨j, d', q1, q2, q3⟩ := q
    obtain ⟨b1, b2, b3⟩ := back j d' q1 (fun z => by rw [z] at q2; cases q2)
    exact .inl ⟨j, d', b1, by rw [b2]; exact q2, by rw [← b3]; exact q3⟩
  · obtain ⟨j, d', q1, q2, q3⟩ := q
    obtain ⟨b1, b2, b3⟩ := back j d' q1 (fun z => by rw [z] at q2; cases q2)
    exact .inl ⟨j, d', b1, by rw [b2]; exact q2, by rw [← b3]; exact q3⟩
  · rw [kd_set] at q
    by_cases hj : i = j ∧ j < κ.length
    · rw [if_pos hj] at q; cases q
    · rw [if_neg hj] at q
      rw [getElem_set, if_neg (fun z => hj ⟨z.1, by omega⟩)]
      exact ⟨q, rfl⟩
  · rw [kd_set] at q
    by_cases hj : i = j ∧ j < κ.length
    · rw [if_pos hj] at q; cases q
    · rw [if_neg hj] at q
      rw [getElem_set, if_neg (fun z => hj ⟨z.1, by omega⟩), getElem_set, if_neg (fun z => hj ⟨z.1, by omega⟩)]
      exact ⟨q, rfl, rfl⟩
/-- a new object is stored: its name owns it -/
theorem setNew_ok {H0 : Hp} {i : Nat} {a : Addr} {d : Dat} (r : Rel K κ ρ σ H0 O) (e : Same H0 H) (ha : H0 a = none) (h : Own K (plus O a) H a d) : ∃ O', Rel K (setK κ i .own) (ρ.set i (some d)) (σ.set i (some (.ref a))) H O' ∧ Stp K κ ρ σ H0 O (setK κ i .own) (ρ.set i (some d)) (σ.set i (some (.ref a))) H O' := by
  have e1 := r.len
  have e2 := r.lenK
  have r1 : Rel K κ ρ σ H (plus O a) := r.frame ha e (by obtain ⟨xs, q⟩ := h.tracked; exact ⟨_, q⟩)
  have nr : ∀ j d', ρ[j]? = some (some d') → isOwn (kd κ j) = true → σ[j]? ≠ some (some (.ref a)) := fun j d' q k z => by
    obtain ⟨o, _⟩ := r.ownO ⟨j, d', q, k, z⟩
    obtain ⟨u, q⟩ := r.trk a o
    rw [ha] at q; cases q
  have cases2 : ∀ j d', (ρ.set i (some d))[j]? = some (some d') → (i = j ∧ d' = d ∧ kd (setK κ i .own) j = .own ∧ (σ.set i (some (.ref a)))[j]? = some (some (.ref a))) ∨ (ρ[j]? = some (some d') ∧ kd (setK κ i .own) j = kd κ j ∧ (σ.set i (some (.ref a)))[j]? = σ[j]?) := fun j d' q => by
    rw [getElem_set] at q
    rw [kd_set, getElem_set]
    by_cases hj : i = j ∧ j < ρ.length
    · rw [if_pos hj] at q
      cases q
      rw [if_pos ⟨hj.1, by omega⟩, if_pos ⟨hj.1, by omega⟩]
      exact .inl ⟨hj.1, rfl, rfl, rfl⟩
    · rw [if_neg hj] at q
      rw [if_neg (fun z => hj ⟨z.1, by omega⟩), if_neg (fun z => hj ⟨z.1, by omega⟩)]
      exact .inr ⟨q, rfl, rfl⟩
  refine ⟨plus O a, ⟨by rw [List.length_set, List.length_set]; exact e1, by unfold setK; rw [List.length_set, List.length_set]; exact e2, fun j d' q => ?_, fun j l d1 d2 b q1 q2 h1 h2 h3 h4 => ?_, r1.trk⟩, fun v d h => (h.plus ha).same e, fun b o q _ => e b o q, fun b q _ => .inl q, fun b q => ?_, fun b q => ?_, fun j q => ?_, fun j q => ?_, by unfold setK; rw [List.length_set]⟩
  · rcases cases2 j d' q with ⟨_, rfl, k, s⟩ | ⟨q1, k, s⟩
    · rw [k, s]
      exact ⟨_, rfl, a, rfl, .inr rfl, h⟩
    · rw [k, s]
      exact r1.slot j d' q1
  · rcases cases2 j d1 q1 with ⟨j1, j2, k1, s1⟩ | ⟨p1, k1, s1⟩
    · rcases cases2 l d2 q2 with ⟨l1, l2, k2, s2⟩ | ⟨p2, k2, s2⟩
      · rw [← j1, ← l1]
      · rw [s1] at h3
        cases h3
        rw [k2] at h2
        rw [s2] at h4
        exact absurd h4 (nr l d2 p2 h2)
    · rcases cases2 l d2 q2 with ⟨l1, l2, k2, s2⟩ | ⟨p2, k2, s2⟩
      · rw [s2] at h4
        cases h4
        rw [k1] at h1
        rw [s1] at h3
        exact absurd h3 (nr j d1 p1 h1)
      · rw [k1] at h1
        rw [k2] at h2
        rw [s1] at h3
        rw [s2] at h4
        exact r.inj j l d1 d2 b p1 p2 h1 h2 h3 h4
  · obtain ⟨j, d', q1, q2, q3⟩ := q
    rcases cases2 j d' q1 with ⟨j1, j2, k1, s1⟩ | ⟨p1, k1, s1⟩
    · rw [s1] at q3
      cases q3
      exact .inr ha
    · exact .inl ⟨j, d', p1, by rw [← k1]; exact q2, by rw [← s1]; exact q3⟩
  · obtain ⟨j, d', q1, q2, q3⟩ := q
    rcases cases2 j d' q1 with ⟨j1, j2, k1, s1⟩ | ⟨p1, k1, s1⟩
    · rw [s1] at q3
      cases q3
      exact .inr ha
    · exact .inl ⟨j, d', p1, by rw [← k1]; exact q2, by rw [← s1]; exact q3⟩
  · rw [kd_set] at q
    by_cases hj : i = j ∧ j < κ.length
    · rw [if_pos hj] at q; cases q
    · rw [if_neg hj] at q
      rw [getElem_set, if_neg (fun z => hj ⟨z.1, by omega⟩)]
      exact ⟨q, rfl⟩
  · rw [kd_set] at q
    by_cases hj : i = j ∧ j < κ.length
    · rw [if_pos hj] at q; cases q
    · rw [if_neg hj] at q
      rw [getElem_set, if_neg (fun z => hj ⟨z.1, by omega⟩), getElem_set, if_neg (fun z => hj ⟨z.1, by omega⟩)]
      exact ⟨q, rfl, rfl⟩
/-- a name's own list gets other items -/
theorem mut_ok {i : Nat} {a : Addr} {xs ys : List Dat} {vs ws : List V} (r : Rel K κ ρ σ H O) (hk : isMu (kd κ i) = true) (hd : ρ[i]? = some (some (.lst xs))) (hv : σ[i]? = some (some (.ref a))) (hH : H a = some (.lst vs)) (hw : DenL K O H ws ys) :
    Rel K κ (ρ.set i (some (.lst ys))) σ (upd H a (.lst ws)) O ∧ Stp K κ ρ σ H O κ (ρ.set i (some (.lst ys))) σ (upd H a (.lst ws)) O := by
  have e1 := r.len
  have e2 := r.lenK
  obtain ⟨oa, _⟩ := r.ownO ⟨i, _, hd, isMu_own hk, hv⟩
  have cases2 : ∀ j d', (ρ.set i (some (.lst ys)))[j]? = some (some d') → (i = j ∧ d' = .lst ys) ∨ (i ≠ j ∧ ρ[j]? = some (some d')) := fun j d' q => by
    rw [getElem_set] at q
    by_cases hj : i = j ∧ j < ρ.length
    · rw [if_pos hj] at q
      cases q
      exact .inl ⟨hj.1, rfl⟩
    · rw [if_neg hj] at q
      refine .inr ⟨fun e => hj ⟨e, (List.getElem?_eq_some_iff.mp q).1⟩, q⟩
  have other : ∀ j d', (ρ.set i (some (.lst ys)))[j]? = some (some d') → ∃ d'', ρ[j]? = some (some d'') := fun j d' q => by
    rcases cases2 j d' q with ⟨e, _⟩ | ⟨_, q⟩
    · subst e; exact ⟨_, hd⟩
    · exact ⟨d', q⟩
  refine ⟨⟨by rw [List.length_set]; exact e1, e2, fun j d' q => ?_, fun j l d1 d2 b q1 q2 h1 h2 h3 h4 => ?_, fun b z => ?_⟩, fun v d h => h.upd oa hH, fun b o q n => ?_, fun b q _ => q, fun b q => ?_, fun b q => ?_, fun j q => ⟨q, rfl⟩, fun j q => ?_, rfl⟩
  · rcases cases2 j d' q with ⟨e, rfl⟩ | ⟨ne, q⟩
    · subst e
      exact ⟨.ref a, hv, slot_of (isMu_own hk) oa ⟨ws, upd_same, hw.upd oa hH⟩⟩
    · obtain ⟨v, g1, g2⟩ := r.slot j d' q
      refine ⟨v, g1, ?_⟩
      have own : ∀ b, b ≠ a → Own K O H b d' → Own K O (upd H a (.lst ws)) b d' := fun b nb o => by
        cases d' with
        | lst ds =>
          obtain ⟨us, o1, o2⟩ := o
          exact ⟨us, by rw [upd_ne nb]; exact o1, o2.upd oa hH⟩
        | _ => exact False.elim o
      have neb : ∀ b, v = .ref b → isOwn (kd κ j) = true → b ≠ a := fun b ev k e => by
        rw [ev, e] at g1
        exact ne (r.inj i j _ d' a hd q (isMu_own hk) k hv g1)
      cases hkj : kd κ j with
      | shr => rw [hkj] at g2; exact Den.upd oa hH g2
      | own =>
        rw [hkj] at g2
        obtain ⟨b, rfl, p1, p2⟩ := g2
        exact ⟨b, rfl, p1, own b (neb b rfl (by rw [hkj]; rfl)) p2⟩
      | lent =>
        rw [hkj] at g2
        obtain ⟨b, rfl, p1, p2⟩ := g2
        exact ⟨b, rfl, p1, own b (neb b rfl (by rw [hkj]; rfl)) p2⟩
      | arg =>
        rw [hkj] at g2
        obtain ⟨b, rfl, p1, p2⟩ := g2
        exact ⟨b, rfl, p1, own b (neb b rfl (by rw [hkj]; rfl)) p2⟩
  · obtain ⟨d1', q1⟩ := other j d1 q1
    obtain ⟨d2', q2⟩ := other l d2 q2
    exact r.inj j l d1' d2' b q1 q2 h1 h2 h3 h4
  · by_cases e : b = a
    · subst e; exact ⟨_, upd_same⟩
    · rw [upd_ne e]; exact r.trk b z
  · have nb : b ≠ a := fun e => n ⟨i, _, hd, hk, by rw [e]; exact hv⟩
    rw [upd_ne nb]
    exact q
  · obtain ⟨j, d', q1, q2, q3⟩ := q
    obtain ⟨d'', q1⟩ := other j d' q1
    exact .inl ⟨j, d'', q1, q2, q3⟩
  · obtain ⟨j, d', q1, q2, q3⟩ := q
    obtain ⟨d'', q1⟩ := other j d' q1
    exact .inl ⟨j, d'', q1, q2, q3⟩
  · refine ⟨q, rfl, ?_⟩
    rw [getElem_set, if_neg]
    rintro ⟨e, _⟩
    subst e
    rw [q] at hk
    cases hk
theorem io_denL {a : Addr} {d : Dat} (h : IoP K O H a O' H' d) : ∀ {vs : List V} {ds : List Dat}, DenL K O H vs ds → DenL K O' H' vs ds
  | _, _, .nil => .nil
  | _, _, .cons h1 h2 => .cons (h.den _ _ h1) (io_denL h h2)
theorem io_ok {i : Nat} {a : Addr} {d0 d : Dat} (r : Rel K κ ρ σ H O) (hk : isMu (kd κ i) = true) (hd : ρ[i]? = some (some d0)) (hv : σ[i]? = some (some (.ref a))) (h : IoP K O H a O' H' d) :
    Rel K κ (ρ.set i (some d)) σ H' O' ∧ Stp K κ ρ σ H O κ (ρ.set i (some d)) σ H' O' := by
  have e1 := r.len
  have e2 := r.lenK
  obtain ⟨oa, _⟩ := r.ownO ⟨i, _, hd, isMu_own hk, hv⟩
  have cases2 : ∀ j d', (ρ.set i (some d))[j]? = some (some d') → (i = j ∧ d' = d) ∨ (i ≠ j ∧ ρ[j]? = some (some d')) := fun j d' q => by
    rw [getElem_set] at q
    by_cases hj : i = j ∧ j < ρ.length
    · rw [if_pos hj] at q
      cases q
      exact .inl ⟨hj.1, rfl⟩
    · rw [if_neg hj] at q
      refine .inr ⟨fun e => hj ⟨e, (List.getElem?_eq_some_iff.mp q).1⟩, q⟩
  have other : ∀ j d', (ρ.set i (some d))[j]? = some (some d') → ∃ d'', ρ[j]? = some (some d'') := fun j d' q => by
    rcases cases2 j d' q with ⟨e, _⟩ | ⟨_, q⟩
    · subst e; exact ⟨_, hd⟩
    · exact ⟨d', q⟩
  refine ⟨⟨by rw [List.length_set]; exact e1, e2, fun j d' q => ?_, fun j l d1 d2 b q1 q2 h1 h2 h3 h4 => ?_, h.trk⟩, h.den, fun b o q n => h.frm b o q fun e => n ⟨i, _, hd, hk, by rw [e]; exact hv⟩, fun b q _ => h.kep b q, fun b q => ?_, fun b q => ?_, fun j q => ⟨q, rfl⟩, fun j q => ?_, rfl⟩
  · rcases cases2 j d' q with ⟨e, rfl⟩ | ⟨ne, q⟩
    · subst e
      exact ⟨.ref a, hv, slot_of (isMu_own hk) (h.kep a oa) h.own⟩
    · obtain ⟨v, g1, g2⟩ := r.slot j d' q
      refine ⟨v, g1, ?_⟩
      by_cases io : isOwn (kd κ j) = true
      · obtain ⟨b, rfl, p1, p2⟩ := g2.ref io
        have nb : b ≠ a := fun e => by
          rw [e] at g1
          exact ne (r.inj i j _ d' a hd q (isMu_own hk) io hv g1)
        refine slot_of io (h.kep b p1) ?_
        cases d' with
        | lst ds =>
          obtain ⟨us, o1, o2⟩ := p2
          exact ⟨us, h.frm b _ o1 nb, io_denL h o2⟩
        | _ => exact False.elim p2
      · cases hkj : kd κ j with
        | shr => rw [hkj] at g2; exact h.den _ _ g2
        | own => rw [hkj] at io; exact absurd rfl io
        | lent => rw [hkj] at io; exact absurd rfl io
        | arg => rw [hkj] at io; exact absurd rfl io
  · obtain ⟨d1', q1⟩ := other j d1 q1
    obtain ⟨d2', q2⟩ := other l d2 q2
    exact r.inj j l d1' d2' b q1 q2 h1 h2 h3 h4
  · obtain ⟨j, d', q1, q2, q3⟩ := q
    obtain ⟨d'', q1⟩ := other j d' q1
    exact .inl ⟨j, d'', q1, q2, q3⟩
  · obtain ⟨j, d', q1, q2, q3⟩ := q
    obtain ⟨d'', q1⟩ := other j d' q1
    exact .inl ⟨j, d'', q1, q2, q3⟩
  · refine ⟨q, rfl, ?_⟩
    rw [getElem_set, if_neg]
    rintro ⟨e, _⟩
    subst e
    rw [q] at hk
    cases hk
end
end PV

/-! PV, part L: each statement's promise -/
namespace PV
open PySem PySem.Spec PyProof.Rows L2

def wS (X : Cx) (st : Stmt) (Dn : Ends) (σ : L2.St) (H : Hp) : Prop := ∀ (pins : List (Addr × Obj)) (s : Shared), Inv X pins σ H s → wpAny (model X.prog X.w) X.A (exec st X.env) (SP X pins Dn) X.xe s
def wSs (X : Cx) (st : List Stmt) (Dn : Ends) (σ : L2.St) (H : Hp) : Prop := ∀ (pins : List (Addr × Obj)) (s : Shared), Inv X pins σ H s → wpAny (model X.prog X.w) X.A (execs st X.env) (SP X pins Dn) X.xe s
section
variable {X : Cx} {st : Stmt} {sts : List Stmt} {σ : L2.St} {H : Hp} {Dn : Ends} {t : TS}
theorem ps_w : PS X st (wS X st) := ⟨fun pins s σ H D I h => h pins s I⟩
theorem of_ps (h : PS X st t) (q : t Dn σ H) : wS X st Dn σ H := fun pins s I => h.run pins s σ H Dn I q
theorem pss_w : PSs X sts (wSs X sts) := ⟨fun pins s σ H D I h => h pins s I⟩
theorem of_pss (h : PSs X sts t) (q : t Dn σ H) : wSs X sts Dn σ H := fun pins s I => h.run pins s σ H Dn I q
end
/-- a value handed back -/
structure RetP (K : PySem.W.Frag) (κ : Kd) (ρ : Env) (σ : L2.St) (H : Hp) (O : Addr → Prop) (fl : Nat) (v : V) (d : Dat) (H' : Hp) (O' : Addr → Prop) : Prop where
  den : ∀ v d, Den K O H v d → Den K O' H' v d
  frm : ∀ a o, H a = some o → ¬ Mr κ ρ σ a → H' a = some o
  kep : ∀ a, O a → ¬ Ar κ ρ σ a → O' a
  any : Den K O0 H' v d
  two : 2 ≤ fl → Den K O' H' v d
  three : 3 ≤ fl → isMut d = true → ∃ a, v = .ref a ∧ (H a = none ∨ Mr κ ρ σ a) ∧ Own K (plus O' a) H' a d
def EndP (K : PySem.W.Frag) (cadr : Nat → Addr) (Dn : Ends) (W : WX) (κ : Kd) (ρ : Env) (σ : L2.St) (H : Hp) (O : Addr → Prop) : End → Prop
  | .nx κ' ρ' => ∀ σ' H' O', Rel K κ' ρ' σ' H' O' → Stp K κ ρ σ H O κ' ρ' σ' H' O' → Dn.nx σ' H'
  | .bk κ' ρ' => ∀ σ' H' O', Rel K κ' ρ' σ' H' O' → Stp K κ ρ σ H O κ' ρ' σ' H' O' → Dn.bk σ' H'
  | .ct κ' ρ' => ∀ σ' H' O', Rel K κ' ρ' σ' H' O' → Stp K κ ρ σ H O κ' ρ' σ' H' O' → Dn.ct σ' H'
  | .rt fl d => ∀ v H' O', RetP K κ ρ σ H O fl v d H' O' → Dn.rt v H'
  | .xc κ' ρ' z => ∀ cls dd σ' H' O', Rel K κ' ρ' σ' H' O' → Stq K κ ρ σ H O κ' ρ' σ' H' O' → XD cadr cls dd H' z → W cls dd σ' H'
  | .r0 κ' ρ' => ∀ σ' H' O', Rel K κ' ρ' σ' H' O' → Stq K κ ρ σ H O κ' ρ' σ' H' O' → Dn.rt .non H'
section
variable {K : PySem.W.Frag} {cadr : Nat → Addr} {Dn : Ends} {W : WX} {κ κ' : Kd} {ρ ρ' : Env} {σ σ' : L2.St} {H H' : Hp} {O O' : Addr → Prop}
theorem RetP.step (r : Rel K κ ρ σ H O) (s : Stq K κ ρ σ H O κ' ρ' σ' H' O') {fl : Nat} {v : V} {d : Dat} {H2 : Hp} {O2 : Addr → Prop} (h : RetP K κ' ρ' σ' H' O' fl v d H2 O2) : RetP K κ ρ σ H O fl v d H2 O2 := by
  refine ⟨fun v d q => h.den v d (s.den v d q), fun a o q n => ?_, fun a q n => ?_, h.any, h.two, fun q m => ?_⟩
  · refine h.frm a o (s.frm a o q n) fun z => ?_
    rcases s.mr a z with z | z
    · exact n z
    · rw [q] at z; cases z
  · refine h.kep a (s.kep a q n) fun z => ?_
    rcases s.ar a z with z | z
    · exact n z
    · obtain ⟨o, q⟩ := r.trk a q
      rw [q] at z; cases z
  · obtain ⟨a, h1, h2, h3⟩ := h.three q m
    refine ⟨a, h1, ?_, h3⟩
    rcases h2 with h2 | h2
    · by_cases hm : Mr κ ρ σ a
      · exact .inr hm
      · exact .inl (s.there h2 hm)
    · exact (s.mr a h2).symm
theorem EndP.step (r : Rel K κ ρ σ H O) (r1 : Rel K κ' ρ' σ' H' O') (s : Stp K κ ρ σ H O κ' ρ' σ' H' O') : ∀ {e : End}, EndP K cadr Dn W κ ρ σ H O e → EndP K cadr Dn W κ' ρ' σ' H' O' e
  | .nx _ _, h => fun σ2 H2 O2 q1 q2 => h σ2 H2 O2 q1 (s.trans r r1 q2)
  | .bk _ _, h => fun σ2 H2 O2 q1 q2 => h σ2 H2 O2 q1 (s.trans r r1 q2)
  | .ct _ _, h => fun σ2 H2 O2 q1 q2 => h σ2 H2 O2 q1 (s.trans r r1 q2)
  | .rt _ _, h => fun v H2 O2 q => h v H2 O2 (q.step r s.q)
  | .xc _ _ _, h => fun cls dd σ2 H2 O2 q1 q2 q3 => h cls dd σ2 H2 O2 q1 (s.q.trans r q2) q3
  | .r0 _ _, h => fun σ2 H2 O2 q1 q2 => h σ2 H2 O2 q1 (s.q.trans r q2)
end
def PostR (r : Rs End) (A : End → Prop) : Prop := match r with
  | .ok e => A e
  | _ => False
theorem PostR.imp {r : Rs End} {A B : End → Prop} (h : PostR r A) (f : ∀ e, A e → B e) : PostR r B := by
  cases r with
  | ok e => exact f e h
  | ex z => exact h
  | no => exact h
structure SSm (D : Wd) (X : Cx) (st : Stmt) (x : Sm) : Prop where
  run : ∀ (κ : Kd) (ρ : Env) (σ : L2.St) (H : Hp) (O : Addr → Prop) (W : WX) (Dn : Ends), κ.length = X.N.length → Rel X.K κ ρ σ H O → PostR (exS D.cf D.gl D.rf x κ ρ) (EndP X.K D.cadr Dn W κ ρ σ H O) → L2.Takes X W → wS X st Dn σ H
structure SSs (D : Wd) (X : Cx) (st : List Stmt) (x : List Sm) : Prop where
  run : ∀ (κ : Kd) (ρ : Env) (σ : L2.St) (H : Hp) (O : Addr → Prop) (W : WX) (Dn : Ends), κ.length = X.N.length → Rel X.K κ ρ σ H O → PostR (exSs D.cf D.gl D.rf x κ ρ) (EndP X.K D.cadr Dn W κ ρ σ H O) → L2.Takes X W → wSs X st Dn σ H

section
variable {D : Wd} {X : Cx} {κ : Kd} {ρ : Env} {σ : L2.St} {H : Hp} {O : Addr → Prop} {W : WX} {Dn : Ends}
/-- behind an expression: the statement's rest -/
theorem onE_run {κ1 : Kd} {r : Rs Dat} {f : Dat → Rs End} {P : Dat → Prop} (h : PostR (onE κ1 ρ r f) (EndP X.K D.cadr Dn W κ ρ σ H O)) {O1 : Addr → Prop} (r0 : Rel X.K κ ρ σ H O) (r1 : Rel X.K κ1 ρ σ H O1) (s1 : Stp X.K κ ρ σ H O κ1 ρ σ H O1) (tk : L2.Takes X W)
    (hf : ∀ d, r = .ok d → PostR (f d) (EndP X.K D.cadr Dn W κ1 ρ σ H O1) → P d) : Post r P (exB D X W σ H) := by
  cases r with
  | ok d => exact hf d rfl (PostR.imp (show PostR (f d) _ from h) fun e q => q.step r0 r1 s1)
  | ex z => exact ⟨tk, fun cls dd H' s x => h cls dd σ H' O1 (r1.same s) (s1.q.trans r0 (Stp.same s).q) x⟩
  | no => exact h
theorem onB_run {r : Rs Bool} {f : Bool → Rs End} {P : Bool → Prop} (h : PostR (onB κ ρ r f) (EndP X.K D.cadr Dn W κ ρ σ H O)) (r0 : Rel X.K κ ρ σ H O) (tk : L2.Takes X W)
    (hf : ∀ d, r = .ok d → PostR (f d) (EndP X.K D.cadr Dn W κ ρ σ H O) → P d) : Post r P (exB D X W σ H) := by
  cases r with
  | ok d => exact hf d rfl h
  | ex z => exact ⟨tk, fun cls dd H' s x => h cls dd σ H' O (r0.same s) (Stp.same s).q x⟩
  | no => exact h
theorem frz1_len {κ : Kd} {i : Nat} : (frz1 κ i).length = κ.length := by
  unfold frz1 setK
  split
  · rw [List.length_set]
  · rfl
theorem frz_len {is : List Nat} : ∀ {κ : Kd}, (frz κ is).length = κ.length := by
  induction is with
  | nil => intro κ; rfl
  | cons i is ih => intro κ; exact (ih (κ := frz1 κ i)).trans frz1_len
/-- what is stored at a name -/
theorem store_run {κ1 : Kd} {i : Nat} {v : V} {d : Dat} {H1 : Hp} {O1 : Addr → Prop} {fl : Nat} (r1 : Rel X.K κ1 ρ σ H O1) (s1 : Same H H1) (p : Pst X.K fl O1 H H1 v d)
    (h : PostR (if fl < 2 then .no else .ok (.nx (setK κ1 i (if isMut d && decide (3 ≤ fl) then .own else .shr)) (ρ.set i (some d)))) (EndP X.K D.cadr Dn W κ1 ρ σ H O1)) : Dn.nx (σ.set i (some v)) H1 := by
  by_cases hf : fl < 2
  · rw [if_pos hf] at h
    exact False.elim h
  · rw [if_neg hf] at h
    by_cases hm : (isMut d && decide (3 ≤ fl)) = true
    · rw [if_pos hm] at h
      rw [Bool.and_eq_true, decide_eq_true_eq] at hm
      obtain ⟨a, rfl, ha, o⟩ := p.three hm.2 hm.1
      obtain ⟨O', r2, s2⟩ := setNew_ok (i := i) r1 s1 ha o
      exact h _ _ _ r2 s2
    · rw [if_neg hm] at h
      have r2 := r1.same s1
      obtain ⟨r3, s3⟩ := set_ok (i := i) r2 (p.two (by omega))
      exact h _ _ _ r3 ((Stp.same s1).trans r1 r2 s3)
theorem sm_asg {i : Nat} {y : Str} {e : Expr} {x : Ex} {p pos : Pos} (hN : X.N.Nodup) (hi : X.N[i]? = some y) (hx : Loc X.env.scope y) (hf : X.fn y = true ∨ X.env.scope.names.lookup y = some .local) (he : SE D X e x) (hs : swapsWith e (some (.Name y p)) pos.line X.env = pure false) : SSm D X (.Assign [.Name y p] e pos) (.asg i x) := by
  refine ⟨fun κ ρ σ H O W Dn _ r h tk => of_ps (ps_set hN hi hx pe_w hs hf) ?_⟩
  simp only [exS] at h
  obtain ⟨O1, r1, s1⟩ := frz_ok (leak D.rf x) r
  refine he.run _ ρ σ H O1 W _ r1 (onE_run h r r1 s1 tk fun d _ q v H1 s p => ?_)
  exact store_run r1 s p q
/-- name = [.. for ..] on one line -/
theorem sm_comp {i : Nat} {y : Str} {py : Pos} {elt tg it : Expr} {ifs : List Expr} {scope : Scope} {pos spos : Pos} {x : Ex} {s : Sr} {cs : List Ex} {t : Tgt} {own : List (Str × Nat)} (hc : X.calm = true) (hN : X.N.Nodup) (hi : X.N[i]? = some y) (hyl : X.env.scope.names.lookup y = some .local)
    (hsw : swapsWith (.ListComp elt [⟨tg, it, ifs, 0⟩] scope pos) (some (.Name y py)) spos.line X.env = pure true) (ok : BlkOk X.N X.env.scope scope own) (how : own.map (·.2) = tgIx t)
    (hg : ∀ (s0 : Shared) (H0 : Hp) (C : Addr) (cl : List (Str × Addr)) (fp : List Addr), PG (X.blk s0 H0 scope (compEnvC scope cl C X.env) fp) tg (gT X.K t))
    (hS : SS D X tg it s) (hE : ∀ (s0 : Shared) (H0 : Hp) (C : Addr) (cl : List (Str × Addr)) (fp : List Addr), SE D (X.blk s0 H0 scope (compEnvC scope cl C X.env) fp) elt x)
    (hI : ∀ (s0 : Shared) (H0 : Hp) (C : Addr) (cl : List (Str × Addr)) (fp : List Addr), F2 (SE D (X.blk s0 H0 scope (compEnvC scope cl C X.env) fp)) ifs cs) (hl : ifs.length ≤ 1) (hcl : ifs.length = cs.length) (hs : ∀ x, foldedSetIterable it X.env x = pure x)
    (hfl : ∀ κ : Kd, κ.length = X.N.length → 2 ≤ flE D.rf x (bindK t .shr κ) ∧ flS D.rf s κ = true) : SSm D X (.Assign [.Name y py] (.ListComp elt [⟨tg, it, ifs, 0⟩] scope pos) spos) (.asg i (.comp x t s cs)) := by
  refine ⟨fun κ ρ σ H O W Dn hk r h tk => of_ps (ps_setLc hc hN hi hyl hsw pi_w ok hg (pts_b hl) (fun s0 H0 C cl fp => pe_b s0 H0 C cl fp) hs) ?_⟩
  simp only [exS] at h
  obtain ⟨O1, r1, s1⟩ := frz_ok (leak D.rf (.comp x t s cs)) r
  refine comp_run hc hN ok how hg hS hE hI hl hcl hs (hfl _ (by rw [frz_len]; exact hk)) r1 (onE_run h r r1 s1 tk fun d _ q v H1 s p => ?_)
  exact store_run r1 s p q
/-! several names at once -/
theorem gNs_run2 {K : PySem.W.Frag} {H : Hp} {O : Addr → Prop} : ∀ (is : List Nat) (ds : List Dat) (vs : List V) (κ : Kd) (ρ : Env) (σ : L2.St) (Q : L2.St → Hp → Prop), is.length = ds.length → Rel K κ ρ σ H O → DenL K O H vs ds →
    (∀ σ', Rel K (is.foldl (fun κ i => setK κ i .shr) κ) (setsE ρ (is.zip ds)) σ' H O → Stp K κ ρ σ H O (is.foldl (fun κ i => setK κ i .shr) κ) (setsE ρ (is.zip ds)) σ' H O → Q σ' H) → gNs is vs σ H Q
  | [], [], vs, κ, ρ, σ, Q, _, r, h, q => by
    cases h
    exact ⟨rfl, q σ r Stp.refl⟩
  | i :: is, d :: ds, vs, κ, ρ, σ, Q, hl, r, h, q => by
    cases h with
    | @cons v vs _ _ h1 h2 =>
      refine ⟨v, vs, rfl, ?_⟩
      obtain ⟨r2, s2⟩ := set_ok (i := i) r h1
      exact gNs_run2 is ds vs _ _ _ Q (Nat.succ.inj hl) r2 h2 fun σ' r3 s3 => q σ' r3 (s2.trans r r2 s3)
  | [], _ :: _, _, _, _, _, _, hl, _, _, _ => by cases hl
  | _ :: _, [], _, _, _, _, _, hl, _, _, _ => by cases hl
theorem tg_run2 {K : PySem.W.Frag} {H : Hp} {O : Addr → Prop} {t : Tgt} {κ : Kd} {ρ : Env} {σ : L2.St} {v : V} {d : Dat} {Q : L2.St → Hp → Prop} {B : Dat → Prop} (r : Rel K κ ρ σ H O) (hd : Den K O H v d)
    (h : Post (bindT t d ρ) (fun ρ' => ∀ σ', Rel K (bindK t .shr κ) ρ' σ' H O → Stp K κ ρ σ H O (bindK t .shr κ) ρ' σ' H O → Q σ' H) B) : gT K t v σ H Q := by
  cases t with
  | nm i =>
    obtain ⟨r2, s2⟩ := set_ok (i := i) r hd
    exact h _ r2 s2
  | tp is =>
    cases d with
    | tup ds =>
      by_cases hl : is.length = ds.length
      · rw [bindT_tp hl] at h
        obtain ⟨a, vs, rfl, l, dl⟩ := den_tup hd
        exact ⟨a, vs, rfl, l, by rw [dl.len, hl], gNs_run2 is ds vs κ ρ σ Q hl r dl h⟩
      · simp only [bindT] at h
        rw [if_neg hl] at h
        exact False.elim h
    | _ => exact False.elim h
/-- a, b = e -/
theorem sm_unp {is : List Nat} {es : List Expr} {e : Expr} {x : Ex} {kk : Nat} {p pos : Pos} (hg : PG X (.Tuple es kk p) (gT X.K (.tp is))) (he : SE D X e x) (hs : swapsWithSole [.Tuple es kk p] e pos.line X.env = pure false) (hw : swappedStores [.Tuple es kk p] e X.env = pure none) : SSm D X (.Assign [.Tuple es kk p] e pos) (.unp is x) := by
  refine ⟨fun κ ρ σ H O W Dn _ r h tk => of_ps (ps_asg pe_w hg hs hw rfl) ?_⟩
  simp only [exS] at h
  obtain ⟨O1, r1, s1⟩ := frz_ok (leak D.rf x) r
  refine he.run _ ρ σ H O1 W _ r1 (onE_run h r r1 s1 tk fun d _ q v H1 s p => ?_)
  by_cases hf : flE D.rf x (frz κ (leak D.rf x)) < 2
  · rw [if_pos hf] at q
    exact False.elim q
  · rw [if_neg hf] at q
    have r2 := r1.same s
    refine tg_run2 (B := fun _ => False) r2 (p.two (by omega)) ?_
    cases hb : bindT (.tp is) d ρ with
    | ok ρ' =>
      rw [hb] at q
      exact fun σ' r3 s3 => q _ _ _ r3 ((Stp.same s).trans r1 r2 s3)
    | ex z => rw [hb] at q; exact False.elim q
    | no => rw [hb] at q; exact False.elim q
/-! handing back -/
theorem kd_frzA (κ : Kd) (i : Nat) : kd (frzA κ) i = .shr := by
  unfold kd frzA
  rw [List.getD_eq_getElem?_getD, List.getElem?_map]
  cases κ[i]? <;> rfl
theorem frzA_ok {K : PySem.W.Frag} (r : Rel K κ ρ σ H O) : Rel K (frzA κ) ρ σ H (fun a => O a ∧ ¬ Ar κ ρ σ a) ∧ Stp K κ ρ σ H O (frzA κ) ρ σ H (fun a => O a ∧ ¬ Ar κ ρ σ a) := by
  have sub : ∀ a, (O a ∧ ¬ Ar κ ρ σ a) → O a := fun a z => z.1
  have none : ∀ a, ¬ Ar (frzA κ) ρ σ a := fun a ⟨i, d, _, h, _⟩ => by rw [kd_frzA] at h; cases h
  refine ⟨⟨r.len, by unfold frzA; rw [List.length_map]; exact r.lenK, fun i d q => ?_, fun i j d e a _ _ h => (by rw [kd_frzA] at h; cases h), fun a z => r.trk a z.1⟩, ⟨fun v d h => h.mono (Same.refl _) sub, fun _ _ h _ => h, fun a h n => ⟨h, n⟩, fun a h => (none a h.ar).elim, fun a h => (none a h).elim, fun i h => (by rw [kd_frzA] at h; cases h), fun i h => (by rw [kd_frzA] at h; cases h), by unfold frzA; rw [List.length_map]⟩⟩
  obtain ⟨v, h1, h2⟩ := r.slot i d q
  refine ⟨v, h1, ?_⟩
  rw [kd_frzA]
  have own : ∀ a, v = .ref a → isOwn (kd κ i) = true → Own K O H a d → Den K (fun a => O a ∧ ¬ Ar κ ρ σ a) H v d := fun a e k o => by
    subst e
    cases d with
    | lst ds =>
      obtain ⟨vs, p1, p2⟩ := o
      exact .lst ⟨p1, fun z => z.2 ⟨i, _, q, k, h1⟩⟩ (p2.mono (Same.refl _) sub)
    | _ => exact False.elim o
  cases hk : kd κ i with
  | shr => rw [hk] at h2; exact Den.mono (Same.refl _) sub h2
  | own =>
    rw [hk] at h2
    obtain ⟨a, e, _, o⟩ := h2
    exact own a e (by rw [hk]; rfl) o
  | lent =>
    rw [hk] at h2
    obtain ⟨a, e, _, o⟩ := h2
    exact own a e (by rw [hk]; rfl) o
  | arg =>
    rw [hk] at h2
    obtain ⟨a, e, _, o⟩ := h2
    exact own a e (by rw [hk]; rfl) o
theorem noMr {K : PySem.W.Frag} {a : Addr} : ¬ Mr (frzA κ) ρ σ a := fun ⟨i, d, _, h, _⟩ => by rw [kd_frzA] at h; cases h
theorem ret_of {K : PySem.W.Frag} {κ1 : Kd} {O1 : Addr → Prop} {H1 : Hp} {v : V} {d : Dat} {fl : Nat} (r : Rel K κ ρ σ H O) (r1 : Rel K κ1 ρ σ H O1) (s1 : Stp K κ ρ σ H O κ1 ρ σ H O1) (e : Same H H1) (p : Pst K fl O1 H H1 v d) : RetP K κ ρ σ H O fl v d H1 O1 :=
  ⟨fun v d q => (s1.den v d q).same e, fun a o q _ => e a o q, s1.kep, p.any, p.two, fun q m => by
    obtain ⟨a, h1, h2, h3⟩ := p.three q m
    exact ⟨a, h1, .inl h2, h3⟩⟩
theorem sm_ret {e : Expr} {x : Ex} {pos : Pos} (he : SE D X e x) (hv : isVar x = none) : SSm D X (.Return (some e) pos) (.ret x) := by
  refine ⟨fun κ ρ σ H O W Dn _ r h tk => of_ps (ps_ret pe_w) ?_⟩
  simp only [exS, hv] at h
  obtain ⟨r1, s1⟩ := frzA_ok r
  refine he.run (frzA κ) ρ σ H _ W _ r1 ?_
  cases hr : evE D.cf D.gl x ρ with
  | ok d =>
    rw [hr] at h
    exact fun v H' s p => h v H' _ (ret_of r r1 s1 s p)
  | ex z =>
    rw [hr] at h
    exact ⟨tk, fun cls dd H' s xd => h cls dd σ H' O (r.same s) (Stp.same s).q xd⟩
  | no => rw [hr] at h; exact h
theorem sm_retv {i : Nat} {y : Str} {p pos : Pos} (hN : X.N[i]? = some y) (hv : Vis X.env.scope y) (hd : (y == ("__debug__" : Str)) = false) (hcd : (y == ("__classdict__" : Str)) = false) : SSm D X (.Return (some (.Name y p)) pos) (.ret (.var i)) := by
  refine ⟨fun κ ρ σ H O W Dn _ r h tk => of_ps (ps_ret (pe_var hN hv hd hcd)) ?_⟩
  simp only [exS, isVar, getV] at h
  obtain ⟨r1, s1⟩ := frzA_ok r
  cases hd : ρ[i]? with
  | none => rw [hd] at h; split at h <;> exact False.elim h
  | some o =>
    cases o with
    | none => rw [hd] at h; split at h <;> exact False.elim h
    | some d =>
      rw [hd] at h
      obtain ⟨v, g1, g2⟩ := r1.slot i d hd
      rw [kd_frzA] at g2
      have g2 : Den X.K _ H v d := g2
      refine ⟨v, g1, ?_⟩
      split at h
      · rename_i hk
        refine h v H _ ⟨s1.den, s1.frm, s1.kep, g2.zero, fun _ => g2, fun _ m => ?_⟩
        obtain ⟨w, k1, k2⟩ := r.slot i d hd
        rw [g1] at k1
        cases k1
        rw [hk] at k2
        obtain ⟨a, rfl, o1, o2⟩ := k2
        exact ⟨a, rfl, .inr ⟨i, d, hd, by rw [hk]; rfl, g1⟩, o2.mono (Same.refl _) fun b z => z.elim (fun z => z.1) fun z => by rw [z]; exact o1⟩
      · exact h v H _ ⟨s1.den, s1.frm, s1.kep, g2.zero, fun _ => g2, fun q => by omega⟩
theorem sm_ret0 {pos : Pos} : SSm D X (.Return none pos) .ret0 := by
  refine ⟨fun κ ρ σ H O W Dn _ r h tk => of_ps ps_retN ?_⟩
  simp only [exS] at h
  exact h σ H O r (Stp.refl).q
/-! blocks, if -/
theorem ss_nil : SSs D X [] [] := ⟨fun κ ρ σ H O W Dn _ r h tk => of_pss pss_nil (by
  simp only [exSs] at h
  exact h σ H O r Stp.refl)⟩
theorem ss_cons {st : Stmt} {sts : List Stmt} {x : Sm} {xs : List Sm} (h1 : SSm D X st x) (h2 : SSs D X sts xs) : SSs D X (st :: sts) (x :: xs) := by
  refine ⟨fun κ ρ σ H O W Dn hk r h tk => of_pss (pss_cons ps_w pss_w) ?_⟩
  simp only [exSs] at h
  refine h1.run κ ρ σ H O W _ hk r ?_ tk
  cases hr : exS D.cf D.gl D.rf x κ ρ with
  | ok e =>
    rw [hr] at h
    cases e with
    | nx κ' ρ' => exact fun σ' H' O' r' s' => h2.run κ' ρ' σ' H' O' W _ (by rw [s'.lk, hk]) r' (PostR.imp h fun e q => q.step r r' s') tk
    | rt fl d => exact h
    | bk κ' ρ' => exact h
    | ct κ' ρ' => exact h
    | xc κ' ρ' z => exact h
    | r0 κ' ρ' => exact h
  | ex z => rw [hr] at h; exact h
  | no => rw [hr] at h; exact h
theorem sm_ite {c : Expr} {a b : List Stmt} {x : Ex} {xs ys : List Sm} {pos : Pos} (hc : SE D X c x) (ha : SSs D X a xs) (hb : SSs D X b ys) : SSm D X (.If c a b pos) (.ite x xs ys) := by
  refine ⟨fun κ ρ σ H O W Dn hk r h tk => of_ps (ps_if pt_w pss_w pss_w) ?_⟩
  simp only [exS] at h
  refine hc.tst κ ρ σ H O W _ r (onB_run h r tk fun k _ q H1 s => ?_)
  have q' : ∀ {e}, EndP X.K D.cadr Dn W κ ρ σ H O e → EndP X.K D.cadr Dn W κ ρ σ H1 O e := fun q => q.step r (r.same s) (Stp.same s)
  cases k with
  | true =>
    rw [if_pos rfl] at q ⊢
    exact ha.run κ ρ σ H1 O W Dn hk (r.same s) (q.imp fun e z => q' z) tk
  | false =>
    rw [if_neg Bool.false_ne_true] at q ⊢
    exact hb.run κ ρ σ H1 O W Dn hk (r.same s) (q.imp fun e z => q' z) tk
theorem sm_brk {pos : Pos} : SSm D X (.Break pos) .brk := ⟨fun κ ρ σ H O W Dn _ r h tk => of_ps ps_break (by
  simp only [exS] at h
  exact h σ H O r Stp.refl)⟩
theorem sm_cnt {pos : Pos} : SSm D X (.Continue pos) .cnt := ⟨fun κ ρ σ H O W Dn _ r h tk => of_ps ps_continue (by
  simp only [exS] at h
  exact h σ H O r Stp.refl)⟩
theorem sm_pas {pos : Pos} : SSm D X (.Pass pos) .pas := ⟨fun κ ρ σ H O W Dn _ r h tk => of_ps ps_pass (by
  simp only [exS] at h
  exact h σ H O r Stp.refl)⟩
theorem sm_exp {e : Expr} {x : Ex} {pos : Pos} (he : SE D X e x) (hs : swapsWith e none pos.line X.env = pure false) : SSm D X (.Expr e pos) (.exp x) := by
  refine ⟨fun κ ρ σ H O W Dn _ r h tk => of_ps (ps_expr pe_w hs) ?_⟩
  simp only [exS] at h
  exact he.run κ ρ σ H O W _ r (onE_run h r r Stp.refl tk fun d _ q v H1 s p => q σ H1 O (r.same s) (Stp.same s))
/-! loops -/
theorem sm_whl {c : Expr} {body : List Stmt} {x : Ex} {xs : List Sm} {pos : Pos} (hp : PassesOwn (model X.prog X.w) X.A X.env X.xe) (hc : SE D X c x) (hb : SSs D X body xs) : SSm D X (.While c body [] pos) (.whl x xs) := by
  refine ⟨fun κ ρ σ H O W Dn hk r h tk => of_ps (ps_while hp pt_w pss_w) ?_⟩
  simp only [exS] at h
  refine ⟨fun m σ' H' => ∃ κ' ρ' O', κ'.length = X.N.length ∧ Rel X.K κ' ρ' σ' H' O' ∧ PostR (loopW (fun ρ => (evE D.cf D.gl x ρ).bind truth) (exSs D.cf D.gl D.rf xs) m κ' ρ') (EndP X.K D.cadr Dn W κ' ρ' σ' H' O'), ⟨FUEL, κ, ρ, O, hk, r, h⟩, ?_⟩
  rintro m σ1 H1 ⟨κ1, ρ1, O1, hk1, r1, q⟩
  cases m with
  | zero => exact False.elim q
  | succ m =>
    simp only [loopW] at q
    refine hc.tst κ1 ρ1 σ1 H1 O1 W _ r1 (onB_run q r1 tk fun k _ q H2 s => ?_)
    have r2 := r1.same s
    cases k with
    | false =>
      rw [if_neg Bool.false_ne_true] at q ⊢
      exact q σ1 H2 O1 r2 (Stp.same s)
    | true =>
      rw [if_pos rfl] at q ⊢
      refine ⟨fun σ' H' => ∃ κ' ρ' O', κ'.length = X.N.length ∧ Rel X.K κ' ρ' σ' H' O' ∧ PostR (loopW (fun ρ => (evE D.cf D.gl x ρ).bind truth) (exSs D.cf D.gl D.rf xs) m κ' ρ') (EndP X.K D.cadr Dn W κ' ρ' σ' H' O'), fun σ' H' z => ⟨m, Nat.lt_succ_self m, z⟩, ?_⟩
      refine hb.run κ1 ρ1 σ1 H2 O1 W _ hk1 r2 ?_ tk
      cases hr : exSs D.cf D.gl D.rf xs κ1 ρ1 with
      | ok e =>
        rw [hr] at q
        cases e with
        | nx κ' ρ' => exact fun σ' H' O' r' s' => ⟨κ', ρ', O', by rw [s'.lk, hk1], r', PostR.imp q fun e z => (z.step r1 r2 (Stp.same s)).step r2 r' s'⟩
        | ct κ' ρ' => exact fun σ' H' O' r' s' => ⟨κ', ρ', O', by rw [s'.lk, hk1], r', PostR.imp q fun e z => (z.step r1 r2 (Stp.same s)).step r2 r' s'⟩
        | bk κ' ρ' => exact fun σ' H' O' r' s' => q σ' H' O' r' ((Stp.same s).trans r1 r2 s')
        | rt fl d => exact fun v H' O' z => q v H' O' (z.step r1 (Stp.same s).q)
        | xc κ' ρ' z => exact fun cls dd σ' H' O' r' s' xd => q cls dd σ' H' O' r' ((Stp.same s).q.trans r1 s') xd
        | r0 κ' ρ' => exact fun σ' H' O' r' s' => q σ' H' O' r' ((Stp.same s).q.trans r1 s')
      | ex z => rw [hr] at q; exact q
      | no => rw [hr] at q; exact q
theorem lend_ok {K : PySem.W.Frag} (s : Sr) (r : Rel K κ ρ σ H O) : Rel K (lend κ s) ρ σ H O ∧ (∀ a, Mr (lend κ s) ρ σ a → Mr κ ρ σ a) ∧ (∀ a, Ar (lend κ s) ρ σ a ↔ Ar κ ρ σ a) ∧ (lend κ s).length = κ.length ∧ ∀ j, kd (lend κ s) j = .arg → kd κ j = .arg := by
  have triv : Rel K κ ρ σ H O ∧ (∀ a, Mr κ ρ σ a → Mr κ ρ σ a) ∧ (∀ a, Ar κ ρ σ a ↔ Ar κ ρ σ a) ∧ κ.length = κ.length ∧ ∀ j, kd κ j = .arg → kd κ j = .arg := ⟨r, fun _ h => h, fun _ => Iff.rfl, rfl, fun _ h => h⟩
  unfold lend
  split
  · rename_i i
    by_cases hk : kd κ i = .own
    · rw [if_pos hk]
      have kdi : ∀ j, kd (setK κ i .lent) j = kd κ j ∨ (i = j ∧ kd κ j = .own ∧ kd (setK κ i .lent) j = .lent) := fun j => by
        rw [kd_set]
        by_cases e : i = j ∧ j < κ.length
        · rw [if_pos e]
          exact .inr ⟨e.1, by rw [← e.1]; exact hk, rfl⟩
        · rw [if_neg e]
          exact .inl rfl
      have io : ∀ j, isOwn (kd (setK κ i .lent) j) = isOwn (kd κ j) := fun j => by
        rcases kdi j with z | ⟨_, z1, z2⟩
        · rw [z]
        · rw [z1, z2]; rfl
      refine ⟨⟨r.len, by unfold setK; rw [List.length_set]; exact r.lenK, fun j d q => ?_, fun j l d1 d2 a q1 q2 h1 h2 => r.inj j l d1 d2 a q1 q2 (by rw [← io]; exact h1) (by rw [← io]; exact h2), r.trk⟩, fun a ⟨j, d, q1, q2, q3⟩ => ?_, fun a => ⟨fun ⟨j, d, q1, q2, q3⟩ => ⟨j, d, q1, by rw [← io]; exact q2, q3⟩, fun ⟨j, d, q1, q2, q3⟩ => ⟨j, d, q1, by rw [io]; exact q2, q3⟩⟩, by unfold setK; rw [List.length_set], fun j q => ?_⟩
      · obtain ⟨v, g1, g2⟩ := r.slot j d q
        refine ⟨v, g1, ?_⟩
        rcases kdi j with z | ⟨_, z1, z2⟩
        · rw [z]; exact g2
        · rw [z2]
          rw [z1] at g2
          exact g2
      · rcases kdi j with z | ⟨_, z1, z2⟩
        · exact ⟨j, d, q1, by rw [← z]; exact q2, q3⟩
        · exact ⟨j, d, q1, by rw [z1]; rfl, q3⟩
      · rcases kdi j with z | ⟨_, z1, z2⟩
        · rw [← z]; exact q
        · rw [z2] at q; cases q
    · rw [if_neg hk]
      exact triv
  · exact triv
/-- the loan is over -/
theorem unlend_ok {K : PySem.W.Frag} {κ' : Kd} {ρ' : Env} {σ' : L2.St} {H' : Hp} {O' : Addr → Prop} (s : Sr) (r : Rel K κ ρ σ H O) (r' : Rel K κ' ρ' σ' H' O') (h : Stp K (lend κ s) ρ σ H O κ' ρ' σ' H' O') : Rel K (unlend κ κ' s) ρ' σ' H' O' ∧ Stp K κ ρ σ H O (unlend κ κ' s) ρ' σ' H' O' := by
  obtain ⟨rl, m1, a1, l1, g1⟩ := lend_ok s r
  have base : ∀ κ2, (∀ a, Mr κ2 ρ' σ' a → Mr κ' ρ' σ' a ∨ Mr κ ρ σ a) → (∀ a, Ar κ2 ρ' σ' a → Ar κ' ρ' σ' a) → (∀ i, kd κ2 i = .lent → kd κ' i = .lent ∧ kd κ i = .lent) → κ2.length = κ'.length → (∀ i, kd κ2 i = .arg → kd κ' i = .arg) → Stp K κ ρ σ H O κ2 ρ' σ' H' O' := by
    intro κ2 c1 c2 c3 c4 c5
    refine ⟨h.den, fun a o q n => h.frm a o q fun z => n (m1 a z), fun a q n => h.kep a q fun z => n ((a1 a).mp z), fun a q => ?_, fun a q => ?_, fun i q => (let ⟨p1, p2⟩ := h.par i (c5 i q); ⟨g1 i p1, p2⟩), fun i q => ?_, by rw [c4, h.lk, l1]⟩
    · rcases c1 a q with z | z
      · rcases h.mr a z with z | z
        · exact .inl (m1 a z)
        · exact .inr z
      · exact .inl z
    · rcases h.ar a (c2 a q) with z | z
      · exact .inl ((a1 a).mp z)
      · exact .inr z
    · obtain ⟨q1, q2⟩ := c3 i q
      obtain ⟨_, p2, p3⟩ := h.len i q1
      exact ⟨q2, p2, p3⟩
  cases s with
  | seq e =>
    cases e with
    | var i =>
      simp only [unlend]
      simp only [lend] at h
      by_cases hk : kd κ i = .own ∧ kd κ' i = .lent
      · rw [if_pos hk]
        have kdi : ∀ j, kd (setK κ' i .own) j = kd κ' j ∨ (i = j ∧ kd κ' j = .lent ∧ kd (setK κ' i .own) j = .own) := fun j => by
          rw [kd_set]
          by_cases e : i = j ∧ j < κ'.length
          · rw [if_pos e]
            exact .inr ⟨e.1, by rw [← e.1]; exact hk.2, rfl⟩
          · rw [if_neg e]
            exact .inl rfl
        have io : ∀ j, isOwn (kd (setK κ' i .own) j) = isOwn (kd κ' j) := fun j => by
          rcases kdi j with z | ⟨_, z1, z2⟩
          · rw [z]
          · rw [z1, z2]; rfl
        have il : i < κ'.length := by
          rcases Nat.lt_or_ge i κ'.length with z | z
          · exact z
          · have q := hk.2
            unfold kd at q
            rw [List.getD_eq_getElem?_getD, List.getElem?_eq_none z] at q
            cases q
        rw [if_pos hk.1] at h
        have same := h.len i hk.2
        refine ⟨⟨r'.len, by unfold setK; rw [List.length_set]; exact r'.lenK, fun j d q => ?_, fun j l d1 d2 a q1 q2 h1 h2 => r'.inj j l d1 d2 a q1 q2 (by rw [← io]; exact h1) (by rw [← io]; exact h2), r'.trk⟩, base _ (fun a ⟨j, d, q1, q2, q3⟩ => ?_) (fun a ⟨j, d, q1, q2, q3⟩ => ⟨j, d, q1, by rw [← io]; exact q2, q3⟩) (fun j q => ?_) (by unfold setK; rw [List.length_set]) (fun j q => ?_)⟩
        · obtain ⟨v, g1, g2⟩ := r'.slot j d q
          refine ⟨v, g1, ?_⟩
          rcases kdi j with z | ⟨_, z1, z2⟩
          · rw [z]; exact g2
          · rw [z2]
            rw [z1] at g2
            exact g2
        · rcases kdi j with z | ⟨z0, z1, z2⟩
          · exact .inl ⟨j, d, q1, by rw [← z]; exact q2, q3⟩
          · rw [← z0] at q1 q3
            exact .inr ⟨i, d, by rw [← same.2.2]; exact q1, by rw [hk.1]; rfl, by rw [← same.2.1]; exact q3⟩
        · rw [kd_set] at q
          by_cases e : i = j ∧ j < κ'.length
          · rw [if_pos e] at q; cases q
          · rw [if_neg e] at q
            refine ⟨q, ?_⟩
            have := (h.len j q).1
            rw [kd_set] at this
            by_cases e2 : i = j ∧ j < κ.length
            · exact absurd ⟨e2.1, by rw [← e2.1]; exact il⟩ e
            · rw [if_neg e2] at this
              exact this
        · rcases kdi j with z | ⟨_, z1, z2⟩
          · rw [← z]; exact q
          · rw [z2] at q; cases q
      · rw [if_neg hk]
        refine ⟨r', base κ' (fun a z => .inl z) (fun a z => z) (fun j q => ⟨q, ?_⟩) rfl (fun _ q => q)⟩
        have := (h.len j q).1
        by_cases e : kd κ i = .own
        · rw [if_pos e, kd_set] at this
          by_cases e2 : i = j ∧ j < κ.length
          · exact absurd ⟨e, by rw [e2.1]; exact q⟩ hk
          · rw [if_neg e2] at this
            exact this
        · rw [if_neg e] at this
          exact this
    | _ => exact ⟨r', base κ' (fun a z => .inl z) (fun a z => z) (fun j q => ⟨q, (h.len j q).1⟩) rfl (fun _ q => q)⟩
  | _ => exact ⟨r', base κ' (fun a z => .inl z) (fun a z => z) (fun j q => ⟨q, (h.len j q).1⟩) rfl (fun _ q => q)⟩
theorem sm_fr {tg it : Expr} {body : List Stmt} {t : Tgt} {s : Sr} {xs : List Sm} {pos : Pos} (hp : PassesOwn (model X.prog X.w) X.A X.env X.xe) (hc : X.calm = true) (hg : PG X tg (gT X.K t)) (hS : SS D X tg it s) (hb : SSs D X body xs) (hs : ∀ x, foldedSetIterable it X.env x = pure x) :
    SSm D X (.For tg it body [] pos) (.fr t s xs) := by
  refine ⟨fun κ ρ σ H O W Dn hk r h tk => of_ps (ps_for hp hc pi_w hg pss_w hs) ?_⟩
  simp only [exS] at h
  split at h
  case isFalse => exact False.elim h
  rename_i hz
  rw [Bool.and_eq_true] at hz
  obtain ⟨O1, r1, s1⟩ := frz_ok (leakS D.rf s) r
  generalize hκ1 : frz κ (leakS D.rf s) = κ1 at h hz r1 s1
  obtain ⟨r2, m2, a2, l2, g2⟩ := lend_ok s r1
  have sq : Stq X.K κ ρ σ H O (lend κ1 s) ρ σ H O1 := s1.q.trans r ⟨fun _ _ h => h, fun _ _ h _ => h, fun _ h _ => h, fun a h => .inl (m2 a h), fun a h => .inl ((a2 a).mp h), fun j h => ⟨g2 j h, rfl⟩⟩
  have hk1 : κ1.length = X.N.length := by rw [s1.lk, hk]
  refine hS.run (lend κ1 s) ρ σ H O1 W _ r2 hz.1 ?_
  cases hr : evS D.cf D.gl s ρ with
  | no => rw [hr] at h; exact h
  | ex z =>
    rw [hr] at h
    exact ⟨tk, fun cls dd H' e xd => h cls dd σ H' O1 (r2.same e) (sq.trans r (Stp.same e).q) xd⟩
  | ok ds =>
    rw [hr] at h
    try dsimp only at h
    intro J H1 fp e w nown
    have nown := nown hz.2
    have r3 := r2.same e
    have sq3 : Stq X.K κ ρ σ H O (lend κ1 s) ρ σ H1 O1 := sq.trans r (Stp.same e).q
    have h3 : PostR (loopF t (exSs D.cf D.gl D.rf xs) ds (lend κ1 s) ρ) (EndP X.K D.cadr Dn W (lend κ1 s) ρ σ H1 O1) := by
      cases hl : loopF t (exSs D.cf D.gl D.rf xs) ds (lend κ1 s) ρ with
      | ok en =>
        rw [hl] at h
        try dsimp only at h
        cases en with
        | nx κ' ρ' =>
          intro σ' H' O' r' s'
          obtain ⟨r4, s4⟩ := unlend_ok s (r1.same e) r' s'
          exact h σ' H' O' r4 ((s1.trans r r1 (Stp.same e)).trans r (r1.same e) s4)
        | bk _ _ => exact False.elim h
        | ct _ _ => exact False.elim h
        | rt fl d => exact fun v H' O' z => h v H' O' (z.step r sq3)
        | xc κ' ρ' z => exact fun cls dd σ' H' O' r' s' xd => h cls dd σ' H' O' r' (sq3.trans r s') xd
        | r0 κ' ρ' => exact fun σ' H' O' r' s' => h σ' H' O' r' (sq3.trans r s')
      | ex z => rw [hl] at h; exact h
      | no => rw [hl] at h; exact h
    -- the roots that the body may change are not walked
    have keepG : ∀ (κ' : Kd) (ρ' : Env) (σ' : L2.St) (H' : Hp) (O' : Addr → Prop), Stp X.K (lend κ1 s) ρ σ H1 O1 κ' ρ' σ' H' O' → ∀ a ∈ fp, ∀ o, H1 a = some o → H' a = some o := fun κ' ρ' σ' H' O' st a ha o q => st.frm a o q fun ⟨i, d, z1, z2, z3⟩ => nown a ha i d z1 z2 z3
    refine for_it w.walk (fun i σ' H' => ∃ κ' ρ' O', Rel X.K κ' ρ' σ' H' O' ∧ Stp X.K (lend κ1 s) ρ σ H1 O1 κ' ρ' σ' H' O' ∧ PostR (loopF t (exSs D.cf D.gl D.rf xs) (ds.drop i) κ' ρ') (EndP X.K D.cadr Dn W (lend κ1 s) ρ σ H1 O1)) ⟨lend κ1 s, ρ, O1, r3, Stp.refl, h3⟩ (fun i σ' H' _ ⟨κ', ρ', O', _, st, _⟩ => keepG κ' ρ' σ' H' O' st) ?_ ?_
    · rintro i v σ1 H2 H3 hi ⟨κ', ρ', O', r', st, q⟩ ⟨s3, d, ed, hd⟩
      have il : ds.drop i = d :: ds.drop (i + 1) := by
        rw [List.drop_eq_getElem_cons hi]
        have : ds[i] = d := by
          rw [List.getElem?_eq_getElem hi] at ed
          exact Option.some.inj ed
        rw [this]
      rw [il] at q
      simp only [loopF] at q
      have id : Den X.K O' H3 v d := hd O' (fun v d q => st.den v d q) fun H4 v d e q => Den.same e q
      have r5 := r'.same s3
      have st5 : Stp X.K (lend κ1 s) ρ σ H1 O1 κ' ρ' σ1 H3 O' := st.trans r3 r' (Stp.same s3)
      refine tg_run2 (B := fun _ => False) r5 id ?_
      cases hb2 : bindT t d ρ' with
      | ex z => rw [hb2] at q; exact False.elim q
      | no => rw [hb2] at q; exact False.elim q
      | ok ρ2 =>
        rw [hb2] at q
        try dsimp only at q
        intro σ2 r6 st6
        have st7 := st5.trans r3 r5 st6
        refine hb.run (bindK t .shr κ') ρ2 σ2 H3 O' W _ (by rw [st7.lk, l2, hk1]) r6 ?_ tk
        cases hx : exSs D.cf D.gl D.rf xs (bindK t .shr κ') ρ2 with
        | ex z => rw [hx] at q; exact q
        | no => rw [hx] at q; exact q
        | ok en =>
          rw [hx] at q
          try dsimp only at q
          cases en with
          | nx κ3 ρ3 => exact fun σ' H' O2 r8 s8 => ⟨κ3, ρ3, O2, r8, st7.trans r3 r6 s8, q⟩
          | ct κ3 ρ3 => exact fun σ' H' O2 r8 s8 => ⟨κ3, ρ3, O2, r8, st7.trans r3 r6 s8, q⟩
          | bk κ3 ρ3 => exact fun σ' H' O2 r8 s8 => q σ' H' O2 r8 (st7.trans r3 r6 s8)
          | rt fl dd => exact fun v H' O2 z => q v H' O2 (z.step r3 st7.q)
          | xc κ3 ρ3 z => exact fun cls dd σ' H' O2 r8 s8 xd => q cls dd σ' H' O2 r8 (st7.q.trans r3 s8) xd
          | r0 κ3 ρ3 => exact fun σ' H' O2 r8 s8 => q σ' H' O2 r8 (st7.q.trans r3 s8)
    · rintro σ' H' ⟨κ', ρ', O', r', st, q⟩
      rw [List.drop_length] at q
      exact q σ' H' O' r' st
/-! lists changed -/
theorem hfew1 {e : Expr} {env : PySem.Env} {cpos : Pos} (hs : isStar e = false) : ((backTo cpos (starEach [e] env)).all (fun x => !x.1) && (backToKw cpos (keywordEach [] env)).all (fun x => x.1.isSome)
      && decide ([e].length + ([] : List Keyword).length + (if ([] : List Keyword).isEmpty then 0 else 1) < 30)) = true := by
  rw [starEach_cons hs]
  rfl
theorem getL {i : Nat} {f : List Dat → Rs End} {A : End → Prop} (h : PostR (match getV ρ i with
      | .ok (.lst xs) => f xs
      | _ => .no) A) : ∃ xs, ρ[i]? = some (some (.lst xs)) ∧ PostR (f xs) A := by
  unfold getV at h
  cases hd : ρ[i]? with
  | none => rw [hd] at h; exact False.elim h
  | some o =>
    rw [hd] at h
    cases o with
    | none => exact False.elim h
    | some d0 =>
      cases d0 with
      | lst xs => exact ⟨xs, rfl, h⟩
      | _ => exact False.elim h
theorem sm_app {i : Nat} {y : Str} {e : Expr} {x : Ex} {p apos cpos pos : Pos} (hN : X.N[i]? = some y) (hv : Vis X.env.scope y) (hd : (y == ("__debug__" : Str)) = false) (hcd : (y == ("__classdict__" : Str)) = false) (he : SE D X e x) (hst : isStar e = false) (hline : (apos.endLine == cpos.line) = true) :
    SSm D X (.Expr (.Call (.Attribute (.Name y p) "append" apos) [e] [] cpos) pos) (.app i x) := by
  have st : starEach [e] X.env = (false, eval e X.env) :: starEach [] X.env := starEach_cons hst
  refine ⟨fun κ ρ σ H O W Dn _ r h tk => of_ps (ps_expr (pe_bm PySem.F.plainAttrs_list PySem.F.slot_list_append PySem.F.type_list_append mt_append (pe_var hN hv hd hcd) (pa_cons pe_w pa_nil st) rfl (hfew1 hst) hline st rfl) rfl) ?_⟩
  simp only [exS] at h
  obtain ⟨O1, r1, s1⟩ := frz_ok (leak D.rf x) r
  split at h
  case isFalse => exact False.elim h
  rename_i hz
  obtain ⟨xs, hx, h⟩ := getL h
  obtain ⟨v, g1, g2⟩ := r1.slot i _ hx
  obtain ⟨a, rfl, o1, vs, o2, o3⟩ := g2.ref (isMu_own hz.2)
  refine ⟨_, g1, .inl ⟨rfl, vs, .of o2⟩, ?_⟩
  refine he.run _ ρ σ H O1 W _ r1 (onE_run h r r1 s1 tk fun d _ q v H1 s p => ?_)
  split at q
  case isFalse => exact False.elim q
  rename_i hl
  have r2 := r1.same s
  have e1 := s _ _ o2
  have o4 := (o3.same s).append (.cons (p.two hz.1) .nil)
  obtain ⟨r3, s3⟩ := mut_ok r2 hz.2 hx g1 e1 o4
  exact ⟨a, vs, v, rfl, rfl, e1, by rw [o3.len]; exact of_decide_eq_true hl, q σ _ O1 r3 ((Stp.same s).trans r1 r2 s3)⟩
theorem sm_xtd {i : Nat} {y : Str} {e : Expr} {x : Ex} {p apos cpos pos : Pos} (hN : X.N[i]? = some y) (hv : Vis X.env.scope y) (hd : (y == ("__debug__" : Str)) = false) (hcd : (y == ("__classdict__" : Str)) = false) (he : SE D X e x) (hst : isStar e = false) (hline : (apos.endLine == cpos.line) = true) :
    SSm D X (.Expr (.Call (.Attribute (.Name y p) "extend" apos) [e] [] cpos) pos) (.xtd i x) := by
  have st : starEach [e] X.env = (false, eval e X.env) :: starEach [] X.env := starEach_cons hst
  refine ⟨fun κ ρ σ H O W Dn _ r h tk => of_ps (ps_expr (pe_bm PySem.F.plainAttrs_list PySem.F.slot_list_extend PySem.F.type_list_extend mt_extend (pe_var hN hv hd hcd) (pa_cons pe_w pa_nil st) rfl (hfew1 hst) hline st rfl) rfl) ?_⟩
  simp only [exS] at h
  obtain ⟨O1, r1, s1⟩ := frz_ok (leak D.rf x) r
  split at h
  case isFalse => exact False.elim h
  rename_i hz
  obtain ⟨xs, hx, h⟩ := getL h
  obtain ⟨v, g1, g2⟩ := r1.slot i _ hx
  obtain ⟨a, rfl, o1, vs, o2, o3⟩ := g2.ref (isMu_own hz.2)
  refine ⟨_, g1, .inl ⟨rfl, vs, .of o2⟩, ?_⟩
  refine he.run _ ρ σ H O1 W _ r1 (onE_run h r r1 s1 tk fun d _ q v H1 s p => ?_)
  split at q
  case h_2 => exact False.elim q
  rename_i ys
  split at q
  case isFalse => exact False.elim q
  rename_i hl
  have hl := of_decide_eq_true hl
  have r2 := r1.same s
  have e1 := s _ _ o2
  cases p.two hz.1 with
  | lst hs hd2 =>
    have o4 := (o3.same s).append hd2
    obtain ⟨r3, s3⟩ := mut_ok r2 hz.2 hx g1 e1 o4
    exact ⟨a, _, vs, _, rfl, rfl, e1, hs.1, by rw [o3.len, hd2.len]; exact hl, q σ _ O1 r3 ((Stp.same s).trans r1 r2 s3)⟩
theorem den_set {K : PySem.W.Frag} {O : Addr → Prop} {H : Hp} {vs : List V} {ds : List Dat} {v : V} {d : Dat} {j : Nat} (h : DenL K O H vs ds) (q : Den K O H v d) : DenL K O H (vs.set j v) (ds.set j d) := h.set j q
theorem sm_sti {i : Nat} {y : Str} {k e : Expr} {z x : Ex} {p p2 pos : Pos} (hN : X.N[i]? = some y) (hv : Vis X.env.scope y) (hd : (y == ("__debug__" : Str)) = false) (hcd : (y == ("__classdict__" : Str)) = false) (hk : SE D X k z) (he : SE D X e x) (hsl : isSlice k = false)
    (hs : swapsWithSole [.Subscript (.Name y p) k p2] e pos.line X.env = pure false) (hpg : ∀ {to ti : TE}, PE X (.Name y p) to → PE X k ti → PG X (.Subscript (.Name y p) k p2) (gSub to ti rSetL)) : SSm D X (.Assign [.Subscript (.Name y p) k p2] e pos) (.sti i z x) := by
  refine ⟨fun κ ρ σ H O W Dn _ r h tk => of_ps (ps_asg pe_w (hpg (pe_var hN hv hd hcd) pe_w) hs rfl rfl) ?_⟩
  simp only [exS] at h
  obtain ⟨O1, r1, s1⟩ := frz_ok (leak D.rf x) r
  split at h
  case isFalse => exact False.elim h
  rename_i hz
  obtain ⟨xs, hx, h⟩ := getL h
  obtain ⟨v, g1, g2⟩ := r1.slot i _ hx
  obtain ⟨a, rfl, o1, vs, o2, o3⟩ := g2.ref (isMu_own hz.2)
  refine he.run _ ρ σ H O1 W _ r1 (onE_run h r r1 s1 tk fun d _ q v H1 s p => ?_)
  refine ⟨_, g1, ?_⟩
  have r2 := r1.same s
  refine hk.run _ ρ σ H1 O1 W _ r2 ((onE_run q r1 r1 Stp.refl tk fun d2 _ q v2 H2 s2 p2 => ?_).imp (fun d _ z => z) fun z q => q.step s)
  cases d2 with
  | int n =>
    cases p2.any
    try dsimp only at q
    cases hj : ixN xs.length n with
    | none => rw [hj] at q; exact False.elim q
    | some j =>
      rw [hj] at q
      have e1 := s2 _ _ (s _ _ o2)
      have o4 := (o3.same (s.trans s2)).set j ((p.two hz.1).same s2)
      have r3 := r2.same s2
      obtain ⟨r4, s4⟩ := mut_ok r3 hz.2 hx g1 e1 o4
      exact ⟨a, vs, n, j, rfl, rfl, e1, by rw [o3.len]; exact hj, q σ _ O1 r4 (((Stp.same s).trans r1 r2 (Stp.same s2)).trans r1 r3 s4)⟩
  | _ => exact False.elim q
theorem hfew2 {e e2 : Expr} {env : PySem.Env} {cpos : Pos} (hs : isStar e = false) (hs2 : isStar e2 = false) : ((backTo cpos (starEach [e, e2] env)).all (fun x => !x.1) && (backToKw cpos (keywordEach [] env)).all (fun x => x.1.isSome)
      && decide ([e, e2].length + ([] : List Keyword).length + (if ([] : List Keyword).isEmpty then 0 else 1) < 30)) = true := by
  rw [starEach_cons hs, starEach_cons hs2]
  rfl
/-- l.insert(k, e) -/
theorem sm_ins {i : Nat} {y : Str} {k e : Expr} {z x : Ex} {p apos cpos pos : Pos} (hN : X.N[i]? = some y) (hv : Vis X.env.scope y) (hd : (y == ("__debug__" : Str)) = false) (hcd : (y == ("__classdict__" : Str)) = false) (hk : SE D X k z) (he : SE D X e x) (hst : isStar k = false) (hst2 : isStar e = false) (hline : (apos.endLine == cpos.line) = true) :
    SSm D X (.Expr (.Call (.Attribute (.Name y p) "insert" apos) [k, e] [] cpos) pos) (.ins i z x) := by
  have st2 : starEach [e] X.env = (false, eval e X.env) :: starEach [] X.env := starEach_cons hst2
  have st : starEach [k, e] X.env = (false, eval k X.env) :: starEach [e] X.env := starEach_cons hst
  refine ⟨fun κ ρ σ H O W Dn _ r h tk => of_ps (ps_expr (pe_bm PySem.F.plainAttrs_list PySem.F.slot_list_insert PySem.F.type_list_insert mt_insert (pe_var hN hv hd hcd) (pa_cons pe_w (pa_cons pe_w pa_nil st2) st) rfl (hfew2 hst hst2) hline st (by rw [st2]; rfl)) rfl) ?_⟩
  simp only [exS] at h
  obtain ⟨O1, r1, s1⟩ := frz_ok (leak D.rf x) r
  split at h
  case isFalse => exact False.elim h
  rename_i hz
  obtain ⟨xs, hx, h⟩ := getL h
  obtain ⟨v, g1, g2⟩ := r1.slot i _ hx
  obtain ⟨a, rfl, o1, vs, o2, o3⟩ := g2.ref (isMu_own hz.2)
  refine ⟨_, g1, .inl ⟨rfl, vs, .of o2⟩, ?_⟩
  refine hk.run _ ρ σ H O1 W _ r1 (onE_run h r r1 s1 tk fun d _ q v H1 s p => ?_)
  have r2 := r1.same s
  refine he.run _ ρ σ H1 O1 W _ r2 ((onE_run q r1 r1 Stp.refl tk fun d2 _ q v2 H2 s2 p2 => ?_).imp (fun d _ z => z) fun z q => q.step s)
  cases d with
  | int n =>
    cases p.any
    try dsimp only at q
    split at q
    case isFalse => exact False.elim q
    rename_i hl
    simp only [Bool.and_eq_true, decide_eq_true_eq] at hl
    have e1 := s2 _ _ (s _ _ o2)
    have o4 := o3.same (s.trans s2)
    have r3 := r2.same s2
    have o5 : DenL X.K O1 H2 (vs.take n.toNat ++ [v2] ++ vs.drop n.toNat) (xs.take n.toNat ++ [d2] ++ xs.drop n.toNat) := ((o4.take _).append (.cons (p2.two hz.1) .nil)).append (o4.drop _)
    obtain ⟨r4, s4⟩ := mut_ok r3 hz.2 hx g1 e1 o5
    exact ⟨a, vs, n, v2, rfl, rfl, e1, by rw [o3.len]; exact hl.2, hl.1.1, by omega, q σ _ O1 r4 (((Stp.same s).trans r1 r2 (Stp.same s2)).trans r1 r3 s4)⟩
  | _ => exact False.elim q
/-- a, b = x, y -/
theorem sm_par {i j : Nat} {x y : Str} {a b : Expr} {ea eb : Ex} {px py pt pos pt2 : Pos} {kt k2 : Nat} (hc : X.calm = true) (hN : X.N.Nodup) (hi : X.N[i]? = some x) (hj : X.N[j]? = some y) (hij : i ≠ j) (hx : X.env.scope.names.lookup x = some .local) (hy : X.env.scope.names.lookup y = some .local)
    (ha : SE D X a ea) (hb : SE D X b eb) (hsa : isStar a = false) (hsb : isStar b = false) (hw : swappedStores [.Tuple [.Name x px, .Name y py] kt pt] (.Tuple [a, b] k2 pt2) X.env = pure (some [x, y])) : SSm D X (.Assign [.Tuple [.Name x px, .Name y py] kt pt] (.Tuple [a, b] k2 pt2) pos) (.par i j ea eb) := by
  have st2 : starEach [b] X.env = (false, eval b X.env) :: starEach [] X.env := starEach_cons hsb
  have st : starEach [a, b] X.env = (false, eval a X.env) :: starEach [b] X.env := starEach_cons hsa
  refine ⟨fun κ ρ σ H O W Dn _ r h tk => of_ps (ps_par hc hN hi hj hij hx hy (pa_cons pe_w (pa_cons pe_w pa_nil st2) st) hw rfl) ?_⟩
  simp only [exS] at h
  refine ha.run _ ρ σ H O W _ r (onE_run h r r Stp.refl tk fun d _ q v H1 s p => ?_)
  have r2 := r.same s
  refine hb.run _ ρ σ H1 O W _ r2 ((onE_run q r r Stp.refl tk fun d2 _ q v2 H2 s2 p2 => ?_).imp (fun d _ z => z) fun z q => q.step s)
  split at q
  case isFalse => exact False.elim q
  rename_i hz
  simp only [Bool.and_eq_true, decide_eq_true_eq, Bool.not_eq_true'] at hz
  have r3 := r2.same s2
  obtain ⟨r4, s4⟩ := set_ok (i := i) r3 ((p.two hz.1.1).same s2)
  obtain ⟨r5, s5⟩ := set_ok (i := j) r4 (p2.two hz.1.2)
  exact ⟨v, v2, rfl, q _ _ O r5 ((((Stp.same s).trans r r2 (Stp.same s2)).trans r r3 s4).trans r r4 s5)⟩
end
end PV

/-! PV, part 1: what is asked of a caught error -/
namespace PV
open PySem PySem.Spec PyProof.Rows L2

/-- the program's errors: their names, what is below what (none: ValueError), those that are raised -/
structure Exs where
  nm : List (Str × Nat)
  sub : List ((Nat × Option Nat) × Bool)
  rz : List Nat
  hot : List (Str × List (Option Nat × Str))
def Exs.lookup (e : Exs) (x : Str) : Option Nat := e.nm.lookup x
def clV (cadr : Nat → Addr) : Option Nat → Value
  | some C => .ref (cadr C)
  | none => .type "ValueError"
def clW (cadr : Nat → Addr) : Option Nat → V
  | some C => .ref (cadr C)
  | none => .ty "ValueError"
/-- tests of a caught error -/
inductive HX where
  | is (cs : List (Option Nat))
  | not (a : HX)
  | and (a b : HX)
  | or (a b : HX)
  | fn (ts : List (Option Nat × Str))
def anyX (sub : Option Nat → Option Bool) : List (Option Nat) → Option Bool
  | [] => some false
  | c :: r => match sub c with
    | some true => some true
    | some false => anyX sub r
    | none => none
def hxB (sub : Option Nat → Option Bool) : HX → Option Bool
  | .is cs => anyX sub cs
  | .not a => (hxB sub a).map (!·)
  | .and a b => match hxB sub a with
    | some true => hxB sub b
    | some false => some false
    | none => none
  | .or a b => match hxB sub a with
    | some true => some true
    | some false => hxB sub b
    | none => none
  | .fn _ => none
/-- which words a def tells of an error's class -/
def pickX (sub : Option Nat → Option Bool) : List (Option Nat × Str) → Option (List Str)
  | [] => some []
  | (c, z) :: r => match sub c with
    | some true => (pickX sub r).map (z :: ·)
    | some false => pickX sub r
    | none => none
def hxD (sub : Option Nat → Option Bool) : HX → Option Dat
  | .fn ts => (pickX sub ts).map fun zs => .lst (zs.map .str)
  | h => (hxB sub h).map .bl
/-- a class of errors that is named -/
structure ClOk (X : Cx) (cadr : Nat → Addr) (x : Str) (c : Option Nat) : Prop where
  gl : Gl X x
  db : (x == ("__debug__" : Str)) = false
  nm : x ≠ "__name__"
  mg : (∃ C, c = some C ∧ X.mg x = some (.ref (cadr C)) ∧ PySem.W.hasDictIn X.K (cadr C) = true ∧ PySem.W.typeIn X.K (.ref (cadr C)) = some (.type "type") ∧ PySem.W.subIn X.K (.ref (cadr C)) (.type "BaseException") = some true) ∨ (c = none ∧ X.mg x = none ∧ x = "ValueError")
theorem clW_cls (cadr : Nat → Addr) (c : Option Nat) : ClsV (clW cadr c) (clV cadr c) := by
  cases c with
  | none => exact .ty _
  | some C => exact .own _
section
variable {X : Cx} {cadr : Nat → Addr} {x : Str} {c : Option Nat}
theorem ClOk.pe (h : ClOk X cadr x c) {pos : Pos} : PE X (.Name x pos) (tC (clW cadr c)) := by
  rcases h.mg with ⟨C, rfl, m, _⟩ | ⟨rfl, m, rfl⟩
  · exact pe_glob h.gl m rfl h.db
  · exact pe_bltn h.gl m (by decide +kernel) rfl h.nm h.db
theorem ClOk.kit (h : ClOk X cadr x c) {D : Addr} {b : Bool} (hs : PySem.W.subIn X.K (.ref D) (clV cadr c) = some b) (hr : ∀ C, c = some C → cadr C = D → b = true) : PySem.W.kitOne X.K (.ref D) (clV cadr c) = some b := by
  unfold PySem.W.kitOne
  by_cases e : (Value.ref D == clV cadr c) = true
  · rw [if_pos e]
    have e' := beq_iff_eq.mp e
    cases c with
    | none => cases e'
    | some C =>
      have : cadr C = D := (Value.ref.inj e').symm
      rw [hr C rfl this]
  · rw [if_neg e]
    rcases h.mg with ⟨C, rfl, m, hd, ht, hb⟩ | ⟨rfl, m, rfl⟩
    · obtain ⟨cd, hc, _⟩ := PySem.W.any_some hd
      show (if ((PySem.W.clsIn X.K (cadr C)).isSome && PySem.W.typeIn X.K (.ref (cadr C)) == some (.type "type")) = true then PySem.W.subIn X.K (.ref D) (.ref (cadr C)) else none) = some b
      rw [if_pos (by rw [hc, ht] <;> rfl)]
      exact hs
    · show (if PySem.W.kitMeta "ValueError" = true then PySem.W.subIn X.K (.ref D) (.type "ValueError") else none) = some b
      rw [if_pos (by decide +kernel)]
      exact hs
end
/-- isinstance(e, (c1, c2, ..)), e the exception that the suite holds, the tuple just laid -/
def rIsET (K : PySem.W.Frag) (D a : Addr) : List V → Hp → VK → Prop := fun xs H Q => ∃ (tp : Addr) (cs : List V) (us : List Value) (b : Bool), xs = [.ref a, .ref tp] ∧ H tp = some (.tup cs) ∧ Paired ClsV cs us ∧ PySem.W.kitAny K (.ref D) us = some b ∧ Q (.bl b) H
theorem call_isET {X : Cx} {a D : Addr} {oe : Obj} {pn : List (Addr × Obj)} (C : ExcC X.K D) (hz : Zc (.ref D) none oe) (hf : ∃ vs, oe.data = .fields vs) : CallR (X.suite a ((a, oe) :: pn)) (.builtin "isinstance") (rIsET X.K D a) := by
  intro pins s σ H xs us Q I r h
  obtain ⟨tp, cs, ws, b, rfl, hT, k, e, q⟩ := h
  obtain ⟨u1, u2, rfl, r1, r2⟩ := vals2 r
  cases (show u2 = Value.ref tp from r2)
  cases (show u1 = Value.ref a from r1)
  obtain ⟨hget, _⟩ := I.pin (a, oe) (List.mem_append.mpr (.inl List.mem_cons_self))
  obtain ⟨vs, hv⟩ := hf
  have J : PySem.W.InstAt s.heap a oe D none := by
    obtain ⟨oc, od, oda, osl⟩ := oe
    obtain ⟨h1, h2⟩ := hz
    dsimp only at h1 h2 hv
    subst h1 h2 hv
    exact ⟨hget, rfl, rfl, trivial⟩
  obtain ⟨_, its, rv, o, h1, h2, n, h3⟩ := (show ObjOk _ _ H s.heap tp (.tup cs) from I.hok tp _ hT)
  have e3 := ClsV.all k rv
  subst e3
  obtain ⟨oc, od, dt, sl⟩ := o
  simp only at h2 h3
  subst h2 h3
  exact PySem.W.kia_tup (PySem.W.handS_kitx_exc C.hg C.hk C.hs C.hd C.ha C.hn C.ht C.hm) I.kIn J h1 e (fun z => nomatch z) fun tk => ⟨.bl b, H, I.kept (t' := tk) fun _ _ z => z, rfl, q⟩
/-- a test of the caught error that stands at slot i -/
inductive HxE (X : Cx) (cadr : Nat → Addr) (i : Nat) : Expr → HX → Prop
  | one {y n x : Str} {c : Option Nat} {p p1 p2 pos : Pos} : y = "isinstance" → Gl X y → X.mg y = none → X.N[i]? = some n → Vis X.env.scope n → (n == ("__debug__" : Str)) = false → (n == ("__classdict__" : Str)) = false → ClOk X cadr x c → HxE X cadr i (.Call (.Name y p) [.Name n p1, .Name x p2] [] pos) (.is [c])
  | tup {y n : Str} {es : List Expr} {cs : List (Option Nat)} {p p1 p2 pos : Pos} {kk : Nat} : y = "isinstance" → Gl X y → X.mg y = none → X.N[i]? = some n → Vis X.env.scope n → (n == ("__debug__" : Str)) = false → (n == ("__classdict__" : Str)) = false → es.length ≤ 1000 → F2 (fun e c => ∃ x q, e = .Name x q ∧ ClOk X cadr x c) es cs → HxE X cadr i (.Call (.Name y p) [.Name n p1, .Tuple es kk p2] [] pos) (.is cs)
  | not {e : Expr} {h : HX} {pos : Pos} : HxE X cadr i e h → HxE X cadr i (.UnaryOp .Not e pos) (.not h)
  | single {op : BoolOp} {e : Expr} {h : HX} {pos : Pos} : HxE X cadr i e h → HxE X cadr i (.BoolOp op [e] pos) h
  | and {e e2 : Expr} {es : List Expr} {h h2 : HX} {pos : Pos} : HxE X cadr i e h → HxE X cadr i (.BoolOp .And (e2 :: es) pos) h2 → HxE X cadr i (.BoolOp .And (e :: e2 :: es) pos) (.and h h2)
  | or {e e2 : Expr} {es : List Expr} {h h2 : HX} {pos : Pos} : HxE X cadr i e h → HxE X cadr i (.BoolOp .Or (e2 :: es) pos) h2 → HxE X cadr i (.BoolOp .Or (e :: e2 :: es) pos) (.or h h2)
theorem cls_pa {X : Cx} {cadr : Nat → Addr} {es : List Expr} {cs : List (Option Nat)} (h : F2 (fun e c => ∃ x q, e = .Name x q ∧ ClOk X cadr x c) es cs) : PA X es (fun σ H R => R (cs.map (clW cadr)) H) := by
  induction h with
  | nil => exact pa_nil
  | @cons e c es cs h1 _ ih =>
    obtain ⟨x, q, rfl, ok⟩ := h1
    refine ⟨fun pos pins s σ H R I hw => (pa_cons ok.pe ih rfl).run pos pins s σ H R I ?_⟩
    exact hw
theorem paired_cls (cadr : Nat → Addr) : ∀ cs : List (Option Nat), Paired ClsV (cs.map (clW cadr)) (cs.map (clV cadr))
  | [] => .nil
  | c :: cs => .cons (clW_cls cadr c) (paired_cls cadr cs)
theorem anyX_kit {K : PySem.W.Frag} {D : Addr} {cadr : Nat → Addr} {sub : Option Nat → Option Bool} : ∀ (cs : List (Option Nat)) (b : Bool), (∀ c ∈ cs, ∀ b, sub c = some b → PySem.W.kitOne K (.ref D) (clV cadr c) = some b) → anyX sub cs = some b → PySem.W.kitAny K (.ref D) (cs.map (clV cadr)) = some b
  | [], b, _, e => e
  | c :: cs, b, h, e => by
    unfold anyX at e
    unfold List.map PySem.W.kitAny
    cases e1 : sub c with
    | none => rw [e1] at e; cases e
    | some k =>
      rw [e1] at e
      rw [h c List.mem_cons_self k e1]
      cases k with
      | true => exact e
      | false => exact anyX_kit cs b (fun c hc => h c (List.mem_cons_of_mem _ hc)) e
theorem hx_w {X : Cx} {cadr : Nat → Addr} {i : Nat} {e : Expr} {h : HX} (k : HxE X cadr i e h) {a D : Addr} {oe : Obj} {pn : List (Addr × Obj)} (EC : ExcC X.K D) (hz : Zc (.ref D) none oe) (hf : ∃ vs, oe.data = .fields vs) {sub : Option Nat → Option Bool}
    (hsub : ∀ c b, sub c = some b → PySem.W.subIn X.K (.ref D) (clV cadr c) = some b ∧ ∀ C, c = some C → cadr C = D → b = true) :
    ∀ (b : Bool), hxB sub h = some b → ∀ (σ : L2.St) (H : Hp) (Q : VK), σ[i]? = some (some (.ref a)) → (∀ H', Same H H' → Q (.bl b) H') → wE (X.suite a ((a, oe) :: pn)) e σ H Q := by
  induction k with
  | @one y n x c p p1 p2 pos hy hg hm hn hv hd hcd ok =>
    subst hy
    intro b hb σ H Q hσ q
    have okS : ClOk (X.suite a ((a, oe) :: pn)) cadr x c := ⟨ok.gl, ok.db, ok.nm, ok.mg⟩
    have star : starEach [.Name n p1, .Name x p2] X.env = (false, eval (.Name n p1) X.env) :: starEach [.Name x p2] X.env := rfl
    refine of_pe (pe_callB (X := X.suite a ((a, oe) :: pn)) (id := "isinstance") (call_isE EC hz hf) hg hm PyProof.Rows.boot_isinstance (pa_cons (pe_var hn hv hd hcd) (pa_cons okS.pe pa_nil rfl) star) (by decide) (by decide) star rfl) ?_
    have hb' : sub c = some b := by
      unfold hxB anyX at hb
      cases e1 : sub c with
      | none => rw [e1] at hb; cases hb
      | some k =>
        rw [e1] at hb
        cases k with
        | true => exact hb
        | false => exact hb
    obtain ⟨s1, s2⟩ := hsub c b hb'
    exact ⟨.ref a, hσ, clW cadr c, clV cadr c, b, rfl, fun u r => (clW_cls cadr c).eq r, ok.kit s1 s2, q H (Same.refl H)⟩
  | @tup y n es cs p p1 p2 pos kk hy hg hm hn hv hd hcd hl ok =>
    subst hy
    intro b hb σ H Q hσ q
    have okS : F2 (fun e c => ∃ x q, e = Expr.Name x q ∧ ClOk (X.suite a ((a, oe) :: pn)) cadr x c) es cs := by
      clear hl hb
      induction ok with
      | nil => exact .nil
      | cons h1 _ ih =>
        obtain ⟨x, q, e, ok⟩ := h1
        exact .cons ⟨x, q, e, ok.gl, ok.db, ok.nm, ok.mg⟩ ih
    have star : starEach [.Name n p1, .Tuple es kk p2] X.env = (false, eval (.Name n p1) X.env) :: starEach [.Tuple es kk p2] X.env := rfl
    refine of_pe (pe_callB (X := X.suite a ((a, oe) :: pn)) (id := "isinstance") (call_isET EC hz hf) hg hm PyProof.Rows.boot_isinstance (pa_cons (pe_var hn hv hd hcd) (pa_cons (pe_tup (cls_pa okS)) pa_nil rfl) star) (by decide) (by decide) star rfl) ?_
    have kit : ∀ c ∈ cs, ∀ b, sub c = some b → PySem.W.kitOne X.K (.ref D) (clV cadr c) = some b := by
      intro c hc b1 hb1
      obtain ⟨s1, s2⟩ := hsub c b1 hb1
      have : ∃ x, ClOk X cadr x c := by
        clear hl okS hb star q
        induction ok with
        | nil => cases hc
        | cons h1 _ ih =>
          rcases List.mem_cons.mp hc with rfl | hc
          · obtain ⟨x, q, e, ok⟩ := h1
            exact ⟨x, ok⟩
          · exact ih hc
      obtain ⟨x, ok⟩ := this
      exact ok.kit s1 s2
    refine ⟨.ref a, hσ, line_of (by rw [List.length_map, ← F2.len ok]; exact hl), fun tp ht => ?_⟩
    refine ⟨tp, cs.map (clW cadr), cs.map (clV cadr), b, rfl, upd_same, paired_cls cadr cs, anyX_kit cs b kit hb, q _ (same_new (o := .tup (cs.map (clW cadr))) ht)⟩
  | not _ ih =>
    intro b hb σ H Q hσ q
    obtain ⟨b', e1, e2⟩ := Option.map_eq_some_iff.mp (show (hxB sub _).map _ = some b from hb)
    subst e2
    exact of_pe (pe_not pe_w) (ih b' e1 σ H _ hσ fun H' s => ⟨b', rfl, q H' s⟩)
  | single _ ih => exact fun b hb σ H Q hσ q => of_pe (pe_one pe_w) (ih b hb σ H Q hσ q)
  | @and e e2 es h h2 pos k1 k2 ih1 ih2 =>
    intro b hb σ H Q hσ q
    unfold hxB at hb
    cases e1 : hxB sub h with
    | none => rw [e1] at hb; cases hb
    | some b1 =>
      rw [e1] at hb
      refine of_pe (pe_and pe_w pe_w) (ih1 b1 e1 σ H _ hσ fun H' s => ⟨b1, rfl, ?_⟩)
      cases b1 with
      | true => exact ih2 b hb σ H' _ hσ fun H2 s2 => q H2 (s.trans s2)
      | false => cases hb; exact q H' s
  | @or e e2 es h h2 pos k1 k2 ih1 ih2 =>
    intro b hb σ H Q hσ q
    unfold hxB at hb
    cases e1 : hxB sub h with
    | none => rw [e1] at hb; cases hb
    | some b1 =>
      rw [e1] at hb
      refine of_pe (pe_or pe_w pe_w) (ih1 b1 e1 σ H _ hσ fun H' s => ⟨b1, rfl, ?_⟩)
      cases b1 with
      | false => exact ih2 b hb σ H' _ hσ fun H2 s2 => q H2 (s.trans s2)
      | true => cases hb; exact q H' s

end PV

/-! PV, part 2: a def that tells words of a caught error; try .. except C as e -/
namespace PV
open PySem PySem.Spec PyProof.Rows L2
open L2H (RoomH PinOk cxH inv_startH roomH_of)

/-! ### what is asked of an object that is pinned -/
section
variable {X : Cx} {cadr : Nat → Addr}
theorem call_isP {p : Addr × Obj} {D : Addr} (hp : p ∈ X.pn) (C : ExcC X.K D) (hz : Zc (.ref D) none p.2) (hf : ∃ vs, p.2.data = .fields vs) : CallR X (.builtin "isinstance") (rIsE X.K D p.1) := by
  intro pins s σ H xs us Q I r h
  obtain ⟨cl, cv, b, rfl, one, kit, q⟩ := h
  obtain ⟨u1, u2, rfl, r1, r2⟩ := vals2 r
  cases (show u1 = Value.ref p.1 from r1)
  cases (one u2 r2)
  have there := (I.pin p (List.mem_append_left pins hp)).1
  obtain ⟨vs, dat⟩ := hf
  obtain ⟨z1, z2⟩ := hz
  have J : PySem.W.InstAt s.heap p.1 p.2 D none := by
    obtain ⟨a, oc, od, oda, osl⟩ := p
    dsimp only at z1 z2 dat
    subst z1 z2 dat
    exact ⟨there, rfl, rfl, trivial⟩
  exact PySem.W.kia_one (PySem.W.handS_kitx_exc C.hg C.hk C.hs C.hd C.ha C.hn C.ht C.hm) I.kIn J kit (fun z => nomatch z) fun tk => ⟨.bl b, H, I.kept (t' := tk) fun _ _ z => z, rfl, q⟩
/-- the class D, as sub tells of it -/
def SubOk (K : PySem.W.Frag) (cadr : Nat → Addr) (D : Addr) (sub : Option Nat → Option Bool) : Prop :=
  ∀ c b, sub c = some b → PySem.W.subIn K (.ref D) (clV cadr c) = some b ∧ ∀ C, c = some C → cadr C = D → b = true
end

/-! ### the text of such a def: kinds = []; if isinstance(e, C): kinds.append("c"), ..; return kinds -/
structure WordT (X : Cx) (cadr : Nat → Addr) (y k : Str) (st : Stmt) (c : Option Nat) (z : Str) : Prop where
  ex : ∃ (i x m : Str) (q1 q2 q3 q4 q5 q6 q7 q8 q9 q10 : Pos) (kd : _), st = .If (.Call (.Name i q1) [.Name y q2, .Name x q3] [] q4) [.Expr (.Call (.Attribute (.Name k q5) m q6) [.Constant (.str z) kd q7] [] q8) q9] [] q10 ∧
    i = "isinstance" ∧ m = "append" ∧ Gl X i ∧ X.mg i = none ∧ ClOk X cadr x c ∧ (q6.endLine == q8.line) = true
inductive WordsT (X : Cx) (cadr : Nat → Addr) (y k : Str) : List Stmt → List (Option Nat × Str) → Prop
  | done {q1 q2 : Pos} : WordsT X cadr y k [.Return (some (.Name k q1)) q2] []
  | more {st : Stmt} {sts : List Stmt} {c : Option Nat} {z : Str} {ts : List (Option Nat × Str)} : WordT X cadr y k st c z → WordsT X cadr y k sts ts → WordsT X cadr y k (st :: sts) ((c, z) :: ts)
section
variable {X : Cx} {cadr : Nat → Addr} {y k : Str} {p : Addr × Obj} {D : Addr} {sub : Option Nat → Option Bool}
theorem words_run (hN : X.N = [y, k]) (vy : Vis X.env.scope y) (vk : Vis X.env.scope k) (n1 : (y == ("__debug__" : Str)) = false) (n2 : (y == ("__classdict__" : Str)) = false) (n3 : (k == ("__debug__" : Str)) = false) (n4 : (k == ("__classdict__" : Str)) = false) (hp : p ∈ X.pn) (EC : ExcC X.K D) (hz : Zc (.ref D) none p.2) (hf : ∃ vs, p.2.data = .fields vs) (hsub : SubOk X.K cadr D sub) (E : Ends) (L : Addr) :
    ∀ (sts : List Stmt) (ts : List (Option Nat × Str)), WordsT X cadr y k sts ts → ∀ (zs : List Str), pickX sub ts = some zs → ∀ (done : List Str) (H : Hp), H L = some (.lst (done.map V.str)) → done.length + ts.length ≤ 1000 →
      (∀ H', (∀ a o, a ≠ L → H a = some o → H' a = some o) → H' L = some (.lst ((done ++ zs).map V.str)) → E.rt (.ref L) H') → wSs X sts E [some (.ref p.1), some (.ref L)] H := by
  intro sts ts w
  induction w with
  | done =>
    intro zs hzs done H hL hl q
    cases hzs
    refine of_pss (pss_cons (ps_ret (pe_var (i := 1) (by rw [hN]; rfl) vk n3 n4)) pss_nil) ?_
    exact ⟨_, rfl, q H (fun _ _ _ e => e) (by rw [List.append_nil]; exact hL)⟩
  | @more st sts c z ts w1 _ ih =>
    intro zs hzs done H hL hl q
    obtain ⟨i, x, m, q1, q2, q3, q4, q5, q6, q7, q8, q9, q10, kd, rfl, rfl, rfl, g1, g2, ok, line⟩ := w1.ex
    have star : starEach [.Name y q2, .Name x q3] X.env = (false, eval (.Name y q2) X.env) :: starEach [.Name x q3] X.env := rfl
    have test := pe_callB (X := X) (id := "isinstance") (p := q1) (pos := q4) (call_isP hp EC hz hf) g1 g2 PyProof.Rows.boot_isinstance (pa_cons (pe_var (i := 0) (by rw [hN]; rfl) vy n1 n2) (pa_cons (ok.pe (pos := q3)) pa_nil rfl) star) (by decide) (by decide) star rfl
    have put := ps_expr (X := X) (pos := q9) (pe_bm (apos := q6) (cpos := q8) PySem.F.plainAttrs_list PySem.F.slot_list_append PySem.F.type_list_append mt_append (pe_var (i := 1) (pos := q5) (by rw [hN]; rfl) vk n3 n4) (pa_cons (pe_str (x := z) (j := kd) (pos := q7)) pa_nil rfl) rfl rfl line rfl rfl) rfl
    refine of_pss (pss_cons (ps_if (pt_val test fun _ => rfl) (pss_cons put pss_nil) pss_nil) pss_w) ?_
    unfold pickX at hzs
    cases e1 : sub c with
    | none => rw [e1] at hzs; cases hzs
    | some b =>
      rw [e1] at hzs
      obtain ⟨s1, s2⟩ := hsub c b e1
      have hl1 : done.length + (ts.length + 1) ≤ 1000 := hl
      refine ⟨.ref p.1, rfl, clW cadr c, clV cadr c, b, rfl, fun u r => (clW_cls cadr c).eq r, ok.kit s1 s2, b, rfl, ?_⟩
      cases b with
      | false => exact ih zs hzs done H hL (by omega) q
      | true =>
        obtain ⟨zs', e2, rfl⟩ := Option.map_eq_some_iff.mp hzs
        refine ⟨.ref L, rfl, .inl ⟨rfl, _, .of hL⟩, L, done.map V.str, .str z, rfl, rfl, hL, ?_, ?_⟩
        · rw [List.length_map]
          exact small1000 (by omega)
        · refine ih zs' e2 (done ++ [z]) _ ?_ (by rw [List.length_append, List.length_singleton]; omega) fun H' f e => q H' (fun a o na ha => f a o na (by rw [upd_ne na]; exact ha)) ?_
          · rw [upd_same, List.map_append]
            rfl
          · rw [e, List.append_assoc]
            rfl
end

/-- a def's text, whatever its defaults -/
structure FunT (K : PySem.W.Frag) (x : Str) (st : Stmt) (f : Addr) (fd : FuncData) : Prop where
  ex : ∃ (oc : Value) (od : Option Addr) (dV kV doc pm : Value) (an : Option Addr) (cdv ct : Value) (osl : Array (Option Value)),
    fd = PySem.W.fnOf x x (defArgs st) (defBody st) (defScope st) dV kV doc pm an cdv ct ∧ K.lookup f = some ⟨oc, od, .func fd, osl⟩ ∧ PySem.W.codeIn K cdv x = true
  kp : PySem.W.keepIn K (.ref f) = true
theorem FunT.of {K : PySem.W.Frag} {x : Str} {st : Stmt} {f : Addr} {fd : FuncData} (F : Fun K x x st f fd) : FunT K x st f fd := by
  obtain ⟨oc, od, kV, doc, pm, an, cdv, ct, osl, e, l, c⟩ := F.ex
  exact ⟨⟨oc, od, .none, kV, doc, pm, an, cdv, ct, osl, e, l, c⟩, F.kp⟩
theorem FunT.okT {P : Program} {w : World} {K : PySem.W.Frag} {mg : Str → Option Value} {base : Heap} {x : Str} {st : Stmt} {f : Addr} {fd : FuncData} {N ps : List Str} {k : Nat} {sp : Sp} (F : FunT K x st f fd) (S : FnScope N ps (defScope st)) (len : ∀ vs H Q E, sp vs H Q E → vs.length = ps.length)
    (body : ∀ (cdv : Value) (A : Around) (outer : List PySem.Env) (s : Shared) (H : Hp) (vs : List V) (Q : VK) (E : XK), Room k (A.deeper (envOfC x (defScope st) s.heap.objs.size f cdv)) → sp vs H Q E →
      ∃ t, PSs (cxOf (L2.CX P w) P w K mg base N x (defScope st) f cdv A outer s H E) (defBody st) t ∧ t { nx := fun _ H' => Q .non H', rt := Q } (L2.start N vs) H) : FnOk P w K mg base (L2.CX P w) (k + 1) f fd ps sp := by
  obtain ⟨oc, od, dV, kV, doc, pm, an, cdv, ct, osl, rfl, l, c⟩ := F.ex
  exact fn_of l c S len fun A outer s H vs Q E hr hsp => body cdv A outer s H vs Q E hr hsp
/-! ### the def, called where its argument is pinned -/
/-- what such a def promises: a new list of the words -/
structure FnPin (P : Program) (w : World) (K : PySem.W.Frag) (mg : Str → Option Value) (base : Heap) (cadr : Nat → Addr) (f : Addr) (fd : FuncData) (y : Str) (ts : List (Option Nat × Str)) : Prop where
  run : ∀ (A : Around) (outer : List PySem.Env) (s : Shared) (H : Hp) (us : List Value) (Q : VK) (p : Addr × Obj) (D : Addr) (sub : Option Nat → Option Bool) (zs : List Str), RoomH 0 A → PinOk outer H s p → Env0 P w K mg base A outer s H → BindsTo s fd ⟨us, []⟩ ([y].zip us) → Vals [.ref p.1] us →
    ExcC K D → Zc (.ref D) none p.2 → (∃ vs, p.2.data = .fields vs) → SubOk K cadr D sub → pickX sub ts = some zs → (∀ L H', Same H H' → H L = none → H' L = some (.lst (zs.map V.str)) → Q (.ref L) H') →
    codeAny (model P w) A (.call (.ref f) ⟨us, []⟩) (CR (L2.CX P w) outer P w H s Q fun _ _ _ => False) s
section
variable {P : Program} {w : World} {K : PySem.W.Frag} {mg : Str → Option Value} {base : Heap} {cadr : Nat → Addr} {x y k : Str} {st : Stmt} {f : Addr} {fd : FuncData} {ts : List (Option Nat × Str)} {sts : List Stmt} {q1 q2 q3 : Pos}
theorem pin_of (Fu : FunT K x st f fd) (S : FnScope [y, k] [y] (defScope st)) (tx : defBody st = .Assign [.Name k q1] (.List [] q2) q3 :: sts) (vy : Vis (defScope st) y) (vk : Vis (defScope st) k) (lk : Loc (defScope st) k)
    (n1 : (y == ("__debug__" : Str)) = false) (n2 : (y == ("__classdict__" : Str)) = false) (n3 : (k == ("__debug__" : Str)) = false) (n4 : (k == ("__classdict__" : Str)) = false)
    (W : ∀ X : Cx, X.K = K → X.mg = mg → X.env.scope = defScope st → WordsT X cadr y k sts ts) (few : ts.length ≤ 1000) : FnPin P w K mg base cadr f fd y ts := by
  obtain ⟨oc, od, dV, kV, doc, pm, an, cdv, ct, osl, rfl, there, code⟩ := Fu.ex
  refine ⟨fun A outer s H us Q p D sub zs room pin e0 bind rv EC hz hf hsub hzs q => ?_⟩
  have inK : K.In s.heap := e0.mod.kin.keeps fun a o z => (e0.bs a o z).1
  have noLim : s.heap.NoLimit := e0.mod.nolimit.keeps fun a o z => (e0.bs a o z).1
  refine codeAny_call_function room.depth (inK _ _ there) rfl S.co S.gen rfl (PySem.W.codeRec_of inK code) (bind _ _ _ _ (wpAny_newFunctionEnv_cells S.kind ?_ ?_))
  · rintro ⟨n, v⟩ hn
    rcases S.par n (List.of_mem_zip hn).1 with z | z
    · exact .inl z
    · exact .inr ⟨z, PySem.W.cellsFrom_some _ _ _ (.inl z)⟩
  intro env henv s1 inC
  subst henv
  refine ⟨noLim.keeps inC.toInCall.keep, codeAny_func ?_⟩
  let X := cxH (L2.CX P w) P w K mg base [y, k] x (defScope st) f cdv A outer s H (fun _ _ _ => False) p
  have I : Inv X [] (L2.start [y, k] [.ref p.1]) H s1 := inv_startH S pin e0 rfl rv inC
  have body : wSs X (defBody st) { nx := fun _ H' => Q .non H', rt := Q } (L2.start [y, k] [.ref p.1]) H := by
    rw [tx]
    refine of_pss (pss_cons (ps_set (X := X) (i := 1) S.nd rfl lk (pe_lst pa_nil) rfl (.inl rfl)) pss_w) ?_
    refine ⟨Nat.zero_le _, fun L hL => ?_⟩
    refine words_run (X := X) (cadr := cadr) (p := p) rfl vy vk n1 n2 n3 n4 (List.mem_singleton.mpr rfl) EC hz hf hsub _ L sts ts (W X rfl rfl rfl) zs hzs [] _ upd_same (by rw [List.length_nil]; omega) fun H' fr e => q L H' (fun a o ha => ?_) hL e
    have na : a ≠ L := fun z => by rw [z, hL] at ha; cases ha
    exact fr a o na (by rw [upd_ne na]; exact ha)
  refine wpAny_mono (body [] s1 I) (fun fl s' out => ?_) fun e s' out => out
  cases fl with
  | ret u =>
    obtain ⟨v, σ', H', J, r, q'⟩ := out
    exact ⟨v, H', J.os, J.bare, J.base, J.hok, r, q'⟩
  | next =>
    obtain ⟨σ', H', J, q'⟩ := out
    exact ⟨.non, H', J.os, J.bare, J.base, J.hok, rfl, q'⟩
  | brk =>
    obtain ⟨_, _, _, z⟩ := out
    exact z.elim
  | cont =>
    obtain ⟨_, _, _, z⟩ := out
    exact z.elim
end
/-! ### what a handler stores -/
/-- a value of a test, or a new list of words -/
def HxV (H : Hp) (d : Dat) (v : V) (H' : Hp) : Prop := Same H H' ∧ ((∃ b, d = .bl b ∧ v = .bl b) ∨ ∃ (L : Addr) (zs : List Str), v = .ref L ∧ H L = none ∧ H' L = some (.lst (zs.map V.str)) ∧ d = .lst (zs.map Dat.str))
theorem denl_str {K : PySem.W.Frag} {O : Addr → Prop} {H : Hp} : ∀ zs : List Str, DenL K O H (zs.map V.str) (zs.map Dat.str)
  | [] => .nil
  | z :: zs => .cons (.str z) (denl_str zs)
theorem HxV.den {K : PySem.W.Frag} {O : Addr → Prop} {H H' : Hp} {d : Dat} {v : V} (h : HxV H d v H') (t : ∀ a, O a → ∃ o, H a = some o) : Den K O H' v d := by
  obtain ⟨_, ⟨b, rfl, rfl⟩ | ⟨L, zs, rfl, e1, e2, rfl⟩⟩ := h
  · exact .bl b
  · refine .lst ⟨e2, fun z => ?_⟩ (denl_str zs)
    obtain ⟨o, e3⟩ := t L z
    rw [e1] at e3
    cases e3
inductive HandE (X : Cx) (cadr : Nat → Addr) (i : Nat) : Expr → HX → Prop
  | test {e : Expr} {h : HX} : HxE X cadr i e h → HandE X cadr i e h
  | word {g n y : Str} {p p1 pos : Pos} {fa : Addr} {fd : FuncData} {ts : List (Option Nat × Str)} : Gl X g → (g == ("__debug__" : Str)) = false → X.mg g = some (.ref fa) → PySem.W.keepIn X.K (.ref fa) = true → Binds X.K fd [y] [] → FnPin X.prog X.w X.K X.mg X.base cadr fa fd y ts →
      X.N[i]? = some n → Vis X.env.scope n → (n == ("__debug__" : Str)) = false → (n == ("__classdict__" : Str)) = false → RoomH 0 X.A → HandE X cadr i (.Call (.Name g p) [.Name n p1] [] pos) (.fn ts)
theorem HxE.dat {X : Cx} {cadr : Nat → Addr} {i : Nat} {e : Expr} {h : HX} (k : HxE X cadr i e h) (sub : Option Nat → Option Bool) : hxD sub h = (hxB sub h).map .bl := by
  induction k with
  | one _ _ _ _ _ _ _ _ => rfl
  | tup _ _ _ _ _ _ _ _ _ => rfl
  | not _ _ => rfl
  | single _ ih => exact ih
  | and _ _ _ _ => rfl
  | or _ _ _ _ => rfl
theorem hand_w {X : Cx} {cadr : Nat → Addr} {i : Nat} {e : Expr} {h : HX} (k : HandE X cadr i e h) {a D : Addr} {oe : Obj} {pn : List (Addr × Obj)} (EC : ExcC X.K D) (hz : Zc (.ref D) none oe) (hf : ∃ vs, oe.data = .fields vs) {sub : Option Nat → Option Bool} (hsub : SubOk X.K cadr D sub)
    {d : Dat} (hd : hxD sub h = some d) (σ : L2.St) (H : Hp) (Q : VK) (hσ : σ[i]? = some (some (.ref a))) (q : ∀ v H', HxV H d v H' → Q v H') : wE (X.suite a ((a, oe) :: pn)) e σ H Q := by
  cases k with
  | test k =>
    rw [k.dat] at hd
    obtain ⟨b, e1, rfl⟩ := Option.map_eq_some_iff.mp hd
    exact hx_w k EC hz hf hsub b e1 σ H Q hσ fun H' s => q _ H' ⟨s, .inl ⟨b, rfl, rfl⟩⟩
  | @word g n y p p1 pos fa fd ts g1 g2 g3 g4 g5 F v1 v2 v3 v4 room =>
    obtain ⟨zs, e1, rfl⟩ := Option.map_eq_some_iff.mp (show (pickX sub ts).map _ = some d from hd)
    intro pins s I
    have arg := pa_cons (X := X.suite a ((a, oe) :: pn)) (pe_var (pos := p1) v1 v2 v3 v4) pa_nil rfl
    refine wpAny_Call_Name_kw (ld_glob (X := X.suite a ((a, oe) :: pn)) I g1 g3 ?_ g2)
    refine PySem.W.callWith_K (h₀ := X.base) I.ok.mod.kin g4 (thn (arg.run pos pins s σ H (fun vs H1 => vs = [.ref a] ∧ H1 = H) I ⟨_, hσ, rfl, rfl⟩) fun us s1 out => ?_) rfl rfl
    obtain ⟨vs, H1, I1, rv, rfl, rfl⟩ := out
    refine ⟨I1.kIn, ?_⟩
    have l1 : us.length = 1 := rv.length.symm
    have b := g5 s1 us I1.kIn (by rw [List.append_nil]; exact l1)
    rw [List.append_nil] at b
    have pin := I1.pin (a, oe) (List.mem_append_left _ List.mem_cons_self)
    have pk : PinOk X.stack H1 s1 (a, oe) := ⟨pin.1, pin.2.1, fun hm => (List.mem_cons.mp (I1.stkSub a hm)).elim pin.2.2.1 pin.2.2.2.1, pin.2.2.2.2⟩
    refine wpAny_call (codeAny_mono (F.run (X.suite a ((a, oe) :: pn)).A X.stack s1 H1 us Q (a, oe) D sub zs ⟨room.dp, room.un⟩ pk I1.env0 b rv EC hz hf hsub e1 fun L H' sm e2 e3 => q _ H' ⟨sm, .inr ⟨L, zs, rfl, e2, e3, rfl⟩⟩) fun r s' out => ?_)
    cases r with
    | error z =>
      obtain ⟨_, _, _, _, _, _, _, _, _, _, _, _, bad⟩ := out
      exact bad.elim
    | ok fl =>
      cases fl with
      | ret u => exact I1.after out
      | next => exact out.elim
      | brk => exact out.elim
      | cont => exact out.elim
/-! ### try .. except C as e: x = tests of e -/
section
variable {K : PySem.W.Frag} {κ : Kd} {ρ : Env} {σ : L2.St} {H : Hp} {O : Addr → Prop}
theorem forget_ok {i : Nat} (r : Rel K κ ρ σ H O) (hk : kd κ i = .shr) : Rel K κ (ρ.set i none) (σ.set i none) H O ∧ Stp K κ ρ σ H O κ (ρ.set i none) (σ.set i none) H O := by
  have e1 := r.len
  have f : ∀ (j : Nat) (d : Dat), (ρ.set i none)[j]? = some (some d) → ρ[j]? = some (some d) ∧ (σ.set i none)[j]? = σ[j]? := fun j d q => by
    rw [getElem_set] at q
    rw [getElem_set]
    by_cases hj : i = j ∧ j < ρ.length
    · rw [if_pos hj] at q
      cases q
    · rw [if_neg hj] at q
      rw [if_neg (fun z => hj ⟨z.1, by omega⟩)]
      exact ⟨q, rfl⟩
  have ne : ∀ j, kd κ j ≠ .shr → i ≠ j := fun j q e => q (by rw [← e]; exact hk)
  refine ⟨r.forget, fun _ _ h => h, fun _ _ h _ => h, fun _ h _ => h, fun a q => ?_, fun a q => ?_, fun j q => ?_, fun j q => ?_, rfl⟩
  · obtain ⟨j, d', q1, q2, q3⟩ := q
    obtain ⟨b1, b2⟩ := f j d' q1
    exact .inl ⟨j, d', b1, q2, by rw [← b2]; exact q3⟩
  · obtain ⟨j, d', q1, q2, q3⟩ := q
    obtain ⟨b1, b2⟩ := f j d' q1
    exact .inl ⟨j, d', b1, q2, by rw [← b2]; exact q3⟩
  · refine ⟨q, ?_⟩
    rw [getElem_set, if_neg (fun z => ne j (by rw [q]; decide) z.1)]
  · refine ⟨q, ?_, ?_⟩
    · rw [getElem_set, if_neg (fun z => ne j (by rw [q]; decide) z.1)]
    · rw [getElem_set, if_neg (fun z => ne j (by rw [q]; decide) z.1)]
theorem setK_shr {κ : Kd} {i : Nat} : kd (setK κ i .shr) i = .shr := by
  rw [kd_set]
  by_cases h : i < κ.length
  · rw [if_pos ⟨rfl, h⟩]
  · rw [if_neg (fun z => h z.2)]
    unfold kd
    rw [List.getD_eq_getElem?_getD, List.getElem?_eq_none (by omega)]
    rfl
theorem noLent_set {κ : Kd} {i : Nat} (h : ∀ j, kd κ j ≠ .lent) : ∀ j, kd (setK κ i .shr) j ≠ .lent := fun j z => by
  rw [kd_set] at z
  split at z
  · cases z
  · exact h j z
/-- what stands behind a handler that stores a thing of no owner -/
theorem caught_ok {κ' : Kd} {ρ' : Env} {σ' : L2.St} {H' H3 : Hp} {O' : Addr → Prop} {ei j : Nat} {v : V} {d : Dat} {a : Addr} (r0 : Rel K κ ρ σ H O) (r : Rel K κ' ρ' σ' H' O') (s : Stq K κ ρ σ H O κ' ρ' σ' H' O') (nl : noLent κ' = true) (hl : κ'.length = κ.length) (e : Same H' H3) (hd : Den K O' H3 v d) (hne : ei ≠ j) :
    ∃ σ2, σ2 = ((σ'.set ei (some (.ref a))).set j (some v)).set ei none ∧ Rel K (setK (setK κ' ei .shr) j .shr) ((ρ'.set ei none).set j (some d)) σ2 H3 O' ∧ Stp K κ ρ σ H O (setK (setK κ' ei .shr) j .shr) ((ρ'.set ei none).set j (some d)) σ2 H3 O' := by
  have r1 := r.same e
  obtain ⟨r2, s2⟩ := set_ok (i := ei) (v := .non) (d := .non) r1 .non
  obtain ⟨r3, s3⟩ := forget_ok (i := ei) r2 setK_shr
  obtain ⟨r4, s4⟩ := set_ok (i := j) r3 hd
  rw [List.set_set, List.set_set] at r4 s4
  have es : (σ'.set ei none).set j (some v) = ((σ'.set ei (some (.ref a))).set j (some v)).set ei none := by
    rw [List.set_comm _ _ hne.symm, List.set_set]
  rw [es] at r4 s4
  have q1 : Stp K κ' ρ' σ' H' O' (setK (setK κ' ei .shr) j .shr) ((ρ'.set ei none).set j (some d)) (((σ'.set ei (some (.ref a))).set j (some v)).set ei none) H3 O' := by
    have a1 := (Stp.same e).trans r r1 s2
    have a2 := a1.trans r r2 s3
    rw [List.set_set, List.set_set] at a2
    rw [List.set_set, List.set_set] at r3
    exact a2.trans r r3 s4
  have q2 := s.trans r0 q1.q
  refine ⟨_, rfl, r4, q2.den, q2.frm, q2.kep, q2.mr, q2.ar, q2.par, fun i z => absurd z (noLent_set (noLent_set (noLent_kd nl)) i), ?_⟩
  unfold setK
  rw [List.length_set, List.length_set]
  exact hl
end
/-- what the table says of the errors -/
def TbOk (sub : Nat → Option Nat → Option Bool) (C : Nat) (h : HX) (tb : List (Nat × Option Dat)) : Prop := ∀ C' o, tb.lookup C' = some o → match o with
  | none => sub C' (some C) = some false
  | some d => sub C' (some C) = some true ∧ hxD (sub C') h = some d
theorem sm_tryF {D : Wd} {X : Cx} {body : List Stmt} {xs : List Sm} {x n y : Str} {C ei j : Nat} {e : Expr} {h : HX} {tb : List (Nat × Option Dat)} {np pos pos' py pe : Pos} {sub : Nat → Option Nat → Option Bool}
    (hs : X.stack = X.env :: X.outer) (hf : X.env.frame = some X.env.locals) (hN : X.N.Nodup) (hi : X.N[ei]? = some n) (hln : X.env.kindOf n = some .local) (hc : ClOk X D.cadr x (some C)) (hj : X.N[j]? = some y) (hyl : Loc X.env.scope y) (hyf : X.fn y = true ∨ X.env.scope.names.lookup y = some .local) (hne : ei ≠ j)
    (hsw : swapsWith e (some (.Name y py)) pe.line X.env = pure false) (hx : HandE X D.cadr ei e h) (htb : TbOk sub C h tb) (hsub : ∀ C' c b, sub C' c = some b → PySem.W.subIn X.K (.ref (D.cadr C')) (clV D.cadr c) = some b ∧ ExcC X.K (D.cadr C') ∧ PySem.W.subIn X.K (.ref (D.cadr C')) (.ref (D.cadr C')) = some true)
    (hb : ∀ (pn : List (Addr × Obj)) (xe : Value → Shared → Prop), PassesOwn (model X.prog X.w) X.A X.env xe → SSs D (X.tr pn xe) body xs) :
    SSm D X (.Try body [.ExceptHandler (some (.Name x np)) (some n) [.Assign [.Name y py] e pe] pos'] [] [] pos) (.tryF xs ei j tb) := by
  have hnm : Names X x (.ref (D.cadr C)) := by
    rcases hc.mg with ⟨C', e', m, _⟩ | ⟨e', _⟩
    · cases e'
      exact ⟨hc.gl, hc.db, .inl m⟩
    · cases e'
  have hcls : PySem.W.hasDictIn X.K (D.cadr C) = true ∧ PySem.W.typeIn X.K (.ref (D.cadr C)) = some (.type "type") ∧ PySem.W.subIn X.K (.ref (D.cadr C)) (.type "BaseException") = some true := by
    rcases hc.mg with ⟨C', e', _, q⟩ | ⟨e', _⟩
    · cases e'
      exact q
    · cases e'
  refine ⟨fun κ ρ σ H O W Dn hk r hh tk => of_ps (ps_try_as (tb := fun W' Dn σ H => ∀ (pn : List (Addr × Obj)) (xe : Value → Shared → Prop), L2.Takes (X.tr pn xe) W' → PassesOwn (model X.prog X.w) X.A X.env xe → wSs (X.tr pn xe) body Dn σ H)
    (ts := fun a cls d D2 σ2 H2 => ∃ C' k, cls = .ref (D.cadr C') ∧ d = none ∧ σ2[ei]? = some (some (.ref a)) ∧ tb.lookup C' = some (some k) ∧ ∀ v H3, HxV H2 k v H3 → D2.nx (σ2.set j (some v)) H3) hs hf hN hi hln hnm tk
    (fun W' pn xe tk po => ⟨fun pins s σ H D2 I q => q pn xe tk po pins s I⟩) (fun a oe cls d pn hz hd => ⟨fun pins s σ2 H2 D2 I ⟨C', k, e1, e2, e3, e4, e5⟩ => ?_⟩)) ?_⟩
  · subst e1 e2
    have t := htb C' _ e4
    obtain ⟨t1, t3⟩ := t
    obtain ⟨_, ec, self⟩ := hsub C' (some C) true t1
    have hsb : SubOk X.K D.cadr (D.cadr C') (sub C') := fun c b q => by
      obtain ⟨q1, _, q3⟩ := hsub C' c b q
      refine ⟨q1, fun C2 z1 z2 => ?_⟩
      subst z1
      have q1 : PySem.W.subIn X.K (.ref (D.cadr C')) (.ref (D.cadr C2)) = some b := q1
      rw [z2] at q1
      exact Option.some.inj (q1.symm.trans q3)
    have hw := hand_w hx (a := a) (oe := oe) (pn := pn) ec hz hd hsb t3
    refine (pss_cons (ps_set (X := X.suite a ((a, oe) :: pn)) hN hj hyl pe_w hsw hyf) pss_nil).run pins s σ2 H2 D2 I ?_
    exact hw σ2 H2 _ e3 fun v H3 s3 => e5 v H3 s3
  · intro pn xe tk2 po
    refine (hb pn xe po).run κ ρ σ H O _ Dn hk r ?_ tk2
    simp only [exS] at hh
    generalize exSs D.cf D.gl D.rf xs κ ρ = R at hh
    show PostR R (EndP X.K D.cadr Dn _ κ ρ σ H O)
    cases R with
    | no => exact False.elim hh
    | ex z => exact False.elim hh
    | ok en =>
      cases en with
      | nx κ' ρ' => exact hh
      | bk κ' ρ' => exact hh
      | ct κ' ρ' => exact hh
      | rt fl d => exact hh
      | r0 κ' ρ' => exact hh
      | xc κ' ρ' z =>
        intro cls dd σ' H' O' r' st xd
        cases z with
        | exc C' fs =>
          obtain ⟨rfl, xd2⟩ := xd
          cases fs with
          | cons _ _ => exact False.elim hh
          | nil =>
            have hdd := xd2 rfl
            subst hdd
            cases hlk : tb.lookup C' with
            | none => simp only [hlk] at hh; exact False.elim hh
            | some o =>
              simp only [hlk] at hh
              have t := htb C' o hlk
              cases o with
              | none =>
                obtain ⟨q1, _⟩ := hsub C' (some C) false t
                exact ⟨false, PySem.W.exm_ref hcls.2.2 hcls.1 hcls.2.1 q1, fun z => absurd z Bool.false_ne_true, fun _ => hh _ none σ' H' O' r' st ⟨rfl, fun _ => rfl⟩⟩
              | some d =>
                obtain ⟨t1, t3⟩ := t
                obtain ⟨q1, _⟩ := hsub C' (some C) true t1
                by_cases hg : (noLent κ' && decide (κ'.length = κ.length)) = true
                · simp only [hg, if_true] at hh
                  rw [Bool.and_eq_true, decide_eq_true_eq] at hg
                  refine ⟨true, PySem.W.exm_ref hcls.2.2 hcls.1 hcls.2.1 q1, fun _ a na => ⟨C', d, rfl, rfl, ?_, hlk, fun v H3 s3 => ?_⟩, fun z => by cases z⟩
                  · rw [List.getElem?_set_self]
                    have e1 := r'.len
                    have e2 := r'.lenK
                    have e3 : ei < X.N.length := (List.getElem?_eq_some_iff.mp hi).1
                    omega
                  · obtain ⟨σ2, rfl, r2, s2⟩ := caught_ok (a := a) (v := v) (d := d) r r' st hg.1 hg.2 s3.1 (s3.den r'.trk) hne
                    exact hh _ H3 O' r2 s2
                · have hg' : (noLent κ' && decide (κ'.length = κ.length)) = false := Bool.eq_false_iff.mpr hg
                  simp only [hg', Bool.false_eq_true, if_false] at hh
                  exact False.elim hh
        | _ => exact False.elim xd
theorem frzA_rep (κ : Kd) : frzA κ = List.replicate κ.length .shr := by
  unfold frzA
  exact List.map_const' ..
theorem sm_retc {D : Wd} {X : Cx} {elt tg it : Expr} {ifs : List Expr} {scope : Scope} {pos p2 : Pos} {x : Ex} {s : Sr} {cs : List Ex} {t : Tgt} {own : List (Str × Nat)} (hc : X.calm = true) (hN : X.N.Nodup) (ok : BlkOk X.N X.env.scope scope own) (how : own.map (·.2) = tgIx t)
    (hg : ∀ (s0 : Shared) (H0 : Hp) (C : Addr) (cl : List (Str × Addr)) (fp : List Addr), PG (X.blk s0 H0 scope (compEnvC scope cl C X.env) fp) tg (gT X.K t))
    (hS : SS D X tg it s) (hE : ∀ (s0 : Shared) (H0 : Hp) (C : Addr) (cl : List (Str × Addr)) (fp : List Addr), SE D (X.blk s0 H0 scope (compEnvC scope cl C X.env) fp) elt x)
    (hI : ∀ (s0 : Shared) (H0 : Hp) (C : Addr) (cl : List (Str × Addr)) (fp : List Addr), F2 (SE D (X.blk s0 H0 scope (compEnvC scope cl C X.env) fp)) ifs cs) (hl : ifs.length ≤ 1) (hcl : ifs.length = cs.length) (hs : ∀ x, foldedSetIterable it X.env x = pure x)
    (hfl : 2 ≤ flE D.rf x (bindK t .shr (List.replicate X.N.length .shr)) ∧ flS D.rf s (List.replicate X.N.length .shr) = true) : SSm D X (.Return (some (.ListComp elt [⟨tg, it, ifs, 0⟩] scope pos)) p2) (.ret (.comp x t s cs)) := by
  refine ⟨fun κ ρ σ H O W Dn hk r h tk => of_ps (ps_ret pe_w) ?_⟩
  simp only [exS, isVar] at h
  obtain ⟨r1, s1⟩ := frzA_ok r
  have hk2 : frzA κ = List.replicate X.N.length .shr := by rw [frzA_rep, hk]
  refine of_pe (pe_lc hc hN pi_w ok hg (pts_b hl) (fun s0 H0 C cl fp => pe_b s0 H0 C cl fp) hs) (comp_run (κ := frzA κ) (W := W) hc hN ok how hg hS hE hI hl hcl hs (by rw [hk2]; exact hfl) r1 ?_)
  cases hr : evE D.cf D.gl (.comp x t s cs) ρ with
  | ok d =>
    rw [hr] at h
    exact fun v H' s p => h v H' _ (ret_of r r1 s1 s p)
  | ex z =>
    rw [hr] at h
    exact ⟨tk, fun cls dd H' s xd => h cls dd σ H' O (r.same s) (Stp.same s).q xd⟩
  | no => rw [hr] at h; exact h
end PV

/-! PV, part M: from the text's statements to the compact ones -/
namespace PV
open PySem PySem.Spec PyProof.Rows L2

def isComp : Expr → Bool
  | .ListComp _ _ _ _ => true
  | .SetComp _ _ _ _ => true
  | .DictComp _ _ _ _ _ => true
  | _ => false
theorem sw_none {e : Expr} {t : Option Expr} {l : Nat} {env : PySem.Env} (h : isComp e = false) : swapsWith e t l env = pure false := by
  cases e <;> first | exact Bool.noConfusion h | rfl
theorem sw_cell {elt : Expr} {gs : List Comprehension} {scope : Scope} {pos py : Pos} {y : Str} {l : Nat} {env : PySem.Env} (hy : env.scope.names.lookup y = some .cell) : swapsWith (.ListComp elt gs scope pos) (some (.Name y py)) l env = pure false := by
  have ky : env.kindOf y = some .cell := hy
  unfold swapsWith
  simp only [ky]
  rw [show (some NameKind.cell == some NameKind.local) = false from rfl]
  simp
theorem sws_none {e t : Expr} {l : Nat} {env : PySem.Env} (h : isComp e = false) : swapsWithSole [t] e l env = pure false := sw_none (t := some t) h
theorem as_sub {o i : Expr} {pos : Pos} {env : PySem.Env} (h : isSlice i = false) (v : Value) : assign (.Subscript o i pos) env v = (do
      let ov ← holding [v] (eval o env)
      let iv ← holding [v, ov] (eval i env)
      standAt pos
      holding [v, ov, iv] (setItem ov iv v)
      release [v, ov, iv] []) := by
  cases i <;> first | exact Bool.noConfusion h | rfl
def isTupE : Expr → Bool
  | .Tuple _ _ _ => true
  | _ => false
theorem st_none {es : List Expr} {kk : Nat} {p : Pos} {e : Expr} {env : PySem.Env} (h : isTupE e = false) : swappedStores [.Tuple es kk p] e env = pure none := by
  cases e <;> first | exact Bool.noConfusion h | rfl
/-- a class of errors of the program -/
structure ExcOk (D : Wd) (X : Cx) (x : Str) (C : Nat) : Prop where
  gC : X.mg x = some (.ref (D.cadr C))
  kC : PySem.W.keepIn X.K (.ref (D.cadr C)) = true
  xP : PySem.W.excIn X.K (D.cadr C) [.type "ValueError", .type "Exception", .type "BaseException", .type "object"] "ValueError.__new__" = true
  bP : PySem.W.subIn X.K (.ref (D.cadr C)) (.type "BaseException") = some true
  tP : PySem.W.typeIn X.K (.ref (D.cadr C)) = some (.type "type")
  eP : ExcC X.K (D.cadr C)
/-- the context of a def's body -/
structure SmOk (D : Wd) (X : Cx) (c : Ctx) (ex : Exs) (sc : Scope) (k : Nat) : Prop where
  cx : CxOk D X c sc sc k
  kind : sc.kind = .function
  pass : PassesOwn (model X.prog X.w) X.A X.env X.xe
  exc : ∀ x C, ex.lookup x = some C → ExcOk D X x C
  sub : ∀ C c b, ex.sub.lookup (C, c) = some b → PySem.W.subIn X.K (.ref (D.cadr C)) (clV D.cadr c) = some b ∧ ExcC X.K (D.cadr C) ∧ PySem.W.subIn X.K (.ref (D.cadr C)) (.ref (D.cadr C)) = some true
  stk : X.stack = X.env :: X.outer
  frm : X.env.frame = some X.env.locals
  hot : ∀ x ts, ex.hot.lookup x = some ts → ∃ fa fd y, X.mg x = some (.ref fa) ∧ PySem.W.keepIn X.K (.ref fa) = true ∧ Binds X.K fd [y] [] ∧ FnPin X.prog X.w X.K X.mg X.base D.cadr fa fd y ts
section
variable {D : Wd} {X : Cx} {c : Ctx} {ex : Exs} {sc : Scope} {k : Nat}
theorem sm_rse {x m : Str} {C : Nat} {j : Nat} {p p2 p3 pos : Pos} (h : SmOk D X c ex sc k) (g : glB sc x = true) (hx : ex.lookup x = some C) : SSm D X (.Raise (some (.Call (.Name x p) [.Constant (.str m) j p2] [] p3)) none pos) (.rse C) := by
  obtain ⟨g1, g2, g3⟩ := h.cx.gl g
  have E := h.exc x C hx
  refine ⟨fun κ ρ σ H O W Dn _ r hh tk => of_ps (ps_raise h.cx.calm tk (pmk_own PySem.F.excBase_ValueError E.xP E.gC E.kC (raises_own E.bP E.tP) g1 g2)) ?_⟩
  simp only [exS] at hh
  exact hh _ none σ H O r Stp.refl.q ⟨rfl, fun _ => rfl⟩
/-- a comprehension that was compiled -/
theorem cE_comp {rf : Nat → Rf} {n : Nat} {raw : Scope} {elt tg it : Expr} {ifs : List Expr} {scope : Scope} {pos : Pos} {y : Ex} (h : cE rf c (n + 1) raw sc (.ListComp elt [⟨tg, it, ifs, 0⟩] scope pos) = some y) :
    ∃ t s x cs, y = .comp x t s cs ∧ cT c.N scope (relS scope sc) tg = some t ∧ cSrc c sc (cE rf c n raw sc) tg it = some s ∧ cE rf c n scope (relS scope sc) elt = some x ∧ mapO (cE rf c n scope (relS scope sc)) ifs = some cs ∧
      blkC c.N sc scope (ownOf c.N t) = true ∧ ifs.length ≤ 1 ∧ isSetE it = false ∧ 2 ≤ flE rf x (bindK t .shr (kw c)) ∧ flS rf s (kw c) = true := by
  simp only [cE] at h
  split at h
  · rename_i t s x cs h1 h2 h3 h4
    split at h
    · rename_i hz
      simp only [Bool.and_eq_true, decide_eq_true_eq, Bool.not_eq_true'] at hz
      obtain ⟨⟨⟨⟨z1, z2⟩, z3⟩, z4⟩, z5⟩ := hz
      cases h
      exact ⟨t, s, x, cs, rfl, h1, h2, h3, h4, z1, z2, z3, z4, z5⟩
    · cases h
  · cases h
end
section
variable (rf : Nat → Rf) (c : Ctx) (ex : Exs)
def lineOf (e : Expr) : Nat := e.pos.line
/-- a named class of errors -/
def clOf (sc : Scope) (x : Str) : Option (Option Nat) := if glB sc x then (if decide (x = ("ValueError" : Str)) then (if c.free.contains x then some none else none) else (ex.lookup x).map some) else none
def clE (sc : Scope) : Expr → Option (Option Nat)
  | .Name x _ => clOf c ex sc x
  | _ => none
def foldX (op : BoolOp) : List HX → Option HX
  | [] => none
  | [h] => some h
  | h :: h2 :: r => match op with
    | .And => (foldX op (h2 :: r)).map (.and h)
    | .Or => (foldX op (h2 :: r)).map (.or h)
def cHX (sc : Scope) (ei : Nat) : Nat → Expr → Option HX
  | 0, _ => none
  | m + 1, e => match e with
    | .Call (.Name y _) [.Name n _, t] [] _ => if glB sc y && c.free.contains y && decide (y = ("isinstance" : Str)) && decide (slotOf c.N sc n = some ei) then (match t with
      | .Name x _ => (clOf c ex sc x).map fun o => .is [o]
      | .Tuple es _ _ => if decide (es.length ≤ 1000) then (mapO (clE c ex sc) es).map .is else none
      | _ => none) else none
    | .UnaryOp .Not a _ => (cHX sc ei m a).map .not
    | .BoolOp op es _ => match mapO (cHX sc ei m) es with
      | some hs => foldX op hs
      | none => none
    | _ => none
/-- what a handler stores: tests of the error, or a def's words of it -/
def cHand (sc : Scope) (ei : Nat) (e : Expr) : Option HX := match e with
  | .Call (.Name g _) [.Name n _] [] _ => (match ex.hot.lookup g with
    | some ts => if glB sc g && decide (slotOf c.N sc n = some ei) then some (.fn ts) else none
    | none => none)
  | e => cHX c ex sc ei 100 e
def tbMk (C : Nat) (h : HX) : Option (List (Nat × Option Dat)) := mapO (fun C' => match ex.sub.lookup (C', some C) with
  | some false => some (C', none)
  | some true => (hxD (fun o => ex.sub.lookup (C', o)) h).map fun k => (C', some k)
  | none => none) ex.rz
/-- return [.. for .. in ..]: nothing is owned behind it -/
def cLC (n : Nat) (sc : Scope) (elt tg it : Expr) (ifs : List Expr) (scope : Scope) : Option Sm :=
  match cT c.N scope (relS scope sc) tg, cSrc c sc (cE rf c n sc sc) tg it, cE rf c n scope (relS scope sc) elt, mapO (cE rf c n scope (relS scope sc)) ifs with
      | some t, some s, some x, some cs =>
        if blkC c.N sc scope (ownOf c.N t) && decide (ifs.length ≤ 1) && !isSetE it && decide (2 ≤ flE rf x (bindK t .shr (List.replicate c.N.length .shr))) && flS rf s (List.replicate c.N.length .shr) then some (.ret (.comp x t s cs)) else none
      | _, _, _, _ => none
def cStm (n : Nat) (sc : Scope) (self : List Stmt → Option (List Sm)) (st : Stmt) : Option Sm := match st with
  | .Return none _ => some .ret0
  | .Return (some e) _ => match e with
    | .Name y _ => match slotOf c.N sc y with
      | some i => some (.ret (.var i))
      | none => match cE rf c (n + 1) sc sc e with
        | some x => if (isVar x).isNone then some (.ret x) else none
        | none => none
    | .ListComp elt [⟨tg, it, ifs, 0⟩] scope p => match cE rf c (n + 1) sc sc (.ListComp elt [⟨tg, it, ifs, 0⟩] scope p) with
      | some x => if (isVar x).isNone then some (.ret x) else none
      | none => cLC rf c n sc elt tg it ifs scope
    | _ => match cE rf c (n + 1) sc sc e with
      | some x => if (isVar x).isNone then some (.ret x) else none
      | none => none
  | .Assign [tg] e pos => match tg with
    | .Name y p => match tgNm c.N sc sc y, cE rf c (n + 1) sc sc e with
      | some i, some x => match e with
        | .ListComp _ [⟨_, _, _, 0⟩] scope cpos =>
          if decide (sc.names.lookup y = some .cell) then some (.asg i x)
          else if decide (sc.names.lookup y = some .local) && (p.line == cpos.line) && !(scope.names.any fun (n, k) => n == y && (k == .local || k == .cell)) then some (.asg i x) else none
        | _ => if isComp e then none else some (.asg i x)
      | _, _ => none
    | .Tuple [.Name x px, .Name y py] _ _ => match e with
      | .Tuple [a, b] _ _ => match ixOf c.N x, ixOf c.N y, cE rf c (n + 1) sc sc a, cE rf c (n + 1) sc sc b with
        | some i, some j, some xa, some xb => if decide (sc.names.lookup x = some .local) && decide (sc.names.lookup y = some .local) && decide (i ≠ j) && (px.line == py.line) && !(x == y) && !([a, b].all (foldedForSure 8)) && !([a, b].all (constantsAlone 8)) then some (.par i j xa xb) else none
        | _, _, _, _ => none
      | _ => if isTupE e || isComp e then none else match cT c.N sc sc tg, cE rf c (n + 1) sc sc e with
        | some (.tp is), some x => some (.unp is x)
        | _, _ => none
    | .Tuple _ _ _ => if isTupE e || isComp e then none else match cT c.N sc sc tg, cE rf c (n + 1) sc sc e with
      | some (.tp is), some x => some (.unp is x)
      | _, _ => none
    | .Subscript (.Name y _) k _ => if isComp e || isSlice k then none else match slotOf c.N sc y, cE rf c (n + 1) sc sc k, cE rf c (n + 1) sc sc e with
      | some i, some z, some x => some (.sti i z x)
      | _, _, _ => none
    | _ => none
  | .If t a b _ => match cE rf c (n + 1) sc sc t, self a, self b with
    | some x, some xs, some ys => some (.ite x xs ys)
    | _, _, _ => none
  | .While t b [] _ => match cE rf c (n + 1) sc sc t, self b with
    | some x, some xs => some (.whl x xs)
    | _, _ => none
  | .For tg it b [] _ => if isSetE it then none else match cT c.N sc sc tg, cSrc c sc (cE rf c (n + 1) sc sc) tg it, self b with
    | some t, some s, some xs => some (.fr t s xs)
    | _, _, _ => none
  | .Break _ => some .brk
  | .Continue _ => some .cnt
  | .Pass _ => some .pas
  | .Expr e _ => match e with
    | .Constant (.str _) _ _ => some .pas
    | .Call (.Attribute (.Name y _) m apos) [a] [] cpos => if decide (m = ("append" : Str)) && (apos.endLine == cpos.line) then match slotOf c.N sc y, cE rf c (n + 1) sc sc a with
        | some i, some x => some (.app i x)
        | _, _ => none
      else if decide (m = ("extend" : Str)) && (apos.endLine == cpos.line) then match slotOf c.N sc y, cE rf c (n + 1) sc sc a with
        | some i, some x => some (.xtd i x)
        | _, _ => none
      else none
    | .Call (.Attribute (.Name y _) m apos) [k, a] [] cpos => if decide (m = ("insert" : Str)) && (apos.endLine == cpos.line) then match slotOf c.N sc y, cE rf c (n + 1) sc sc k, cE rf c (n + 1) sc sc a with
        | some i, some z, some x => some (.ins i z x)
        | _, _, _ => none
      else none
    | .Call (.Name x p) (.Name y py :: es) [] cpos => match c.ios.lookup x with
      | some (f, ar) => if glB sc x && decide (es.length + 1 = ar) then match slotOf c.N sc y, mapO (cE rf c (n + 1) sc sc) es with
        | some i, some xs => some (.cio f i xs)
        | _, _ => none
      else none
      | none => (cE rf c (n + 1) sc sc (.Call (.Name x p) (.Name y py :: es) [] cpos)).map .exp
    | _ => if isComp e then none else (cE rf c (n + 1) sc sc e).map .exp
  | .Try body [.ExceptHandler (some (.Name x _)) (some nm) [.Assign [.Name y _] e _] _] [] [] _ => match ex.lookup x, tgNm c.N sc sc nm, tgNm c.N sc sc y, self body with
    | some C, some ei, some j, some xs => (match cHand c ex sc ei e with
      | some h => if glB sc x && decide (sc.names.lookup nm = some .local) && decide (ei ≠ j) && !isComp e then (tbMk ex C h).map (.tryF xs ei j) else none
      | none => none)
    | _, _, _, _ => none
  | .Raise (some (.Call (.Name x _) [.Constant (.str _) _ _] [] _)) none _ => if glB sc x then (ex.lookup x).map .rse else none
  | _ => none
def cSt : Nat → Scope → List Stmt → Option (List Sm)
  | 0, _, _ => none
  | n + 1, sc, sts => mapO (cStm rf c ex n sc (cSt n sc)) sts
end
section
variable {D : Wd} {X : Cx} {c : Ctx} {ex : Exs} {sc : Scope} {k : Nat}
theorem getD0 {ρ : Env} {i : Nat} {f : Dat → Rs End} {A : End → Prop} (h : PostR (match getV ρ i with
      | .ok d => f d
      | _ => .no) A) : ∃ d, ρ[i]? = some (some d) ∧ PostR (f d) A := by
  unfold getV at h
  cases hd : ρ[i]? with
  | none => rw [hd] at h; exact False.elim h
  | some o =>
    rw [hd] at h
    cases o with
    | none => exact False.elim h
    | some d0 => exact ⟨d0, rfl, h⟩
/-- f(y, ..): a def that changes y's own list -/
theorem sm_cio {f ar i kk : Nat} {x y : Str} {es : List Expr} {xs : List Ex} {p py cpos pos : Pos} {fa : Addr} {fd : FuncData} {ps : List Str} (hN : X.N[i]? = some y) (hv : Vis X.env.scope y) (hd : (y == ("__debug__" : Str)) = false) (hcd : (y == ("__classdict__" : Str)) = false)
    (hm : X.mg x = some (.ref fa)) (hk : PySem.W.keepIn X.K (.ref fa) = true) (hb : Binds X.K fd ps []) (F : FnOk X.prog X.w X.K X.mg X.base (L2.CX X.prog X.w) kk fa fd ps (spIO D X.K f ar)) (hr : Room kk X.A) (hg : Gl X x) (hdb : (x == ("__debug__" : Str)) = false)
    (hs : es.all (fun e => !isStar e) = true) (h : F2 (SE D X) es xs) (har : es.length + 1 = ar) : SSm D X (.Expr (.Call (.Name x p) (.Name y py :: es) [] cpos) pos) (.cio f i xs) := by
  have star : starEach (.Name y py :: es) X.env = (false, eval (.Name y py) X.env) :: starEach es X.env := starEach_cons rfl
  have many : (backTo cpos (starEach es X.env)).any (·.1) = false := starEach_any hs
  refine ⟨fun κ ρ σ H O W Dn _ r q tk => of_ps (ps_expr (pe_callS F hr hg hm hk hb (E := fun _ => E0) (fun _ => passE0) (pa_cons (pe_var hN hv hd hcd) (pa_as hs) star) hdb star many) rfl) ?_⟩
  simp only [exS] at q
  obtain ⟨O1, r1, s1⟩ := frz_ok (leak.leakL D.rf xs) r
  split at q
  case isFalse => exact False.elim q
  rename_i hz
  obtain ⟨d0, hx, q⟩ := getD0 q
  obtain ⟨v, g1, g2⟩ := r1.slot i _ hx
  obtain ⟨a, rfl, o1, o2⟩ := g2.ref (isMu_own hz.2)
  refine ⟨_, g1, ?_⟩
  refine as_run (W := W) h r1 ?_
  cases hev : evL D.cf D.gl xs ρ with
  | no => rw [hev] at q; exact False.elim q
  | ex z =>
    rw [hev] at q
    exact ⟨tk, fun cls dd H' s xd => q cls dd σ H' O1 (r1.same s) (s1.q.trans r (Stp.same s).q) xd⟩
  | ok ds =>
    rw [hev] at q
    intro vs H1 s pl
    refine ⟨O1, a, vs, d0, ds, rfl, o1, o2.mono s fun _ z => z, pl.two hz.1, fun b z => ?_, ?_, ?_⟩
    · obtain ⟨o, z⟩ := r1.trk b z
      exact ⟨o, s _ _ z⟩
    · rw [List.length_cons, pl.lenx, ← h.len]
      exact har
    · cases hc : D.cf f (d0 :: ds) with
      | ok d1 =>
        intro O' H' io
        simp only [hc] at q
        obtain ⟨r3, s3⟩ := io_ok (r1.same s) hz.2 hx g1 io
        exact q σ H' O' r3 ((s1.trans r r1 (Stp.same s)).trans r (r1.same s) s3)
      | ex z => simp only [hc] at q; exact q
      | no => simp only [hc] at q; exact q
theorem sm_doc {x : Str} {j : Nat} {p pos : Pos} : SSm D X (.Expr (.Constant (.str x) j p) pos) .pas := ⟨fun κ ρ σ H O W Dn _ r h tk => of_ps ps_doc (by
  simp only [exS] at h
  exact h σ H O r Stp.refl)⟩
theorem tgNm_loc (h : CxOk D X c sc sc k) {x : Str} {i : Nat} (g : tgNm c.N sc sc x = some i) : X.N[i]? = some x ∧ Loc X.env.scope x ∧ (X.fn x = true ∨ X.env.scope.names.lookup x = some .local) := by
  unfold tgNm at g
  split at g
  · rename_i hz
    rw [Bool.and_eq_true, Bool.or_eq_true, Bool.and_eq_true, decide_eq_true_eq, decide_eq_true_eq] at hz
    have hi := ixOf_ok g
    rw [← h.names] at hi
    rcases hz.2 with q | ⟨q1, _⟩
    · rw [← h.scope] at q
      exact ⟨hi, .inl q, .inr q⟩
    · have f := h.fnc x q1
      rw [← h.scope] at q1
      exact ⟨hi, .inr q1, .inl f⟩
  · cases g
theorem dups2 {x y : Str} (h : (x == y) = false) : [x, y].eraseDups.length = 2 := by
  have h' : (y == x) = false := by rw [BEq.comm]; exact h
  simp [List.eraseDups, List.eraseDupsBy, List.eraseDupsBy.loop, h, h']
theorem swapped_ok {x y : Str} {px py pt pt2 : Pos} {kt k2 : Nat} {a b : Expr} {env : PySem.Env} (hk : env.blockKind = .function) (hx : env.kindOf x = some .local) (hy : env.kindOf y = some .local) (hl : (px.line == py.line) = true) (hne : (x == y) = false) (ha : isStar a = false) (hb : isStar b = false)
    (h1 : ([a, b].all (foldedForSure 8)) = false) (h2 : ([a, b].all (constantsAlone 8)) = false) : swappedStores [.Tuple [.Name x px, .Name y py] kt pt] (.Tuple [a, b] k2 pt2) env = pure (some [x, y]) := by
  have hl' : py.line = px.line := (eq_of_beq hl).symm
  unfold swappedStores
  simp only [hk, h1, h2]
  show (if (!(2 == 2 || 2 == 3) || (2 : Nat) != 2 || ScopeKind.function != ScopeKind.function) = true then _ else _) = _
  rw [if_neg (by decide)]
  simp only [Bool.false_eq_true, if_false]
  have hp : (([Expr.Name x px, Expr.Name y py].head?.map (·.pos.line)).getD 0) = px.line := rfl
  rw [hp]
  refine (if_neg ?_).trans ?_
  · intro h
    obtain ⟨e, he, h⟩ := List.any_eq_true.mp h
    have q : isStar e = false := by
      rcases List.mem_cons.mp he with rfl | he
      · exact ha
      · rw [List.mem_singleton.mp he]; exact hb
    split at h
    · cases q
    · cases h
  · simp only [List.filterMap_cons, List.filterMap_nil, hx, hy, hl', beq_self_eq_true, Bool.and_self, if_true]
    rw [dups2 hne]
    rfl
theorem ClOk.of (h : SmOk D X c ex sc k) {x : Str} {o : Option Nat} (g : clOf c ex sc x = some o) : ClOk X D.cadr x o := by
  unfold clOf at g
  split at g
  · rename_i hg
    obtain ⟨g1, g2, g3⟩ := h.cx.gl hg
    split at g
    · rename_i hv
      rw [decide_eq_true_eq] at hv
      split at g
      · rename_i hf
        cases g
        exact ⟨g1, g2, g3, .inr ⟨rfl, h.cx.fr hf, hv⟩⟩
      · cases g
    · obtain ⟨C, e1, rfl⟩ := Option.map_eq_some_iff.mp g
      have E := h.exc x C e1
      exact ⟨g1, g2, g3, .inl ⟨C, rfl, E.gC, E.eP.hd, E.tP, E.bP⟩⟩
  · cases g
theorem foldX_ok {i : Nat} {op : BoolOp} {pos : Pos} : ∀ {es : List Expr} {hs : List HX} {h : HX}, F2 (HxE X D.cadr i) es hs → foldX op hs = some h → HxE X D.cadr i (.BoolOp op es pos) h
  | _, _, _, .nil, g => by cases g
  | _, _, _, .cons h1 .nil, g => by
    cases g
    exact .single h1
  | _, _, _, .cons h1 (.cons h2 h3), g => by
    cases op with
    | And =>
      obtain ⟨y, e1, e2⟩ := Option.map_eq_some_iff.mp (show (foldX .And _).map _ = some _ from g)
      subst e2
      exact .and h1 (foldX_ok (.cons h2 h3) e1)
    | Or =>
      obtain ⟨y, e1, e2⟩ := Option.map_eq_some_iff.mp (show (foldX .Or _).map _ = some _ from g)
      subst e2
      exact .or h1 (foldX_ok (.cons h2 h3) e1)
theorem cHX_ok (h : SmOk D X c ex sc k) {i : Nat} : ∀ (m : Nat) (e : Expr) (x : HX), cHX c ex sc i m e = some x → HxE X D.cadr i e x := by
  intro m
  induction m with
  | zero => intro e x g; cases g
  | succ m ih =>
    intro e x g
    unfold cHX at g
    split at g
    · rename_i y p n p1 t pos
      split at g
      · rename_i hz
        simp only [Bool.and_eq_true, decide_eq_true_eq] at hz
        obtain ⟨⟨⟨z1, z2⟩, z3⟩, z4⟩ := hz
        obtain ⟨g1, _, _⟩ := h.cx.gl z1
        obtain ⟨v1, v2, v3, v4⟩ := h.cx.vis z4
        split at g
        · obtain ⟨o, e1, rfl⟩ := Option.map_eq_some_iff.mp g
          exact .one z3 g1 (h.cx.fr z2) v1 v2 v3 v4 (.of h e1)
        · split at g
          · rename_i hl
            rw [decide_eq_true_eq] at hl
            obtain ⟨os, e1, rfl⟩ := Option.map_eq_some_iff.mp g
            refine .tup z3 g1 (h.cx.fr z2) v1 v2 v3 v4 hl (mapO_f2 (f := clE c ex sc) (fun e o q => ?_) e1)
            unfold clE at q
            split at q
            · exact ⟨_, _, rfl, .of h q⟩
            · cases q
          · cases g
        · cases g
      · cases g
    · obtain ⟨y, e1, rfl⟩ := Option.map_eq_some_iff.mp g
      exact .not (ih _ _ e1)
    · split at g
      · rename_i hs e1
        exact foldX_ok (mapO_f2 (f := cHX c ex sc i m) (fun e x q => ih e x q) e1) g
      · cases g
    · cases g
theorem look_mem {α β : Type} [BEq α] [LawfulBEq α] : ∀ {l : List (α × β)} {a : α} {b : β}, l.lookup a = some b → (a, b) ∈ l
  | [], _, _, h => by cases h
  | (x, y) :: l, a, b, h => by
    rw [List.lookup_cons] at h
    split at h
    · rename_i e
      cases h
      rw [eq_of_beq e]
      exact List.mem_cons_self
    · exact List.mem_cons_of_mem _ (look_mem h)
theorem mapO_mem {α β : Type} {f : α → Option β} : ∀ {as : List α} {bs : List β}, mapO f as = some bs → ∀ b ∈ bs, ∃ a ∈ as, f a = some b
  | [], bs, e, b, hb => by cases e; cases hb
  | a :: as, bs, e, b, hb => by
    unfold mapO at e
    split at e
    · rename_i b1 h1
      obtain ⟨cs, e1, rfl⟩ := Option.map_eq_some_iff.mp e
      rcases List.mem_cons.mp hb with rfl | hb
      · exact ⟨a, List.mem_cons_self, h1⟩
      · obtain ⟨a', m, q⟩ := mapO_mem e1 b hb
        exact ⟨a', List.mem_cons_of_mem _ m, q⟩
    · cases e
theorem tbMk_ok {C : Nat} {h : HX} {tb : List (Nat × Option Dat)} (g : tbMk ex C h = some tb) : TbOk (fun C' o => ex.sub.lookup (C', o)) C h tb := by
  intro C' o hl
  obtain ⟨a, _, q⟩ := mapO_mem g _ (look_mem hl)
  split at q
  · rename_i e1
    cases q
    exact e1
  · rename_i e1
    obtain ⟨k, e2, e3⟩ := Option.map_eq_some_iff.mp q
    cases e3
    exact ⟨e1, e2⟩
  · cases q
theorem cHand_ok (h : SmOk D X c ex sc k) {i : Nat} {e : Expr} {x : HX} (g : cHand c ex sc i e = some x) : HandE X D.cadr i e x := by
  unfold cHand at g
  split at g
  · split at g
    · rename_i ts hl
      split at g
      · rename_i hz
        rw [Bool.and_eq_true, decide_eq_true_eq] at hz
        cases g
        obtain ⟨g1, g2, _⟩ := h.cx.gl hz.1
        obtain ⟨v1, v2, v3, v4⟩ := h.cx.vis hz.2
        obtain ⟨fa, fd, y, p1, p2, p3, p4⟩ := h.hot _ _ hl
        exact .word g1 g2 p1 p2 p3 p4 v1 v2 v3 v4 ((L2H.roomH_of h.cx.room).mono (Nat.zero_le _))
      · cases g
    · cases g
  · exact .test (cHX_ok h 100 _ _ g)
theorem SmOk.tr (h : SmOk D X c ex sc k) (pn : List (Addr × Obj)) (xe : Value → Shared → Prop) (po : PassesOwn (model X.prog X.w) X.A X.env xe) : SmOk D (X.tr pn xe) c ex sc k := by
  have cx := h.cx
  exact ⟨⟨cx.scope, cx.names, cx.nd, cx.calm, cx.fnc, cx.room, cx.bi, cx.fn, cx.io, cx.glo, cx.dfl⟩, h.kind, po, fun x C q => by
    have E := h.exc x C q
    exact ⟨E.gC, E.kC, E.xP, E.bP, E.tP, E.eP⟩, h.sub, h.stk, h.frm, h.hot⟩
theorem cLC_ok {n : Nat} {elt tg it : Expr} {ifs : List Expr} {scope : Scope} {p pos : Pos} {x : Sm} (hcf : ∀ f ds d, D.cf f ds = .ok d → rfOk (D.rf f) d = true) (cx : CxOk D X c sc sc k) (h : cLC D.rf c n sc elt tg it ifs scope = some x) : SSm D X (.Return (some (.ListComp elt [⟨tg, it, ifs, 0⟩] scope p)) pos) x := by
  unfold cLC at h
  have ih : ∀ (raw sc : Scope) (e : Expr) (x : Ex), cE D.rf c n raw sc e = some x → ∀ X, CxOk D X c raw sc k → SE D X e x := fun raw sc e x q X cx => cE_ok hcf n raw sc e x q X cx
  split at h
  · rename_i t s x cs h1 h2 h3 h4
    split at h
    · rename_i hz
      simp only [Bool.and_eq_true, decide_eq_true_eq, Bool.not_eq_true'] at hz
      obtain ⟨⟨⟨⟨z1, z2⟩, z3⟩, z4⟩, z5⟩ := hz
      cases h
      have f4 := mapO_f2 (P := fun e x => ∀ X, CxOk D X c scope (relS scope sc) k → SE D X e x) (fun e x q => ih _ _ e x q) h4
      have nd : X.N.Nodup := by rw [cx.names]; exact cx.nd
      refine sm_retc cx.calm nd (own := ownOf c.N t) (by rw [cx.names, cx.scope]; exact blkOk_by z1) ?_ (fun s0 H0 C cl fp => cT_ok (cx.blk scope s0 H0 C cl fp) h1) (cSrc_ok cx (fun e x q => ⟨ih _ _ _ _ q X cx, cE_star q⟩) h2)
        (fun s0 H0 C cl fp => ih _ _ _ _ h3 _ (cx.blk scope s0 H0 C cl fp)) (fun s0 H0 C cl fp => ?_) z2 f4.len (notSet z3) ?_
      · unfold ownOf
        rw [List.map_map]
        exact List.map_id' _
      · have : ∀ {es : List Expr} {xs : List Ex}, F2 (fun e x => ∀ X, CxOk D X c scope (relS scope sc) k → SE D X e x) es xs → F2 (SE D (X.blk s0 H0 scope (compEnvC scope cl C X.env) fp)) es xs := by
          intro es xs f
          induction f with
          | nil => exact .nil
          | cons f1 _ ih2 => exact .cons (f1 _ (cx.blk scope s0 H0 C cl fp)) ih2
        exact this f4
      · rw [cx.names]
        exact ⟨z4, z5⟩
    · cases h
  · cases h
theorem cStm_ok (hcf : ∀ f ds d, D.cf f ds = .ok d → rfOk (D.rf f) d = true) (h : SmOk D X c ex sc k) {n : Nat} {self : List Stmt → Option (List Sm)} (hself : ∀ sts xs, self sts = some xs → SSs D X sts xs) (hself2 : ∀ (pn : List (Addr × Obj)) (xe : Value → Shared → Prop), PassesOwn (model X.prog X.w) X.A X.env xe → ∀ sts xs, self sts = some xs → SSs D (X.tr pn xe) sts xs) {st : Stmt} {x : Sm} (g : cStm D.rf c ex n sc self st = some x) : SSm D X st x := by
  have cx := h.cx
  have nd : X.N.Nodup := by rw [cx.names]; exact cx.nd
  have E : ∀ {e : Expr} {x : Ex}, cE D.rf c (n + 1) sc sc e = some x → SE D X e x := fun q => cE_ok hcf (n + 1) sc sc _ _ q X cx
  unfold cStm at g
  split at g
  · cases g; exact sm_ret0
  · -- Return e
    have rest : ∀ {e : Expr} {pos : Pos} {x : Sm}, (match cE D.rf c (n + 1) sc sc e with
      | some x => if (isVar x).isNone = true then some (Sm.ret x) else none
      | none => none) = some x → SSm D X (.Return (some e) pos) x := by
      intro e pos x q
      split at q
      · rename_i y hy
        split at q
        · rename_i hv
          cases q
          exact sm_ret (E hy) (Option.isNone_iff_eq_none.mp hv)
        · cases q
      · cases q
    split at g
    · split at g
      · rename_i i hi
        cases g
        obtain ⟨v1, v2, v3, v4⟩ := cx.vis hi
        exact sm_retv v1 v2 v3 v4
      · exact rest g
    · rename_i elt tg it ifs scope p
      split at g
      · rename_i y hy
        split at g
        · rename_i hv
          cases g
          exact sm_ret (E hy) (Option.isNone_iff_eq_none.mp hv)
        · cases g
      · exact cLC_ok hcf cx g
    · exact rest g
  · -- Assign
    rename_i tg e pos
    split at g
    · rename_i y p
      split at g
      · rename_i i x1 hi hx1
        obtain ⟨l1, l2, l3⟩ := tgNm_loc cx hi
        split at g
        · rename_i elt tg it ifs scope cpos
          split at g
          · rename_i hz
            cases g
            have hz := of_decide_eq_true hz
            exact sm_asg nd l1 l2 l3 (E hx1) (sw_cell (by rw [cx.scope]; exact hz))
          · split at g
            · rename_i hz
              simp only [Bool.and_eq_true, decide_eq_true_eq, Bool.not_eq_true'] at hz
              cases g
              obtain ⟨t, s, x, cs, rfl, h1, h2, h3, h4, z1, z2, z3, z4, z5⟩ := cE_comp hx1
              have hyl : X.env.scope.names.lookup y = some .local := by rw [cx.scope]; exact hz.1.1
              have f4 := mapO_f2 (P := fun e x => ∀ X, CxOk D X c scope (relS scope sc) k → SE D X e x) (fun e x q => cE_ok hcf n _ _ e x q) h4
              refine sm_comp (own := ownOf c.N t) cx.calm nd l1 hyl (sw_true (by rw [cx.scope]; exact h.kind) hyl hz.1.2 hz.2) (by rw [cx.names, cx.scope]; exact blkOk_by z1) ?_ (fun s0 H0 C cl fp => cT_ok (cx.blk scope s0 H0 C cl fp) h1)
                (cSrc_ok cx (fun e x q => ⟨cE_ok hcf n _ _ _ _ q X cx, cE_star q⟩) h2) (fun s0 H0 C cl fp => cE_ok hcf n _ _ _ _ h3 _ (cx.blk scope s0 H0 C cl fp)) (fun s0 H0 C cl fp => ?_) z2 f4.len (notSet z3) (fun κ hk => ?_)
              · unfold ownOf
                rw [List.map_map]
                exact List.map_id' _
              · have : ∀ {es : List Expr} {xs : List Ex}, F2 (fun e x => ∀ X, CxOk D X c scope (relS scope sc) k → SE D X e x) es xs → F2 (SE D (X.blk s0 H0 scope (compEnvC scope cl C X.env) fp)) es xs := by
                  intro es xs f
                  induction f with
                  | nil => exact .nil
                  | cons f1 _ ih2 => exact .cons (f1 _ (cx.blk scope s0 H0 C cl fp)) ih2
                exact this f4
              · have kl := kle_kw (c := c) (κ := κ) (by rw [hk, cx.names])
                exact ⟨Nat.le_trans z4 (fl_mono _ _ _ (kl.bind t)), flS_mono _ _ _ kl z5⟩
            · cases g
        · split at g
          · cases g
          · rename_i hz
            cases g
            exact sm_asg nd l1 l2 l3 (E hx1) (sw_none (Bool.eq_false_iff.mpr hz))
      · cases g
    · rename_i x px y py kk p
      split at g
      · rename_i a b k2 p2
        split at g
        · rename_i i j xa xb h1 h2 h3 h4
          split at g
          · rename_i hz
            simp only [Bool.and_eq_true, decide_eq_true_eq, Bool.not_eq_true'] at hz
            obtain ⟨⟨⟨⟨⟨⟨z1, z2⟩, z3⟩, z4⟩, z5⟩, z6⟩, z7⟩ := hz
            cases g
            refine sm_par cx.calm nd (by rw [cx.names]; exact ixOf_ok h1) (by rw [cx.names]; exact ixOf_ok h2) z3 (by rw [cx.scope]; exact z1) (by rw [cx.scope]; exact z2) (E h3) (E h4) (cE_star h3) (cE_star h4) ?_
            exact swapped_ok (by unfold PySem.Env.blockKind; rw [cx.scope, h.kind]; rfl) (by unfold PySem.Env.kindOf; rw [cx.scope]; exact z1) (by unfold PySem.Env.kindOf; rw [cx.scope]; exact z2) z4 z5 (cE_star h3) (cE_star h4) z6 z7
          · cases g
        · cases g
      · split at g
        · cases g
        · rename_i hz
          rw [Bool.or_eq_true, not_or] at hz
          split at g
          · rename_i is x1 h1 h2
            cases g
            exact sm_unp (cT_ok cx h1) (E h2) (sws_none (Bool.eq_false_iff.mpr hz.2)) (st_none (Bool.eq_false_iff.mpr hz.1))
          · cases g
    · rename_i es kk p
      split at g
      · cases g
      · rename_i hz
        rw [Bool.or_eq_true, not_or] at hz
        split at g
        · rename_i is x1 h1 h2
          cases g
          exact sm_unp (cT_ok cx h1) (E h2) (sws_none (Bool.eq_false_iff.mpr hz.2)) (st_none (Bool.eq_false_iff.mpr hz.1))
        · cases g
    · rename_i y p kx p2
      split at g
      · cases g
      · rename_i hz
        rw [Bool.or_eq_true, not_or] at hz
        split at g
        · rename_i i z x1 h1 h2 h3
          cases g
          obtain ⟨v1, v2, v3, v4⟩ := cx.vis h1
          exact sm_sti v1 v2 v3 v4 (E h2) (E h3) (Bool.eq_false_iff.mpr hz.2) (sws_none (Bool.eq_false_iff.mpr hz.1)) fun a b => pg_sub a b set_list (as_sub (Bool.eq_false_iff.mpr hz.2))
        · cases g
    · cases g
  · -- If
    split at g
    · rename_i x1 xs ys h1 h2 h3
      cases g
      exact sm_ite (E h1) (hself _ _ h2) (hself _ _ h3)
    · cases g
  · -- While
    split at g
    · rename_i x1 xs h1 h2
      cases g
      exact sm_whl h.pass (E h1) (hself _ _ h2)
    · cases g
  · -- For
    split at g
    · cases g
    · rename_i hz
      split at g
      · rename_i t s xs h1 h2 h3
        cases g
        exact sm_fr h.pass cx.calm (cT_ok cx h1) (cSrc_ok cx (fun e x q => ⟨E q, cE_star q⟩) h2) (hself _ _ h3) (notSet (Bool.eq_false_iff.mpr hz))
      · cases g
  · cases g; exact sm_brk
  · cases g; exact sm_cnt
  · cases g; exact sm_pas
  · -- Expr
    split at g
    · cases g; exact sm_doc
    · rename_i y p m apos a cpos
      split at g
      · rename_i hz
        rw [Bool.and_eq_true, decide_eq_true_eq] at hz
        obtain ⟨rfl, hl⟩ := hz
        split at g
        · rename_i i x1 h1 h2
          cases g
          obtain ⟨v1, v2, v3, v4⟩ := cx.vis h1
          exact sm_app v1 v2 v3 v4 (E h2) (cE_star h2) hl
        · cases g
      · split at g
        · rename_i hz
          rw [Bool.and_eq_true, decide_eq_true_eq] at hz
          obtain ⟨rfl, hl⟩ := hz
          split at g
          · rename_i i x1 h1 h2
            cases g
            obtain ⟨v1, v2, v3, v4⟩ := cx.vis h1
            exact sm_xtd v1 v2 v3 v4 (E h2) (cE_star h2) hl
          · cases g
        · cases g
    · rename_i y p m apos k1 a cpos
      split at g
      · rename_i hz
        rw [Bool.and_eq_true, decide_eq_true_eq] at hz
        obtain ⟨rfl, hl⟩ := hz
        split at g
        · rename_i i z x1 h1 h2 h3
          cases g
          obtain ⟨v1, v2, v3, v4⟩ := cx.vis h1
          exact sm_ins v1 v2 v3 v4 (E h2) (E h3) (cE_star h2) (cE_star h3) hl
        · cases g
      · cases g
    · split at g
      · rename_i f ar hl
        split at g
        · rename_i hz
          rw [Bool.and_eq_true, decide_eq_true_eq] at hz
          split at g
          · rename_i i xs h1 h2
            cases g
            obtain ⟨v1, v2, v3, v4⟩ := cx.vis h1
            obtain ⟨fa, fd, ps, f1, f2, f3, f4, f5⟩ := cx.io _ _ _ hl
            obtain ⟨g1, g2, g3⟩ := cx.gl hz.1
            exact sm_cio v1 v2 v3 v4 f1 f2 f3 f5 (cx.room.mono (Nat.le_succ _)) g1 g2 (cEs_star h2) (mapO_f2 (f := cE D.rf c (n + 1) sc sc) (P := SE D X) (fun e x q => E q) h2) hz.2
          · cases g
        · cases g
      · obtain ⟨y, e1, e2⟩ := Option.map_eq_some_iff.mp g
        subst e2
        exact sm_exp (E e1) (sw_none rfl)
    · split at g
      · cases g
      · rename_i hz
        obtain ⟨y, e1, e2⟩ := Option.map_eq_some_iff.mp g
        subst e2
        exact sm_exp (E e1) (sw_none (Bool.eq_false_iff.mpr hz))
  · -- Try
    split at g
    · rename_i C ei j xs h1 h2 h3 h4
      split at g
      · rename_i hx h5
        split at g
        · rename_i hz
          simp only [Bool.and_eq_true, decide_eq_true_eq, Bool.not_eq_true'] at hz
          obtain ⟨⟨⟨z1, z2⟩, z3⟩, z4⟩ := hz
          obtain ⟨tb, e1, rfl⟩ := Option.map_eq_some_iff.mp g
          obtain ⟨g1, g2, g3⟩ := cx.gl z1
          have EX := h.exc _ _ h1
          obtain ⟨a1, a2, a3⟩ := tgNm_loc cx h2
          obtain ⟨b1, b2, b3⟩ := tgNm_loc cx h3
          exact sm_tryF (sub := fun C' o => ex.sub.lookup (C', o)) h.stk h.frm nd a1 (by unfold PySem.Env.kindOf; rw [cx.scope]; exact z2) ⟨g1, g2, g3, .inl ⟨_, rfl, EX.gC, EX.eP.hd, EX.tP, EX.bP⟩⟩ b1 b2 b3 z3 (sw_none z4) (cHand_ok h h5) (tbMk_ok e1) h.sub
            (fun pn xe po => hself2 pn xe po _ _ h4)
        · cases g
      · cases g
    · cases g
  · -- Raise
    split at g
    · rename_i hg
      obtain ⟨C, e1, e2⟩ := Option.map_eq_some_iff.mp g
      subst e2
      exact sm_rse h hg e1
    · cases g
  · cases g
theorem f2_ss {sts : List Stmt} {xs : List Sm} (h : F2 (SSm D X) sts xs) : SSs D X sts xs := by
  induction h with
  | nil => exact ss_nil
  | cons h1 _ ih => exact ss_cons h1 ih
theorem cSt_ok' (hcf : ∀ f ds d, D.cf f ds = .ok d → rfOk (D.rf f) d = true) : ∀ (n : Nat) (X : Cx), SmOk D X c ex sc k → ∀ (sts : List Stmt) (xs : List Sm), cSt D.rf c ex n sc sts = some xs → SSs D X sts xs := by
  intro n
  induction n with
  | zero => intro X h sts xs q; cases q
  | succ n ih => exact fun X h sts xs q => f2_ss (mapO_f2 (f := cStm D.rf c ex n sc (cSt D.rf c ex n sc)) (fun st x q => cStm_ok hcf h (n := n) (ih X h) (fun pn xe po => ih _ (h.tr pn xe po)) q) q)
theorem cSt_ok (hcf : ∀ f ds d, D.cf f ds = .ok d → rfOk (D.rf f) d = true) (h : SmOk D X c ex sc k) : ∀ (n : Nat) (sts : List Stmt) (xs : List Sm), cSt D.rf c ex n sc sts = some xs → SSs D X sts xs := fun n => cSt_ok' hcf n X h
end
end PV

/-! PV, part N: the program's defs; the law's end -/
namespace PV
open PySem PySem.Spec PyProof.Rows L2

/-- a def: its name, its text, its parameters, its names (parameters first), its compact body, its grade -/
structure FnD where
  x : Str
  st : Stmt
  ps : List Str
  N : List Str
  body : List Sm
  rf : Rf
  dv : List Int
def retB (r : Rf) (fl : Nat) (d : Dat) : Bool := rfOk r d && (match r with
  | .own => decide (3 ≤ fl) || (decide (2 ≤ fl) && !isMut d)
  | .shr => decide (2 ≤ fl)
  | .pur => true
  | .ownp => decide (3 ≤ fl) || pureD d
  | .io => false)
def isIo : Rf → Bool
  | .io => true
  | _ => false
def kst (F : FnD) : Kd := if isIo F.rf then .arg :: List.replicate (F.N.length - 1) .shr else List.replicate F.N.length .shr
def est (F : FnD) (ds : List Dat) : Env := ds.map some ++ List.replicate (F.N.length - ds.length) none
/-- how a def ends that changes its first list: the list as it is then -/
def endI : Rs End → Rs Dat
  | .ok (.nx κ ρ) => if kd κ 0 = .arg then getV ρ 0 else .no
  | .ok (.r0 κ ρ) => if kd κ 0 = .arg then getV ρ 0 else .no
  | _ => .no
def endR (r : Rf) : Rs End → Rs Dat
  | .ok (.r0 _ _) => .ok .non
  | .ok (.nx _ _) => .ok .non
  | .ok (.rt fl d) => if retB r fl d then .ok d else .no
  | .ok (.xc _ _ z) => .ex z
  | _ => .no
def rfs (fns : List FnD) (f : Nat) : Rf := match fns[f]? with
  | some F => F.rf
  | none => .shr
def callF (fns : List FnD) (gl : Nat → Dat) : Nat → Nat → List Dat → Rs Dat
  | 0, _, _ => .no
  | n + 1, f, ds => match fns[f]? with
    | some F => if ds.length = F.ps.length then (if isIo F.rf then endI (exSs (callF fns gl n) gl (rfs fns) F.body (kst F) (est F ds)) else endR F.rf (exSs (callF fns gl n) gl (rfs fns) F.body (kst F) (est F ds))) else .no
    | none => .no
theorem endR_ok {r : Rf} {e : Rs End} {d : Dat} (h : endR r e = .ok d) : rfOk r d = true := by
  unfold endR at h
  split at h
  · cases h; cases r <;> rfl
  · cases h; cases r <;> rfl
  · split at h
    · rename_i hz
      cases h
      unfold retB at hz
      rw [Bool.and_eq_true] at hz
      exact hz.1
    · cases h
  · cases h
  · cases h
theorem callF_rf {fns : List FnD} {gl : Nat → Dat} : ∀ (n f : Nat) (ds : List Dat) (d : Dat), callF fns gl n f ds = .ok d → rfOk (rfs fns f) d = true
  | 0, _, _, _, h => by cases h
  | n + 1, f, ds, d, h => by
    unfold callF at h
    unfold rfs
    split at h
    · rename_i F hF
      split at h
      · split at h
        · rename_i hi
          cases hr : F.rf <;> rw [hr] at hi <;> first | exact Bool.noConfusion hi | (cases d <;> rfl)
        · exact endR_ok h
      · cases h
    · cases h
def funsFrom : Nat → List FnD → List (Str × Nat × Nat)
  | _, [] => []
  | i, F :: Fs => if isIo F.rf then funsFrom (i + 1) Fs else (F.x, i, F.ps.length) :: funsFrom (i + 1) Fs
def iosFrom : Nat → List FnD → List (Str × Nat × Nat)
  | _, [] => []
  | i, F :: Fs => if isIo F.rf then (F.x, i, F.ps.length) :: iosFrom (i + 1) Fs else iosFrom (i + 1) Fs
theorem funs_look {x : Str} {f ar : Nat} : ∀ (Fs : List FnD) (i : Nat), (funsFrom i Fs).lookup x = some (f, ar) → ∃ j F, f = i + j ∧ Fs[j]? = some F ∧ F.x = x ∧ F.ps.length = ar ∧ isIo F.rf = false
  | [], i, h => by cases h
  | F :: Fs, i, h => by
    unfold funsFrom at h
    split at h
    · obtain ⟨j, G, e1, e2, e3, e4⟩ := funs_look Fs (i + 1) h
      exact ⟨j + 1, G, by omega, e2, e3, e4⟩
    · rename_i hi
      rw [List.lookup_cons] at h
      split at h
      · rename_i hx
        cases h
        exact ⟨0, F, rfl, rfl, (eq_of_beq hx).symm, rfl, Bool.eq_false_iff.mpr hi⟩
      · obtain ⟨j, G, e1, e2, e3, e4⟩ := funs_look Fs (i + 1) h
        exact ⟨j + 1, G, by omega, e2, e3, e4⟩
theorem ios_look {x : Str} {f ar : Nat} : ∀ (Fs : List FnD) (i : Nat), (iosFrom i Fs).lookup x = some (f, ar) → ∃ j F, f = i + j ∧ Fs[j]? = some F ∧ F.x = x ∧ F.ps.length = ar ∧ isIo F.rf = true
  | [], i, h => by cases h
  | F :: Fs, i, h => by
    unfold iosFrom at h
    split at h
    · rename_i hi
      rw [List.lookup_cons] at h
      split at h
      · rename_i hx
        cases h
        exact ⟨0, F, rfl, rfl, (eq_of_beq hx).symm, rfl, hi⟩
      · obtain ⟨j, G, e1, e2, e3, e4⟩ := ios_look Fs (i + 1) h
        exact ⟨j + 1, G, by omega, e2, e3, e4⟩
    · obtain ⟨j, G, e1, e2, e3, e4⟩ := ios_look Fs (i + 1) h
      exact ⟨j + 1, G, by omega, e2, e3, e4⟩
/-- defs that may be called without their last arguments -/
def dflFrom : Nat → List FnD → List (Str × Nat × Nat × List Int)
  | _, [] => []
  | i, F :: Fs => if !isIo F.rf && !F.dv.isEmpty then (F.x, i, F.ps.length - F.dv.length, F.dv) :: dflFrom (i + 1) Fs else dflFrom (i + 1) Fs
theorem dfl_look {x : Str} {f m : Nat} {ns : List Int} : ∀ (Fs : List FnD) (i : Nat), (dflFrom i Fs).lookup x = some (f, m, ns) → ∃ j F, f = i + j ∧ Fs[j]? = some F ∧ F.x = x ∧ m = F.ps.length - F.dv.length ∧ ns = F.dv ∧ isIo F.rf = false ∧ F.dv ≠ []
  | [], i, h => by cases h
  | F :: Fs, i, h => by
    unfold dflFrom at h
    split at h
    · rename_i hi
      rw [Bool.and_eq_true, Bool.not_eq_true', Bool.not_eq_true', List.isEmpty_eq_false_iff] at hi
      rw [List.lookup_cons] at h
      split at h
      · rename_i hx
        cases h
        exact ⟨0, F, rfl, rfl, (eq_of_beq hx).symm, rfl, rfl, hi.1, hi.2⟩
      · obtain ⟨j, G, e1, e2, e3⟩ := dfl_look Fs (i + 1) h
        exact ⟨j + 1, G, by omega, e2, e3⟩
    · obtain ⟨j, G, e1, e2, e3⟩ := dfl_look Fs (i + 1) h
      exact ⟨j + 1, G, by omega, e2, e3⟩
def ctxOf (fns : List FnD) (glos : List (Str × Nat)) (free : List Str) (F : FnD) : Ctx := ⟨F.N, funsFrom 0 fns, glos, free, iosFrom 0 fns, dflFrom 0 fns⟩
/-- a def lies there as the text says -/
structure FnAt (K : PySem.W.Frag) (mg : Str → Option Value) (F : FnD) : Prop where
  ex : ∃ fa fd, FunT K F.x F.st fa fd ∧ mg F.x = some (.ref fa) ∧ Binds K fd F.ps [] ∧ (F.dv ≠ [] → F.dv.length ≤ F.ps.length ∧ ∃ us0, Binds K fd F.ps us0 ∧ Vals (F.dv.map V.int) us0)
structure ExcAt (K : PySem.W.Frag) (mg : Str → Option Value) (C : Addr) (x : Str) : Prop where
  gC : mg x = some (.ref C)
  kC : PySem.W.keepIn K (.ref C) = true
  xP : PySem.W.excIn K C [.type "ValueError", .type "Exception", .type "BaseException", .type "object"] "ValueError.__new__" = true
  bP : PySem.W.subIn K (.ref C) (.type "BaseException") = some true
  tP : PySem.W.typeIn K (.ref C) = some (.type "type")
  eP : ExcC K C
theorem den_pure {K : PySem.W.Frag} {O : Addr → Prop} {H : Hp} {v : V} {d : Dat} (p : pureD d = true) (h : Den K O0 H v d) : Den K O H v d := Den.pure d v p h
theorem mut_pure {d : Dat} (p : pureD d = true) : isMut d = false := by
  cases d <;> first | rfl | cases p
theorem pst_of {K : PySem.W.Frag} {O O' : Addr → Prop} {H H' : Hp} {fl fl' : Nat} {v : V} {d : Dat} (h0 : Den K O0 H' v d) (h2 : 2 ≤ fl' → Den K O' H' v d) (ho : ∀ a, O a → O' a) (h3 : 3 ≤ fl' → isMut d = true → ∃ a, v = .ref a ∧ H a = none ∧ Own K (PV.plus O' a) H' a d) (hr : pureD d = true ∨ (2 ≤ fl' ∧ (isMut d = false ∨ fl ≤ fl'))) : Pst K fl O H H' v d := by
  have den : Den K O H' v d := by
    rcases hr with p | ⟨p, _⟩
    · exact den_pure p h0
    · exact (h2 p).mono (Same.refl _) ho
  have mono : ∀ a, ∀ b, PV.plus O a b → PV.plus O' a b := fun a b q => q.imp (ho b) id
  refine ⟨h0, fun _ => den.d1, fun _ => den, fun q m => ?_⟩
  rcases hr with p | ⟨_, p | p⟩
  · rw [mut_pure p] at m; cases m
  · rw [p] at m; cases m
  · obtain ⟨a, e1, e2, e3⟩ := h3 (Nat.le_trans q p) m
    exact ⟨a, e1, e2, e3.mono (Same.refl _) (mono a)⟩
section
variable {P : Program} {w : World} {K : PySem.W.Frag} {mg : Str → Option Value} {base : Heap}
variable {fns : List FnD} {gl : Nat → Dat} {glos : List (Str × Nat)} {free : List Str} {ex : Exs} {cadr : Nat → Addr}
/-- the world with n calls left -/
def Wn (fns : List FnD) (gl : Nat → Dat) (cadr : Nat → Addr) (n : Nat) : Wd := ⟨callF fns gl n, gl, rfs fns, cadr⟩
theorem kst_kd (F : FnD) (hF : isIo F.rf = false) (i : Nat) : kd (kst F) i = .shr := by
  unfold kd kst
  rw [hF, if_neg Bool.false_ne_true]
  rw [List.getD_eq_getElem?_getD, List.getElem?_replicate]
  split <;> rfl
theorem noAr {F : FnD} (hF : isIo F.rf = false) {ρ : Env} {σ : L2.St} {a : Addr} : ¬ Ar (kst F) ρ σ a := fun ⟨i, d, _, h, _⟩ => by rw [kst_kd F hF] at h; cases h
theorem est_get {F : FnD} {ds : List Dat} {i : Nat} {d : Dat} (q : (est F ds)[i]? = some (some d)) : ds[i]? = some d := by
  unfold est at q
  by_cases hi : i < ds.length
  · rw [List.getElem?_append_left (by simpa using hi), List.getElem?_map] at q
    cases e : ds[i]? with
    | none => rw [e] at q; cases q
    | some x => rw [e] at q; cases q; rfl
  · rw [List.getElem?_append_right (by simpa using hi), List.getElem?_replicate] at q
    split at q <;> cases q
theorem start_get {N : List Str} {vs : List V} {i : Nat} {v : V} (q : vs[i]? = some v) : (L2.start N vs)[i]? = some (some v) := by
  unfold L2.start
  rw [List.getElem?_append_left (by simpa using (List.getElem?_eq_some_iff.mp q).1), List.getElem?_map, q]
  rfl
theorem rel_start {F : FnD} (hF : isIo F.rf = false) {O : Addr → Prop} {H : Hp} {vs : List V} {ds : List Dat} (hd : DenL K O H vs ds) (ho : ∀ a, O a → ∃ o, H a = some o) (hl : vs.length ≤ F.N.length) : Rel K (kst F) (est F ds) (start F.N vs) H O := by
  have el : vs.length = ds.length := hd.len
  refine ⟨?_, ?_, fun i d q => ?_, fun i j d e a _ _ h => ?_, ho⟩
  · unfold est L2.start
    simp only [List.length_append, List.length_map, List.length_replicate]
    omega
  · unfold kst L2.start
    rw [hF, if_neg Bool.false_ne_true]
    simp only [List.length_append, List.length_map, List.length_replicate]
    omega
  · unfold est at q
    by_cases hi : i < ds.length
    · rw [List.getElem?_append_left (by simpa using hi), List.getElem?_map] at q
      have q' : ds[i]? = some d := by
        cases e : ds[i]? with
        | none => rw [e] at q; cases q
        | some x => rw [e] at q; cases q; rfl
      obtain ⟨v, g1, g2⟩ := hd.get q'
      refine ⟨v, ?_, ?_⟩
      · unfold L2.start
        rw [List.getElem?_append_left (by simpa [el] using hi), List.getElem?_map, g1]
        rfl
      · rw [kst_kd F hF]
        exact g2
    · rw [List.getElem?_append_right (by simpa using hi), List.getElem?_replicate] at q
      split at q <;> cases q
  · rw [kst_kd F hF] at h; cases h
theorem fn_step {n f : Nat} {F : FnD} (hF : fns[f]? = some F) (hI : isIo F.rf = false) (S : FnScope F.N F.ps (defScope F.st)) (hB : cSt (rfs fns) (ctxOf fns glos free F) ex 1000 (defScope F.st) (defBody F.st) = some F.body)
    (hbi : ∀ x ∈ free, mg x = none) (hgl : ∀ x g, glos.lookup x = some g → ∃ v u, mg x = some u ∧ RelV v u ∧ ∀ O H, Den K O H v (gl g)) (hex : ∀ x C, ex.lookup x = some C → ExcAt K mg (cadr C) x) (hsub : ∀ C c b, ex.sub.lookup (C, c) = some b → PySem.W.subIn K (.ref (cadr C)) (clV cadr c) = some b ∧ ExcC K (cadr C) ∧ PySem.W.subIn K (.ref (cadr C)) (.ref (cadr C)) = some true)
    (hhot : ∀ x ts, ex.hot.lookup x = some ts → ∃ fa fd y, mg x = some (.ref fa) ∧ PySem.W.keepIn K (.ref fa) = true ∧ Binds K fd [y] [] ∧ FnPin P w K mg base cadr fa fd y ts)
    (hfn : ∀ x g ar, (funsFrom 0 fns).lookup x = some (g, ar) → ∃ fa fd ps, mg x = some (.ref fa) ∧ PySem.W.keepIn K (.ref fa) = true ∧ Binds K fd ps [] ∧ ps.length = ar ∧ FnOk P w K mg base (L2.CX P w) (2 * n) fa fd ps (spF (Wn fns gl cadr n) K g ar))
    (hio : ∀ x g ar, (iosFrom 0 fns).lookup x = some (g, ar) → ∃ fa fd ps, mg x = some (.ref fa) ∧ PySem.W.keepIn K (.ref fa) = true ∧ Binds K fd ps [] ∧ ps.length = ar ∧ FnOk P w K mg base (L2.CX P w) (2 * n) fa fd ps (spIO (Wn fns gl cadr n) K g ar))
    (hdf : ∀ x g m ns, (dflFrom 0 fns).lookup x = some (g, m, ns) → ∃ fa fd ps us0, mg x = some (.ref fa) ∧ PySem.W.keepIn K (.ref fa) = true ∧ Binds K fd ps us0 ∧ Vals (ns.map V.int) us0 ∧ FnOk P w K mg base (L2.CX P w) (2 * n) fa fd ps (spF (Wn fns gl cadr n) K g (m + ns.length)))
    {fa : Addr} {fd : FuncData} (Fu : FunT K F.x F.st fa fd) : FnOk P w K mg base (L2.CX P w) (2 * n + 2) fa fd F.ps (spF (Wn fns gl cadr (n + 1)) K f F.ps.length) := by
  refine Fu.okT S (fun vs H Q E h => ?_) (fun cdv A outer s H vs Q E hr h => ?_)
  · obtain ⟨O, ds, _, _, e, _⟩ := h
    exact e
  · obtain ⟨O, ds, hd, ho, hl, h⟩ := h
    let X := cxOf (L2.CX P w) P w K mg base F.N F.x (defScope F.st) fa cdv A outer s H E
    have cx : CxOk (Wn fns gl cadr n) X (ctxOf fns glos free F) (defScope F.st) (defScope F.st) (2 * n) := ⟨rfl, rfl, S.nd, rfl, fun _ _ => rfl, hr, hbi, hfn, hio, hgl, hdf⟩
    have sm : SmOk (Wn fns gl cadr n) X (ctxOf fns glos free F) ex (defScope F.st) (2 * n) := ⟨cx, S.kind, passes_of rfl, fun x C q => by
      have E := hex x C q
      exact ⟨E.gC, E.kC, E.xP, E.bP, E.tP, E.eP⟩, hsub, rfl, rfl, hhot⟩
    have ss := cSt_ok (fun f ds d q => callF_rf n f ds d q) sm 1000 _ _ hB
    have hpl : F.ps.length ≤ F.N.length := by have := congrArg List.length S.pre; rw [List.length_take] at this; omega
    have el : vs.length = ds.length := hd.len
    refine ⟨wSs X (defBody F.st), pss_w, ss.run (kst F) (est F ds) (start F.N vs) H O (fun cls d _ H => E cls d H) _ (by rw [show X.N = F.N from rfl]; unfold kst; rw [hI, if_neg Bool.false_ne_true]; exact List.length_replicate) (rel_start hI hd ho (by omega)) ?_ (takes_of rfl rfl rfl rfl)⟩
    have h : Post (callF fns gl (n + 1) f ds) (fun d => ∀ v H', Same H H' → Pst K ((rfs fns f).fl true) O H H' v d → Q v H') (fun z => ∀ cls dd H', Same H H' → XD cadr cls dd H' z → E cls dd H') := h
    unfold callF at h
    rw [hF] at h
    have hrf : rfs fns f = F.rf := by unfold rfs; rw [hF]
    rw [hrf] at h
    simp only [if_pos (el.symm.trans hl), hI, Bool.false_eq_true, if_false] at h
    show PostR (exSs (callF fns gl n) gl (rfs fns) F.body (kst F) (est F ds)) _
    generalize exSs (callF fns gl n) gl (rfs fns) F.body (kst F) (est F ds) = r at h
    have sm : ∀ {ρ ρ' : Env} {σ σ' : L2.St} {κ' : Kd} {H' : Hp} {O' : Addr → Prop}, Stq K (kst F) ρ σ H O κ' ρ' σ' H' O' → Same H H' := fun st a o q => st.frm a o q fun z => noAr hI z.ar
    cases r with
    | no => exact False.elim h
    | ex z => exact False.elim h
    | ok e =>
      cases e with
      | nx κ' ρ' =>
        intro σ' H' O' r1 st
        exact h .non H' (sm st.q) (pst_of (fl' := 0) .non (fun _ => .non) (fun _ q => q) (fun _ m => by cases m) (.inl rfl))
      | r0 κ' ρ' =>
        intro σ' H' O' r1 st
        exact h .non H' (sm st) (pst_of (fl' := 0) .non (fun _ => .non) (fun _ q => q) (fun _ m => by cases m) (.inl rfl))
      | bk _ _ => exact False.elim h
      | ct _ _ => exact False.elim h
      | rt fl d =>
        intro v H' O' p
        unfold endR at h
        simp only at h
        split at h
        · rename_i hz
          unfold retB at hz
          rw [Bool.and_eq_true] at hz
          refine h v H' (fun a o q => p.frm a o q fun z => noAr hI z.ar) (pst_of p.any p.two (fun a q => p.kep a q (noAr hI)) (fun q m => ?_) ?_)
          · obtain ⟨a, e1, e2, e3⟩ := p.three q m
            exact ⟨a, e1, e2.resolve_right fun z => noAr hI z.ar, e3⟩
          · obtain ⟨h1, h2⟩ := hz
            cases hq : F.rf with
            | own =>
              rw [hq] at h2
              simp only [Bool.or_eq_true, Bool.and_eq_true, decide_eq_true_eq, Bool.not_eq_true'] at h2
              rcases h2 with q | ⟨q1, q2⟩
              · exact .inr ⟨by omega, .inr q⟩
              · exact .inr ⟨q1, .inl q2⟩
            | shr =>
              rw [hq] at h2
              simp only [decide_eq_true_eq] at h2
              exact .inr ⟨h2, .inr h2⟩
            | io => rw [hq] at hI; cases hI
            | pur =>
              rw [hq] at h1
              exact .inl h1
            | ownp =>
              rw [hq] at h2
              simp only [Bool.or_eq_true, decide_eq_true_eq] at h2
              rcases h2 with q | q
              · exact .inr ⟨by omega, .inr q⟩
              · exact .inl q
        · exact False.elim h
      | xc κ' ρ' z =>
        intro cls dd σ' H' O' r1 st x
        exact h cls dd H' (sm st) x
/-- .. of a def that changes its first list -/
theorem io_step {n f : Nat} {F : FnD} (hF : fns[f]? = some F) (hI : isIo F.rf = true) (S : FnScope F.N F.ps (defScope F.st)) (hB : cSt (rfs fns) (ctxOf fns glos free F) ex 1000 (defScope F.st) (defBody F.st) = some F.body)
    (hbi : ∀ x ∈ free, mg x = none) (hgl : ∀ x g, glos.lookup x = some g → ∃ v u, mg x = some u ∧ RelV v u ∧ ∀ O H, Den K O H v (gl g)) (hex : ∀ x C, ex.lookup x = some C → ExcAt K mg (cadr C) x) (hsub : ∀ C c b, ex.sub.lookup (C, c) = some b → PySem.W.subIn K (.ref (cadr C)) (clV cadr c) = some b ∧ ExcC K (cadr C) ∧ PySem.W.subIn K (.ref (cadr C)) (.ref (cadr C)) = some true)
    (hhot : ∀ x ts, ex.hot.lookup x = some ts → ∃ fa fd y, mg x = some (.ref fa) ∧ PySem.W.keepIn K (.ref fa) = true ∧ Binds K fd [y] [] ∧ FnPin P w K mg base cadr fa fd y ts)
    (hfn : ∀ x g ar, (funsFrom 0 fns).lookup x = some (g, ar) → ∃ fa fd ps, mg x = some (.ref fa) ∧ PySem.W.keepIn K (.ref fa) = true ∧ Binds K fd ps [] ∧ ps.length = ar ∧ FnOk P w K mg base (L2.CX P w) (2 * n) fa fd ps (spF (Wn fns gl cadr n) K g ar))
    (hio : ∀ x g ar, (iosFrom 0 fns).lookup x = some (g, ar) → ∃ fa fd ps, mg x = some (.ref fa) ∧ PySem.W.keepIn K (.ref fa) = true ∧ Binds K fd ps [] ∧ ps.length = ar ∧ FnOk P w K mg base (L2.CX P w) (2 * n) fa fd ps (spIO (Wn fns gl cadr n) K g ar))
    (hdf : ∀ x g m ns, (dflFrom 0 fns).lookup x = some (g, m, ns) → ∃ fa fd ps us0, mg x = some (.ref fa) ∧ PySem.W.keepIn K (.ref fa) = true ∧ Binds K fd ps us0 ∧ Vals (ns.map V.int) us0 ∧ FnOk P w K mg base (L2.CX P w) (2 * n) fa fd ps (spF (Wn fns gl cadr n) K g (m + ns.length)))
    {fa : Addr} {fd : FuncData} (Fu : FunT K F.x F.st fa fd) : FnOk P w K mg base (L2.CX P w) (2 * n + 2) fa fd F.ps (spIO (Wn fns gl cadr (n + 1)) K f F.ps.length) := by
  refine Fu.okT S (fun vs H Q E h => ?_) (fun cdv A outer s H vs Q E hr h => ?_)
  · obtain ⟨O, a, us, d0, ds, _, _, _, _, _, e, _⟩ := h
    exact e
  · obtain ⟨O, a, us, d0, ds, rfl, oa, own, hd, ho, hl, h⟩ := h
    let X := cxOf (L2.CX P w) P w K mg base F.N F.x (defScope F.st) fa cdv A outer s H E
    have cx : CxOk (Wn fns gl cadr n) X (ctxOf fns glos free F) (defScope F.st) (defScope F.st) (2 * n) := ⟨rfl, rfl, S.nd, rfl, fun _ _ => rfl, hr, hbi, hfn, hio, hgl, hdf⟩
    have sm : SmOk (Wn fns gl cadr n) X (ctxOf fns glos free F) ex (defScope F.st) (2 * n) := ⟨cx, S.kind, passes_of rfl, fun x C q => by
      have E := hex x C q
      exact ⟨E.gC, E.kC, E.xP, E.bP, E.tP, E.eP⟩, hsub, rfl, rfl, hhot⟩
    have ss := cSt_ok (fun f ds d q => callF_rf n f ds d q) sm 1000 _ _ hB
    have hpl : F.ps.length ≤ F.N.length := by have := congrArg List.length S.pre; rw [List.length_take] at this; omega
    have el : us.length = ds.length := hd.len
    have l1 : us.length + 1 = F.ps.length := hl
    have ek : kst F = .arg :: List.replicate (F.N.length - 1) .shr := by
      unfold kst
      rw [hI, if_pos rfl]
    have kd0 : kd (kst F) 0 = .arg := by rw [ek]; rfl
    have kdS : ∀ i, kd (kst F) (i + 1) = .shr := fun i => by
      rw [ek]
      unfold kd
      rw [List.getD_eq_getElem?_getD, List.getElem?_cons_succ, List.getElem?_replicate]
      split <;> rfl
    have e0 : (est F (d0 :: ds))[0]? = some (some d0) := rfl
    have s0 : (L2.start F.N (.ref a :: us))[0]? = some (some (.ref a)) := rfl
    have only : ∀ i, isOwn (kd (kst F) i) = true → i = 0 := fun i q => by
      cases i with
      | zero => rfl
      | succ i => rw [kdS] at q; cases q
    have r0 : Rel K (kst F) (est F (d0 :: ds)) (L2.start F.N (.ref a :: us)) H O := by
      refine ⟨?_, ?_, fun i d q => ?_, fun i j d e b _ _ h1 h2 _ _ => (only i h1).trans (only j h2).symm, ho⟩
      · unfold est L2.start
        simp only [List.length_append, List.length_map, List.length_replicate, List.length_cons]
        omega
      · rw [ek]
        unfold L2.start
        simp only [List.length_append, List.length_map, List.length_replicate, List.length_cons]
        omega
      · have q := est_get q
        cases i with
        | zero =>
          cases q
          exact ⟨.ref a, s0, by rw [kd0]; exact ⟨a, rfl, oa, own⟩⟩
        | succ i =>
          obtain ⟨v, g1, g2⟩ := hd.get (show ds[i]? = some d from q)
          exact ⟨v, start_get (show (V.ref a :: us)[i + 1]? = some v from g1), by rw [kdS]; exact g2⟩
    refine ⟨wSs X (defBody F.st), pss_w, ss.run (kst F) (est F (d0 :: ds)) (L2.start F.N (.ref a :: us)) H O (fun cls d _ H => E cls d H) _ (by rw [show X.N = F.N from rfl, ek, List.length_cons, List.length_replicate]; omega) r0 ?_ (takes_of rfl rfl rfl rfl)⟩
    have h : Post (callF fns gl (n + 1) f (d0 :: ds)) (fun d => ∀ O' H', IoP K O H a O' H' d → Q .non H') (fun _ => False) := h
    unfold callF at h
    rw [hF] at h
    simp only [if_pos (show (d0 :: ds).length = F.ps.length by rw [List.length_cons]; omega), hI, if_true] at h
    show PostR (exSs (callF fns gl n) gl (rfs fns) F.body (kst F) (est F (d0 :: ds))) _
    generalize exSs (callF fns gl n) gl (rfs fns) F.body (kst F) (est F (d0 :: ds)) = r at h
    have main : ∀ (κ' : Kd) (ρ' : Env) (σ' : L2.St) (H' : Hp) (O' : Addr → Prop), Post (if kd κ' 0 = .arg then getV ρ' 0 else .no) (fun d => ∀ O' H', IoP K O H a O' H' d → Q .non H') (fun _ => False) → Rel K κ' ρ' σ' H' O' → Stq K (kst F) (est F (d0 :: ds)) (L2.start F.N (.ref a :: us)) H O κ' ρ' σ' H' O' → Q .non H' := by
      intro κ' ρ' σ' H' O' q r1 st
      by_cases hk : kd κ' 0 = .arg
      · rw [if_pos hk] at q
        unfold getV at q
        cases hd' : ρ'[0]? with
        | none => rw [hd'] at q; exact False.elim q
        | some o =>
          cases o with
          | none => rw [hd'] at q; exact False.elim q
          | some d =>
            rw [hd'] at q
            obtain ⟨_, p2⟩ := st.par 0 hk
            obtain ⟨v, g1, g2⟩ := r1.slot 0 d hd'
            rw [p2, s0] at g1
            cases g1
            rw [hk] at g2
            obtain ⟨b, eb, p3, p4⟩ := g2
            cases eb
            refine q O' H' ⟨st.den, fun b o q nb => st.frm b o q fun ⟨i, d', q1, q2, q3⟩ => ?_, fun b q => ?_, r1.trk, p4⟩
            · have e := only i (isMu_own q2)
              subst e
              rw [s0] at q3
              cases q3
              exact nb rfl
            · by_cases e : b = a
              · rw [e]; exact p3
              · refine st.kep b q fun ⟨i, d', q1, q2, q3⟩ => ?_
                have e' := only i q2
                subst e'
                rw [s0] at q3
                cases q3
                exact e rfl
      · rw [if_neg hk] at q
        exact False.elim q
    cases r with
    | no => exact False.elim h
    | ex z => exact False.elim h
    | ok e =>
      cases e with
      | nx κ' ρ' => exact fun σ' H' O' r1 st => main κ' ρ' σ' H' O' h r1 st.q
      | r0 κ' ρ' => exact fun σ' H' O' r1 st => main κ' ρ' σ' H' O' h r1 st
      | bk _ _ => exact False.elim h
      | ct _ _ => exact False.elim h
      | rt fl d => exact False.elim h
      | xc κ' ρ' z => exact False.elim h
/-- EVERY DEF keeps its promise -/
theorem fns_ok (hS : ∀ F ∈ fns, FnScope F.N F.ps (defScope F.st)) (hB : ∀ F ∈ fns, cSt (rfs fns) (ctxOf fns glos free F) ex 1000 (defScope F.st) (defBody F.st) = some F.body)
    (hbi : ∀ x ∈ free, mg x = none) (hgl : ∀ x g, glos.lookup x = some g → ∃ v u, mg x = some u ∧ RelV v u ∧ ∀ O H, Den K O H v (gl g)) (hex : ∀ x C, ex.lookup x = some C → ExcAt K mg (cadr C) x) (hsub : ∀ C c b, ex.sub.lookup (C, c) = some b → PySem.W.subIn K (.ref (cadr C)) (clV cadr c) = some b ∧ ExcC K (cadr C) ∧ PySem.W.subIn K (.ref (cadr C)) (.ref (cadr C)) = some true)
    (hhot : ∀ x ts, ex.hot.lookup x = some ts → ∃ fa fd y, mg x = some (.ref fa) ∧ PySem.W.keepIn K (.ref fa) = true ∧ Binds K fd [y] [] ∧ FnPin P w K mg base cadr fa fd y ts)
    (hK : ∀ F ∈ fns, FnAt K mg F) : ∀ (n f : Nat) (F : FnD), fns[f]? = some F → ∀ fa fd, FunT K F.x F.st fa fd → (isIo F.rf = false → FnOk P w K mg base (L2.CX P w) (2 * n) fa fd F.ps (spF (Wn fns gl cadr n) K f F.ps.length)) ∧ (isIo F.rf = true → FnOk P w K mg base (L2.CX P w) (2 * n) fa fd F.ps (spIO (Wn fns gl cadr n) K f F.ps.length)) := by
  intro n
  induction n with
  | zero =>
    intro f F hF fa fd Fu
    have no : ∀ vs H Q E, ¬ spF (Wn fns gl cadr 0) K f F.ps.length vs H Q E := fun vs H Q E ⟨_, _, _, _, _, h⟩ => h
    have no2 : ∀ vs H Q E, ¬ spIO (Wn fns gl cadr 0) K f F.ps.length vs H Q E := fun vs H Q E ⟨_, _, _, _, _, _, _, _, _, _, _, h⟩ => h
    exact ⟨fun _ => ⟨fun vs H Q E h => absurd h (no vs H Q E), fun A outer s H args us vs Q E _ _ _ _ h => absurd h (no vs H Q E)⟩, fun _ => ⟨fun vs H Q E h => absurd h (no2 vs H Q E), fun A outer s H args us vs Q E _ _ _ _ h => absurd h (no2 vs H Q E)⟩⟩
  | succ n ih =>
    intro f F hF fa fd Fu
    have hm := List.mem_of_getElem? hF
    have hfn : ∀ x g ar, (funsFrom 0 fns).lookup x = some (g, ar) → ∃ fa fd ps, mg x = some (.ref fa) ∧ PySem.W.keepIn K (.ref fa) = true ∧ Binds K fd ps [] ∧ ps.length = ar ∧ FnOk P w K mg base (L2.CX P w) (2 * n) fa fd ps (spF (Wn fns gl cadr n) K g ar) := fun x g ar q => by
      obtain ⟨j, G, e1, e2, rfl, rfl, hi⟩ := funs_look fns 0 q
      rw [Nat.zero_add] at e1
      subst e1
      obtain ⟨ga, gd, G1, G2, G3, _⟩ := (hK G (List.mem_of_getElem? e2)).ex
      exact ⟨ga, gd, G.ps, G2, G1.kp, G3, rfl, (ih g G e2 ga gd G1).1 hi⟩
    have hio : ∀ x g ar, (iosFrom 0 fns).lookup x = some (g, ar) → ∃ fa fd ps, mg x = some (.ref fa) ∧ PySem.W.keepIn K (.ref fa) = true ∧ Binds K fd ps [] ∧ ps.length = ar ∧ FnOk P w K mg base (L2.CX P w) (2 * n) fa fd ps (spIO (Wn fns gl cadr n) K g ar) := fun x g ar q => by
      obtain ⟨j, G, e1, e2, rfl, rfl, hi⟩ := ios_look fns 0 q
      rw [Nat.zero_add] at e1
      subst e1
      obtain ⟨ga, gd, G1, G2, G3, _⟩ := (hK G (List.mem_of_getElem? e2)).ex
      exact ⟨ga, gd, G.ps, G2, G1.kp, G3, rfl, (ih g G e2 ga gd G1).2 hi⟩
    have hdf : ∀ x g m ns, (dflFrom 0 fns).lookup x = some (g, m, ns) → ∃ fa fd ps us0, mg x = some (.ref fa) ∧ PySem.W.keepIn K (.ref fa) = true ∧ Binds K fd ps us0 ∧ Vals (ns.map V.int) us0 ∧ FnOk P w K mg base (L2.CX P w) (2 * n) fa fd ps (spF (Wn fns gl cadr n) K g (m + ns.length)) := fun x g m ns q => by
      obtain ⟨j, G, e1, e2, rfl, rfl, rfl, hi, ne⟩ := dfl_look fns 0 q
      rw [Nat.zero_add] at e1
      subst e1
      obtain ⟨ga, gd, G1, G2, _, G4⟩ := (hK G (List.mem_of_getElem? e2)).ex
      obtain ⟨l1, us0, b, v⟩ := G4 ne
      refine ⟨ga, gd, G.ps, us0, G2, G1.kp, b, v, ?_⟩
      rw [show G.ps.length - G.dv.length + G.dv.length = G.ps.length by omega]
      exact (ih g G e2 ga gd G1).1 hi
    exact ⟨fun hi => fn_step hF hi (hS F hm) (hB F hm) hbi hgl hex hsub hhot hfn hio hdf Fu, fun hi => io_step hF hi (hS F hm) (hB F hm) hbi hgl hex hsub hhot hfn hio hdf Fu⟩
/-! ### defs that tell words of an error -/
def wordC (free : List Str) (ex : Exs) (sc : Scope) (y k : Str) (st : Stmt) : Option (Option Nat × Str) := match st with
  | .If (.Call (.Name i _) [.Name y' _, .Name x _] [] _) [.Expr (.Call (.Attribute (.Name k' _) m q6) [.Constant (.str z) _ _] [] q8) _] [] _ =>
    if decide (i = ("isinstance" : Str)) && decide (y' = y) && decide (k' = k) && decide (m = ("append" : Str)) && glB sc i && free.contains i && glB sc x && (q6.endLine == q8.line) then (if decide (x = ("ValueError" : Str)) then (if free.contains x then some (none, z) else none) else (ex.lookup x).map fun C => (some C, z)) else none
  | _ => none
def wordsC (free : List Str) (ex : Exs) (sc : Scope) (y k : Str) : List Stmt → Option (List (Option Nat × Str))
  | [] => none
  | st :: sts => match st with
    | .Return (some (.Name k' _)) _ => if decide (k' = k) && sts.isEmpty then some [] else none
    | st => match wordC free ex sc y k st with
      | some t => (wordsC free ex sc y k sts).map (t :: ·)
      | none => none
def cWords (free : List Str) (ex : Exs) (F : FnD) : Option (List (Option Nat × Str)) := match F.ps, F.N, defBody F.st with
  | [y], [y', k], .Assign [.Name k' _] (.List [] _) _ :: sts => if decide (y = y') && decide (k = k') && decide (slotOf [y', k] (defScope F.st) y' = some 0) && decide (slotOf [y', k] (defScope F.st) k = some 1) && decide ((defScope F.st).names.lookup k = some .local) then (match wordsC free ex (defScope F.st) y k sts with
    | some ts => if decide (ts.length ≤ 1000) then some ts else none
    | none => none) else none
  | _, _, _ => none
section
variable {K : PySem.W.Frag} {mg : Str → Option Value} {free : List Str} {ex : Exs} {cadr : Nat → Addr}
theorem wordsC_ok {X : Cx} (hbi : ∀ x ∈ free, X.mg x = none) (hex : ∀ x C, ex.lookup x = some C → ExcAt X.K X.mg (cadr C) x) {sc : Scope} {y k : Str} (eS : X.env.scope = sc) :
    ∀ (sts : List Stmt) (ts : List (Option Nat × Str)), wordsC free ex sc y k sts = some ts → WordsT X cadr y k sts ts
  | [], ts, h => by cases h
  | st :: sts, ts, h => by
    have gl : ∀ {x : Str}, glB sc x = true → Gl X x ∧ (x == ("__debug__" : Str)) = false ∧ x ≠ "__name__" := fun {x} g => by
      obtain ⟨g1, g2, g3⟩ := glB_ok g
      exact ⟨by unfold Gl PySem.Env.kindOf; rw [eS]; exact g1, g2, g3⟩
    unfold wordsC at h
    split at h
    · split at h
      · rename_i hz
        rw [Bool.and_eq_true, decide_eq_true_eq, List.isEmpty_iff] at hz
        obtain ⟨rfl, rfl⟩ := hz
        cases h
        exact .done
      · cases h
    · split at h
      · rename_i t ht
        obtain ⟨ts', e1, rfl⟩ := Option.map_eq_some_iff.mp h
        obtain ⟨c, z⟩ := t
        refine .more ?_ (wordsC_ok hbi hex eS sts ts' e1)
        unfold wordC at ht
        split at ht
        · rename_i i q1 y' q2 x q3 q4 k' q5 m q6 z' kd q7 q8 q9 q10 _
          split at ht
          · rename_i hz
            simp only [Bool.and_eq_true, decide_eq_true_eq] at hz
            obtain ⟨⟨⟨⟨⟨⟨⟨rfl, rfl⟩, rfl⟩, rfl⟩, z1⟩, z2⟩, z3⟩, z4⟩ := hz
            obtain ⟨g1, g2, g3⟩ := gl z3
            have ok : ClOk X cadr x c ∧ z' = z := by
              split at ht
              · rename_i hv
                rw [decide_eq_true_eq] at hv
                split at ht
                · rename_i hf
                  cases ht
                  exact ⟨⟨g1, g2, g3, .inr ⟨rfl, hbi x (List.contains_iff_mem.mp hf), hv⟩⟩, rfl⟩
                · cases ht
              · obtain ⟨C, e2, e3⟩ := Option.map_eq_some_iff.mp ht
                cases e3
                have E := hex x C e2
                exact ⟨⟨g1, g2, g3, .inl ⟨C, rfl, E.gC, E.eP.hd, E.tP, E.bP⟩⟩, rfl⟩
            obtain ⟨ok, rfl⟩ := ok
            exact ⟨_, x, _, q1, q2, q3, q4, q5, q6, q7, q8, q9, q10, kd, rfl, rfl, rfl, (gl z1).1, hbi _ (List.contains_iff_mem.mp z2), ok, z4⟩
          · cases ht
        · cases ht
      · cases h
theorem pin_mk {P : Program} {w : World} {base : Heap} {F : FnD} {ts : List (Option Nat × Str)} (at' : FnAt K mg F) (S : FnScope F.N F.ps (defScope F.st)) (h : cWords free ex F = some ts) (hbi : ∀ x ∈ free, mg x = none) (hex : ∀ x C, ex.lookup x = some C → ExcAt K mg (cadr C) x) :
    ∃ fa fd y, mg F.x = some (.ref fa) ∧ PySem.W.keepIn K (.ref fa) = true ∧ Binds K fd [y] [] ∧ FnPin P w K mg base cadr fa fd y ts := by
  obtain ⟨fa, fd, Fu, e1, e2, _⟩ := at'.ex
  unfold cWords at h
  split at h
  · rename_i y y' k k' q1 q2 q3 sts hp hN ht
    split at h
    · rename_i hz
      simp only [Bool.and_eq_true, decide_eq_true_eq] at hz
      obtain ⟨⟨⟨⟨rfl, rfl⟩, z1⟩, z2⟩, z3⟩ := hz
      split at h
      · rename_i ts' hw
        split at h
        · rename_i hl
          cases h
          rw [decide_eq_true_eq] at hl
          rw [hp] at e2 S
          rw [hN] at S
          obtain ⟨_, v1, v2, v3⟩ := slotOf_ok z1
          obtain ⟨_, u1, u2, u3⟩ := slotOf_ok z2
          exact ⟨fa, fd, y, e1, Fu.kp, e2, pin_of Fu S ht v1 u1 (.inl z3) v2 v3 u2 u3 (fun X eK eM eS => wordsC_ok (by rw [eM]; exact hbi) (by rw [eK, eM]; exact hex) eS sts _ hw) hl⟩
        · cases h
      · cases h
    · cases h
  · cases h
end
/-! ### the law -/
def spLaw (K : PySem.W.Frag) : Sp := fun vs H Q _ => ∃ (a : Addr) (ns : List Int), vs = [.ref a] ∧ Only H ∧ SqL K H a (ns.map V.int) ∧ ns.length ≤ 63 ∧ ∀ H', Q (.bl true) H'
theorem denl_int {O : Addr → Prop} {H : Hp} : ∀ ns : List Int, DenL K O H (ns.map V.int) (ns.map Dat.int)
  | [] => .nil
  | n :: ns => .cons (.int n) (denl_int ns)
theorem ro_of {H : Hp} {a : Addr} {vs : List V} (h1 : Only H) (h : SqL K H a vs) : RoR K H a vs := by
  rcases h with (h | h) | h
  · rcases h1 a with q | ⟨o, xs, q⟩
    · rw [h] at q; cases q
    · rw [h] at q; cases q
  · exact .inl h
  · exact .inr h
theorem law_of {n f : Nat} {fa : Addr} {fd : FuncData} {ps : List Str} (hlaw : ∀ ns : List Int, ns.length ≤ 63 → callF fns gl n f [.rol (ns.map Dat.int)] = .ok (.bl true))
    (h : FnOk P w K mg base (L2.CX P w) (2 * n) fa fd ps (spF (Wn fns gl cadr n) K f 1)) : FnOk P w K mg base (L2.CX P w) (2 * n) fa fd ps (spLaw K) := by
  refine h.imp fun vs H Q E q => ?_
  obtain ⟨a, ns, rfl, h1, h2, h3, h4⟩ := q
  refine ⟨O0, [.rol (ns.map Dat.int)], .cons (.rol (ro_of h1 h2) (denl_int ns)) .nil, fun a z => z.elim, rfl, ?_⟩
  show Post (callF fns gl n f _) _ _
  rw [hlaw ns h3]
  intro v H' s p
  cases p.any
  exact h4 H'
theorem cx_none {H : Hp} {s s' : Shared} {e : Value} : L2.CX P w [] H s (fun _ _ _ => False) e s' → False := fun ⟨_, _, _, _, _, _, _, _, _, _, _, _, z⟩ => z
/-- the premises of a def, as k_is shows them -/
theorem fnAt_mk {h : Heap} {F : FnD} (X : K.In h) (G : h.Ns mainGlobals mg) {f : Addr} {oc : Value} {od an : Option Addr} {osl : Array (Option Value)} {kV doc pm cdv ct : Value} (a : PySem.W.nsIn K mainGlobals F.x = some (some (.ref f)))
    (l : K.lookup f = some ⟨oc, od, .func (PySem.W.fnOf F.x F.x (defArgs F.st) (defBody F.st) (defScope F.st) .none kV doc pm an cdv ct), osl⟩) (c : PySem.W.codeIn K cdv F.x = true) (k : PySem.W.keepIn K (.ref f) = true)
    (hb : ∀ (kV doc pm : Value) (an : Option Addr) (cdv ct : Value) (us : List Value), us.length = F.ps.length → bindArgs (PySem.W.fnOf F.x F.x (defArgs F.st) (defBody F.st) (defScope F.st) .none kV doc pm an cdv ct) ⟨us, []⟩ = pure (F.ps.zip us)) (hd : F.dv = [] := by rfl) : FnAt K mg F :=
  ⟨_, _, .of (fun_mk l c k), PySem.W.mg_of X G a, (fun_mk l c k).binds hb, fun z => absurd hd z⟩
/-- .. of a def whose last parameters have whole numbers as defaults -/
theorem fnAt_mkD {h : Heap} {F : FnD} (X : K.In h) (G : h.Ns mainGlobals mg) {f T : Addr} {oc go : Value} {od an gd : Option Addr} {osl gs : Array (Option Value)} {kV doc pm cdv ct : Value} {gi : Array Value} {gn : Nat} {its : List Value} (a : PySem.W.nsIn K mainGlobals F.x = some (some (.ref f)))
    (l : K.lookup f = some ⟨oc, od, .func (PySem.W.fnOf F.x F.x (defArgs F.st) (defBody F.st) (defScope F.st) (.ref T) kV doc pm an cdv ct), osl⟩) (c : PySem.W.codeIn K cdv F.x = true) (k : PySem.W.keepIn K (.ref f) = true) (lT : K.lookup T = some ⟨go, gd, .seq gi gn, gs⟩) (iT : gi.toList = its) (vT : Vals (F.dv.map V.int) its) (hn : F.dv ≠ []) (hl : F.dv.length ≤ F.ps.length)
    (h1 : ∀ (T : Addr) (kV doc pm : Value) (an : Option Addr) (cdv ct : Value) (us its : List Value), us.length = F.ps.length → its.length = F.dv.length → ∃ k, bindArgs (PySem.W.fnOf F.x F.x (defArgs F.st) (defBody F.st) (defScope F.st) (.ref T) kV doc pm an cdv ct) ⟨us, []⟩ = seqItems? (.ref T) >>= k ∧ k (some its.toArray) = pure (F.ps.zip us))
    (h2 : ∀ (T : Addr) (kV doc pm : Value) (an : Option Addr) (cdv ct : Value) (us its : List Value), us.length = F.ps.length - F.dv.length → its.length = F.dv.length → ∃ k, bindArgs (PySem.W.fnOf F.x F.x (defArgs F.st) (defBody F.st) (defScope F.st) (.ref T) kV doc pm an cdv ct) ⟨us, []⟩ = seqItems? (.ref T) >>= k ∧ k (some its.toArray) = pure (F.ps.zip (us ++ its))) : FnAt K mg F := by
  have FD : L2.FunD K F.x F.x (defArgs F.st) (defBody F.st) (defScope F.st) (F.dv.map V.int) [] f (PySem.W.fnOf F.x F.x (defArgs F.st) (defBody F.st) (defScope F.st) (.ref T) kV doc pm an cdv ct) :=
    ⟨⟨oc, od, .ref T, kV, doc, pm, an, cdv, ct, osl, rfl, l, c, .inr ⟨fun z => hn (List.map_eq_nil_iff.mp z), T, _, its, gn, rfl, lT, by rw [← iT], vT⟩, .inl rfl⟩, k⟩
  have ml : (F.dv.map V.int).length = F.dv.length := List.length_map ..
  have ne : F.dv.map V.int ≠ [] := fun z => hn (List.map_eq_nil_iff.mp z)
  obtain ⟨d1, v1, b1⟩ := FD.binds1 (ps := F.ps) F.ps.length F.dv.length ne (by omega) fun T kV doc pm an cdv ct us its e1 e2 => by
    obtain ⟨k, q1, q2⟩ := h1 T kV doc pm an cdv ct us its e1 (by rw [e2, ml])
    refine ⟨k, q1, ?_⟩
    rw [List.drop_eq_nil_of_le (by rw [e2, ml]; exact Nat.le_refl _), List.append_nil]
    exact q2
  obtain ⟨d2, v2, b2⟩ := FD.binds1 (ps := F.ps) (F.ps.length - F.dv.length) 0 ne (by omega) fun T kV doc pm an cdv ct us its e1 e2 => by
    obtain ⟨k, q1, q2⟩ := h2 T kV doc pm an cdv ct us its e1 (by rw [e2, ml])
    exact ⟨k, q1, q2⟩
  rw [List.drop_eq_nil_of_le (by rw [ml]; exact Nat.le_refl _)] at v1
  cases v1
  exact ⟨_, _, ⟨⟨oc, od, .ref T, kV, doc, pm, an, cdv, ct, osl, rfl, l, c⟩, k⟩, PySem.W.mg_of X G a, b1, fun _ => ⟨hl, d2, b2, v2⟩⟩

theorem rv_int {i : Int} {t : Tok} : RelV (.int i) (.int i t) := ⟨_, rfl⟩
theorem rv_str {x : Str} {t : Tok} : RelV (.str x) (.str x t) := ⟨_, rfl⟩
theorem rv_ref {a : Addr} : RelV (.ref a) (.ref a) := rfl
theorem rv_bl {b : Bool} : RelV (.bl b) (.bool b) := rfl
theorem rv_non : RelV .non .none := rfl
def absV1 : Value → Option Dat
  | .none => some .non
  | .bool b => some (.bl b)
  | .int i _ => some (.int i)
  | .str x _ => some (.str x)
  | _ => none
theorem glo_mk {x : Str} {u : Value} {d : Dat} (h : mg x = some u) (r : absV1 u = some d) : ∃ v u, mg x = some u ∧ RelV v u ∧ ∀ O H, Den K O H v d := by
  cases u <;> first | cases r | skip
  · exact ⟨.non, _, h, rfl, fun _ _ => .non⟩
  · exact ⟨.bl _, _, h, rfl, fun _ _ => .bl _⟩
  · exact ⟨.int _, _, h, ⟨_, rfl⟩, fun _ _ => .int _⟩
  · exact ⟨.str _, _, h, ⟨_, rfl⟩, fun _ _ => .str _⟩
theorem sqT_glo {H : Hp} {ga : Addr} {go : Value} {gd : Option Addr} {gi : Array Value} {gn : Nat} {gs : Array (Option Value)} {us : List Value} {vs : List V} (h : K.lookup ga = some ⟨go, gd, .seq gi gn, gs⟩) (t : go = .type "tuple") (v : gi.toList = us) (hv : Vals vs us) (hn : us.length ≤ 1000) : SqT K H ga vs := by
  refine .inr ⟨_, gi, gn, h, t, rfl, ?_, by rw [v]; exact hv⟩
  have e : gi.size = us.length := by rw [← v, Array.length_toList]
  rw [e]
  exact Nat.le_of_lt (small1000 hn)
end
end PV

/-! PV, part O: reading the compact program -/
namespace PV
open PySem PySem.Spec PyProof.Rows L2
section
variable {cf : Nat → List Dat → Rs Dat} {gl : Nat → Dat} {rf : Nat → Rf} {ρ : Env} {κ : Kd}
@[simp] theorem getV_zero {d : Dat} : getV (some d :: ρ) 0 = .ok d := eq_of_heq HEq.rfl
@[simp] theorem getV_succ {o : Option Dat} {i : Nat} : getV (o :: ρ) (i + 1) = getV ρ i := eq_of_heq HEq.rfl
@[simp] theorem evE_var {i : Nat} : evE cf gl (.var i) ρ = getV ρ i := eq_of_heq HEq.rfl
@[simp] theorem evE_cst {d : Dat} : evE cf gl (.cst d) ρ = .ok d := eq_of_heq HEq.rfl
@[simp] theorem evE_glo {g : Nat} : evE cf gl (.glo g) ρ = .ok (gl g) := eq_of_heq HEq.rfl
@[simp] theorem evE_tup {es : List Ex} : evE cf gl (.tup es) ρ = (evL cf gl es ρ).bind fun ds => .ok (.tup ds) := by simp only [evE]
@[simp] theorem evE_lst {es : List Ex} : evE cf gl (.lst es) ρ = (evL cf gl es ρ).bind fun ds => .ok (.lst ds) := by simp only [evE]
@[simp] theorem evE_bin {op : Bop} {a b : Ex} : evE cf gl (.bin op a b) ρ = (evE cf gl a ρ).bind fun x => (evE cf gl b ρ).bind fun y => binop op x y := by simp only [evE]
@[simp] theorem evE_neg {a : Ex} : evE cf gl (.neg a) ρ = (evE cf gl a ρ).bind negD := by simp only [evE]
@[simp] theorem evE_cmp {op : Cop} {a b : Ex} : evE cf gl (.cmp op a b) ρ = (evE cf gl a ρ).bind fun x => (evE cf gl b ρ).bind fun y => cmpop op x y := by simp only [evE]
@[simp] theorem evE_isn {n : Bool} {a : Ex} : evE cf gl (.isn n a) ρ = (evE cf gl a ρ).bind fun x => .ok (.bl (if n then !isNonD x else isNonD x)) := by simp only [evE]
@[simp] theorem evE_and {a b : Ex} : evE cf gl (.and a b) ρ = (evE cf gl a ρ).bind fun x => (truth x).bind fun k => if k then (evE cf gl b ρ).bind fun y => (truth y).bind fun k => .ok (.bl k) else .ok (.bl false) := by simp only [evE]
@[simp] theorem evE_or {a b : Ex} : evE cf gl (.or a b) ρ = (evE cf gl a ρ).bind fun x => (truth x).bind fun k => if k then .ok (.bl true) else (evE cf gl b ρ).bind fun y => (truth y).bind fun k => .ok (.bl k) := by simp only [evE]
@[simp] theorem evE_not {a : Ex} : evE cf gl (.not a) ρ = (evE cf gl a ρ).bind fun x => (truth x).bind fun k => .ok (.bl (!k)) := by simp only [evE]
@[simp] theorem evE_ife {c a b : Ex} : evE cf gl (.ife c a b) ρ = (evE cf gl c ρ).bind fun x => (truth x).bind fun k => if k then evE cf gl a ρ else evE cf gl b ρ := by simp only [evE]
@[simp] theorem evE_idx {a i : Ex} : evE cf gl (.idx a i) ρ = (evE cf gl a ρ).bind fun x => (evE cf gl i ρ).bind fun y => idxD x y := by simp only [evE]
@[simp] theorem evE_slc {a : Ex} {lo hi : List Ex} : evE cf gl (.slc a lo hi) ρ = (evE cf gl a ρ).bind fun x => (evL cf gl lo ρ).bind fun l => (partD l).bind fun l => (evL cf gl hi ρ).bind fun h => (partD h).bind fun h => slcD x l h := by simp only [evE]
@[simp] theorem evE_cal {f : Nat} {es : List Ex} : evE cf gl (.cal f es) ρ = (evL cf gl es ρ).bind fun ds => cf f ds := by simp only [evE]
@[simp] theorem evE_bi {b : Bi} {es : List Ex} : evE cf gl (.bi b es) ρ = (evL cf gl es ρ).bind fun ds => doBi b ds := by simp only [evE]
@[simp] theorem evE_lrev {a : Ex} : evE cf gl (.lrev a) ρ = (evE cf gl a ρ).bind lrevD := by simp only [evE]
@[simp] theorem evE_bits {a : Ex} : evE cf gl (.bits a) ρ = (evE cf gl a ρ).bind bitsD := by simp only [evE]
@[simp] theorem evE_srt {a : Ex} {f : Nat} : evE cf gl (.srt a f) ρ = (evE cf gl a ρ).bind (srtD (cf f)) := by simp only [evE]
@[simp] theorem evE_srt1 {a : Ex} : evE cf gl (.srt1 a) ρ = (evE cf gl a ρ).bind srt1D := by simp only [evE]
@[simp] theorem evE_isi {a : Ex} {t : Ty} : evE cf gl (.isi a [t]) ρ = (evE cf gl a ρ).bind fun x => match tyOf x t with
    | some b => .ok (.bl b)
    | none => .no := by
  simp only [evE]
  congr 1
  funext x
  simp only [List.mapM_cons, List.mapM_nil]
  cases tyOf x t <;> simp
@[simp] theorem evE_comp {e : Ex} {t : Tgt} {s : Sr} {c : List Ex} : evE cf gl (.comp e t s c) ρ = (evS cf gl s ρ).bind fun xs => (mapC (fun x => (bindT t x ρ).bind fun ρ' => (evC cf gl c ρ').bind fun k => if k then (evE cf gl e ρ').bind fun y => .ok (some y) else .ok none) xs).bind fun ys =>
      if decide (ys.length ≤ sizeLine) then .ok (.lst ys) else .no := by simp only [evE]
@[simp] theorem evL_nil : evL cf gl [] ρ = .ok [] := eq_of_heq HEq.rfl
@[simp] theorem evL_cons {e : Ex} {es : List Ex} : evL cf gl (e :: es) ρ = (evE cf gl e ρ).bind fun x => (evL cf gl es ρ).bind fun xs => .ok (x :: xs) := by simp only [evL]
@[simp] theorem evC_nil : evC cf gl [] ρ = .ok true := eq_of_heq HEq.rfl
@[simp] theorem evC_cons {e : Ex} {es : List Ex} : evC cf gl (e :: es) ρ = (evE cf gl e ρ).bind fun x => (truth x).bind fun k => if k then evC cf gl es ρ else .ok false := by simp only [evC]
@[simp] theorem evS_seq {e : Ex} : evS cf gl (.seq e) ρ = (evE cf gl e ρ).bind itemsD := by simp only [evS]
@[simp] theorem evS_rng {es : List Ex} : evS cf gl (.rng es) ρ = (evL cf gl es ρ).bind rngD := by simp only [evS]
@[simp] theorem evS_zip {a b : Ex} : evS cf gl (.zip a b) ρ = (evE cf gl a ρ).bind fun x => (evE cf gl b ρ).bind fun y => zipD x y := by simp only [evS]
@[simp] theorem evS_zip3 {a b c : Ex} : evS cf gl (.zip3 a b c) ρ = (evE cf gl a ρ).bind fun x => (evE cf gl b ρ).bind fun y => (evE cf gl c ρ).bind fun z => zipD3 x y z := by simp only [evS]
@[simp] theorem evS_enm {e : Ex} : evS cf gl (.enm e) ρ = (evE cf gl e ρ).bind enmD := by simp only [evS]
@[simp] theorem evS_rev {e : Ex} : evS cf gl (.rev e) ρ = (evE cf gl e ρ).bind revD := by simp only [evS]
/-! ### operators at ints -/
@[simp] theorem bin_add {i j : Int} : binop .add (.int i) (.int j) = .ok (.int (i + j)) := eq_of_heq HEq.rfl
@[simp] theorem bin_sub {i j : Int} : binop .sub (.int i) (.int j) = .ok (.int (i - j)) := eq_of_heq HEq.rfl
theorem mul_ok {i j : Int} {a b : Nat} (hi : i.natAbs < 2 ^ a) (hj : j.natAbs < 2 ^ b) (h : a + b ≤ 134217728) : mulOk i j = true := by
  have x := PyProof.Rows.intBits_le hi
  have y := PyProof.Rows.intBits_le hj
  have z : Builtin.Int.intTooBig (Builtin.Int.intBits i + Builtin.Int.intBits j) = false := by
    unfold Builtin.Int.intTooBig
    rw [show bitsLine = 134217728 from rfl]
    simp only [gt_iff_lt, decide_eq_false_iff_not, Int.not_lt]
    omega
  unfold mulOk
  rw [z]
  simp
theorem bin_mul {i j : Int} (h : mulOk i j = true) : binop .mul (.int i) (.int j) = .ok (.int (i * j)) := by
  show (if mulOk i j = true then _ else _) = _
  rw [if_pos h]
/-- one factor of at most 64 bits -/
theorem mul_small {i j : Int} (h : i.natAbs < 2 ^ 64 ∨ j.natAbs < 2 ^ 64) : mulOk i j = true := by
  unfold mulOk
  rw [show shortFactorBits = 64 from rfl]
  rcases h with h | h
  · have x := PyProof.Rows.intBits_le h
    rw [decide_eq_false (p := Builtin.Int.intBits i > 64) (by omega)]
    simp
  · have x := PyProof.Rows.intBits_le h
    rw [decide_eq_false (p := Builtin.Int.intBits j > 64) (by omega)]
    simp
@[simp] theorem bin_mod {i j : Int} (h : j ≠ 0) : binop .mod (.int i) (.int j) = .ok (.int (i.fmod j)) := by
  show (if decide (j ≠ 0) = true then _ else _) = _
  rw [if_pos (decide_eq_true h)]
@[simp] theorem cmp_lt {i j : Int} : cmpop .lt (.int i) (.int j) = .ok (.bl (decide (i < j))) := eq_of_heq HEq.rfl
@[simp] theorem cmp_le {i j : Int} : cmpop .le (.int i) (.int j) = .ok (.bl (decide (i ≤ j))) := eq_of_heq HEq.rfl
@[simp] theorem cmp_gt {i j : Int} : cmpop .gt (.int i) (.int j) = .ok (.bl (decide (j < i))) := eq_of_heq HEq.rfl
@[simp] theorem cmp_ge {i j : Int} : cmpop .ge (.int i) (.int j) = .ok (.bl (decide (j ≤ i))) := eq_of_heq HEq.rfl
@[simp] theorem bin_fdiv {i j : Int} (h : divOk i j = true) : binop .fdiv (.int i) (.int j) = .ok (.int (i.fdiv j)) := by
  show (if divOk i j = true then _ else _) = _
  rw [if_pos h]
theorem div_small {i j : Int} (h0 : j ≠ 0) (h : j.natAbs < 2 ^ 250) : divOk i j = true := by
  unfold divOk Builtin.divisionGoesByPylong
  have h1 : j.natAbs ≠ 0 := by omega
  have h2 : j.natAbs.log2 < 250 := (Nat.log2_lt h1).mpr h
  have h3 : ¬ (j.natAbs.log2 / 30 + 1 > 300) := by omega
  rw [decide_eq_true h0]
  have hb : (j == 0) = false := by simpa using h0
  simp only [hb, Bool.false_eq_true, if_false, decide_eq_false h3, Bool.false_and, Bool.not_false, Bool.and_true]
theorem bin_pow {i j : Int} (h : powOk i j = true) : binop .pow (.int i) (.int j) = .ok (.int (i ^ j.toNat)) := by
  show (if powOk i j = true then _ else _) = _
  rw [if_pos h]
@[simp] theorem truth_bl {b : Bool} : truth (.bl b) = .ok b := eq_of_heq HEq.rfl
/-! ### built-ins -/
@[simp] theorem bi_lenl {xs : List Dat} : doBi .len [.lst xs] = .ok (.int xs.length) := eq_of_heq HEq.rfl
@[simp] theorem bi_lenr {xs : List Dat} : doBi .len [.rol xs] = .ok (.int xs.length) := eq_of_heq HEq.rfl
@[simp] theorem bi_lent {xs : List Dat} : doBi .len [.tup xs] = .ok (.int xs.length) := eq_of_heq HEq.rfl
@[simp] theorem bi_tupl {xs : List Dat} : doBi .tuple [.lst xs] = .ok (.tup xs) := eq_of_heq HEq.rfl
@[simp] theorem bi_tupt {xs : List Dat} : doBi .tuple [.tup xs] = .ok (.tup xs) := eq_of_heq HEq.rfl
@[simp] theorem bi_lisl {xs : List Dat} : doBi .list [.lst xs] = .ok (.lst xs) := eq_of_heq HEq.rfl
@[simp] theorem bi_list {xs : List Dat} : doBi .list [.tup xs] = .ok (.lst xs) := eq_of_heq HEq.rfl
@[simp] theorem bi_lisr {xs : List Dat} : doBi .list [.rol xs] = .ok (.lst xs) := eq_of_heq HEq.rfl
@[simp] theorem bi_abs {i : Int} : doBi .abs [.int i] = .ok (.int (if i < 0 then -i else i)) := eq_of_heq HEq.rfl
@[simp] theorem bi_min {i j : Int} : doBi .min2 [.int i, .int j] = .ok (.int (if j < i then j else i)) := eq_of_heq HEq.rfl
@[simp] theorem bi_max {i j : Int} : doBi .max2 [.int i, .int j] = .ok (.int (if j > i then j else i)) := eq_of_heq HEq.rfl
@[simp] theorem intsOf_map {ns : List Int} : intsOf (ns.map Dat.int) = some ns := by
  induction ns with
  | nil => rfl
  | cons n ns ih =>
    show (intsOf (ns.map Dat.int)).map (n :: ·) = _
    rw [ih]
    rfl
@[simp] theorem boolsOf_map {ns : List Bool} : boolsOf (ns.map Dat.bl) = some ns := by
  induction ns with
  | nil => rfl
  | cons n ns ih =>
    show (boolsOf (ns.map Dat.bl)).map (n :: ·) = _
    rw [ih]
    rfl
@[simp] theorem bi_sum {ns : List Int} : doBi .sum [.lst (ns.map Dat.int)] = .ok (.int ns.sum) := by
  show (match intsOf (ns.map Dat.int) with | some ns => Rs.ok (Dat.int ns.sum) | none => Rs.no) = _
  rw [intsOf_map]
@[simp] theorem bi_all {ns : List Bool} : doBi .all [.lst (ns.map Dat.bl)] = .ok (.bl (ns.all id)) := by
  show (match boolsOf (ns.map Dat.bl) with | some ns => Rs.ok (Dat.bl (ns.all id)) | none => Rs.no) = _
  rw [boolsOf_map]
@[simp] theorem bi_any {ns : List Bool} : doBi .any [.lst (ns.map Dat.bl)] = .ok (.bl (ns.any id)) := by
  show (match boolsOf (ns.map Dat.bl) with | some ns => Rs.ok (Dat.bl (ns.any id)) | none => Rs.no) = _
  rw [boolsOf_map]
@[simp] theorem items_l {xs : List Dat} : itemsD (.lst xs) = .ok xs := eq_of_heq HEq.rfl
@[simp] theorem items_t {xs : List Dat} : itemsD (.tup xs) = .ok xs := eq_of_heq HEq.rfl
@[simp] theorem items_r {xs : List Dat} : itemsD (.rol xs) = .ok xs := eq_of_heq HEq.rfl
@[simp] theorem zip_tt {xs ys : List Dat} : zipD (.tup xs) (.tup ys) = .ok ((xs.zip ys).map fun p => Dat.tup [p.1, p.2]) := eq_of_heq HEq.rfl
@[simp] theorem zip_tl {xs ys : List Dat} : zipD (.tup xs) (.lst ys) = .ok ((xs.zip ys).map fun p => Dat.tup [p.1, p.2]) := eq_of_heq HEq.rfl
@[simp] theorem zip_lt {xs ys : List Dat} : zipD (.lst xs) (.tup ys) = .ok ((xs.zip ys).map fun p => Dat.tup [p.1, p.2]) := eq_of_heq HEq.rfl
@[simp] theorem zip_ttt {xs ys zs : List Dat} : zipD3 (.tup xs) (.tup ys) (.tup zs) = .ok (zipL3 xs ys zs) := eq_of_heq HEq.rfl
@[simp] theorem zip_ltl {xs ys zs : List Dat} : zipD3 (.lst xs) (.tup ys) (.lst zs) = .ok (zipL3 xs ys zs) := eq_of_heq HEq.rfl
@[simp] theorem enm_l {xs : List Dat} : enmD (.lst xs) = .ok (xs.zipIdx.map fun p => Dat.tup [.int (p.2 : Nat), p.1]) := eq_of_heq HEq.rfl
@[simp] theorem enm_t {xs : List Dat} : enmD (.tup xs) = .ok (xs.zipIdx.map fun p => Dat.tup [.int (p.2 : Nat), p.1]) := eq_of_heq HEq.rfl
@[simp] theorem zip_ll {xs ys : List Dat} : zipD (.lst xs) (.lst ys) = .ok ((xs.zip ys).map fun p => Dat.tup [p.1, p.2]) := eq_of_heq HEq.rfl
@[simp] theorem ty_ii {i : Int} : tyOf (.int i) .int = some true := eq_of_heq HEq.rfl
@[simp] theorem ty_ib {i : Int} : tyOf (.int i) .bool = some false := eq_of_heq HEq.rfl
@[simp] theorem ty_tt {xs : List Dat} : tyOf (.tup xs) .tuple = some true := eq_of_heq HEq.rfl
@[simp] theorem ty_ll {xs : List Dat} : tyOf (.lst xs) .list = some true := eq_of_heq HEq.rfl
@[simp] theorem ty_tl {xs : List Dat} : tyOf (.tup xs) .list = some false := eq_of_heq HEq.rfl
@[simp] theorem ty_bb {b : Bool} : tyOf (.bl b) .bool = some true := eq_of_heq HEq.rfl
@[simp] theorem ty_ss {b : Str} : tyOf (.str b) .str = some true := eq_of_heq HEq.rfl
@[simp] theorem idx_rol {xs : List Dat} {i : Nat} {d : Dat} (h : xs[i]? = some d) : idxD (.rol xs) (.int i) = .ok d := by
  show (match atI xs (i : Int) with | some d => Rs.ok d | none => Rs.no) = _
  rw [atI_nat h]
@[simp] theorem idx_lst {xs : List Dat} {i : Nat} {d : Dat} (h : xs[i]? = some d) : idxD (.lst xs) (.int i) = .ok d := by
  show (match atI xs (i : Int) with | some d => Rs.ok d | none => Rs.no) = _
  rw [atI_nat h]
@[simp] theorem idx_tup {xs : List Dat} {i : Nat} {d : Dat} (h : xs[i]? = some d) : idxD (.tup xs) (.int i) = .ok d := by
  show (match atI xs (i : Int) with | some d => Rs.ok d | none => Rs.no) = _
  rw [atI_nat h]
/-! ### comprehensions, loops -/
theorem mapC_ok {α : Type} {f : Dat → Rs (Option Dat)} {g : α → Dat} {h : α → Dat} : ∀ {xs : List α}, (∀ x ∈ xs, f (g x) = .ok (some (h x))) → mapC f (xs.map g) = .ok (xs.map h)
  | [], _ => rfl
  | x :: xs, q => by
    show (match f (g x) with | .ok o => _ | _ => _) = _
    rw [q x List.mem_cons_self]
    show (mapC f (xs.map g)).bind _ = _
    rw [mapC_ok fun y hy => q y (List.mem_cons_of_mem _ hy)]
    rfl
theorem mapC_filter {α : Type} {f : Dat → Rs (Option Dat)} {g : α → Dat} {p : α → Bool} {h : α → Dat} : ∀ {xs : List α}, (∀ x ∈ xs, f (g x) = .ok (if p x then some (h x) else none)) → mapC f (xs.map g) = .ok ((xs.filter p).map h)
  | [], _ => rfl
  | x :: xs, q => by
    show (match f (g x) with | .ok o => _ | _ => _) = _
    rw [q x List.mem_cons_self]
    have ih := mapC_filter (xs := xs) fun y hy => q y (List.mem_cons_of_mem _ hy)
    rw [List.filter_cons]
    cases p x with
    | true =>
      show (mapC f (xs.map g)).bind _ = _
      rw [ih]
      rfl
    | false =>
      show (mapC f (xs.map g)).bind _ = _
      rw [ih]
      rfl
theorem loopF_inv {t : Tgt} {b : Kd → Env → Rs End} {κ : Kd} {α : Type} (g : α → Dat) (I : List α → Env → Prop) (hb : ∀ x xs ρ, I (x :: xs) ρ → ∃ ρ' κ' ρ'', bindT t (g x) ρ = .ok ρ' ∧ (b (bindK t .shr κ) ρ' = .ok (.nx κ' ρ'') ∨ b (bindK t .shr κ) ρ' = .ok (.ct κ' ρ'')) ∧ κ' = κ ∧ I xs ρ'') : ∀ (xs : List α) (ρ : Env), I xs ρ → ∃ ρ', loopF t b (xs.map g) κ ρ = .ok (.nx κ ρ') ∧ I [] ρ'
  | [], ρ, h => ⟨ρ, rfl, h⟩
  | x :: xs, ρ, h => by
    obtain ⟨ρ', κ', ρ'', h1, h2, rfl, h3⟩ := hb x xs ρ h
    obtain ⟨ρ3, h4, h5⟩ := loopF_inv g I hb xs ρ'' h3
    refine ⟨ρ3, ?_, h5⟩
    show (match bindT t (g x) ρ with | .ok ρ' => _ | _ => _) = _
    rw [h1]
    rcases h2 with h2 | h2
    · show (match b (bindK t .shr κ') ρ' with | .ok (.nx κ' ρ'') => _ | .ok (.ct κ' ρ'') => _ | .ok (.bk κ' ρ'') => _ | r => _) = _
      rw [h2]
      exact h4
    · show (match b (bindK t .shr κ') ρ' with | .ok (.nx κ' ρ'') => _ | .ok (.ct κ' ρ'') => _ | .ok (.bk κ' ρ'') => _ | r => _) = _
      rw [h2]
      exact h4
theorem callF_eq {fns : List FnD} {n f : Nat} {F : FnD} {ds : List Dat} (h : fns[f]? = some F) (hi : isIo F.rf = false) (hl : ds.length = F.ps.length) : callF fns gl (n + 1) f ds = endR F.rf (exSs (callF fns gl n) gl (rfs fns) F.body (kst F) (est F ds)) := by
  unfold callF
  rw [h]
  show (if _ then _ else _) = _
  rw [if_pos hl, hi, if_neg Bool.false_ne_true]
theorem callF_eqI {fns : List FnD} {n f : Nat} {F : FnD} {ds : List Dat} (h : fns[f]? = some F) (hi : isIo F.rf = true) (hl : ds.length = F.ps.length) : callF fns gl (n + 1) f ds = endI (exSs (callF fns gl n) gl (rfs fns) F.body (kst F) (est F ds)) := by
  unfold callF
  rw [h]
  show (if _ then _ else _) = _
  rw [if_pos hl, hi, if_pos rfl]
/-! ### statements -/
@[simp] theorem exSs_nil : exSs cf gl rf [] κ ρ = .ok (.nx κ ρ) := by simp only [exSs]
def seqR (r : Rs End) (k : Kd → Env → Rs End) : Rs End := match r with
  | .ok (.nx κ' ρ') => k κ' ρ'
  | r => r
@[simp] theorem seqR_nx {κ : Kd} {ρ : Env} {k : Kd → Env → Rs End} : seqR (.ok (.nx κ ρ)) k = k κ ρ := eq_of_heq HEq.rfl
@[simp] theorem seqR_r0 {κ : Kd} {ρ : Env} {k : Kd → Env → Rs End} : seqR (.ok (.r0 κ ρ)) k = .ok (.r0 κ ρ) := eq_of_heq HEq.rfl
@[simp] theorem seqR_rt {fl : Nat} {d : Dat} {k : Kd → Env → Rs End} : seqR (.ok (.rt fl d)) k = .ok (.rt fl d) := eq_of_heq HEq.rfl
@[simp] theorem seqR_bk {κ : Kd} {ρ : Env} {k : Kd → Env → Rs End} : seqR (.ok (.bk κ ρ)) k = .ok (.bk κ ρ) := eq_of_heq HEq.rfl
@[simp] theorem seqR_ct {κ : Kd} {ρ : Env} {k : Kd → Env → Rs End} : seqR (.ok (.ct κ ρ)) k = .ok (.ct κ ρ) := eq_of_heq HEq.rfl
@[simp] theorem seqR_xc {κ : Kd} {ρ : Env} {z : Dat} {k : Kd → Env → Rs End} : seqR (.ok (.xc κ ρ z)) k = .ok (.xc κ ρ z) := eq_of_heq HEq.rfl
theorem exSs_cons {s : Sm} {ss : List Sm} : exSs cf gl rf (s :: ss) κ ρ = seqR (exS cf gl rf s κ ρ) (exSs cf gl rf ss) := by
  conv => lhs; unfold exSs
  unfold seqR
  rfl
theorem st_asg {i : Nat} {e : Ex} {ss : List Sm} {d : Dat} {κ1 κ' : Kd} {r : Rs End} {fl : Nat} (he : evE cf gl e ρ = .ok d) (h1 : frz κ (leak rf e) = κ1) (hf : flE rf e κ1 = fl) (hf2 : decide (2 ≤ fl) = true) (hk : setK κ1 i (if isMut d && decide (3 ≤ fl) then .own else .shr) = κ') (k : exSs cf gl rf ss κ' (ρ.set i (some d)) = r) : exSs cf gl rf (.asg i e :: ss) κ ρ = r := by
  have hf2 := of_decide_eq_true hf2
  subst h1 hf
  rw [exSs_cons]
  unfold exS
  rw [he]
  simp only [onE]
  rw [if_neg (by omega), hk]
  exact k
theorem st_unp {is : List Nat} {e : Ex} {ss : List Sm} {d : Dat} {κ1 : Kd} {ρ' : Env} {r : Rs End} (he : evE cf gl e ρ = .ok d) (h1 : frz κ (leak rf e) = κ1) (hf : decide (2 ≤ flE rf e κ1) = true) (hb : bindT (.tp is) d ρ = .ok ρ') (k : exSs cf gl rf ss (bindK (.tp is) .shr κ1) ρ' = r) : exSs cf gl rf (.unp is e :: ss) κ ρ = r := by
  have hf := of_decide_eq_true hf
  subst h1
  rw [exSs_cons]
  unfold exS
  rw [he]
  simp only [onE]
  rw [if_neg (by omega), hb]
  exact k
theorem st_ret {e : Ex} {ss : List Sm} {d : Dat} {fl : Nat} (hv : isVar e = none) (he : evE cf gl e ρ = .ok d) (hf : flE rf e (frzA κ) = fl) : exSs cf gl rf (.ret e :: ss) κ ρ = .ok (.rt fl d) := by
  rw [exSs_cons]
  unfold exS
  rw [hv, he, hf]
  rfl
theorem st_retv {i : Nat} {ss : List Sm} {d : Dat} {k : SK} (he : getV ρ i = .ok d) (hf : kd κ i = k) : exSs cf gl rf (.ret (.var i) :: ss) κ ρ = .ok (.rt (if k = .own then 3 else 2) d) := by
  rw [exSs_cons]
  unfold exS
  simp only [isVar, he, hf]
  cases k <;> rfl
theorem st_ite {c : Ex} {a b ss : List Sm} {k : Bool} {r : Rs End} (he : evE cf gl c ρ = .ok (.bl k)) (h : seqR (if k then exSs cf gl rf a κ ρ else exSs cf gl rf b κ ρ) (exSs cf gl rf ss) = r) : exSs cf gl rf (.ite c a b :: ss) κ ρ = r := by
  rw [exSs_cons]
  unfold exS
  rw [he]
  exact h
theorem st_iteT {c : Ex} {a b ss : List Sm} {r : Rs End} (he : evE cf gl c ρ = .ok (.bl true)) (h : seqR (exSs cf gl rf a κ ρ) (exSs cf gl rf ss) = r) : exSs cf gl rf (.ite c a b :: ss) κ ρ = r := st_ite he h
theorem st_iteF {c : Ex} {a b ss : List Sm} {r : Rs End} (he : evE cf gl c ρ = .ok (.bl false)) (h : seqR (exSs cf gl rf b κ ρ) (exSs cf gl rf ss) = r) : exSs cf gl rf (.ite c a b :: ss) κ ρ = r := st_ite he h
/-- an if that is left alone -/
theorem st_ifF {c : Ex} {a ss : List Sm} {r : Rs End} (he : evE cf gl c ρ = .ok (.bl false)) (h : exSs cf gl rf ss κ ρ = r) : exSs cf gl rf (.ite c a [] :: ss) κ ρ = r := by
  refine st_iteF he ?_
  rw [exSs_nil]
  exact h
theorem st_ifT {c e : Ex} {b ss : List Sm} {d : Dat} {fl : Nat} (he : evE cf gl c ρ = .ok (.bl true)) (h : exSs cf gl rf [.ret e] κ ρ = .ok (.rt fl d)) : exSs cf gl rf (.ite c [.ret e] b :: ss) κ ρ = .ok (.rt fl d) := by
  refine st_iteT he ?_
  rw [h]
  rfl
theorem st_fr {t : Tgt} {s : Sr} {b ss : List Sm} {ds : List Dat} {κ1 κ2 : Kd} {ρ2 : Env} {r : Rs End} (h1 : lend (frz κ (leakS rf s)) s = κ1) (hf : (flS rf s κ1 && okS rf s κ1) = true) (he : evS cf gl s ρ = .ok ds) (hl : loopF t (exSs cf gl rf b) ds κ1 ρ = .ok (.nx κ2 ρ2)) (k : exSs cf gl rf ss (unlend (frz κ (leakS rf s)) κ2 s) ρ2 = r) : exSs cf gl rf (.fr t s b :: ss) κ ρ = r := by
  subst h1
  rw [exSs_cons]
  unfold exS
  rw [if_pos hf, he]
  simp only [hl]
  exact k
theorem st_frR {t : Tgt} {s : Sr} {b ss : List Sm} {ds : List Dat} {κ1 : Kd} {fl : Nat} {d : Dat} (h1 : lend (frz κ (leakS rf s)) s = κ1) (hf : (flS rf s κ1 && okS rf s κ1) = true) (he : evS cf gl s ρ = .ok ds) (hl : loopF t (exSs cf gl rf b) ds κ1 ρ = .ok (.rt fl d)) : exSs cf gl rf (.fr t s b :: ss) κ ρ = .ok (.rt fl d) := by
  subst h1
  rw [exSs_cons]
  unfold exS
  rw [if_pos hf, he]
  simp only [hl]
  rfl
theorem st_app {i : Nat} {e : Ex} {ss : List Sm} {d : Dat} {xs : List Dat} {κ1 : Kd} {r : Rs End} (h1 : frz κ (leak rf e) = κ1) (hf : decide (2 ≤ flE rf e κ1 ∧ isMu (kd κ1 i) = true) = true) (hg : getV ρ i = .ok (.lst xs)) (he : evE cf gl e ρ = .ok d) (hl : xs.length < sizeLine) (k : exSs cf gl rf ss κ1 (ρ.set i (some (.lst (xs ++ [d])))) = r) : exSs cf gl rf (.app i e :: ss) κ ρ = r := by
  have hf := of_decide_eq_true hf
  subst h1
  rw [exSs_cons]
  unfold exS
  rw [if_pos hf, hg]
  simp only [he, onE, decide_eq_true hl, if_true]
  exact k
/-! ### outcomes, statement by statement -/
/-- PostR, sealed -/
@[irreducible] def Out (r : Rs End) (P : End → Prop) : Prop := PostR r P
theorem Out.mk {r : Rs End} {P : End → Prop} (h : PostR r P) : Out r P := by
  unfold Out
  exact h
theorem Out.get {r : Rs End} {P : End → Prop} (h : Out r P) : PostR r P := by
  unfold Out at h
  exact h
theorem Out.ok {e : End} {P : End → Prop} (h : P e) : Out (.ok e) P := .mk h
section
variable {P : End → Prop} {ss : List Sm}
theorem o_nil (h : P (.nx κ ρ)) : Out (exSs cf gl rf [] κ ρ) P := by
  rw [exSs_nil]
  exact .ok h
theorem o_asg {i : Nat} {e : Ex} {d : Dat} {κ1 κ' : Kd} {fl : Nat} (he : evE cf gl e ρ = .ok d) (h1 : frz κ (leak rf e) = κ1) (hf : flE rf e κ1 = fl) (hf2 : decide (2 ≤ fl) = true) (hk : setK κ1 i (if isMut d && decide (3 ≤ fl) then .own else .shr) = κ') (k : Out (exSs cf gl rf ss κ' (ρ.set i (some d))) P) : Out (exSs cf gl rf (.asg i e :: ss) κ ρ) P := by
  rw [st_asg he h1 hf hf2 hk rfl]
  exact k
theorem o_unp {is : List Nat} {e : Ex} {d : Dat} {κ1 : Kd} {ρ' : Env} (he : evE cf gl e ρ = .ok d) (h1 : frz κ (leak rf e) = κ1) (hf : decide (2 ≤ flE rf e κ1) = true) (hb : bindT (.tp is) d ρ = .ok ρ') (k : Out (exSs cf gl rf ss (bindK (.tp is) .shr κ1) ρ') P) : Out (exSs cf gl rf (.unp is e :: ss) κ ρ) P := by
  rw [st_unp he h1 hf hb rfl]
  exact k
theorem o_ret {e : Ex} {d : Dat} {fl : Nat} (hv : isVar e = none) (he : evE cf gl e ρ = .ok d) (hf : flE rf e (frzA κ) = fl) (k : P (.rt fl d)) : Out (exSs cf gl rf (.ret e :: ss) κ ρ) P := by
  rw [st_ret hv he hf]
  exact .ok k
theorem o_retv {i : Nat} {d : Dat} {k : SK} (he : getV ρ i = .ok d) (hf : kd κ i = k) (h : P (.rt (if k = .own then 3 else 2) d)) : Out (exSs cf gl rf (.ret (.var i) :: ss) κ ρ) P := by
  rw [st_retv he hf]
  exact .ok h
theorem o_ret0 (h : P (.r0 κ ρ)) : Out (exSs cf gl rf (.ret0 :: ss) κ ρ) P := by
  rw [exSs_cons]
  unfold exS
  exact .ok h
/-- behind a branch -/
def thenP (cf : Nat → List Dat → Rs Dat) (gl : Nat → Dat) (rf : Nat → Rf) (ss : List Sm) (P : End → Prop) : End → Prop
  | .nx κ' ρ' => Out (exSs cf gl rf ss κ' ρ') P
  | e => P e
theorem seqR_post {r : Rs End} (h : Out r (thenP cf gl rf ss P)) : Out (seqR r (exSs cf gl rf ss)) P := by
  have h := h.get
  cases r with
  | ok e => cases e <;> first | exact h | exact .ok h
  | ex z => exact False.elim h
  | no => exact False.elim h
theorem o_ite {c : Ex} {a b : List Sm} {k : Bool} (he : evE cf gl c ρ = .ok (.bl k)) (hT : k = true → Out (exSs cf gl rf a κ ρ) (thenP cf gl rf ss P)) (hF : k = false → Out (exSs cf gl rf b κ ρ) (thenP cf gl rf ss P)) : Out (exSs cf gl rf (.ite c a b :: ss) κ ρ) P := by
  rw [st_ite he rfl]
  cases k with
  | true => exact seqR_post (hT rfl)
  | false => exact seqR_post (hF rfl)
theorem o_if {c : Ex} {a : List Sm} {k : Bool} (he : evE cf gl c ρ = .ok (.bl k)) (hT : k = true → Out (exSs cf gl rf a κ ρ) (thenP cf gl rf ss P)) (hF : k = false → Out (exSs cf gl rf ss κ ρ) P) : Out (exSs cf gl rf (.ite c a [] :: ss) κ ρ) P := o_ite he hT fun e => o_nil (hF e)
theorem o_ifF {c : Ex} {a : List Sm} (he : evE cf gl c ρ = .ok (.bl false)) (h : Out (exSs cf gl rf ss κ ρ) P) : Out (exSs cf gl rf (.ite c a [] :: ss) κ ρ) P := o_if he (fun e => by cases e) fun _ => h
theorem o_iteT {c : Ex} {a b : List Sm} (he : evE cf gl c ρ = .ok (.bl true)) (h : Out (exSs cf gl rf a κ ρ) (thenP cf gl rf ss P)) : Out (exSs cf gl rf (.ite c a b :: ss) κ ρ) P := o_ite he (fun _ => h) fun e => by cases e
theorem o_iteF {c : Ex} {a b : List Sm} (he : evE cf gl c ρ = .ok (.bl false)) (h : Out (exSs cf gl rf b κ ρ) (thenP cf gl rf ss P)) : Out (exSs cf gl rf (.ite c a b :: ss) κ ρ) P := o_ite he (fun e => by cases e) fun _ => h
def forP (cf : Nat → List Dat → Rs Dat) (gl : Nat → Dat) (rf : Nat → Rf) (ss : List Sm) (κ0 : Kd) (s : Sr) (P : End → Prop) : End → Prop
  | .nx κ' ρ' => Out (exSs cf gl rf ss (unlend κ0 κ' s) ρ') P
  | .bk _ _ => False
  | .ct _ _ => False
  | e => P e
theorem o_fr {t : Tgt} {s : Sr} {b : List Sm} {ds : List Dat} {κ1 : Kd} (h1 : lend (frz κ (leakS rf s)) s = κ1) (hf : (flS rf s κ1 && okS rf s κ1) = true) (he : evS cf gl s ρ = .ok ds) (hl : Out (loopF t (exSs cf gl rf b) ds κ1 ρ) (forP cf gl rf ss (frz κ (leakS rf s)) s P)) : Out (exSs cf gl rf (.fr t s b :: ss) κ ρ) P := by
  subst h1
  rw [exSs_cons]
  unfold exS
  rw [if_pos hf, he]
  have hl := hl.get
  dsimp only
  generalize hr : loopF t (exSs cf gl rf b) ds (lend (frz κ (leakS rf s)) s) ρ = r at hl ⊢
  cases r with
  | ok e => cases e <;> first | exact hl | exact .ok hl | exact False.elim hl
  | ex z => exact False.elim hl
  | no => exact False.elim hl
theorem forP_nx {κ0 κ1 κ' : Kd} {s : Sr} {ρ' : Env} (e : unlend κ0 κ' s = κ1) (h : Out (exSs cf gl rf ss κ1 ρ') P) : forP cf gl rf ss κ0 s P (.nx κ' ρ') := by
  subst e
  exact h
theorem thenP_nx {κ' : Kd} {ρ' : Env} (h : Out (exSs cf gl rf ss κ' ρ') P) : thenP cf gl rf ss P (.nx κ' ρ') := h
/-- what a turn of a loop must come to -/
def turnP (I : Kd → Env → Prop) (P : End → Prop) : End → Prop
  | .nx κ ρ => I κ ρ
  | .ct κ ρ => I κ ρ
  | .bk κ ρ => P (.nx κ ρ)
  | e => P e
theorem for_inv {t : Tgt} {b : Kd → Env → Rs End} {α : Type} (g : α → Dat) (I : List α → Kd → Env → Prop) (hb : ∀ x xs κ ρ, I (x :: xs) κ ρ → ∃ ρ', bindT t (g x) ρ = .ok ρ' ∧ Out (b (bindK t .shr κ) ρ') (turnP (I xs) P)) (h0 : ∀ κ ρ, I [] κ ρ → P (.nx κ ρ)) : ∀ (xs : List α) (κ : Kd) (ρ : Env), I xs κ ρ → Out (loopF t b (xs.map g) κ ρ) P
  | [], κ, ρ, h => .ok (h0 κ ρ h)
  | x :: xs, κ, ρ, h => by
    obtain ⟨ρ', h1, h2⟩ := hb x xs κ ρ h
    have h2 := h2.get
    refine .mk ?_
    show PostR (match bindT t (g x) ρ with | .ok ρ' => _ | _ => _) P
    rw [h1]
    show PostR (match b (bindK t .shr κ) ρ' with | .ok (.nx κ' ρ'') => _ | .ok (.ct κ' ρ'') => _ | .ok (.bk κ' ρ'') => _ | r => _) P
    generalize b (bindK t .shr κ) ρ' = r at h2 ⊢
    cases r with
    | ok e =>
      cases e with
      | nx κ' ρ'' => exact (for_inv g I hb h0 xs κ' ρ'' h2).get
      | ct κ' ρ'' => exact (for_inv g I hb h0 xs κ' ρ'' h2).get
      | bk κ' ρ'' => exact h2
      | rt fl d => exact h2
      | xc κ' ρ'' z => exact h2
      | r0 κ' ρ'' => exact h2
    | ex z => exact False.elim h2
    | no => exact False.elim h2
theorem lt_fuel {m k : Nat} (h : m < 2 ^ k) (hk : k ≤ 2 ^ 20) : m < FUEL := by
  unfold FUEL
  exact Nat.lt_of_lt_of_le h (Nat.pow_le_pow_right (by decide) hk)
theorem whl_inv {c : Env → Rs Bool} {b : Kd → Env → Rs End} (I : Nat → Kd → Env → Prop) (hb : ∀ m κ ρ, I m κ ρ → (c ρ = .ok false ∧ P (.nx κ ρ)) ∨ (c ρ = .ok true ∧ Out (b κ ρ) (turnP (fun κ' ρ' => ∃ m', m' < m ∧ I m' κ' ρ') P))) : ∀ (n m : Nat) (κ : Kd) (ρ : Env), m < n → I m κ ρ → Out (loopW c b n κ ρ) P
  | 0, m, κ, ρ, h, _ => absurd h (Nat.not_lt_zero _)
  | n + 1, m, κ, ρ, h, hI => by
    unfold loopW
    rcases hb m κ ρ hI with ⟨h1, h2⟩ | ⟨h1, h2⟩
    · rw [h1]
      exact .ok h2
    · rw [h1]
      have h2 := h2.get
      refine .mk ?_
      show PostR (match b κ ρ with | .ok (.nx κ' ρ'') => _ | .ok (.ct κ' ρ'') => _ | .ok (.bk κ' ρ'') => _ | r => _) P
      generalize b κ ρ = r at h2 ⊢
      cases r with
      | ok e =>
        cases e with
        | nx κ' ρ'' =>
          obtain ⟨m', h3, h4⟩ := h2
          exact (whl_inv I hb n m' κ' ρ'' (by omega) h4).get
        | ct κ' ρ'' =>
          obtain ⟨m', h3, h4⟩ := h2
          exact (whl_inv I hb n m' κ' ρ'' (by omega) h4).get
        | bk κ' ρ'' => exact h2
        | rt fl d => exact h2
        | xc κ' ρ'' z => exact h2
        | r0 κ' ρ'' => exact h2
      | ex z => exact False.elim h2
      | no => exact False.elim h2
theorem o_whl {c : Ex} {b : List Sm} (I : Nat → Kd → Env → Prop) {m : Nat} (hm : m < FUEL) (h0 : I m κ ρ) (hb : ∀ m κ ρ, I m κ ρ → (evE cf gl c ρ = .ok (.bl false) ∧ Out (exSs cf gl rf ss κ ρ) P) ∨ (evE cf gl c ρ = .ok (.bl true) ∧ Out (exSs cf gl rf b κ ρ) (turnP (fun κ' ρ' => ∃ m', m' < m ∧ I m' κ' ρ') (thenP cf gl rf ss P)))) : Out (exSs cf gl rf (.whl c b :: ss) κ ρ) P := by
  rw [exSs_cons]
  unfold exS
  refine seqR_post (whl_inv I (fun m κ ρ hI => ?_) FUEL m κ ρ hm h0)
  rcases hb m κ ρ hI with ⟨h1, h2⟩ | ⟨h1, h2⟩
  · exact .inl ⟨by rw [h1]; rfl, h2⟩
  · exact .inr ⟨by rw [h1]; rfl, h2⟩
theorem o_brk (h : P (.bk κ ρ)) : Out (exSs cf gl rf (.brk :: ss) κ ρ) P := by
  rw [exSs_cons]
  unfold exS
  exact .ok h
theorem o_cnt (h : P (.ct κ ρ)) : Out (exSs cf gl rf (.cnt :: ss) κ ρ) P := by
  rw [exSs_cons]
  unfold exS
  exact .ok h
theorem o_pas (h : Out (exSs cf gl rf ss κ ρ) P) : Out (exSs cf gl rf (.pas :: ss) κ ρ) P := by
  rw [exSs_cons]
  unfold exS
  exact h
theorem o_rse {C : Nat} (h : P (.xc κ ρ (.exc C []))) : Out (exSs cf gl rf (.rse C :: ss) κ ρ) P := by
  rw [exSs_cons]
  unfold exS
  exact .ok h
theorem o_cio {f i : Nat} {es : List Ex} {ds : List Dat} {d0 d1 : Dat} {κ1 : Kd} (h1 : frz κ (leak.leakL rf es) = κ1) (hf : decide (flL rf es κ1 = true ∧ isMu (kd κ1 i) = true) = true) (hg : getV ρ i = .ok d0) (he : evL cf gl es ρ = .ok ds) (hc : cf f (d0 :: ds) = .ok d1) (k : Out (exSs cf gl rf ss κ1 (ρ.set i (some d1))) P) : Out (exSs cf gl rf (.cio f i es :: ss) κ ρ) P := by
  have hf := of_decide_eq_true hf
  subst h1
  rw [exSs_cons]
  unfold exS
  rw [if_pos hf, hg]
  simp only [he, hc]
  exact k
theorem o_exp {e : Ex} {d : Dat} (he : evE cf gl e ρ = .ok d) (h : Out (exSs cf gl rf ss κ ρ) P) : Out (exSs cf gl rf (.exp e :: ss) κ ρ) P := by
  rw [exSs_cons]
  unfold exS
  rw [he]
  exact h
theorem o_app {i : Nat} {e : Ex} {d : Dat} {xs : List Dat} {κ1 : Kd} (h1 : frz κ (leak rf e) = κ1) (hf : decide (2 ≤ flE rf e κ1 ∧ isMu (kd κ1 i) = true) = true) (hg : getV ρ i = .ok (.lst xs)) (he : evE cf gl e ρ = .ok d) (hl : xs.length < sizeLine) (k : Out (exSs cf gl rf ss κ1 (ρ.set i (some (.lst (xs ++ [d]))))) P) : Out (exSs cf gl rf (.app i e :: ss) κ ρ) P := by
  rw [st_app h1 hf hg he hl rfl]
  exact k
theorem o_xtd {i : Nat} {e : Ex} {xs ys : List Dat} {κ1 : Kd} (h1 : frz κ (leak rf e) = κ1) (hf : decide (2 ≤ flE rf e κ1 ∧ isMu (kd κ1 i) = true) = true) (hg : getV ρ i = .ok (.lst xs)) (he : evE cf gl e ρ = .ok (.lst ys)) (hl : xs.length + ys.length ≤ 1000) (k : Out (exSs cf gl rf ss κ1 (ρ.set i (some (.lst (xs ++ ys))))) P) : Out (exSs cf gl rf (.xtd i e :: ss) κ ρ) P := by
  have hf := of_decide_eq_true hf
  subst h1
  have hs : xs.length + ys.length ≤ sizeLine := Nat.le_of_lt (small1000 hl)
  rw [exSs_cons]
  unfold exS
  rw [if_pos hf, hg]
  simp only [he, onE, decide_eq_true hs, if_true]
  exact k
theorem o_ins {i : Nat} {k e : Ex} {d : Dat} {xs : List Dat} {κ1 : Kd} {m : Int} (h1 : frz κ (leak rf e) = κ1) (hf : decide (2 ≤ flE rf e κ1 ∧ isMu (kd κ1 i) = true) = true) (hg : getV ρ i = .ok (.lst xs)) (hk : evE cf gl k ρ = .ok (.int m)) (he : evE cf gl e ρ = .ok d) (hm : 0 ≤ m) (hm2 : m < 1000000) (hl : xs.length < sizeLine) (q : Out (exSs cf gl rf ss κ1 (ρ.set i (some (.lst (xs.take m.toNat ++ [d] ++ xs.drop m.toNat))))) P) : Out (exSs cf gl rf (.ins i k e :: ss) κ ρ) P := by
  have hf := of_decide_eq_true hf
  subst h1
  rw [exSs_cons]
  unfold exS
  rw [if_pos hf, hg]
  simp only [he, hk, onE, hm, hm2, hl, decide_true, Bool.and_self, if_true]
  exact q
theorem o_par {i j : Nat} {a b : Ex} {d d2 : Dat} {κ' : Kd} (ha : evE cf gl a ρ = .ok d) (hb : evE cf gl b ρ = .ok d2) (hf : (decide (2 ≤ flE rf a κ) && decide (2 ≤ flE rf b κ)) = true) (hm : isMut d = false) (hm2 : isMut d2 = false) (hk : setK (setK κ i .shr) j .shr = κ') (q : Out (exSs cf gl rf ss κ' ((ρ.set i (some d)).set j (some d2))) P) : Out (exSs cf gl rf (.par i j a b :: ss) κ ρ) P := by
  subst hk
  rw [exSs_cons]
  unfold exS
  simp only [ha, hb, onE, hf, hm, hm2, Bool.not_false, Bool.and_self, if_true]
  exact q
theorem o_sti {i j : Nat} {k e : Ex} {d : Dat} {xs : List Dat} {κ1 : Kd} {m : Int} (h1 : frz κ (leak rf e) = κ1) (hf : decide (2 ≤ flE rf e κ1 ∧ isMu (kd κ1 i) = true) = true) (hg : getV ρ i = .ok (.lst xs)) (he : evE cf gl e ρ = .ok d) (hk : evE cf gl k ρ = .ok (.int m)) (hj : ixN xs.length m = some j) (q : Out (exSs cf gl rf ss κ1 (ρ.set i (some (.lst (xs.set j d))))) P) : Out (exSs cf gl rf (.sti i k e :: ss) κ ρ) P := by
  have hf := of_decide_eq_true hf
  subst h1
  rw [exSs_cons]
  unfold exS
  rw [if_pos hf, hg]
  simp only [he, hk, onE, hj]
  exact q
end
@[simp] theorem neg_int {i : Int} : negD (.int i) = .ok (.int (-i)) := eq_of_heq HEq.rfl
end
end PV

/-! PV, part P: data of one shape: ==, in, what is pure -/
namespace PV
open PySem PySem.Spec PyProof.Rows L2
/-- e writes a type's values as data; == over the data is = -/
structure Nice {α : Type} [DecidableEq α] (e : α → Dat) (n : Nat) : Prop where
  ex : ∃ py : α → PyData, (∀ x, toPy (e x) = some (py x)) ∧ (∀ x, (py x).canLay0 = true) ∧ (∀ x, (py x).depth ≤ n) ∧ ∀ x y, PyData.eqv (py x) (py y) = decide (x = y)
theorem toPyL_map {α : Type} {e : α → Dat} {py : α → PyData} (h : ∀ x, toPy (e x) = some (py x)) : ∀ xs : List α, toPyL (xs.map e) = some (xs.map py)
  | [] => rfl
  | x :: xs => by
    show (match toPy (e x), toPyL (xs.map e) with | some p, some ps => some (p :: ps) | _, _ => none) = _
    rw [h x, toPyL_map h xs]
    rfl
theorem can_map {α : Type} {py : α → PyData} (h : ∀ x, (py x).canLay0 = true) : ∀ xs : List α, PyData.canLayAll0 (xs.map py) = true
  | [] => rfl
  | x :: xs => by
    rw [List.map_cons, PyData.canLayAll0, h x, can_map h xs]
    rfl
theorem dep_map {α : Type} {py : α → PyData} {n : Nat} (h : ∀ x, (py x).depth ≤ n) : ∀ xs : List α, PyData.depthAll (xs.map py) ≤ n
  | [] => Nat.zero_le _
  | x :: xs => by
    rw [List.map_cons, PyData.depthAll]
    exact Nat.max_le.mpr ⟨h x, dep_map h xs⟩
theorem eqv_map {α : Type} [DecidableEq α] {py : α → PyData} (h : ∀ x y, PyData.eqv (py x) (py y) = decide (x = y)) : ∀ xs ys : List α, PyData.eqvAll (xs.map py) (ys.map py) = decide (xs = ys)
  | [], [] => by simp [PyData.eqvAll]
  | [], _ :: _ => by simp [PyData.eqvAll]
  | _ :: _, [] => by simp [PyData.eqvAll]
  | x :: xs, y :: ys => by
    rw [List.map_cons, List.map_cons, PyData.eqvAll, h x y, eqv_map h xs ys, ← Bool.decide_and]
    simp
theorem nice_int : Nice Dat.int 0 := ⟨.int, fun _ => rfl, fun _ => rfl, fun _ => Nat.le_refl _, fun x y => by
  rw [PyData.eqv]
  by_cases h : x = y <;> simp [h]⟩
theorem nice_bl : Nice Dat.bl 0 := ⟨.bool, fun _ => rfl, fun _ => rfl, fun _ => Nat.le_refl _, fun x y => by
  rw [PyData.eqv]
  by_cases h : x = y <;> simp [h]⟩
theorem nice_tup {α : Type} [DecidableEq α] {e : α → Dat} {n : Nat} (h : Nice e n) : Nice (fun xs : List α => .tup (xs.map e)) (n + 1) := by
  obtain ⟨py, h1, h2, h3, h4⟩ := h.ex
  refine ⟨fun xs => .tuple (xs.map py), fun x => ?_, fun x => ?_, fun x => ?_, fun x y => ?_⟩
  · show (toPyL (x.map e)).map PyData.tuple = _
    rw [toPyL_map h1]
    rfl
  · rw [PyData.canLay0]; exact can_map h2 x
  · rw [PyData.depth]; exact Nat.succ_le_succ (dep_map h3 x)
  · rw [PyData.eqv]; exact eqv_map h4 x y
theorem nice_lst {α : Type} [DecidableEq α] {e : α → Dat} {n : Nat} (h : Nice e n) : Nice (fun xs : List α => .lst (xs.map e)) (n + 1) := by
  obtain ⟨py, h1, h2, h3, h4⟩ := h.ex
  refine ⟨fun xs => .list (xs.map py), fun x => ?_, fun x => ?_, fun x => ?_, fun x y => ?_⟩
  · show (toPyL (x.map e)).map PyData.list = _
    rw [toPyL_map h1]
    rfl
  · rw [PyData.canLay0]; exact can_map h2 x
  · rw [PyData.depth]; exact Nat.succ_le_succ (dep_map h3 x)
  · rw [PyData.eqv]; exact eqv_map h4 x y
theorem nice_pair {α β : Type} [DecidableEq α] [DecidableEq β] {e : α → Dat} {f : β → Dat} {n : Nat} (h : Nice e n) (g : Nice f n) : Nice (fun p : α × β => .tup [e p.1, f p.2]) (n + 1) := by
  obtain ⟨py, h1, h2, h3, h4⟩ := h.ex
  obtain ⟨qy, g1, g2, g3, g4⟩ := g.ex
  refine ⟨fun p => .tuple [py p.1, qy p.2], fun x => ?_, fun x => ?_, fun x => ?_, fun x y => ?_⟩
  · show (toPyL [e x.1, f x.2]).map PyData.tuple = _
    simp only [toPyL, h1, g1]
    rfl
  · simp only [PyData.canLay0, PyData.canLayAll0, h2, g2]
    rfl
  · simp only [PyData.depth, PyData.depthAll]
    have := h3 x.1
    have := g3 x.2
    omega
  · simp only [PyData.eqv, PyData.eqvAll, h4, g4, Bool.and_true]
    rw [← Bool.decide_and]
    simp [Prod.ext_iff]
theorem Nice.up {α : Type} [DecidableEq α] {e : α → Dat} {n m : Nat} (h : Nice e n) (hm : n ≤ m) : Nice e m := by
  obtain ⟨py, h1, h2, h3, h4⟩ := h.ex
  exact ⟨py, h1, h2, fun x => Nat.le_trans (h3 x) hm, h4⟩
theorem shaped_of {d : PyData} (h1 : d.canLay0 = true) (h2 : d.depth ≤ 64) : SeqAt.shaped d = true := by
  unfold SeqAt.shaped
  rw [h1, decide_eq_true h2]
  rfl
theorem eqD_nice {α : Type} [DecidableEq α] {e : α → Dat} {n : Nat} (h : Nice e n) (hn : n ≤ 64) (x y : α) : eqD (e x) (e y) = .ok (decide (x = y)) := by
  obtain ⟨py, h1, h2, h3, h4⟩ := h.ex
  unfold eqD
  rw [h1, h1]
  show (if _ then _ else _) = _
  rw [shaped_of (h2 x) (Nat.le_trans (h3 x) hn), shaped_of (h2 y) (Nat.le_trans (h3 y) hn), h4]
  rfl
theorem memD_nice {α : Type} [DecidableEq α] {e : α → Dat} {n : Nat} (h : Nice e n) (hn : n ≤ 63) (x : α) (ys : List α) : memD (e x) (ys.map e) = .ok (decide (x ∈ ys)) := by
  obtain ⟨py, h1, h2, h3, h4⟩ := h.ex
  unfold memD
  rw [h1, toPyL_map h1]
  show (if _ then _ else _) = _
  rw [shaped_of (h2 x) (Nat.le_trans (h3 x) (by omega)), shaped_of (d := .list _) (by rw [PyData.canLay0]; exact can_map h2 ys) (by rw [PyData.depth]; exact Nat.le_trans (Nat.succ_le_succ (dep_map h3 ys)) (by omega))]
  show Rs.ok _ = _
  congr 1
  induction ys with
  | nil => simp
  | cons y ys ih =>
    rw [List.map_cons, List.any_cons, ih, h4, ← Bool.decide_or]
    congr 1
    simp [eq_comm]
theorem cmp_eq {α : Type} [DecidableEq α] {e : α → Dat} {n : Nat} (h : Nice e n) (hn : n ≤ 64) (x y : α) : cmpop .eq (e x) (e y) = .ok (.bl (decide (x = y))) := by
  show (eqD (e x) (e y)).bind _ = _
  rw [eqD_nice h hn]
  rfl
theorem cmp_ne {α : Type} [DecidableEq α] {e : α → Dat} {n : Nat} (h : Nice e n) (hn : n ≤ 64) (x y : α) : cmpop .ne (e x) (e y) = .ok (.bl (!decide (x = y))) := by
  show (eqD (e x) (e y)).bind _ = _
  rw [eqD_nice h hn]
  rfl
theorem cmp_in {α : Type} [DecidableEq α] {e : α → Dat} {n : Nat} (h : Nice e n) (hn : n ≤ 63) (x : α) (ys : List α) : cmpop .isin (e x) (.lst (ys.map e)) = .ok (.bl (decide (x ∈ ys))) := by
  show (memD (e x) (ys.map e)).bind _ = _
  rw [memD_nice h hn]
  rfl
theorem cmp_nin {α : Type} [DecidableEq α] {e : α → Dat} {n : Nat} (h : Nice e n) (hn : n ≤ 63) (x : α) (ys : List α) : cmpop .notin (e x) (.lst (ys.map e)) = .ok (.bl (!decide (x ∈ ys))) := by
  show (memD (e x) (ys.map e)).bind _ = _
  rw [memD_nice h hn]
  rfl
@[simp] theorem cmp_eqi {x y : Int} : cmpop .eq (.int x) (.int y) = .ok (.bl (decide (x = y))) := cmp_eq nice_int (by decide) x y
@[simp] theorem cmp_nei {x y : Int} : cmpop .ne (.int x) (.int y) = .ok (.bl (!decide (x = y))) := cmp_ne nice_int (by decide) x y
@[simp] theorem cmp_eqb {x y : Bool} : cmpop .eq (.bl x) (.bl y) = .ok (.bl (decide (x = y))) := cmp_eq nice_bl (by decide) x y
@[simp] theorem cmp_neb {x y : Bool} : cmpop .ne (.bl x) (.bl y) = .ok (.bl (!decide (x = y))) := cmp_ne nice_bl (by decide) x y
/-- a tuple, a list of ints -/
abbrev eT (xs : List Int) : Dat := .tup (xs.map Dat.int)
abbrev eI (xs : List Int) : Dat := .lst (xs.map Dat.int)
abbrev eTT (xs : List (List Int)) : Dat := .tup (xs.map eT)
abbrev eLT (xs : List (List Int)) : Dat := .lst (xs.map eT)
abbrev eLL (xs : List (List Int)) : Dat := .lst (xs.map eI)
theorem nice_eT : Nice eT 1 := nice_tup nice_int
theorem nice_eI : Nice eI 1 := nice_lst nice_int
theorem nice_eTT : Nice eTT 2 := nice_tup nice_eT
theorem nice_eLT : Nice eLT 2 := nice_lst nice_eT
theorem nice_eLL : Nice eLL 2 := nice_lst nice_eI
theorem pure_map {α : Type} {e : α → Dat} (h : ∀ x, pureD (e x) = true) : ∀ xs : List α, pureL (xs.map e) = true
  | [] => rfl
  | x :: xs => by
    show (pureD (e x) && pureL (xs.map e)) = true
    rw [h x, pure_map h xs]
    rfl
theorem pure_int (i : Int) : pureD (.int i) = true := rfl
theorem pure_eT (xs : List Int) : pureD (eT xs) = true := pure_map pure_int xs
theorem pure_eTT (xs : List (List Int)) : pureD (eTT xs) = true := pure_map pure_eT xs
theorem endR_pur {fl : Nat} {d : Dat} (h : pureD d = true) : endR .pur (.ok (.rt fl d)) = .ok d := by
  unfold endR retB
  simp [rfOk, h]
theorem endR_own {d : Dat} : endR .own (.ok (.rt 3 d)) = .ok d := by
  unfold endR retB
  simp [rfOk]
theorem endR_ownp {d : Dat} (h : rfOk .ownp d = true) : endR .ownp (.ok (.rt 3 d)) = .ok d := by
  unfold endR retB
  simp [h]
theorem endR_shr {d : Dat} {fl : Nat} (h : decide (2 ≤ fl) = true) : endR .shr (.ok (.rt fl d)) = .ok d := by
  unfold endR retB
  simp [rfOk, h]
theorem ownp_eI (xs : List Int) : rfOk .ownp (eI xs) = true := pure_map pure_int xs
theorem ownp_eLT (xs : List (List Int)) : rfOk .ownp (eLT xs) = true := pure_map pure_eT xs
theorem zip_ints (xs ys : List Int) : ((xs.map Dat.int).zip (ys.map Dat.int)).map (fun p => Dat.tup [p.1, p.2]) = (xs.zip ys).map fun p => Dat.tup [.int p.1, .int p.2] := by
  rw [List.zip_map, List.map_map]
  rfl
theorem size_ok {n : Nat} (h : n ≤ 1000) : decide (n ≤ sizeLine) = true := decide_eq_true (Nat.le_of_lt (small1000 h))
theorem rng1I {m : Int} (h1 : -(2 ^ 62) ≤ m) (h2 : m < 2 ^ 62) : rngD [.int m] = .ok ((List.range m.toNat).map fun i => Dat.int (0 + (i : Nat))) := by
  simp only [rngD]
  rw [if_pos (by rw [Bool.and_eq_true, decide_eq_true_eq, decide_eq_true_eq]; exact ⟨h1, h2⟩)]
theorem rng2I {a b : Int} (h1 : -(2 ^ 62) ≤ a) (h2 : a < 2 ^ 62) (h3 : -(2 ^ 62) ≤ b) (h4 : b < 2 ^ 62) : rngD [.int a, .int b] = .ok ((List.range (b - a).toNat).map fun i => Dat.int (a + (i : Nat))) := by
  simp only [rngD]
  rw [if_pos (by simp only [Bool.and_eq_true, decide_eq_true_eq]; exact ⟨⟨⟨h1, h2⟩, h3⟩, h4⟩)]
theorem rng1 {n : Nat} (h : n ≤ 1000000) : rngD [.int (n : Nat)] = .ok ((List.range n).map fun i => Dat.int (i : Nat)) := by
  rw [rng1I (by omega) (by omega)]
  simp
theorem rng2 {a b : Nat} (h : a ≤ 1000000) (h2 : b ≤ 1000000) : rngD [.int (a : Nat), .int (b : Nat)] = .ok ((List.range (b - a)).map fun i => Dat.int ((a + i : Nat) : Int)) := by
  rw [rng2I (by omega) (by omega) (by omega) (by omega)]
  have e : ((b : Int) - (a : Int)).toNat = b - a := by omega
  rw [e]
  simp
end PV

/-! PV, part Q: small defs that many laws share -/
namespace PV
open PySem PySem.Spec PyProof.Rows L2
structure Has (fns : List FnD) (f ps N : Nat) (B : List Sm) (r : Rf) : Prop where
  ex : ∃ F, fns[f]? = some F ∧ F.ps.length = ps ∧ F.N.length = N ∧ F.body = B ∧ F.rf = r
section
variable {fns : List FnD} {gl : Nat → Dat} {f n : Nat}
theorem Has.call {ps N : Nat} {B : List Sm} {r : Rf} {ds : List Dat} (h : Has fns f ps N B r) (hl : ds.length = ps) (hi : isIo r = false := by rfl) : callF fns gl (n + 1) f ds = endR r (exSs (callF fns gl n) gl (rfs fns) B (List.replicate N .shr) (ds.map some ++ List.replicate (N - ds.length) none)) := by
  obtain ⟨F, h1, h2, h3, h4, h5⟩ := h.ex
  rw [callF_eq h1 (by rw [h5]; exact hi) (by rw [h2]; exact hl), h4, h5]
  unfold kst est
  rw [h3, h5, hi, if_neg Bool.false_ne_true]
theorem Has.callI {ps N : Nat} {B : List Sm} {ds : List Dat} (h : Has fns f ps N B .io) (hl : ds.length = ps) : callF fns gl (n + 1) f ds = endI (exSs (callF fns gl n) gl (rfs fns) B (.arg :: List.replicate (N - 1) .shr) (ds.map some ++ List.replicate (N - ds.length) none)) := by
  obtain ⟨F, h1, h2, h3, h4, h5⟩ := h.ex
  rw [callF_eqI h1 (by rw [h5]; rfl) (by rw [h2]; exact hl), h4]
  unfold kst est
  rw [h3, h5]
  rfl
theorem Has.rf {ps N : Nat} {B : List Sm} {r : Rf} (h : Has fns f ps N B r) : rfs fns f = r := by
  obtain ⟨F, h1, _, _, _, h5⟩ := h.ex
  unfold rfs
  rw [h1]
  exact h5
/-- x op y for x, y in zip(one, other), as a tuple -/
def BZip (o : Bop) : List Sm := [.ret (.bi .tuple [.comp (.bin o (.var 2) (.var 3)) (.tp [2, 3]) (.zip (.var 0) (.var 1)) []])]
theorem zip_call {o : Bop} {g : Int → Int → Int} (ho : ∀ x y : Int, binop o (.int x) (.int y) = .ok (.int (g x y))) (h : Has fns f 2 4 (BZip o) .pur) {xs ys : List Int} (hl : xs.length ≤ 1000) : callF fns gl (n + 1) f [eT xs, eT ys] = .ok (eT (xs.zipWith g ys)) := by
  rw [h.call rfl, BZip, st_ret (d := eT (xs.zipWith g ys)) rfl ?_ rfl]
  · exact endR_pur (pure_eT _)
  · simp only [evE_bi, evL_cons, evL_nil, evE_comp, evS_zip, evE_var]
    have e : List.map some [eT xs, eT ys] ++ List.replicate (4 - [eT xs, eT ys].length) none = [some (eT xs), some (eT ys), none, none] := rfl
    simp only [e, getV_zero, getV_succ, Rs.ok_bind, zip_tt, zip_ints]
    rw [mapC_ok (h := fun p => .int (g p.1 p.2))]
    · simp only [Rs.ok_bind, List.length_map, List.length_zip]
      rw [size_ok (by omega)]
      simp [List.zip_eq_zipWith, List.map_zipWith]
    · intro p _
      simp [bindT, evC_nil, ho]
/-- [x * n for x in row], as a tuple -/
def BPow : List Sm := [.ret (.bi .tuple [.comp (.bin .mul (.var 2) (.var 1)) (.nm 2) (.seq (.var 0)) []])]
theorem pow_call (h : Has fns f 2 3 BPow .pur) {xs : List Int} {k : Int} (hl : xs.length ≤ 1000) (hm : ∀ x ∈ xs, mulOk x k = true) : callF fns gl (n + 1) f [eT xs, .int k] = .ok (eT (xs.map (· * k))) := by
  rw [h.call rfl, BPow, st_ret (d := eT (xs.map (· * k))) rfl ?_ rfl]
  · exact endR_pur (pure_eT _)
  · simp only [evE_bi, evL_cons, evL_nil, evE_comp, evS_seq, evE_var]
    have e : List.map some [eT xs, Dat.int k] ++ List.replicate (3 - [eT xs, Dat.int k].length) none = [some (eT xs), some (.int k), none] := rfl
    simp only [e, getV_zero, getV_succ, Rs.ok_bind, items_t]
    rw [mapC_ok (h := fun x => .int (x * k))]
    · simp only [Rs.ok_bind, List.length_map]
      rw [size_ok hl]
      simp
    · intro x hx
      simp [bindT, evC_nil, bin_mul (hm x hx)]
/-- script[k] or 0 -/
def BCell : List Sm := [.ite (.cmp .lt (.var 1) (.bi .len [.var 0])) [.ret (.idx (.var 0) (.var 1))] [],
    .ret (.cst (.int 0))]
def cell (ns : List Int) (k : Nat) : Int := ns.getD k 0
theorem cell_call (h : Has fns f 2 2 BCell .pur) (ns : List Int) (k : Nat) : callF fns gl (n + 1) f [.rol (ns.map .int), .int (k : Nat)] = .ok (.int (cell ns k)) := by
  rw [h.call rfl, BCell]
  have e : List.map some [Dat.rol (ns.map .int), Dat.int (k : Nat)] ++ List.replicate (2 - [Dat.rol (ns.map .int), Dat.int (k : Nat)].length) none = [some (.rol (ns.map .int)), some (.int (k : Nat))] := rfl
  rw [e]
  by_cases hk : k < ns.length
  · have g : (ns.map Dat.int)[k]? = some (.int (cell ns k)) := by
      rw [List.getElem?_map, List.getElem?_eq_getElem hk, cell, List.getD_eq_getElem?_getD, List.getElem?_eq_getElem hk]
      rfl
    rw [st_ifT (d := .int (cell ns k)) (by simp [hk]) (st_ret rfl (by simp [idx_rol g]) rfl)]
    exact endR_pur rfl
  · rw [st_ifF (by simp [Nat.le_of_not_lt hk]) (st_ret (d := .int 0) rfl rfl rfl), cell, List.getD_eq_getElem?_getD, List.getElem?_eq_none (by omega)]
    exact endR_pur rfl
theorem cell_callI (h : Has fns f 2 2 BCell .pur) (ns : List Int) (k : Int) (hk : 0 ≤ k) : callF fns gl (n + 1) f [.rol (ns.map .int), .int k] = .ok (.int (cell ns k.toNat)) := by
  have := cell_call (gl := gl) (n := n) h ns k.toNat
  rw [Int.toNat_of_nonneg hk] at this
  exact this
theorem getV_get {ρ : PV.Env} {i : Nat} {d : Dat} (h : ρ[i]? = some (some d)) : getV ρ i = .ok d := by
  unfold getV
  rw [h]
theorem getV_self {ρ : PV.Env} {i : Nat} {d : Dat} (h : i < ρ.length) : getV (ρ.set i (some d)) i = .ok d := getV_get (by rw [List.getElem?_set_self h])
theorem getV_ne {ρ : PV.Env} {i j : Nat} {o : Option Dat} (h : j ≠ i) : getV (ρ.set j o) i = getV ρ i := by
  unfold getV
  rw [List.getElem?_set_ne h]
/-- a tuple of five whole numbers, == due -/
def BRowIs : List Sm := [.ite (.or (.not (.isi (.var 0) [.tuple])) (.cmp .ne (.bi .len [.var 0]) (.cst (.int 5)))) [.ret (.cst (.bl false))] [],
    .fr (.nm 2) (.seq (.var 0)) [.ite (.or (.not (.isi (.var 2) [.int])) (.isi (.var 2) [.bool])) [.ret (.cst (.bl false))] []],
    .ret (.cmp .eq (.var 0) (.var 1))]
theorem rowis_call (h : Has fns f 2 3 BRowIs .pur) {xs ys : List Int} (hl : xs.length = 5) : callF fns gl (n + 1) f [eT xs, eT ys] = .ok (.bl (decide (xs = ys))) := by
  rw [h.call rfl, BRowIs]
  have e : List.map some [eT xs, eT ys] ++ List.replicate (3 - [eT xs, eT ys].length) none = [some (eT xs), some (eT ys), none] := rfl
  rw [e]
  obtain ⟨ρ', l1, o, rfl⟩ := loopF_inv (t := .nm 2) (b := exSs (callF fns gl n) gl (rfs fns) [.ite (.or (.not (.isi (.var 2) [.int])) (.isi (.var 2) [.bool])) [.ret (.cst (.bl false))] []]) (κ := [.shr, .shr, .shr]) Dat.int (fun _ ρ => ∃ o, ρ = [some (eT xs), some (eT ys), o]) (fun x _ ρ hI => by
    obtain ⟨o, rfl⟩ := hI
    refine ⟨_, _, _, rfl, .inl (st_ifF (by simp) (exSs_nil ..)), rfl, _, rfl⟩) xs [some (eT xs), some (eT ys), none] ⟨_, rfl⟩
  rw [st_ifF (by simp [hl]) (st_fr (κ1 := [.shr, .shr, .shr]) rfl rfl (by simp) l1 (st_ret (d := .bl (decide (xs = ys))) rfl (by simp [cmp_eq nice_eT]) rfl))]
  exact endR_pur rfl
end
end PV

/-! PV, part R: more small defs that many laws share -/
namespace PV
open PySem PySem.Spec PyProof.Rows L2
section
variable {fns : List FnD} {gl : Nat → Dat} {f g n : Nat}
/-- a def's answer: at least of this grade -/
def retP (m : Nat) (d : Dat) : End → Prop
  | .rt fl d' => m ≤ fl ∧ d' = d
  | _ => False
def excP (C : Nat) (fs : List Dat) : End → Prop
  | .xc _ _ z => z = .exc C fs
  | _ => False
theorem retP.ok {m : Nat} {d : Dat} {r : Rs End} (h : Out r (retP m d)) : ∃ fl, m ≤ fl ∧ r = .ok (.rt fl d) := by
  have h := h.get
  cases r with
  | ok e =>
    cases e with
    | rt fl d' => obtain ⟨h1, rfl⟩ := h; exact ⟨fl, h1, rfl⟩
    | nx _ _ => exact False.elim h
    | bk _ _ => exact False.elim h
    | ct _ _ => exact False.elim h
    | xc _ _ _ => exact False.elim h
    | r0 _ _ => exact False.elim h
  | ex z => exact False.elim h
  | no => exact False.elim h
theorem excP.ok {C : Nat} {fs : List Dat} {r : Rs End} (h : Out r (excP C fs)) : ∃ κ ρ, r = .ok (.xc κ ρ (.exc C fs)) := by
  have h := h.get
  cases r with
  | ok e =>
    cases e with
    | xc κ ρ z => cases h; exact ⟨κ, ρ, rfl⟩
    | nx _ _ => exact False.elim h
    | bk _ _ => exact False.elim h
    | ct _ _ => exact False.elim h
    | rt _ _ => exact False.elim h
    | r0 _ _ => exact False.elim h
  | ex z => exact False.elim h
  | no => exact False.elim h
section
variable {ps N : Nat} {B : List Sm} {ds : List Dat} {d : Dat}
theorem Has.pur (h : Has fns f ps N B .pur) (hl : ds.length = ps) (hp : pureD d = true) (e : Out (exSs (callF fns gl n) gl (rfs fns) B (List.replicate N .shr) (ds.map some ++ List.replicate (N - ds.length) none)) (retP 0 d)) : callF fns gl (n + 1) f ds = .ok d := by
  obtain ⟨fl, _, e⟩ := retP.ok e
  rw [h.call hl, e]
  exact endR_pur hp
theorem Has.own (h : Has fns f ps N B .own) (hl : ds.length = ps) (e : Out (exSs (callF fns gl n) gl (rfs fns) B (List.replicate N .shr) (ds.map some ++ List.replicate (N - ds.length) none)) (retP 3 d)) : callF fns gl (n + 1) f ds = .ok d := by
  obtain ⟨fl, h2, e⟩ := retP.ok e
  rw [h.call hl, e]
  unfold endR retB
  simp [rfOk, h2]
theorem Has.ownp (h : Has fns f ps N B .ownp) (hl : ds.length = ps) (hp : rfOk .ownp d = true) (e : Out (exSs (callF fns gl n) gl (rfs fns) B (List.replicate N .shr) (ds.map some ++ List.replicate (N - ds.length) none)) (retP 3 d)) : callF fns gl (n + 1) f ds = .ok d := by
  obtain ⟨fl, h2, e⟩ := retP.ok e
  rw [h.call hl, e]
  unfold endR retB
  simp [hp, h2]
theorem Has.shr (h : Has fns f ps N B .shr) (hl : ds.length = ps) (e : Out (exSs (callF fns gl n) gl (rfs fns) B (List.replicate N .shr) (ds.map some ++ List.replicate (N - ds.length) none)) (retP 2 d)) : callF fns gl (n + 1) f ds = .ok d := by
  obtain ⟨fl, h2, e⟩ := retP.ok e
  rw [h.call hl, e]
  unfold endR retB
  simp [rfOk, h2]
theorem Has.exc {C : Nat} {fs : List Dat} {r : Rf} (h : Has fns f ps N B r) (hi : isIo r = false) (hl : ds.length = ps) (e : Out (exSs (callF fns gl n) gl (rfs fns) B (List.replicate N .shr) (ds.map some ++ List.replicate (N - ds.length) none)) (excP C fs)) : callF fns gl (n + 1) f ds = .ex (.exc C fs) := by
  obtain ⟨κ, ρ, e⟩ := excP.ok e
  rw [h.call hl hi, e]
  rfl
/-- a def that changes its first list: the list as it is then -/
def ioP (d : Dat) : End → Prop
  | .nx κ ρ => kd κ 0 = .arg ∧ getV ρ 0 = .ok d
  | .r0 κ ρ => kd κ 0 = .arg ∧ getV ρ 0 = .ok d
  | _ => False
theorem Has.io (h : Has fns f ps N B .io) (hl : ds.length = ps) (e : Out (exSs (callF fns gl n) gl (rfs fns) B (.arg :: List.replicate (N - 1) .shr) (ds.map some ++ List.replicate (N - ds.length) none)) (ioP d)) : callF fns gl (n + 1) f ds = .ok d := by
  rw [h.callI hl]
  have e := e.get
  generalize exSs (callF fns gl n) gl (rfs fns) B (.arg :: List.replicate (N - 1) .shr) (ds.map some ++ List.replicate (N - ds.length) none) = r at e
  cases r with
  | ok e' =>
    cases e' with
    | nx κ ρ =>
      show (if kd κ 0 = .arg then getV ρ 0 else .no) = _
      rw [if_pos e.1, e.2]
    | r0 κ ρ =>
      show (if kd κ 0 = .arg then getV ρ 0 else .no) = _
      rw [if_pos e.1, e.2]
    | bk _ _ => exact False.elim e
    | ct _ _ => exact False.elim e
    | rt _ _ => exact False.elim e
    | xc _ _ _ => exact False.elim e
  | ex z => exact False.elim e
  | no => exact False.elim e
theorem q_ret0 {fl : Nat} {d : Dat} : retP 0 d (.rt fl d) := ⟨Nat.zero_le _, rfl⟩
theorem q_ret {m fl : Nat} {d : Dat} (h : decide (m ≤ fl) = true) : retP m d (.rt fl d) := ⟨of_decide_eq_true h, rfl⟩
end
/-- a whole number, no bool -/
def BWhole : List Sm := [.ret (.and (.isi (.var 0) [.int]) (.not (.isi (.var 0) [.bool])))]
theorem whole_call (h : Has fns f 1 1 BWhole .pur) (i : Int) : callF fns gl (n + 1) f [.int i] = .ok (.bl true) := by
  rw [h.call rfl, BWhole, st_ret (d := .bl true) rfl (by simp) rfl]
  exact endR_pur rfl
/-- (cell + bound) % (2 * bound + 1) - bound -/
def BNum : List Sm := [.ret (.bin .sub (.bin .mod (.bin .add (.var 0) (.var 1)) (.bin .add (.bin .mul (.cst (.int 2)) (.var 1)) (.cst (.int 1)))) (.var 1))]
def numB (c b : Int) : Int := (c + b).fmod (2 * b + 1) - b
theorem numB_le {c b : Int} (h : 0 ≤ b) : -b ≤ numB c b ∧ numB c b ≤ b := by
  have x := Int.fmod_nonneg_of_pos (c + b) (b := 2 * b + 1) (by omega)
  have y := Int.fmod_lt_of_pos (c + b) (b := 2 * b + 1) (by omega)
  unfold numB
  omega
theorem mul2_ok (b : Int) : mulOk 2 b = true := mul_small (.inl (by decide))
theorem num_call (h : Has fns f 2 2 BNum .pur) (c : Int) {b : Int} (hb : 0 ≤ b) : callF fns gl (n + 1) f [.int c, .int b] = .ok (.int (numB c b)) := by
  rw [h.call rfl, BNum, st_ret (d := .int (numB c b)) rfl ?_ rfl]
  · exact endR_pur rfl
  · have e : List.map some [Dat.int c, Dat.int b] ++ List.replicate (2 - [Dat.int c, Dat.int b].length) none = [some (.int c), some (.int b)] := rfl
    simp [bin_mul (mul2_ok b), bin_mod (show 2 * b + 1 ≠ 0 by omega), numB]
/-- a row of five, each by its own cell -/
def BRowAt (fn fc : Nat) : List Sm := [.ret (.bi .tuple [.comp (.cal fn [.cal fc [.var 0, .bin .add (.var 1) (.var 3)], .var 2]) (.nm 3) (.rng [.cst (.int 5)]) []])]
def rowB (ns : List Int) (k : Nat) (b : Int) : List Int := (List.range 5).map fun i => numB (cell ns (k + i)) b
theorem rowB_len {ns : List Int} {k : Nat} {b : Int} : (rowB ns k b).length = 5 := by simp [rowB]
theorem rowB_le {ns : List Int} {k : Nat} {b : Int} (hb : 0 ≤ b) : ∀ x ∈ rowB ns k b, -b ≤ x ∧ x ≤ b := fun x hx => by
  obtain ⟨i, _, rfl⟩ := List.mem_map.mp hx
  exact numB_le hb
theorem rowAt_call {fn fc : Nat} (h : Has fns f 3 4 (BRowAt fn fc) .pur) (hn : Has fns fn 2 2 BNum .pur) (hc : Has fns fc 2 2 BCell .pur) (ns : List Int) (k : Int) {b : Int} (hk : 0 ≤ k) (hb : 0 ≤ b) : callF fns gl (n + 2) f [.rol (ns.map .int), .int k, .int b] = .ok (eT (rowB ns k.toNat b)) := by
  rw [h.call rfl, BRowAt, st_ret (d := eT (rowB ns k.toNat b)) rfl ?_ rfl]
  · exact endR_pur (pure_eT _)
  · have e : List.map some [Dat.rol (ns.map .int), Dat.int k, Dat.int b] ++ List.replicate (4 - [Dat.rol (ns.map .int), Dat.int k, Dat.int b].length) none = [some (.rol (ns.map .int)), some (.int k), some (.int b), none] := rfl
    simp only [e, evE_bi, evL_cons, evL_nil, evE_comp, evS_rng, evE_cst, Rs.ok_bind]
    rw [show rngD [.int 5] = _ from rng1 (n := 5) (by decide)]
    simp only [Rs.ok_bind]
    rw [mapC_ok (h := fun i => .int (numB (cell ns (k.toNat + i)) b))]
    · simp only [Rs.ok_bind, List.length_map, List.length_range]
      rw [size_ok (by decide)]
      simp [rowB]
    · intro i _
      have z : (k + (i : Int)).toNat = k.toNat + i := by omega
      simp [bindT, cell_callI hc ns (k + (i : Int)) (by omega), num_call hn _ hb, z]
/-- the sum of the products, in a ring -/
def BValue : List Sm := [.asg 2 (.bi .sum [.comp (.bin .mul (.var 3) (.var 4)) (.tp [3, 4]) (.zip (.idx (.var 0) (.cst (.int 0))) (.var 1)) []]),
    .ite (.cmp .eq (.idx (.var 0) (.cst (.int 1))) (.cst (.int 0))) [.ret (.var 2)] [],
    .ret (.bin .mod (.var 2) (.idx (.var 0) (.cst (.int 1))))]
def dot (xs ys : List Int) : Int := (xs.zipWith (· * ·) ys).sum
def valK (ks : List Int) (m : Int) (xs : List Int) : Int := if m = 0 then dot ks xs else (dot ks xs).fmod m
abbrev eK (ks : List Int) (m : Int) : Dat := .tup [eT ks, .int m]
theorem tup_0 {a : Dat} {xs : List Dat} : idxD (.tup (a :: xs)) (.int 0) = .ok a := idx_tup (i := 0) rfl
theorem tup_1 {a b : Dat} {xs : List Dat} : idxD (.tup (a :: b :: xs)) (.int 1) = .ok b := idx_tup (i := 1) rfl
theorem tup_2 {a b c : Dat} {xs : List Dat} : idxD (.tup (a :: b :: c :: xs)) (.int 2) = .ok c := idx_tup (i := 2) rfl
theorem value_call (h : Has fns f 2 5 BValue .pur) {ks xs : List Int} {m : Int} (hl : ks.length ≤ 1000) (hm : ∀ p ∈ ks.zip xs, mulOk p.1 p.2 = true) : callF fns gl (n + 1) f [eK ks m, eT xs] = .ok (.int (valK ks m xs)) := by
  have s : evE (callF fns gl n) gl (.bi .sum [.comp (.bin .mul (.var 3) (.var 4)) (.tp [3, 4]) (.zip (.idx (.var 0) (.cst (.int 0))) (.var 1)) []]) [some (eK ks m), some (eT xs), none, none, none] = .ok (.int (dot ks xs)) := by
    simp only [evE_bi, evL_cons, evL_nil, evE_comp, evS_zip, evE_idx, evE_var, evE_cst, getV_zero, getV_succ, Rs.ok_bind, tup_0, zip_tt, zip_ints]
    rw [mapC_ok (h := fun p => .int (p.1 * p.2))]
    · simp only [Rs.ok_bind, List.length_map, List.length_zip]
      rw [size_ok (by omega)]
      have z : (ks.zip xs).map (fun p => Dat.int (p.1 * p.2)) = (ks.zipWith (· * ·) xs).map Dat.int := by simp [List.zip_eq_zipWith, List.map_zipWith]
      simp only [if_true, Rs.ok_bind, z, bi_sum, dot]
    · intro p hp
      simp [bindT, evC_nil, bin_mul (hm p hp)]
  refine h.pur rfl rfl (o_asg (d := .int (dot ks xs)) s rfl rfl rfl rfl ?_)
  refine o_if (k := decide (m = 0)) (by simp [tup_1]) (fun h0 => ?_) fun h0 => ?_
  · have h0 : m = 0 := of_decide_eq_true h0
    rw [valK, if_pos h0]
    exact o_retv rfl rfl (q_ret rfl)
  · have h0 : ¬ m = 0 := of_decide_eq_false h0
    refine o_ret (d := .int (valK ks m xs)) rfl ?_ rfl (q_ret rfl)
    rw [valK, if_neg h0]
    simp [tup_1, bin_mod h0]
end
end PV

/-! PV, part S: powers, what a prime is in a number -/
namespace PV
open PySem PySem.Spec PyProof.Rows L2
theorem pow_lt {p m N : Nat} (hp : p < 16) (hm : m ≤ N) : p ^ m < 2 ^ (4 * N + 1) := by
  have h1 : p ^ m ≤ 16 ^ m := Nat.pow_le_pow_left (by omega) m
  have h2 : (16 : Nat) ^ m = 2 ^ (4 * m) := by rw [Nat.pow_mul]
  have h3 : (2 : Nat) ^ (4 * m) ≤ 2 ^ (4 * N) := Nat.pow_le_pow_right (by decide) (by omega)
  have h4 : (2 : Nat) ^ (4 * N) < 2 ^ (4 * N + 1) := Nat.pow_lt_pow_right (by decide) (by omega)
  omega
section
variable {fns : List FnD} {gl : Nat → Dat} {f g n : Nat}
/-- base ** n, by squares -/
def BRaised : List Sm := [.asg 2 (.cst (.int 1)),
    .whl (.cmp .gt (.var 1) (.cst (.int 0))) [.ite (.cmp .eq (.bin .mod (.var 1) (.cst (.int 2))) (.cst (.int 1))) [.asg 2 (.bin .mul (.var 2) (.var 0))] [], .asg 0 (.bin .mul (.var 0) (.var 0)), .asg 1 (.bin .fdiv (.var 1) (.cst (.int 2)))],
    .ret (.var 2)]
theorem raised_call (h : Has fns f 2 3 BRaised .pur) {p N : Nat} (hp : p < 16) (hN : N ≤ 2000) : callF fns gl (n + 1) f [.int (p : Nat), .int (N : Nat)] = .ok (.int ((p ^ N : Nat) : Int)) := by
  refine h.pur rfl rfl ?_
  refine o_asg (d := .int 1) (by simp) rfl rfl rfl rfl ?_
  have sq : ∀ m : Nat, m ≤ 2000 → ((p ^ m : Nat) : Int).natAbs < 2 ^ 8001 := fun m hm => by
    rw [Int.natAbs_natCast]
    exact pow_lt hp hm
  refine o_whl (fun k κ ρ => κ = [.shr, .shr, .shr] ∧ ∃ b m : Nat, m + b * k = N ∧ (k = 0 ∨ b ≤ N) ∧ ρ = [some (.int ((p ^ b : Nat) : Int)), some (.int (k : Nat)), some (.int ((p ^ m : Nat) : Int))]) (m := N) (lt_fuel (k := 11) (by omega) (by decide)) ⟨rfl, 1, 0, by omega, by omega, by simp⟩ ?_
  rintro k κ ρ ⟨rfl, b, m, e, hb, rfl⟩
  by_cases hk : k = 0
  · subst hk
    have em : m = N := by omega
    subst em
    exact .inl ⟨by simp, o_retv rfl rfl (q_ret rfl)⟩
  · have hb : b ≤ N := by omega
    have hm : m ≤ N := by omega
    have d2 : ∀ x, divOk x 2 = true := fun _ => rfl
    have m2 : ((k : Nat) : Int).fmod 2 = ((k % 2 : Nat) : Int) := by
      rw [Int.fmod_eq_emod_of_nonneg _ (by decide)]
      omega
    have f2 : ((k : Nat) : Int).fdiv 2 = ((k / 2 : Nat) : Int) := by
      rw [Int.fdiv_eq_ediv_of_nonneg _ (by decide)]
      omega
    have mm : mulOk ((p ^ m : Nat) : Int) ((p ^ b : Nat) : Int) = true := mul_ok (sq m (by omega)) (sq b (by omega)) (by decide)
    have bb : mulOk ((p ^ b : Nat) : Int) ((p ^ b : Nat) : Int) = true := mul_ok (sq b (by omega)) (sq b (by omega)) (by decide)
    have e2 : ((p ^ b : Nat) : Int) * ((p ^ b : Nat) : Int) = ((p ^ (2 * b) : Nat) : Int) := by
      rw [← Int.natCast_mul, ← Nat.pow_add]
      congr 2
      omega
    have e1 : ((p ^ m : Nat) : Int) * ((p ^ b : Nat) : Int) = ((p ^ (m + b) : Nat) : Int) := by
      rw [← Int.natCast_mul, ← Nat.pow_add]
    refine .inr ⟨by simp; omega, ?_⟩
    have tail : ∀ m' : Nat, m' + 2 * b * (k / 2) = N → Out (exSs (callF fns gl n) gl (rfs fns) [.asg 0 (.bin .mul (.var 0) (.var 0)), .asg 1 (.bin .fdiv (.var 1) (.cst (.int 2)))] [.shr, .shr, .shr] [some (.int ((p ^ b : Nat) : Int)), some (.int (k : Nat)), some (.int ((p ^ m' : Nat) : Int))]) (turnP (fun κ' ρ' => ∃ m'', m'' < k ∧ (κ' = [.shr, .shr, .shr] ∧ ∃ b m : Nat, m + b * m'' = N ∧ (m'' = 0 ∨ b ≤ N) ∧ ρ' = [some (.int ((p ^ b : Nat) : Int)), some (.int (m'' : Nat)), some (.int ((p ^ m : Nat) : Int))])) (thenP (callF fns gl n) gl (rfs fns) [.ret (.var 2)] (retP 0 (.int ((p ^ N : Nat) : Int))))) := by
      intro m' em'
      refine o_asg (d := .int ((p ^ (2 * b) : Nat) : Int)) (by simp only [evE_bin, evE_var, getV_zero, Rs.ok_bind]; rw [bin_mul bb, e2]) rfl rfl rfl rfl ?_
      refine o_asg (d := .int ((k / 2 : Nat) : Int)) (by simp only [evE_bin, evE_var, evE_cst, List.set_cons_zero, getV_zero, getV_succ, Rs.ok_bind]; rw [bin_fdiv (d2 _), f2]) rfl rfl rfl rfl ?_
      refine o_nil ⟨k / 2, by omega, rfl, 2 * b, m', em', ?_, rfl⟩
      rcases Nat.eq_zero_or_pos (k / 2) with z | z
      · exact .inl z
      · refine .inr ?_
        have : 2 * b * 1 ≤ 2 * b * (k / 2) := Nat.mul_le_mul_left _ z
        omega
    have kk := Nat.div_add_mod k 2
    refine o_if (k := decide (k % 2 = 1)) (by simp only [evE_cmp, evE_bin, evE_var, evE_cst, getV_zero, getV_succ, Rs.ok_bind]; rw [bin_mod (by decide), m2]; simp only [Rs.ok_bind, cmp_eqi]; exact congrArg (fun b => Rs.ok (Dat.bl b)) (decide_eq_decide.mpr (by omega))) (fun q => ?_) fun q => ?_
    · have q := of_decide_eq_true q
      refine o_asg (d := .int ((p ^ (m + b) : Nat) : Int)) (by simp only [evE_bin, evE_var, getV_zero, getV_succ, Rs.ok_bind]; rw [bin_mul mm, e1]) rfl rfl rfl rfl ?_
      refine o_nil (tail (m + b) ?_)
      have : b * k = 2 * b * (k / 2) + b := by
        conv => lhs; rw [← kk, q]
        rw [Nat.mul_add, Nat.mul_one, ← Nat.mul_assoc, Nat.mul_comm b 2]
      omega
    · have q := of_decide_eq_false q
      refine tail m ?_
      have : b * k = 2 * b * (k / 2) := by
        conv => lhs; rw [← kk, show k % 2 = 0 by omega]
        rw [Nat.add_zero, ← Nat.mul_assoc, Nat.mul_comm b 2]
      omega
/-! what a prime is in a number -/
def prodP : List (Nat × Nat) → Nat
  | [] => 1
  | (p, e) :: xs => p ^ e * prodP xs
/-- each prime stands wholly in its own power -/
def Good (r : Nat) : List (Nat × Nat) → Prop
  | [] => True
  | (p, e) :: xs => 2 ≤ p ∧ p < 16 ∧ e ≤ 2000 ∧ ¬ p ∣ prodP xs * r ∧ Good r xs
/-- while number % prime == 0 -/
def WStrip : Sm := .whl (.cmp .eq (.bin .mod (.var 0) (.var 2)) (.cst (.int 0))) [.asg 0 (.bin .fdiv (.var 0) (.var 2)), .asg 3 (.bin .add (.var 3) (.cst (.int 1)))]
theorem strip_run {cf : Nat → List Dat → Rs Dat} {rf : Nat → Rf} {P : End → Prop} {ss : List Sm} {p e R : Nat} {d1 : Option Dat} (hp : 2 ≤ p) (hp2 : p < 16) (he : e ≤ 2000) (hR : ¬ p ∣ R)
    (k : Out (exSs cf gl rf ss [.shr, .own, .shr, .shr] [some (.int (R : Nat)), d1, some (.int (p : Nat)), some (.int (e : Nat))]) P) :
    Out (exSs cf gl rf (WStrip :: ss) [.shr, .own, .shr, .shr] [some (.int ((p ^ e * R : Nat) : Int)), d1, some (.int (p : Nat)), some (.int 0)]) P := by
  have dp : ∀ x, divOk x (p : Nat) = true := fun x => div_small (by omega) (by rw [Int.natAbs_natCast]; omega)
  refine o_whl (fun m κ ρ => κ = [.shr, .own, .shr, .shr] ∧ m ≤ e ∧ ρ = [some (.int ((p ^ m * R : Nat) : Int)), d1, some (.int (p : Nat)), some (.int ((e - m : Nat) : Int))]) (m := e) (lt_fuel (k := 11) (by omega) (by decide)) ⟨rfl, Nat.le_refl _, by simp⟩ ?_
  rintro m κ ρ ⟨rfl, hm, rfl⟩
  have fm : ∀ x : Nat, ((x : Nat) : Int).fmod (p : Nat) = ((x % p : Nat) : Int) := fun x => by
    rw [Int.fmod_eq_emod_of_nonneg _ (by omega)]
    exact (Int.natCast_emod x p).symm
  have fd : ∀ x : Nat, ((x : Nat) : Int).fdiv (p : Nat) = ((x / p : Nat) : Int) := fun x => by
    rw [Int.fdiv_eq_ediv_of_nonneg _ (by omega)]
    exact (Int.natCast_ediv x p).symm
  cases m with
  | zero =>
    refine .inl ⟨?_, by simpa using k⟩
    simp only [evE_cmp, evE_bin, evE_var, evE_cst, getV_zero, getV_succ, Rs.ok_bind]
    rw [bin_mod (by omega), fm]
    simp only [Rs.ok_bind, cmp_eqi, Nat.pow_zero, Nat.one_mul]
    have : R % p ≠ 0 := fun z => hR (Nat.dvd_of_mod_eq_zero z)
    rw [decide_eq_false (by omega)]
  | succ m =>
    have e1 : p ^ (m + 1) * R = p * (p ^ m * R) := by rw [Nat.pow_succ, Nat.mul_comm (p ^ m) p, Nat.mul_assoc]
    refine .inr ⟨?_, ?_⟩
    · simp only [evE_cmp, evE_bin, evE_var, evE_cst, getV_zero, getV_succ, Rs.ok_bind]
      rw [bin_mod (by omega), fm, e1, Nat.mul_mod_right]
      rfl
    · refine o_asg (d := .int ((p ^ m * R : Nat) : Int)) ?_ rfl rfl rfl rfl ?_
      · simp only [evE_bin, evE_var, getV_zero, getV_succ, Rs.ok_bind]
        rw [bin_fdiv (dp _), fd, e1, Nat.mul_div_cancel_left _ (by omega)]
      · refine o_asg (d := .int ((e - m : Nat) : Int)) ?_ rfl rfl rfl rfl ?_
        · simp only [List.set_cons_zero, evE_bin, evE_var, evE_cst, getV_succ, getV_zero, Rs.ok_bind, bin_add]
          congr 2
          omega
        · exact o_nil ⟨m, Nat.lt_succ_self m, rfl, by omega, rfl⟩
def BPowersIn (k : Nat) : List Sm := [.asg 1 (.lst []),
    .fr (.nm 2) (.seq (.glo k)) [.asg 3 (.cst (.int 0)), WStrip, .app 1 (.var 3)],
    .ret (.tup [.bi .tuple [.var 1], .var 0])]
theorem powersIn_call {k : Nat} (h : Has fns f 1 4 (BPowersIn k) .pur) {qs : List (Nat × Nat)} {r : Nat} (hg : gl k = .tup (qs.map fun q => Dat.int (q.1 : Nat))) (hq : Good r qs) (hl : qs.length ≤ 100) : callF fns gl (n + 1) f [.int ((prodP qs * r : Nat) : Int)] = .ok (.tup [eT (qs.map fun q => ((q.2 : Nat) : Int)), .int (r : Nat)]) := by
  refine h.pur rfl (by show (pureL (List.map Dat.int (qs.map fun q => ((q.2 : Nat) : Int))) && (true && true)) = true; rw [pure_map pure_int]; rfl) ?_
  refine o_asg (d := .lst []) (by simp) rfl rfl rfl rfl ?_
  refine o_fr (κ1 := [.shr, .own, .shr, .shr]) (ds := qs.map fun q => Dat.int (q.1 : Nat)) rfl rfl (by simp [hg]) ?_
  refine for_inv (fun q : Nat × Nat => Dat.int (q.1 : Nat)) (fun xs κ ρ => κ = [.shr, .own, .shr, .shr] ∧ Good r xs ∧ ∃ (done : List Int) (o2 o3 : Option Dat), done ++ xs.map (fun q => ((q.2 : Nat) : Int)) = qs.map (fun q => ((q.2 : Nat) : Int)) ∧ ρ = [some (.int ((prodP xs * r : Nat) : Int)), some (eI done), o2, o3]) ?_ ?_ qs _ _ ⟨rfl, hq, [], none, none, rfl, rfl⟩
  · rintro ⟨p, e⟩ xs κ ρ ⟨rfl, ⟨g1, g2, g3, g4, g5⟩, done, o2, o3, hd, rfl⟩
    refine ⟨_, rfl, ?_⟩
    refine o_asg (d := .int 0) (by simp) rfl rfl rfl rfl ?_
    have e1 : prodP ((p, e) :: xs) * r = p ^ e * (prodP xs * r) := Nat.mul_assoc _ _ _
    rw [e1]
    refine strip_run (d1 := some (eI done)) g1 g2 g3 g4 ?_
    have dl : done.length ≤ 100 := by
      have := congrArg List.length hd
      simp only [List.length_append, List.length_map, List.length_cons] at this
      omega
    refine o_app (d := .int (e : Nat)) (xs := done.map Dat.int) rfl rfl rfl (by simp) (by rw [List.length_map]; exact small1000 (by omega)) ?_
    refine o_nil ⟨rfl, g5, done ++ [((e : Nat) : Int)], some (.int (p : Nat)), some (.int (e : Nat)), ?_, ?_⟩
    · rw [List.append_assoc]
      exact hd
    · simp
  · rintro κ ρ ⟨rfl, _, done, o2, o3, hd, rfl⟩
    have hd : done = qs.map (fun q => ((q.2 : Nat) : Int)) := by simpa using hd
    subst hd
    refine forP_nx (κ1 := [.shr, .own, .shr, .shr]) rfl ?_
    refine o_ret (d := .tup [eT (qs.map fun q => ((q.2 : Nat) : Int)), .int (r : Nat)]) rfl ?_ rfl q_ret0
    simp [prodP]
/-- a row of the powers of a fraction -/
def BRowOf (fp fo : Nat) : List Sm := [.ite (.or (.cmp .lt (.var 0) (.cst (.int 1))) (.cmp .lt (.var 1) (.cst (.int 1)))) [.rse 0] [],
    .unp [2, 3] (.cal fp [.var 0]),
    .unp [4, 5] (.cal fp [.var 1]),
    .ite (.cmp .ne (.var 3) (.var 5)) [.rse 0] [],
    .ret (.cal fo [.var 2, .var 4])]
def exps (qs : List (Nat × Nat)) : List Int := qs.map fun q => ((q.2 : Nat) : Int)
theorem rowOf_call {k fp fo : Nat} (h : Has fns f 2 6 (BRowOf fp fo) .pur) (hp : Has fns fp 1 4 (BPowersIn k) .pur) (ho : Has fns fo 2 4 (BZip .sub) .pur) {q1 q2 : List (Nat × Nat)} {r : Nat} (g1 : gl k = .tup (q1.map fun q => Dat.int (q.1 : Nat))) (g2 : gl k = .tup (q2.map fun q => Dat.int (q.1 : Nat))) (h1 : Good r q1) (h2 : Good r q2)
    (l1 : q1.length ≤ 100) (l2 : q2.length ≤ 100) (p1 : 1 ≤ prodP q1 * r) (p2 : 1 ≤ prodP q2 * r) : callF fns gl (n + 2) f [.int ((prodP q1 * r : Nat) : Int), .int ((prodP q2 * r : Nat) : Int)] = .ok (eT ((exps q1).zipWith (· - ·) (exps q2))) := by
  refine h.pur rfl (pure_eT _) ?_
  have c1 := powersIn_call (gl := gl) (n := n) hp g1 h1 l1
  have c2 := powersIn_call (gl := gl) (n := n) hp g2 h2 l2
  generalize prodP q1 * r = A at c1 p1 ⊢
  generalize prodP q2 * r = B at c2 p2 ⊢
  have z1 : decide ((A : Int) < 1) = false := decide_eq_false (by omega)
  have z2 : decide ((B : Int) < 1) = false := decide_eq_false (by omega)
  refine o_ifF (by
    simp only [evE_or, evE_cmp, evE_var, evE_cst, List.map_cons, List.map_nil, List.cons_append, getV_zero, getV_succ, Rs.ok_bind, cmp_lt, z1, z2, truth_bl]
    rfl) ?_
  have fl : ∀ (es : List Ex) (κ : Kd), decide (2 ≤ flE (rfs fns) (.cal fp es) κ) = true := fun es κ => by
    simp only [flE, hp.rf]
    rfl
  have lk : ∀ es : List Ex, leak (rfs fns) (.cal fp es) = [] := fun es => by
    simp only [leak, hp.rf]
  refine o_unp (d := .tup [eT (exps q1), .int (r : Nat)]) (by simp [c1, exps]) (by rw [lk]) (fl _ _) rfl ?_
  refine o_unp (d := .tup [eT (exps q2), .int (r : Nat)]) (by simp [c2, exps]) (by rw [lk]) (fl _ _) rfl ?_
  refine o_ifF (by simp) ?_
  exact o_ret (d := eT ((exps q1).zipWith (· - ·) (exps q2))) rfl (by simp [zip_call (g := (· - ·)) (fun _ _ => rfl) ho (show (exps q1).length ≤ 1000 by simp [exps]; omega)]) rfl q_ret0
/-- the five primes -/
def five (es : List Nat) : List (Nat × Nat) := [2, 3, 5, 7, 11].zip es
theorem good5 {r a b c d e : Nat} (h2 : ¬ 2 ∣ r) (h3 : ¬ 3 ∣ r) (h5 : ¬ 5 ∣ r) (h7 : ¬ 7 ∣ r) (h11 : ¬ 11 ∣ r) (ha : a ≤ 2000) (hb : b ≤ 2000) (hc : c ≤ 2000) (hd : d ≤ 2000) (he : e ≤ 2000) : Good r (five [a, b, c, d, e]) := by
  have co : ∀ {p q : Nat} (k : Nat), Nat.Coprime p q → Nat.Coprime p (q ^ k) := fun k h => Nat.Coprime.pow_right k h
  have fin : ∀ {p X : Nat}, Nat.Coprime p X → ¬ p ∣ r → ¬ p ∣ X * r := fun h1 h2 h3 => h2 (Nat.Coprime.dvd_of_dvd_mul_left h1 h3)
  have one : ∀ p : Nat, Nat.Coprime p 1 := fun p => Nat.coprime_one_right p
  refine ⟨by decide, by decide, ha, fin ?_ h2, by decide, by decide, hb, fin ?_ h3, by decide, by decide, hc, fin ?_ h5, by decide, by decide, hd, fin ?_ h7, by decide, by decide, he, fin (one _) h11, trivial⟩
  · exact (co b (by decide)).mul_right ((co c (by decide)).mul_right ((co d (by decide)).mul_right ((co e (by decide)).mul_right (one _))))
  · exact (co c (by decide)).mul_right ((co d (by decide)).mul_right ((co e (by decide)).mul_right (one _)))
  · exact (co d (by decide)).mul_right ((co e (by decide)).mul_right (one _))
  · exact (co e (by decide)).mul_right (one _)
theorem split1 (p : Nat) (hp : 2 ≤ p) : ∀ n : Nat, 0 < n → ∃ e r, n = p ^ e * r ∧ ¬ p ∣ r := by
  intro n
  induction n using Nat.strongRecOn with
  | ind n ih =>
    intro h
    by_cases hd : p ∣ n
    · obtain ⟨m, rfl⟩ := hd
      have hm : 0 < m := Nat.pos_of_ne_zero fun z => by subst z; simp at h
      obtain ⟨e, r, e1, e2⟩ := ih m (by
        have : 2 * m ≤ p * m := Nat.mul_le_mul_right m hp
        omega) hm
      refine ⟨e + 1, r, ?_, e2⟩
      rw [Nat.pow_succ, Nat.mul_comm (p ^ e) p, Nat.mul_assoc, ← e1]
    · exact ⟨0, n, by simp, hd⟩
theorem split5 (n : Nat) (hn : 0 < n) : ∃ a b c d e r, n = prodP (five [a, b, c, d, e]) * r ∧ ¬ 2 ∣ r ∧ ¬ 3 ∣ r ∧ ¬ 5 ∣ r ∧ ¬ 7 ∣ r ∧ ¬ 11 ∣ r := by
  have pos : ∀ {p e r m : Nat}, 0 < m → m = p ^ e * r → 0 < r := fun h1 h2 => Nat.pos_of_ne_zero fun z => by
    rw [z, Nat.mul_zero] at h2
    omega
  have dv : ∀ {q p e r m : Nat}, m = p ^ e * r → ¬ q ∣ m → ¬ q ∣ r := fun h1 h2 h3 => h2 (by rw [h1]; exact Nat.dvd_trans h3 (Nat.dvd_mul_left _ _))
  obtain ⟨a, n1, e1, d1⟩ := split1 2 (by decide) n hn
  have p1 := pos hn e1
  obtain ⟨b, n2, e2, d2⟩ := split1 3 (by decide) n1 p1
  have p2 := pos p1 e2
  obtain ⟨c, n3, e3, d3⟩ := split1 5 (by decide) n2 p2
  have p3 := pos p2 e3
  obtain ⟨d, n4, e4, d4⟩ := split1 7 (by decide) n3 p3
  have p4 := pos p3 e4
  obtain ⟨e, n5, e5, d5⟩ := split1 11 (by decide) n4 p4
  refine ⟨a, b, c, d, e, n5, ?_, dv e5 (dv e4 (dv e3 (dv e2 d1))), dv e5 (dv e4 (dv e3 d2)), dv e5 (dv e4 d3), dv e5 d4, d5⟩
  show n = 2 ^ a * (3 ^ b * (5 ^ c * (7 ^ d * (11 ^ e * 1)))) * n5
  rw [e1, e2, e3, e4, e5]
  simp only [Nat.mul_one, Nat.mul_assoc]
theorem prodP_add {a b c d e a' b' c' d' e' : Nat} : prodP (five [a, b, c, d, e]) * prodP (five [a', b', c', d', e']) = prodP (five [a + a', b + b', c + c', d + d', e + e']) := by
  show (2 ^ a * (3 ^ b * (5 ^ c * (7 ^ d * (11 ^ e * 1))))) * (2 ^ a' * (3 ^ b' * (5 ^ c' * (7 ^ d' * (11 ^ e' * 1))))) = 2 ^ (a + a') * (3 ^ (b + b') * (5 ^ (c + c') * (7 ^ (d + d') * (11 ^ (e + e') * 1))))
  simp only [Nat.pow_add, Nat.mul_one]
  ac_rfl
theorem prodP_pos {es : List Nat} : 0 < prodP (five es) := by
  have : ∀ qs : List (Nat × Nat), (∀ q ∈ qs, 0 < q.1) → 0 < prodP qs := fun qs => by
    induction qs with
    | nil => intro _; decide
    | cons q qs ih => intro h; exact Nat.mul_pos (Nat.pow_pos (h q List.mem_cons_self)) (ih fun z hz => h z (List.mem_cons_of_mem _ hz))
  refine this _ fun q hq => ?_
  have := (List.of_mem_zip hq).1
  simp at this
  omega
theorem prodP_le : ∀ qs : List (Nat × Nat), (∀ q ∈ qs, q.1 < 16 ∧ q.2 ≤ 1000) → prodP qs ≤ 2 ^ (4001 * qs.length)
  | [], _ => by decide
  | (p, e) :: qs, h => by
    have h1 := pow_lt (m := e) (N := 1000) (h _ List.mem_cons_self).1 (h _ List.mem_cons_self).2
    have h2 := prodP_le qs fun q hq => h q (List.mem_cons_of_mem _ hq)
    show p ^ e * prodP qs ≤ 2 ^ (4001 * (qs.length + 1))
    rw [Nat.mul_add, Nat.add_comm, Nat.pow_add]
    exact Nat.mul_le_mul (Nat.le_of_lt h1) h2
theorem prodP_pos' : ∀ qs : List (Nat × Nat), (∀ q ∈ qs, 0 < q.1) → 0 < prodP qs
  | [], _ => by decide
  | q :: qs, h => Nat.mul_pos (Nat.pow_pos (h q List.mem_cons_self)) (prodP_pos' qs fun z hz => h z (List.mem_cons_of_mem _ hz))
/-- the product of the powers above nought, and of those below -/
def BFractionOf (k fr : Nat) : List Sm := [.asg 1 (.cst (.int 1)),
    .asg 2 (.cst (.int 1)),
    .fr (.tp [3, 4]) (.zip (.glo k) (.var 0)) [.ite (.cmp .gt (.var 4) (.cst (.int 0))) [.asg 1 (.bin .mul (.var 1) (.cal fr [.var 3, .var 4]))] [.asg 2 (.bin .mul (.var 2) (.cal fr [.var 3, .bin .sub (.cst (.int 0)) (.var 4)]))]],
    .ret (.tup [.var 1, .var 2])]
def posP (qs : List (Nat × Int)) : List (Nat × Nat) := qs.map fun q => (q.1, q.2.toNat)
def negP (qs : List (Nat × Int)) : List (Nat × Nat) := qs.map fun q => (q.1, (-q.2).toNat)
theorem fractionOf_call {k fr : Nat} (h : Has fns f 1 5 (BFractionOf k fr) .pur) (hr : Has fns fr 2 3 BRaised .pur) {ps : List Nat} {tone : List Int} (hg : gl k = .tup (ps.map fun q => Dat.int (q : Nat))) (hp : ∀ p ∈ ps, 2 ≤ p ∧ p < 16) (ht : ∀ c ∈ tone, -1000 ≤ c ∧ c ≤ 1000) (hl : ps.length ≤ 5) :
    callF fns gl (n + 2) f [eT tone] = .ok (.tup [.int (prodP (posP (ps.zip tone)) : Nat), .int (prodP (negP (ps.zip tone)) : Nat)]) := by
  have hq : ∀ q ∈ ps.zip tone, (2 ≤ q.1 ∧ q.1 < 16) ∧ (-1000 ≤ q.2 ∧ q.2 ≤ 1000) := fun q hq => ⟨hp _ (List.of_mem_zip hq).1, ht _ (List.of_mem_zip hq).2⟩
  have ql : (ps.zip tone).length ≤ 5 := by rw [List.length_zip]; omega
  have big : ∀ (F : Int → Nat), (∀ c, -1000 ≤ c → c ≤ 1000 → F c ≤ 1000) → ∀ top X : Nat, 0 < X → top * X = prodP ((ps.zip tone).map fun q => (q.1, F q.2)) → ((top : Nat) : Int).natAbs < 2 ^ 20006 := fun F hF top X hX e => by
    have b := prodP_le ((ps.zip tone).map fun q => (q.1, F q.2)) fun q hq' => by
      obtain ⟨z, hz, rfl⟩ := List.mem_map.mp hq'
      have := hq z hz
      exact ⟨this.1.2, hF _ this.2.1 this.2.2⟩
    have b2 : top ≤ top * X := Nat.le_mul_of_pos_right _ hX
    have b3 : 2 ^ (4001 * ((ps.zip tone).map fun q => (q.1, F q.2)).length) ≤ 2 ^ 20005 := Nat.pow_le_pow_right (by decide) (by rw [List.length_map]; omega)
    have b4 : (2 : Nat) ^ 20005 < 2 ^ 20006 := Nat.pow_lt_pow_right (by decide) (by decide)
    rw [Int.natAbs_natCast]
    omega
  have posX : ∀ (F : Int → Nat) (xs : List (Nat × Int)), (∀ q ∈ xs, 2 ≤ q.1) → 0 < prodP (xs.map fun q => (q.1, F q.2)) := fun F xs hx => prodP_pos' _ fun q hq' => by
    obtain ⟨z, hz, rfl⟩ := List.mem_map.mp hq'
    have := hx z hz
    show 0 < z.1
    omega
  refine h.pur rfl rfl ?_
  refine o_asg (d := .int 1) (by simp) rfl rfl rfl rfl ?_
  refine o_asg (d := .int 1) (by simp) rfl rfl rfl rfl ?_
  refine o_fr (κ1 := [.shr, .shr, .shr, .shr, .shr]) (ds := (ps.zip tone).map fun q => Dat.tup [.int (q.1 : Nat), .int q.2]) rfl rfl ?_ ?_
  · simp only [evS_zip, evE_glo, evE_var, hg, Rs.ok_bind]
    simp only [List.map_cons, List.map_nil, List.cons_append, List.set_cons_succ, List.set_cons_zero, getV_zero, Rs.ok_bind, zip_tt, List.zip_map, List.map_map]
    rfl
  refine for_inv (fun q : Nat × Int => Dat.tup [.int (q.1 : Nat), .int q.2]) (fun xs κ ρ => κ = [.shr, .shr, .shr, .shr, .shr] ∧ (∀ q ∈ xs, (2 ≤ q.1 ∧ q.1 < 16) ∧ (-1000 ≤ q.2 ∧ q.2 ≤ 1000)) ∧ ∃ (top bot : Nat) (o3 o4 : Option Dat), top * prodP (posP xs) = prodP (posP (ps.zip tone)) ∧ bot * prodP (negP xs) = prodP (negP (ps.zip tone)) ∧ ρ = [some (eT tone), some (.int (top : Nat)), some (.int (bot : Nat)), o3, o4]) ?_ ?_ (ps.zip tone) _ _ ⟨rfl, hq, 1, 1, none, none, Nat.one_mul _, Nat.one_mul _, rfl⟩
  · rintro ⟨p, c⟩ xs κ ρ ⟨rfl, hx, top, bot, o3, o4, e1, e2, rfl⟩
    have hx1 := hx (p, c) List.mem_cons_self
    have hx2 : ∀ q ∈ xs, (2 ≤ q.1 ∧ q.1 < 16) ∧ (-1000 ≤ q.2 ∧ q.2 ≤ 1000) := fun q hq => hx q (List.mem_cons_of_mem _ hq)
    have f1 : top * p ^ c.toNat * prodP (posP xs) = prodP (posP (ps.zip tone)) := by rw [Nat.mul_assoc]; exact e1
    have f2 : bot * p ^ (-c).toNat * prodP (negP xs) = prodP (negP (ps.zip tone)) := by rw [Nat.mul_assoc]; exact e2
    have flc : ∀ es : List Ex, leak (rfs fns) (.cal fr es) = [] := fun es => by simp only [leak, hr.rf]
    refine ⟨_, rfl, ?_⟩
    refine o_ite (k := decide (0 < c)) (by simp) (fun hc => ?_) fun hc => ?_
    · have hc := of_decide_eq_true hc
      have c1 := raised_call (gl := gl) (n := n) hr (p := p) (N := c.toNat) (by omega) (by omega)
      rw [Int.toNat_of_nonneg (by omega)] at c1
      have m1 : mulOk ((top : Nat) : Int) ((p ^ c.toNat : Nat) : Int) = true := mul_ok (big Int.toNat (fun c h1 h2 => by omega) top _ (posX Int.toNat ((p, c) :: xs) fun q hq => (hx q hq).1.1) e1) (by rw [Int.natAbs_natCast]; exact pow_lt (N := 1000) (by omega) (by omega)) (by decide)
      refine o_asg (d := .int ((top * p ^ c.toNat : Nat) : Int)) ?_ rfl rfl (by simp only [flE, hr.rf]; rfl) rfl ?_
      · simp only [evE_bin, evE_var, evE_cal, evL_cons, evL_nil, getV_zero, getV_succ, List.zip_cons_cons, List.zip_nil_right, List.foldl_cons, List.foldl_nil, List.set_cons_succ, List.set_cons_zero, Rs.ok_bind, c1]
        rw [bin_mul m1, ← Int.natCast_mul]
      · have bz : (-c).toNat = 0 := by omega
        rw [bz, Nat.pow_zero, Nat.mul_one] at f2
        exact o_nil (thenP_nx (o_nil ⟨rfl, hx2, _, bot, some (.int (p : Nat)), some (.int c), f1, f2, rfl⟩))
    · have hc := of_decide_eq_false hc
      have c1 := raised_call (gl := gl) (n := n) hr (p := p) (N := (-c).toNat) (by omega) (by omega)
      rw [Int.toNat_of_nonneg (by omega)] at c1
      have m1 : mulOk ((bot : Nat) : Int) ((p ^ (-c).toNat : Nat) : Int) = true := mul_ok (big (fun c => (-c).toNat) (fun c h1 h2 => by omega) bot _ (posX (fun c => (-c).toNat) ((p, c) :: xs) fun q hq => (hx q hq).1.1) e2) (by rw [Int.natAbs_natCast]; exact pow_lt (N := 1000) (by omega) (by omega)) (by decide)
      refine o_asg (d := .int ((bot * p ^ (-c).toNat : Nat) : Int)) ?_ rfl rfl (by simp only [flE, hr.rf]; rfl) rfl ?_
      · simp only [evE_bin, evE_var, evE_cst, evE_cal, evL_cons, evL_nil, getV_zero, getV_succ, List.zip_cons_cons, List.zip_nil_right, List.foldl_cons, List.foldl_nil, List.set_cons_succ, List.set_cons_zero, Rs.ok_bind, bin_sub]
        rw [show (0 : Int) - c = -c by omega, c1]
        simp only [Rs.ok_bind]
        rw [bin_mul m1, ← Int.natCast_mul]
      · have bz : c.toNat = 0 := by omega
        rw [bz, Nat.pow_zero, Nat.mul_one] at f1
        exact o_nil (thenP_nx (o_nil ⟨rfl, hx2, top, _, some (.int (p : Nat)), some (.int c), f1, f2, rfl⟩))
  · rintro κ ρ ⟨rfl, _, top, bot, o3, o4, e1, e2, rfl⟩
    refine forP_nx (κ1 := [.shr, .shr, .shr, .shr, .shr]) rfl ?_
    have e1 : top = prodP (posP (ps.zip tone)) := by rw [← e1]; exact (Nat.mul_one top).symm
    have e2 : bot = prodP (negP (ps.zip tone)) := by rw [← e2]; exact (Nat.mul_one bot).symm
    rw [e1, e2]
    exact o_ret rfl (by simp) rfl q_ret0
end
end PV

/-! PV, part T: measures of tones -/
namespace PV
open PySem PySem.Spec PyProof.Rows L2
theorem prodP_le2 : ∀ qs : List (Nat × Nat), (∀ q ∈ qs, q.1 < 16 ∧ q.2 ≤ 2000) → prodP qs ≤ 2 ^ (8001 * qs.length)
  | [], _ => by decide
  | (p, e) :: qs, h => by
    have h1 := pow_lt (m := e) (N := 2000) (h _ List.mem_cons_self).1 (h _ List.mem_cons_self).2
    have h2 := prodP_le2 qs fun q hq => h q (List.mem_cons_of_mem _ hq)
    show p ^ e * prodP qs ≤ 2 ^ (8001 * (qs.length + 1))
    rw [Nat.mul_add, Nat.add_comm, Nat.pow_add]
    exact Nat.mul_le_mul (Nat.le_of_lt h1) h2
theorem pow_split {p : Nat} (hp : 2 ≤ p) : ∀ (a b X Y : Nat), ¬ p ∣ X → ¬ p ∣ Y → p ^ a * X = p ^ b * Y → a = b ∧ X = Y
  | 0, 0, X, Y, _, _, e => ⟨rfl, by simpa using e⟩
  | 0, b + 1, X, Y, hX, _, e => by
    refine absurd ⟨p ^ b * Y, ?_⟩ hX
    rw [Nat.pow_zero, Nat.one_mul, Nat.pow_succ, Nat.mul_comm (p ^ b) p, Nat.mul_assoc] at e
    exact e
  | a + 1, 0, X, Y, _, hY, e => by
    refine absurd ⟨p ^ a * X, ?_⟩ hY
    rw [Nat.pow_zero, Nat.one_mul, Nat.pow_succ, Nat.mul_comm (p ^ a) p, Nat.mul_assoc] at e
    exact e.symm
  | a + 1, b + 1, X, Y, hX, hY, e => by
    have e2 : p ^ a * X = p ^ b * Y := by
      rw [Nat.pow_succ, Nat.pow_succ, Nat.mul_comm (p ^ a) p, Nat.mul_comm (p ^ b) p, Nat.mul_assoc, Nat.mul_assoc] at e
      exact Nat.eq_of_mul_eq_mul_left (by omega) e
    obtain ⟨h1, h2⟩ := pow_split hp a b X Y hX hY e2
    exact ⟨by rw [h1], h2⟩
theorem good_inj : ∀ qs qs' : List (Nat × Nat), qs.map (·.1) = qs'.map (·.1) → Good 1 qs → Good 1 qs' → prodP qs = prodP qs' → qs = qs'
  | [], [], _, _, _, _ => rfl
  | [], _ :: _, h, _, _, _ => by cases h
  | _ :: _, [], h, _, _, _ => by cases h
  | (p, e) :: qs, (p', e') :: qs', h, g, g', q => by
    injection h with h1 h2
    have h1 : p = p' := h1
    subst h1
    obtain ⟨a1, a2, a3, a4, a5⟩ := g
    obtain ⟨b1, b2, b3, b4, b5⟩ := g'
    rw [Nat.mul_one] at a4 b4
    obtain ⟨c1, c2⟩ := pow_split a1 e e' (prodP qs) (prodP qs') a4 b4 q
    rw [c1, good_inj qs qs' h2 a5 b5 c2]
theorem five_inj {a b c d e a' b' c' d' e' : Nat} (ha : a ≤ 2000) (hb : b ≤ 2000) (hc : c ≤ 2000) (hd : d ≤ 2000) (he : e ≤ 2000) (ha' : a' ≤ 2000) (hb' : b' ≤ 2000) (hc' : c' ≤ 2000) (hd' : d' ≤ 2000) (he' : e' ≤ 2000)
    (h : prodP (five [a, b, c, d, e]) = prodP (five [a', b', c', d', e'])) : a = a' ∧ b = b' ∧ c = c' ∧ d = d' ∧ e = e' := by
  have := good_inj (five [a, b, c, d, e]) (five [a', b', c', d', e']) rfl (good5 (by decide) (by decide) (by decide) (by decide) (by decide) ha hb hc hd he) (good5 (by decide) (by decide) (by decide) (by decide) (by decide) ha' hb' hc' hd' he') h
  simp only [five, List.zip_cons_cons, List.zip_nil_right, List.cons.injEq, Prod.mk.injEq, true_and, and_true] at this
  exact this
section
variable {fns : List FnD} {gl : Nat → Dat} {f fr n : Nat}
abbrev Tr := Nat × (Int × Int)
def trD (q : Tr) : Dat := .tup [.int (q.1 : Nat), .int q.2.1, .int q.2.2]
def trN (q : Tr) : Nat × Nat := (q.1, (q.2.1 + q.2.2).toNat)
def trOk (q : Tr) : Prop := (1 ≤ q.1 ∧ q.1 < 16) ∧ 0 ≤ q.2.1 + q.2.2 ∧ q.2.1 + q.2.2 ≤ 2000
theorem zip3_tr (ps : List Nat) (ts bs : List Int) : zipL3 (ps.map fun p => Dat.int (p : Nat)) (ts.map Dat.int) (bs.map Dat.int) = (ps.zip (ts.zip bs)).map trD := by
  unfold zipL3
  rw [List.zip_map, List.zip_map, List.map_map]
  rfl
theorem tr_big {qs : List Tr} (ql : qs.length ≤ 5) (hq : ∀ q ∈ qs, trOk q) {m X : Nat} (hX : 0 < X) (e : m * X = prodP (qs.map trN)) : ((m : Nat) : Int).natAbs < 2 ^ 40006 := by
  have b := prodP_le2 (qs.map trN) fun q hq' => by
    obtain ⟨z, hz, rfl⟩ := List.mem_map.mp hq'
    obtain ⟨h1, h2, h3⟩ := hq z hz
    exact ⟨h1.2, by show (z.2.1 + z.2.2).toNat ≤ 2000; omega⟩
  have b2 : m ≤ m * X := Nat.le_mul_of_pos_right _ hX
  have b3 : 2 ^ (8001 * (qs.map trN).length) ≤ 2 ^ 40005 := Nat.pow_le_pow_right (by decide) (by rw [List.length_map]; omega)
  have b4 : (2 : Nat) ^ 40005 < 2 ^ 40006 := Nat.pow_lt_pow_right (by decide) (by decide)
  rw [Int.natAbs_natCast]
  omega
theorem tr_pos {qs : List Tr} (hq : ∀ q ∈ qs, trOk q) : 0 < prodP (qs.map trN) := prodP_pos' _ fun q hq' => by
  obtain ⟨z, hz, rfl⟩ := List.mem_map.mp hq'
  exact (hq z hz).1.1
/-- the product of the primes, each raised to count and bound together -/
def BMeasure (kp kb fr : Nat) : List Sm := [.asg 1 (.cst (.int 1)),
    .fr (.tp [2, 3, 4]) (.zip3 (.glo kp) (.var 0) (.glo kb)) [.asg 1 (.bin .mul (.var 1) (.cal fr [.var 2, .bin .add (.var 3) (.var 4)]))],
    .ret (.var 1)]
theorem measure_call {kp kb : Nat} (h : Has fns f 1 5 (BMeasure kp kb fr) .pur) (hr : Has fns fr 2 3 BRaised .pur) {ps : List Nat} {tone bs : List Int} (hg : gl kp = .tup (ps.map fun q => Dat.int (q : Nat))) (hg2 : gl kb = eT bs) (hl : ps.length ≤ 5) (hq : ∀ q ∈ ps.zip (tone.zip bs), trOk q) :
    callF fns gl (n + 2) f [eT tone] = .ok (.int (prodP ((ps.zip (tone.zip bs)).map trN) : Nat)) := by
  have ql : (ps.zip (tone.zip bs)).length ≤ 5 := by rw [List.length_zip]; omega
  refine h.pur rfl rfl ?_
  refine o_asg (d := .int 1) (by simp) rfl rfl rfl rfl ?_
  refine o_fr (κ1 := [.shr, .shr, .shr, .shr, .shr]) (ds := (ps.zip (tone.zip bs)).map trD) rfl rfl ?_ ?_
  · simp only [evS_zip3, evE_glo, evE_var, hg, hg2, Rs.ok_bind]
    simp only [List.map_cons, List.map_nil, List.cons_append, List.set_cons_succ, List.set_cons_zero, getV_zero, Rs.ok_bind, zip_ttt, zip3_tr]
  refine for_inv trD (fun xs κ ρ => κ = [.shr, .shr, .shr, .shr, .shr] ∧ (∀ q ∈ xs, trOk q) ∧ ∃ (m : Nat) (o2 o3 o4 : Option Dat), m * prodP (xs.map trN) = prodP ((ps.zip (tone.zip bs)).map trN) ∧ ρ = [some (eT tone), some (.int (m : Nat)), o2, o3, o4]) ?_ ?_ (ps.zip (tone.zip bs)) _ _ ⟨rfl, hq, 1, none, none, none, Nat.one_mul _, rfl⟩
  · rintro ⟨p, t, b⟩ xs κ ρ ⟨rfl, hx, m, o2, o3, o4, e1, rfl⟩
    obtain ⟨⟨hp1, hp2⟩, ht1, ht2⟩ := hx (p, t, b) List.mem_cons_self
    dsimp only at hp1 hp2 ht1 ht2
    have hx2 : ∀ q ∈ xs, trOk q := fun q hq => hx q (List.mem_cons_of_mem _ hq)
    refine ⟨[some (eT tone), some (.int (m : Nat)), some (.int (p : Nat)), some (.int t), some (.int b)], rfl, ?_⟩
    have c1 := raised_call (gl := gl) (n := n) hr (p := p) (N := (t + b).toNat) (by omega) (by omega)
    rw [Int.toNat_of_nonneg (by omega)] at c1
    have m1 : mulOk ((m : Nat) : Int) ((p ^ (t + b).toNat : Nat) : Int) = true := mul_ok (tr_big ql hq (tr_pos hx) e1) (by rw [Int.natAbs_natCast]; exact pow_lt (N := 2000) (by omega) (by omega)) (by decide)
    refine o_asg (d := .int ((m * p ^ (t + b).toNat : Nat) : Int)) ?_ rfl rfl (by simp only [flE, hr.rf]; rfl) rfl ?_
    · simp only [evE_bin, evE_var, evE_cal, evL_cons, evL_nil, getV_zero, getV_succ, Rs.ok_bind, bin_add, c1]
      rw [bin_mul m1, ← Int.natCast_mul]
    · refine o_nil ⟨rfl, hx2, m * p ^ (t + b).toNat, some (.int (p : Nat)), some (.int t), some (.int b), ?_, rfl⟩
      rw [Nat.mul_assoc]
      exact e1
  · rintro κ ρ ⟨rfl, _, m, o2, o3, o4, e1, rfl⟩
    refine forP_nx (κ1 := [.shr, .shr, .shr, .shr, .shr]) rfl ?_
    have e1 : m = prodP ((ps.zip (tone.zip bs)).map trN) := by rw [← e1]; exact (Nat.mul_one m).symm
    rw [e1]
    exact o_retv rfl rfl (q_ret rfl)
/-- the measure of a tone -/
def meas (t : List Int) : Nat := prodP (([2, 3, 5, 7, 11].zip (t.zip [700, 60, 60, 60, 60])).map trN)
/-- within the bounds of tones -/
def InB (t : List Int) : Prop := ∃ a b c d e : Int, t = [a, b, c, d, e] ∧ (-700 ≤ a ∧ a ≤ 700) ∧ (-60 ≤ b ∧ b ≤ 60) ∧ (-60 ≤ c ∧ c ≤ 60) ∧ (-60 ≤ d ∧ d ≤ 60) ∧ (-60 ≤ e ∧ e ≤ 60)
theorem InB.tr {t : List Int} (h : InB t) : ∀ q ∈ [2, 3, 5, 7, 11].zip (t.zip [700, 60, 60, 60, 60]), trOk q := by
  obtain ⟨a, b, c, d, e, rfl, ha, hb, hc, hd, he⟩ := h
  intro q hq
  simp only [List.zip_cons_cons, List.zip_nil_right, List.mem_cons, List.not_mem_nil, or_false] at hq
  rcases hq with rfl | rfl | rfl | rfl | rfl <;> exact ⟨⟨by dsimp only; omega, by dsimp only; omega⟩, by dsimp only; omega, by dsimp only; omega⟩
theorem meas_pos {t : List Int} (h : InB t) : 0 < meas t := tr_pos h.tr
theorem meas5 {a b c d e : Int} : meas [a, b, c, d, e] = prodP (five [(a + 700).toNat, (b + 60).toNat, (c + 60).toNat, (d + 60).toNat, (e + 60).toNat]) := rfl
theorem meas_inj {t u : List Int} (ht : InB t) (hu : InB u) (h : meas t = meas u) : t = u := by
  obtain ⟨a, b, c, d, e, rfl, ha, hb, hc, hd, he⟩ := ht
  obtain ⟨a', b', c', d', e', rfl, ha', hb', hc', hd', he'⟩ := hu
  rw [meas5, meas5] at h
  have := five_inj (by omega) (by omega) (by omega) (by omega) (by omega) (by omega) (by omega) (by omega) (by omega) (by omega) h
  obtain ⟨h1, h2, h3, h4, h5⟩ := this
  rw [show a = a' by omega, show b = b' by omega, show c = c' by omega, show d = d' by omega, show e = e' by omega]
theorem meas_lt {t : List Int} (h : InB t) : ((meas t : Nat) : Int).natAbs < 2 ^ 40006 := tr_big (by rw [List.length_zip]; exact Nat.min_le_left _ _) h.tr Nat.one_pos (Nat.mul_one _)
theorem meas_call {kp kb : Nat} (h : Has fns f 1 5 (BMeasure kp kb fr) .pur) (hr : Has fns fr 2 3 BRaised .pur) (hg : gl kp = eT [2, 3, 5, 7, 11]) (hg2 : gl kb = eT [700, 60, 60, 60, 60]) {t : List Int} (ht : InB t) : callF fns gl (n + 2) f [eT t] = .ok (.int (meas t : Nat)) :=
  measure_call (ps := [2, 3, 5, 7, 11]) h hr hg hg2 (by decide) ht.tr
end
end PV
namespace PV
open PySem PySem.Spec PyProof.Rows L2
theorem lst_0 {a : Dat} {xs : List Dat} : idxD (.lst (a :: xs)) (.int 0) = .ok a := idx_lst (i := 0) rfl
theorem lst_1 {a b : Dat} {xs : List Dat} : idxD (.lst (a :: b :: xs)) (.int 1) = .ok b := idx_lst (i := 1) rfl
theorem lst_2 {a b c : Dat} {xs : List Dat} : idxD (.lst (a :: b :: c :: xs)) (.int 2) = .ok c := idx_lst (i := 2) rfl
theorem lst_3 {a b c d : Dat} {xs : List Dat} : idxD (.lst (a :: b :: c :: d :: xs)) (.int 3) = .ok d := idx_lst (i := 3) rfl
theorem lst_4 {a b c d e : Dat} {xs : List Dat} : idxD (.lst (a :: b :: c :: d :: e :: xs)) (.int 4) = .ok e := idx_lst (i := 4) rfl
theorem atI_last {α : Type} (xs : List α) (d : α) : atI (xs ++ [d]) (-1) = some d := by
  unfold atI
  have h : ixN (xs ++ [d]).length (-1) = some xs.length := by
    unfold ixN
    simp
    omega
  rw [h]
  simp
theorem idx_last {xs : List Dat} {d : Dat} : idxD (.lst (xs ++ [d])) (.int (-1)) = .ok d := by
  simp only [idxD, atI_last]
end PV

/-! PV, part U: tones compared -/
namespace PV
open PySem PySem.Spec PyProof.Rows L2
section
variable {cf : Nat → List Dat → Rs Dat} {gl : Nat → Dat} {rf : Nat → Rf} {ss : List Sm} {κ : Kd} {ρ : Env} {P : End → Prop}
/-- x = f(..), f's answer holds no list -/
theorem o_asgC {i f : Nat} {es : List Ex} {d : Dat} {κ' : Kd} (hf : rf f = .pur) (he : evE cf gl (.cal f es) ρ = .ok d) (hp : isMut d = false) (hk : setK κ i .shr = κ') (k : Out (exSs cf gl rf ss κ' (ρ.set i (some d))) P) : Out (exSs cf gl rf (.asg i (.cal f es) :: ss) κ ρ) P := by
  have hl : leak rf (.cal f es) = [] := by simp only [leak, hf]
  refine o_asg (κ1 := κ) (fl := 3) he (by rw [hl]; rfl) (by simp only [flE, hf]; rfl) rfl ?_ k
  rw [hp]
  exact hk
@[simp] theorem bi_intb {k : Bool} : doBi .int [.bl k] = .ok (.int (if k then 1 else 0)) := eq_of_heq HEq.rfl
end
def cmpN (A B : Nat) : Int := if A = B then 0 else if A < B then -1 else 1
theorem cmpN_swap (A B : Nat) : cmpN B A = 0 - cmpN A B := by
  unfold cmpN
  by_cases h : A = B
  · rw [if_pos h, if_pos h.symm]
    rfl
  · rw [if_neg h, if_neg (Ne.symm h)]
    by_cases h2 : A < B
    · rw [if_pos h2, if_neg (by omega)]
      rfl
    · rw [if_neg h2, if_pos (by omega)]
      rfl
theorem cmpN_mul {A B P N : Nat} (hA : 0 < A) (hB : 0 < B) (hN : 0 < N) (h : A * N = B * P) : cmpN A B = cmpN P N := by
  rcases Nat.lt_trichotomy A B with l | e | g
  · have : P < N := by
      apply Nat.lt_of_not_le
      intro hle
      have h1 : A * N ≤ A * P := Nat.mul_le_mul_left _ hle
      have h2 : A * P < B * P := Nat.mul_lt_mul_of_pos_right l (by omega)
      omega
    unfold cmpN
    rw [if_neg (by omega), if_pos l, if_neg (by omega), if_pos this]
  · subst e
    have : N = P := Nat.eq_of_mul_eq_mul_left hA h
    subst this
    unfold cmpN
    rw [if_pos rfl, if_pos rfl]
  · have : N < P := by
      apply Nat.lt_of_not_le
      intro hle
      have h1 : B * P ≤ B * N := Nat.mul_le_mul_left _ hle
      have h2 : B * N < A * N := Nat.mul_lt_mul_of_pos_right g hN
      omega
    unfold cmpN
    rw [if_neg (by omega), if_neg (by omega), if_neg (by omega), if_neg (by omega)]
/-- the product of the powers above, below nought of a row -/
def abv (d : List Int) : Nat := prodP (five (d.map Int.toNat))
def blw (d : List Int) : Nat := prodP (five (d.map fun c => (-c).toNat))
theorem abv_pos {d : List Int} : 0 < abv d := prodP_pos
theorem blw_pos {d : List Int} : 0 < blw d := prodP_pos
theorem meas_diff {x y d : List Int} (hx : InB x) (hy : InB y) (hd : d = x.zipWith (· - ·) y) : meas x * blw d = meas y * abv d := by
  obtain ⟨a, b, c, d, e, rfl, ha, hb, hc, hd', he⟩ := hx
  obtain ⟨a', b', c', d', e', rfl, ha', hb', hc', hd'', he'⟩ := hy
  subst hd
  simp only [List.zipWith_cons_cons, List.zipWith_nil_right, abv, blw, List.map_cons, List.map_nil, meas5, prodP_add]
  congr 2
  simp only [List.cons.injEq, and_true]
  refine ⟨?_, ?_, ?_, ?_, ?_⟩ <;> omega
theorem meas_cmp {x y d : List Int} (hx : InB x) (hy : InB y) (hd : d = x.zipWith (· - ·) y) : cmpN (meas x) (meas y) = cmpN (abv d) (blw d) :=
  cmpN_mul (meas_pos hx) (meas_pos hy) blw_pos (meas_diff hx hy hd)
section
variable {fns : List FnD} {gl : Nat → Dat} {f fm fr n : Nat}
def BCompare (fm : Nat) : List Sm := [.asg 2 (.cal fm [.var 0]),
    .asg 3 (.cal fm [.var 1]),
    .ite (.cmp .eq (.var 2) (.var 3)) [.ret (.cst (.int 0))] [],
    .ret (.ife (.cmp .lt (.var 2) (.var 3)) (.neg (.cst (.int 1))) (.cst (.int 1)))]
theorem compare_call {kp kb : Nat} (h : Has fns f 2 4 (BCompare fm) .pur) (hm : Has fns fm 1 5 (BMeasure kp kb fr) .pur) (hr : Has fns fr 2 3 BRaised .pur) (hg : gl kp = eT [2, 3, 5, 7, 11]) (hg2 : gl kb = eT [700, 60, 60, 60, 60]) {x y : List Int} (hx : InB x) (hy : InB y) :
    callF fns gl (n + 3) f [eT x, eT y] = .ok (.int (cmpN (meas x) (meas y))) := by
  have c1 := meas_call (gl := gl) (n := n) hm hr hg hg2 hx
  have c2 := meas_call (gl := gl) (n := n) hm hr hg hg2 hy
  generalize meas x = A at *
  generalize meas y = B at *
  refine h.pur rfl rfl ?_
  show Out (exSs _ _ _ (BCompare fm) [.shr, .shr, .shr, .shr] [some (eT x), some (eT y), none, none]) _
  refine o_asgC (κ' := [.shr, .shr, .shr, .shr]) (d := .int (A : Nat)) hm.rf (by simp only [evE_cal, evL_cons, evL_nil, evE_var, getV_zero, getV_succ, Rs.ok_bind, c1]) rfl rfl ?_
  dsimp only [List.set]
  refine o_asgC (κ' := [.shr, .shr, .shr, .shr]) (d := .int (B : Nat)) hm.rf (by simp only [evE_cal, evL_cons, evL_nil, evE_var, getV_zero, getV_succ, Rs.ok_bind, c2]) rfl rfl ?_
  dsimp only [List.set]
  refine o_if (k := decide (A = B)) (by simp [Int.ofNat_inj]) (fun e => ?_) fun e => ?_
  · have e := of_decide_eq_true e
    exact o_ret (d := .int 0) rfl rfl rfl ⟨Nat.zero_le _, by unfold cmpN; rw [if_pos e]⟩
  · have e := of_decide_eq_false e
    refine o_ret (d := .int (cmpN A B)) rfl ?_ rfl q_ret0
    unfold cmpN
    rw [if_neg e]
    by_cases l : A < B
    · rw [if_pos l]
      simp [l, negD]
    · rw [if_neg l]
      simp [l, negD]
/-- the sign of a row, by steps -/
def BSign : List Sm := [.asg 1 (.cst (.int 1)),
    .asg 2 (.cst (.int 1)),
    .fr (.tp [3, 4]) (.zip (.lst [.cst (.int 2), .cst (.int 3), .cst (.int 5), .cst (.int 7), .cst (.int 11)]) (.var 0)) [.fr (.nm 5) (.rng [.var 4]) [.asg 1 (.bin .mul (.var 1) (.var 3))], .fr (.nm 5) (.rng [.bin .sub (.cst (.int 0)) (.var 4)]) [.asg 2 (.bin .mul (.var 2) (.var 3))]],
    .ret (.bin .sub (.bi .int [.cmp .gt (.var 1) (.var 2)]) (.bi .int [.cmp .lt (.var 1) (.var 2)]))]
theorem sign_call (h : Has fns f 1 6 BSign .pur) {row : List Int} {dd : Dat} (hdd : dd = eT row ∨ dd = eI row) (hr : ∀ c ∈ row, -100000 ≤ c ∧ c ≤ 100000) :
    callF fns gl (n + 1) f [dd] = .ok (.int (cmpN (abv row) (blw row))) := by
  have z : ([2, 3, 5, 7, 11] : List Nat).zip row = ([2, 3, 5, 7, 11] : List Nat).zip row := rfl
  have pe : prodP (posP ([2, 3, 5, 7, 11].zip row)) = abv row := by
    unfold abv posP five
    rw [List.zip_map_right]
    rfl
  have ne : prodP (negP ([2, 3, 5, 7, 11].zip row)) = blw row := by
    unfold blw negP five
    rw [List.zip_map_right]
    rfl
  have hq : ∀ q ∈ ([2, 3, 5, 7, 11] : List Nat).zip row, (2 ≤ q.1 ∧ q.1 < 16) ∧ (-100000 ≤ q.2 ∧ q.2 ≤ 100000) := fun q hq => by
    have h1 := (List.of_mem_zip hq).1
    simp at h1
    exact ⟨by omega, hr _ (List.of_mem_zip hq).2⟩
  refine h.pur rfl rfl ?_
  show Out (exSs _ _ _ BSign [.shr, .shr, .shr, .shr, .shr, .shr] [some dd, none, none, none, none, none]) _
  refine o_asg (κ' := [.shr, .shr, .shr, .shr, .shr, .shr]) (d := .int 1) (by simp) rfl rfl rfl rfl ?_
  dsimp only [List.set]
  refine o_asg (κ' := [.shr, .shr, .shr, .shr, .shr, .shr]) (d := .int 1) (by simp) rfl rfl rfl rfl ?_
  dsimp only [List.set]
  refine o_fr (κ1 := [.shr, .shr, .shr, .shr, .shr, .shr]) (ds := (([2, 3, 5, 7, 11] : List Nat).zip row).map fun q => Dat.tup [.int (q.1 : Nat), .int q.2]) rfl rfl ?_ ?_
  · have zz : (([.int 2, .int 3, .int 5, .int 7, .int 11] : List Dat).zip (row.map Dat.int)).map (fun p => Dat.tup [p.1, p.2]) = (([2, 3, 5, 7, 11] : List Nat).zip row).map fun q => Dat.tup [.int (q.1 : Nat), .int q.2] := by
      rw [show ([.int 2, .int 3, .int 5, .int 7, .int 11] : List Dat) = [2, 3, 5, 7, 11].map (fun p : Nat => Dat.int (p : Nat)) from rfl, List.zip_map, List.map_map]
      rfl
    simp only [evS_zip, evE_lst, evE_var, evL_cons, evL_nil, evE_cst, getV_zero, Rs.ok_bind]
    rcases hdd with rfl | rfl
    · rw [zip_lt, zz]
    · rw [zip_ll, zz]
  refine for_inv (fun q : Nat × Int => Dat.tup [.int (q.1 : Nat), .int q.2]) (fun xs κ ρ => κ = [.shr, .shr, .shr, .shr, .shr, .shr] ∧ (∀ q ∈ xs, (2 ≤ q.1 ∧ q.1 < 16) ∧ (-100000 ≤ q.2 ∧ q.2 ≤ 100000)) ∧ ∃ (top bot : Nat) (o3 o4 o5 : Option Dat), top * prodP (posP xs) = abv row ∧ bot * prodP (negP xs) = blw row ∧ ρ = [some dd, some (.int (top : Nat)), some (.int (bot : Nat)), o3, o4, o5]) ?_ ?_ (([2, 3, 5, 7, 11] : List Nat).zip row) _ _ ⟨rfl, hq, 1, 1, none, none, none, (Nat.one_mul _).trans pe, (Nat.one_mul _).trans ne, rfl⟩
  · rintro ⟨p, c⟩ xs κ ρ ⟨rfl, hx, top, bot, o3, o4, o5, e1, e2, rfl⟩
    have hx1 := hx (p, c) List.mem_cons_self
    dsimp only at hx1
    refine ⟨[some dd, some (.int (top : Nat)), some (.int (bot : Nat)), some (.int (p : Nat)), some (.int c), o5], rfl, ?_⟩
    refine o_fr (κ1 := [.shr, .shr, .shr, .shr, .shr, .shr]) (ds := (List.range c.toNat).map fun i => Dat.int (0 + (i : Nat))) rfl rfl (by simp only [evS_rng, evL_cons, evL_nil, evE_var, getV_succ, getV_zero, Rs.ok_bind]; exact rng1I (by omega) (by omega)) ?_
    refine for_inv (fun i : Nat => Dat.int (0 + (i : Nat))) (fun ys κ ρ => κ = [.shr, .shr, .shr, .shr, .shr, .shr] ∧ ∃ (m' : Nat) (o5 : Option Dat), m' * p ^ ys.length = top * p ^ c.toNat ∧ ρ = [some dd, some (.int (m' : Nat)), some (.int (bot : Nat)), some (.int (p : Nat)), some (.int c), o5]) ?_ ?_ (List.range c.toNat) _ _ ⟨rfl, top, o5, by rw [List.length_range], rfl⟩
    · rintro y ys κ ρ ⟨rfl, m', o5, e3, rfl⟩
      refine ⟨[some dd, some (.int (m' : Nat)), some (.int (bot : Nat)), some (.int (p : Nat)), some (.int c), some (.int (0 + (y : Nat)))], rfl, ?_⟩
      refine o_asg (κ' := [.shr, .shr, .shr, .shr, .shr, .shr]) (d := .int ((m' * p : Nat) : Int)) ?_ rfl rfl rfl rfl ?_
      · simp only [evE_bin, evE_var, getV_zero, getV_succ, Rs.ok_bind]
        rw [bin_mul (mul_small (.inr (by rw [Int.natAbs_natCast]; omega))), ← Int.natCast_mul]
      · refine o_nil ⟨rfl, _, _, ?_, rfl⟩
        rw [← e3, List.length_cons, Nat.pow_succ, Nat.mul_assoc, Nat.mul_comm p]
    · rintro κ ρ ⟨rfl, m', o5, e3, rfl⟩
      have e3 : m' = top * p ^ c.toNat := by rw [← e3]; simp
      subst e3
      refine forP_nx (κ1 := [.shr, .shr, .shr, .shr, .shr, .shr]) rfl ?_
      refine o_fr (κ1 := [.shr, .shr, .shr, .shr, .shr, .shr]) (ds := (List.range (0 - c).toNat).map fun i => Dat.int (0 + (i : Nat))) rfl rfl (by simp only [evS_rng, evL_cons, evL_nil, evE_bin, evE_cst, evE_var, getV_succ, getV_zero, Rs.ok_bind, bin_sub]; exact rng1I (by omega) (by omega)) ?_
      refine for_inv (fun i : Nat => Dat.int (0 + (i : Nat))) (fun ys κ ρ => κ = [.shr, .shr, .shr, .shr, .shr, .shr] ∧ ∃ (m' : Nat) (o5 : Option Dat), m' * p ^ ys.length = bot * p ^ (-c).toNat ∧ ρ = [some dd, some (.int ((top * p ^ c.toNat : Nat) : Int)), some (.int (m' : Nat)), some (.int (p : Nat)), some (.int c), o5]) ?_ ?_ (List.range (0 - c).toNat) _ _ ⟨rfl, bot, o5, by rw [List.length_range]; congr 2; omega, rfl⟩
      · rintro y ys κ ρ ⟨rfl, m', o5, e3, rfl⟩
        refine ⟨[some dd, some (.int ((top * p ^ c.toNat : Nat) : Int)), some (.int (m' : Nat)), some (.int (p : Nat)), some (.int c), some (.int (0 + (y : Nat)))], rfl, ?_⟩
        refine o_asg (κ' := [.shr, .shr, .shr, .shr, .shr, .shr]) (d := .int ((m' * p : Nat) : Int)) ?_ rfl rfl rfl rfl ?_
        · simp only [evE_bin, evE_var, getV_zero, getV_succ, Rs.ok_bind]
          rw [bin_mul (mul_small (.inr (by rw [Int.natAbs_natCast]; omega))), ← Int.natCast_mul]
        · refine o_nil ⟨rfl, _, _, ?_, rfl⟩
          rw [← e3, List.length_cons, Nat.pow_succ, Nat.mul_assoc, Nat.mul_comm p]
      · rintro κ ρ ⟨rfl, m', o5, e3, rfl⟩
        have e3 : m' = bot * p ^ (-c).toNat := by rw [← e3]; simp
        subst e3
        refine forP_nx (κ1 := [.shr, .shr, .shr, .shr, .shr, .shr]) rfl (o_nil ?_)
        refine ⟨rfl, fun q hq => hx q (List.mem_cons_of_mem _ hq), _, _, some (.int (p : Nat)), some (.int c), o5, ?_, ?_, rfl⟩
        · rw [Nat.mul_assoc]; exact e1
        · rw [Nat.mul_assoc]; exact e2
  · rintro κ ρ ⟨rfl, _, top, bot, o3, o4, o5, e1, e2, rfl⟩
    refine forP_nx (κ1 := [.shr, .shr, .shr, .shr, .shr, .shr]) rfl ?_
    have e1 : top = abv row := by rw [← e1]; exact (Nat.mul_one top).symm
    have e2 : bot = blw row := by rw [← e2]; exact (Nat.mul_one bot).symm
    subst e1 e2
    generalize abv row = A
    generalize blw row = B
    refine o_ret (d := .int (cmpN A B)) rfl ?_ rfl q_ret0
    unfold cmpN
    rcases Nat.lt_trichotomy A B with l | e | g
    · rw [if_neg (by omega), if_pos l]
      simp [l, show ¬ B < A by omega]
    · subst e
      simp
    · rw [if_neg (by omega), if_neg (by omega)]
      simp [g, show ¬ A < B by omega]
/-- a whole number, == due -/
def BIs : List Sm := [.ret (.and (.isi (.var 0) [.int]) (.and (.not (.isi (.var 0) [.bool])) (.cmp .eq (.var 0) (.var 1))))]
theorem is_call (h : Has fns f 2 2 BIs .pur) (i j : Int) : callF fns gl (n + 1) f [.int i, .int j] = .ok (.bl (decide (i = j))) := by
  rw [h.call rfl, BIs, st_ret (d := .bl (decide (i = j))) rfl ?_ rfl]
  · exact endR_pur rfl
  · have e : List.map some [Dat.int i, Dat.int j] ++ List.replicate (2 - [Dat.int i, Dat.int j].length) none = [some (.int i), some (.int j)] := rfl
    rw [e]
    simp
end
end PV

/-! PV, part V: errors caught; what is a tone -/
namespace PV
open PySem PySem.Spec PyProof.Rows L2
section
variable {cf : Nat → List Dat → Rs Dat} {gl : Nat → Dat} {rf : Nat → Rf} {ss : List Sm} {κ : Kd} {ρ : Env} {P : End → Prop}
def tryP (cf : Nat → List Dat → Rs Dat) (gl : Nat → Dat) (rf : Nat → Rf) (ss : List Sm) (n ei j : Nat) (tb : List (Nat × Option Dat)) (P : End → Prop) : End → Prop
  | .nx κ' ρ' => Out (exSs cf gl rf ss κ' ρ') P
  | .xc κ' ρ' z => ∃ C d, z = .exc C [] ∧ tb.lookup C = some (some d) ∧ noLent κ' = true ∧ κ'.length = n ∧ Out (exSs cf gl rf ss (setK (setK κ' ei .shr) j .shr) ((ρ'.set ei none).set j (some d))) P
  | e => P e
theorem o_try {b : List Sm} {ei j : Nat} {tb : List (Nat × Option Dat)} (h : Out (exSs cf gl rf b κ ρ) (tryP cf gl rf ss κ.length ei j tb P)) : Out (exSs cf gl rf (.tryF b ei j tb :: ss) κ ρ) P := by
  rw [exSs_cons]
  unfold exS
  have h := h.get
  generalize exSs cf gl rf b κ ρ = R at h
  cases R with
  | no => exact False.elim h
  | ex z => exact False.elim h
  | ok e =>
    cases e with
    | nx κ' ρ' => exact h
    | bk κ' ρ' => exact .ok h
    | ct κ' ρ' => exact .ok h
    | rt fl d => exact .ok h
    | r0 κ' ρ' => exact .ok h
    | xc κ' ρ' z =>
      obtain ⟨C, d, rfl, h1, h2, h3, h4⟩ := h
      simp only [h1, h2, h3]
      exact h4
/-- x = e, where e raises -/
theorem o_asgX {i : Nat} {e : Ex} {z : Dat} {κ1 : Kd} (he : evE cf gl e ρ = .ex z) (h1 : frz κ (leak rf e) = κ1) (h : P (.xc κ1 ρ z)) : Out (exSs cf gl rf (.asg i e :: ss) κ ρ) P := by
  subst h1
  rw [exSs_cons]
  unfold exS
  rw [he]
  exact .ok h
end
/-! ### what is a tone -/
def BD : List Int := [700, 60, 60, 60, 60]
/-- a whole number, or a thing that is none -/
def fineD (d : Dat) : Prop := (∃ x, d = .int x) ∨ tyOf d .int = some false ∨ ∃ b, d = .bl b
def okz (z : Dat × Int) : Bool := match z.1 with
  | .int x => decide ((if x < 0 then -x else x) ≤ z.2)
  | _ => false
section
variable {fns : List FnD} {gl : Nat → Dat} {f n : Nat}
def BIsTone (k : Nat) : List Sm := [.ite (.or (.not (.isi (.var 0) [.tuple])) (.cmp .ne (.bi .len [.var 0]) (.cst (.int 5)))) [.ret (.cst (.bl false))] [],
    .fr (.tp [1, 2]) (.zip (.var 0) (.glo k)) [.ite (.or (.not (.isi (.var 1) [.int])) (.isi (.var 1) [.bool])) [.ret (.cst (.bl false))] [], .ite (.cmp .gt (.bi .abs [.var 1]) (.var 2)) [.ret (.cst (.bl false))] []],
    .ret (.cst (.bl true))]
theorem isTone_no {k : Nat} (h : Has fns f 1 3 (BIsTone k) .pur) {d : Dat} (hd : tyOf d .tuple = some false) : callF fns gl (n + 1) f [d] = .ok (.bl false) := by
  refine h.pur rfl rfl ?_
  show Out (exSs _ _ _ (BIsTone k) [.shr, .shr, .shr] [some d, none, none]) _
  refine o_if (k := true) ?_ (fun _ => o_ret (d := .bl false) rfl rfl rfl q_ret0) fun e => by cases e
  simp [hd]
theorem isTone_len {k : Nat} (h : Has fns f 1 3 (BIsTone k) .pur) {ds : List Dat} (hd : ds.length ≠ 5) : callF fns gl (n + 1) f [.tup ds] = .ok (.bl false) := by
  refine h.pur rfl rfl ?_
  show Out (exSs _ _ _ (BIsTone k) [.shr, .shr, .shr] [some (.tup ds), none, none]) _
  refine o_if (k := true) ?_ (fun _ => o_ret (d := .bl false) rfl rfl rfl q_ret0) fun e => by cases e
  have : ¬ (ds.length : Int) = 5 := by omega
  simp [this]
theorem isTone_5 {k : Nat} (h : Has fns f 1 3 (BIsTone k) .pur) (hg : gl k = eT BD) {ds : List Dat} (hl : ds.length = 5) (hf : ∀ d ∈ ds, fineD d) : callF fns gl (n + 1) f [.tup ds] = .ok (.bl ((ds.zip BD).all okz)) := by
  refine h.pur rfl rfl ?_
  show Out (exSs _ _ _ (BIsTone k) [.shr, .shr, .shr] [some (.tup ds), none, none]) _
  refine o_ifF (by simp [hl]) ?_
  refine o_fr (κ1 := [.shr, .shr, .shr]) (ds := (ds.zip BD).map fun z => Dat.tup [z.1, .int z.2]) rfl rfl ?_ ?_
  · simp only [evS_zip, evE_glo, evE_var, hg, getV_zero, Rs.ok_bind, zip_tt, List.zip_map_right, List.map_map]
    rfl
  refine for_inv (fun z : Dat × Int => Dat.tup [z.1, .int z.2]) (fun xs κ ρ => κ = [.shr, .shr, .shr] ∧ (∀ z ∈ xs, fineD z.1) ∧ xs.all okz = (ds.zip BD).all okz ∧ ∃ o1 o2, ρ = [some (.tup ds), o1, o2]) ?_ ?_ (ds.zip BD) _ _ ⟨rfl, fun z hz => hf _ (List.of_mem_zip hz).1, rfl, none, none, rfl⟩
  · rintro ⟨d, b⟩ xs κ ρ ⟨rfl, hx, e1, o1, o2, rfl⟩
    refine ⟨[some (.tup ds), some d, some (.int b)], rfl, ?_⟩
    have hd := hx (d, b) List.mem_cons_self
    rw [List.all_cons] at e1
    have bad : okz (d, b) = false → (ds.zip BD).all okz = false := fun q => by rw [← e1, q]; rfl
    rcases hd with ⟨x, e⟩ | e | ⟨k, e⟩
    · have e : d = .int x := e
      subst e
      refine o_ifF (by simp) ?_
      refine o_if (k := decide (b < (if x < 0 then -x else x))) (by simp) (fun q => ?_) fun q => ?_
      · have q := of_decide_eq_true q
        refine o_ret (d := .bl false) rfl rfl rfl ?_
        rw [bad (by show decide _ = false; exact decide_eq_false (by omega))]
        exact q_ret0
      · have q := of_decide_eq_false q
        refine o_nil ⟨rfl, fun y hy => hx y (List.mem_cons_of_mem _ hy), ?_, _, _, rfl⟩
        rw [← e1]
        have : okz (.int x, b) = true := decide_eq_true (by omega)
        rw [this]
        rfl
    · have e : tyOf d .int = some false := e
      refine o_if (k := true) (by simp [e]) (fun _ => o_ret (d := .bl false) rfl rfl rfl ?_) fun e => by cases e
      rw [bad]
      · exact q_ret0
      · show okz (d, b) = false
        unfold okz
        cases d <;> first | rfl | cases e
    · have e : d = .bl k := e
      subst e
      refine o_if (k := true) (by simp [tyOf]) (fun _ => o_ret (d := .bl false) rfl rfl rfl ?_) fun e => by cases e
      rw [bad rfl]
      exact q_ret0
  · rintro κ ρ ⟨rfl, _, e1, o1, o2, rfl⟩
    refine forP_nx (κ1 := [.shr, .shr, .shr]) rfl ?_
    rw [← e1]
    exact o_ret (d := .bl true) rfl rfl rfl q_ret0
/-- all of a row's numbers within their bounds -/
def fitB (xs : List Int) : Bool := (xs.zip BD).all fun z => decide ((if z.1 < 0 then -z.1 else z.1) ≤ z.2)
theorem fit_okz (xs : List Int) : ((xs.map Dat.int).zip BD).all okz = fitB xs := by
  unfold fitB
  rw [List.zip_map_left, List.all_map]
  rfl
theorem isTone_ints {k : Nat} (h : Has fns f 1 3 (BIsTone k) .pur) (hg : gl k = eT BD) {xs : List Int} (hl : xs.length = 5) : callF fns gl (n + 1) f [eT xs] = .ok (.bl (fitB xs)) := by
  rw [← fit_okz]
  refine isTone_5 h hg (by rw [List.length_map]; exact hl) fun d hd => ?_
  obtain ⟨x, _, rfl⟩ := List.mem_map.mp hd
  exact .inl ⟨x, rfl⟩
def BToneOf (ft C : Nat) : List Sm := [.ite (.not (.cal ft [.var 0])) [.rse C] [],
    .ret (.var 0)]
theorem toneOf_ok {ft k C : Nat} (h : Has fns f 1 1 (BToneOf ft C) .pur) (ht : Has fns ft 1 3 (BIsTone k) .pur) (hg : gl k = eT BD) {xs : List Int} (hl : xs.length = 5) (hf : fitB xs = true) : callF fns gl (n + 2) f [eT xs] = .ok (eT xs) := by
  have c := isTone_ints (gl := gl) (n := n) ht hg hl
  refine h.pur rfl (pure_eT _) ?_
  show Out (exSs _ _ _ (BToneOf ft C) [.shr] [some (eT xs)]) _
  refine o_ifF ?_ (o_retv rfl rfl q_ret0)
  simp [c, hf]
theorem toneOf_far {ft k C : Nat} (h : Has fns f 1 1 (BToneOf ft C) .pur) (ht : Has fns ft 1 3 (BIsTone k) .pur) (hg : gl k = eT BD) {xs : List Int} (hl : xs.length = 5) (hf : fitB xs = false) : callF fns gl (n + 2) f [eT xs] = .ex (.exc C []) := by
  have c := isTone_ints (gl := gl) (n := n) ht hg hl
  refine h.exc rfl rfl ?_
  show Out (exSs _ _ _ (BToneOf ft C) [.shr] [some (eT xs)]) _
  refine o_if (k := true) (by simp [c, hf]) (fun _ => ?_) fun e => by cases e
  exact o_rse rfl
end
/-- a product of the primes' powers, by steps -/
def BProd : List Sm := [.asg 1 (.cst (.int 1)),
    .fr (.tp [2, 3]) (.zip (.lst [.cst (.int 2), .cst (.int 3), .cst (.int 5), .cst (.int 7), .cst (.int 11)]) (.var 0)) [.fr (.nm 4) (.rng [.var 3]) [.asg 1 (.bin .mul (.var 1) (.var 2))]],
    .ret (.var 1)]
theorem product_call {fns : List FnD} {gl : Nat → Dat} {f n : Nat} (h8 : Has fns f 1 5 BProd .pur) {es : List Nat} (he : ∀ e ∈ es, e ≤ 1000) : callF fns gl (n + 1) f [.lst (es.map fun e => Dat.int (e : Nat))] = .ok (.int (prodP (five es) : Nat)) := by
  refine h8.pur rfl rfl ?_
  refine o_asg (d := .int 1) (by simp) rfl rfl rfl rfl ?_
  refine o_fr (κ1 := [.shr, .shr, .shr, .shr, .shr]) (ds := (five es).map fun q => Dat.tup [.int (q.1 : Nat), .int (q.2 : Nat)]) rfl rfl ?_ ?_
  · have z : (([.int 2, .int 3, .int 5, .int 7, .int 11] : List Dat).zip (es.map fun e => Dat.int (e : Nat))).map (fun p => Dat.tup [p.1, p.2]) = (five es).map fun q => Dat.tup [.int (q.1 : Nat), .int (q.2 : Nat)] := by
      rw [show ([.int 2, .int 3, .int 5, .int 7, .int 11] : List Dat) = [2, 3, 5, 7, 11].map (fun p : Nat => Dat.int (p : Nat)) from rfl, List.zip_map, List.map_map]
      rfl
    simp [z]
  refine for_inv (fun q : Nat × Nat => Dat.tup [.int (q.1 : Nat), .int (q.2 : Nat)]) (fun xs κ ρ => κ = [.shr, .shr, .shr, .shr, .shr] ∧ (∀ q ∈ xs, q.1 < 16 ∧ q.2 ≤ 1000) ∧ ∃ (m : Nat) (o2 o3 o4 : Option Dat), m * prodP xs = prodP (five es) ∧ ρ = [some (.lst (es.map fun e => Dat.int (e : Nat))), some (.int (m : Nat)), o2, o3, o4]) ?_ ?_ (five es) _ _ ⟨rfl, fun q hq => ?_, 1, none, none, none, Nat.one_mul _, rfl⟩
  · rintro ⟨p, e⟩ xs κ ρ ⟨rfl, hx, m, o2, o3, o4, e1, rfl⟩
    have hx1 := hx (p, e) List.mem_cons_self
    refine ⟨[some (.lst (es.map fun e => Dat.int (e : Nat))), some (.int (m : Nat)), some (.int (p : Nat)), some (.int (e : Nat)), o4], rfl, ?_⟩
    have hev : evS (callF fns gl n) gl (.rng [.var 3]) [some (.lst (es.map fun e => Dat.int (e : Nat))), some (.int (m : Nat)), some (.int (p : Nat)), some (.int (e : Nat)), o4] = .ok ((List.range e).map fun i => Dat.int (i : Nat)) := by
      simp only [evS_rng, evL_cons, evL_nil, evE_var, getV_succ, getV_zero, Rs.ok_bind]
      exact rng1 (Nat.le_trans hx1.2 (Nat.le_of_ble_eq_true rfl))
    refine o_fr (κ1 := [.shr, .shr, .shr, .shr, .shr]) rfl rfl hev ?_
    · refine for_inv (fun i : Nat => Dat.int (i : Nat)) (fun ys κ ρ => κ = [.shr, .shr, .shr, .shr, .shr] ∧ ∃ (m' : Nat) (o4 : Option Dat), m' * p ^ ys.length = m * p ^ e ∧ ρ = [some (.lst (es.map fun e => Dat.int (e : Nat))), some (.int (m' : Nat)), some (.int (p : Nat)), some (.int (e : Nat)), o4]) ?_ ?_ (List.range e) _ _ ⟨rfl, m, o4, by rw [List.length_range], rfl⟩
      · rintro y ys κ ρ ⟨rfl, m', o4, e2, rfl⟩
        refine ⟨_, rfl, ?_⟩
        refine o_asg (d := .int ((m' * p : Nat) : Int)) ?_ rfl rfl rfl rfl ?_
        · simp only [evE_bin, evE_var, getV_zero, getV_succ, List.set_cons_succ, List.set_cons_zero, Rs.ok_bind]
          rw [bin_mul (mul_small (.inr (by rw [Int.natAbs_natCast]; omega))), ← Int.natCast_mul]
        · refine o_nil ⟨rfl, _, some (.int (y : Nat)), ?_, rfl⟩
          rw [← e2, List.length_cons, Nat.pow_succ, Nat.mul_assoc, Nat.mul_comm p]
      · rintro κ ρ ⟨rfl, m', o4, e2, rfl⟩
        refine forP_nx (κ1 := [.shr, .shr, .shr, .shr, .shr]) rfl (o_nil ?_)
        have e2 : m' = m * p ^ e := by rw [← e2]; simp
        refine ⟨rfl, fun q hq => hx q (List.mem_cons_of_mem _ hq), m', some (.int (p : Nat)), some (.int (e : Nat)), o4, ?_, rfl⟩
        rw [e2, Nat.mul_assoc]
        exact e1
  · rintro κ ρ ⟨rfl, _, m, o2, o3, o4, e1, rfl⟩
    refine forP_nx (κ1 := [.shr, .shr, .shr, .shr, .shr]) rfl ?_
    have e1 : m = prodP (five es) := by rw [← e1]; exact (Nat.mul_one m).symm
    rw [e1]
    exact o_retv rfl rfl (q_ret rfl)
  · have := List.of_mem_zip hq
    have h2 := he _ this.2
    have h1 := this.1
    simp at h1
    omega
theorem fmod_nat (c : Int) (m : Nat) (h : 0 < m) : ∃ k : Nat, k < m ∧ c.fmod (m : Int) = (k : Nat) := by
  have x := Int.fmod_nonneg_of_pos c (b := (m : Int)) (by omega)
  have y := Int.fmod_lt_of_pos c (b := (m : Int)) (by omega)
  exact ⟨(c.fmod (m : Int)).toNat, by omega, by omega⟩
theorem cmp_inT {i : Int} {ns : List Int} : cmpop .isin (.int i) (eT ns) = .ok (.bl (ns.any (· == i))) := by
  show (match intsOf (ns.map Dat.int) with
    | some ns => Rs.ok (Dat.bl (ns.any (· == i)))
    | none => .no) = _
  rw [intsOf_map]
section
variable {fns : List FnD} {gl : Nat → Dat} {f n : Nat}
theorem rowOf_neg {k fp fo : Nat} (h : Has fns f 2 6 (BRowOf fp fo) .pur) {a b : Int} (hab : a < 1 ∨ b < 1) : callF fns gl (n + 1) f [.int a, .int b] = .ex (.exc 0 []) := by
  refine h.exc rfl rfl ?_
  show Out (exSs _ _ _ (BRowOf fp fo) [.shr, .shr, .shr, .shr, .shr, .shr] [some (.int a), some (.int b), none, none, none, none]) _
  refine o_if (k := true) ?_ (fun _ => o_rse rfl) fun e => by cases e
  rcases hab with h | h
  · simp [h]
  · by_cases h2 : a < 1
    · simp [h2]
    · simp [h, h2]
theorem rowOf_other {k fp fo : Nat} (h : Has fns f 2 6 (BRowOf fp fo) .pur) (hp : Has fns fp 1 4 (BPowersIn k) .pur) {q1 q2 : List (Nat × Nat)} {r1 r2 : Nat} (g1 : gl k = .tup (q1.map fun q => Dat.int (q.1 : Nat))) (g2 : gl k = .tup (q2.map fun q => Dat.int (q.1 : Nat))) (h1 : Good r1 q1) (h2 : Good r2 q2)
    (l1 : q1.length ≤ 100) (l2 : q2.length ≤ 100) (p1 : 1 ≤ prodP q1 * r1) (p2 : 1 ≤ prodP q2 * r2) (hne : r1 ≠ r2) : callF fns gl (n + 2) f [.int ((prodP q1 * r1 : Nat) : Int), .int ((prodP q2 * r2 : Nat) : Int)] = .ex (.exc 0 []) := by
  have c1 := powersIn_call (gl := gl) (n := n) hp g1 h1 l1
  have c2 := powersIn_call (gl := gl) (n := n) hp g2 h2 l2
  generalize prodP q1 * r1 = A at c1 p1 ⊢
  generalize prodP q2 * r2 = B at c2 p2 ⊢
  refine h.exc rfl rfl ?_
  show Out (exSs _ _ _ (BRowOf fp fo) [.shr, .shr, .shr, .shr, .shr, .shr] [some (.int A), some (.int B), none, none, none, none]) _
  have z1 : decide ((A : Int) < 1) = false := decide_eq_false (by omega)
  have z2 : decide ((B : Int) < 1) = false := decide_eq_false (by omega)
  refine o_ifF (by
    simp only [evE_or, evE_cmp, evE_var, evE_cst, getV_zero, getV_succ, Rs.ok_bind, cmp_lt, z1, z2, truth_bl]
    rfl) ?_
  have fl : ∀ (es : List Ex) (κ : Kd), decide (2 ≤ flE (rfs fns) (.cal fp es) κ) = true := fun es κ => by
    simp only [flE, hp.rf]
    rfl
  have lk : ∀ es : List Ex, leak (rfs fns) (.cal fp es) = [] := fun es => by
    simp only [leak, hp.rf]
  refine o_unp (d := .tup [eT (exps q1), .int (r1 : Nat)]) (by simp [c1, exps]) (by rw [lk]) (fl _ _) rfl ?_
  refine o_unp (d := .tup [eT (exps q2), .int (r2 : Nat)]) (by simp [c2, exps]) (by rw [lk]) (fl _ _) rfl ?_
  refine o_if (k := true) ?_ (fun _ => o_rse rfl) fun e => by cases e
  simp
  omega
end
theorem div_mid {i j : Int} (h0 : j ≠ 0) (h : j.natAbs < 2 ^ 8000) : divOk i j = true := by
  unfold divOk Builtin.divisionGoesByPylong
  have h1 : j.natAbs ≠ 0 := by omega
  have h2 : j.natAbs.log2 < 8000 := (Nat.log2_lt h1).mpr h
  have h3 : ¬ (j.natAbs.log2 / 30 + 1 > 300) := by omega
  rw [decide_eq_true h0]
  have hb : (j == 0) = false := by simpa using h0
  simp only [hb, Bool.false_eq_true, if_false, decide_eq_false h3, Bool.false_and, Bool.not_false, Bool.and_true]
theorem fmodN (a b : Nat) : ((a : Nat) : Int).fmod (b : Nat) = ((a % b : Nat) : Int) := by
  rw [Int.fmod_eq_emod_of_nonneg _ (by omega)]
  exact (Int.natCast_emod a b).symm
theorem fdivN (a b : Nat) : ((a : Nat) : Int).fdiv (b : Nat) = ((a / b : Nat) : Int) := by
  rw [Int.fdiv_eq_ediv_of_nonneg _ (by omega)]
  exact (Int.natCast_ediv a b).symm
/-! ### fractions in lowest terms -/
def pD (q : Nat × Nat) : Dat := .tup [.int (q.1 : Nat), .int (q.2 : Nat)]
def low (q : Nat × Nat) : Nat × Nat := (q.1 / Nat.gcd q.1 q.2, q.2 / Nat.gcd q.1 q.2)
def BDivisor : List Sm := [.whl (.cmp .ne (.var 1) (.cst (.int 0))) [.par 0 1 (.var 1) (.bin .mod (.var 0) (.var 1))],
    .ret (.var 0)]
def BLowest (fd : Nat) : List Sm := [.asg 2 (.cal fd [.var 0, .var 1]),
    .ret (.tup [.bin .fdiv (.var 0) (.var 2), .bin .fdiv (.var 1) (.var 2)])]
def BLowL : List Sm := [.asg 2 (.var 0),
    .asg 3 (.var 1),
    .whl (.cmp .ne (.var 3) (.cst (.int 0))) [.par 2 3 (.var 3) (.bin .mod (.var 2) (.var 3))],
    .ret (.tup [.bin .fdiv (.var 0) (.var 2), .bin .fdiv (.var 1) (.var 2)])]
section
variable {fns : List FnD} {gl : Nat → Dat} {f fd n : Nat}
theorem divisor_call (h : Has fns f 2 2 BDivisor .pur) {a b : Nat} (hb : b < 2 ^ 8000) : callF fns gl (n + 1) f [.int (a : Nat), .int (b : Nat)] = .ok (.int (Nat.gcd a b : Nat)) := by
  refine h.pur rfl rfl ?_
  show Out (exSs _ _ _ BDivisor [.shr, .shr] [some (.int (a : Nat)), some (.int (b : Nat))]) _
  refine o_whl (fun k κ ρ => κ = [.shr, .shr] ∧ ∃ x y : Nat, k = y ∧ Nat.gcd x y = Nat.gcd a b ∧ ρ = [some (.int (x : Nat)), some (.int (y : Nat))]) (m := b) (lt_fuel (k := 8000) hb (by decide)) ⟨rfl, a, b, rfl, rfl, rfl⟩ ?_
  rintro k κ ρ ⟨rfl, x, y, rfl, e, rfl⟩
  by_cases hy : k = 0
  · subst hy
    refine .inl ⟨by simp, ?_⟩
    have : x = Nat.gcd a b := by rw [← e, Nat.gcd_zero_right]
    subst this
    exact o_retv rfl rfl q_ret0
  · refine .inr ⟨by simp; omega, ?_⟩
    refine o_par (κ' := [.shr, .shr]) (d := .int (k : Nat)) (d2 := .int ((x % k : Nat) : Int)) (by simp) ?_ rfl rfl rfl rfl (o_nil ⟨x % k, Nat.mod_lt _ (by omega), rfl, k, x % k, rfl, ?_, rfl⟩)
    · simp only [evE_bin, evE_var, getV_zero, getV_succ, Rs.ok_bind]
      rw [bin_mod (by omega), fmodN]
    · rw [← e, Nat.gcd_comm x k, Nat.gcd_rec k x, Nat.gcd_comm]
theorem low_ev {a b : Nat} (hb : 0 < b) (hb2 : b < 2 ^ 8000) : binop .fdiv (.int (a : Nat)) (.int (Nat.gcd a b : Nat)) = .ok (.int ((a / Nat.gcd a b : Nat) : Int)) ∧ binop .fdiv (.int (b : Nat)) (.int (Nat.gcd a b : Nat)) = .ok (.int ((b / Nat.gcd a b : Nat) : Int)) := by
  have g0 : 0 < Nat.gcd a b := Nat.gcd_pos_of_pos_right _ hb
  have g1 : Nat.gcd a b ≤ b := Nat.gcd_le_right _ hb
  have dv : ∀ i : Int, divOk i (Nat.gcd a b : Nat) = true := fun i => div_mid (by omega) (by rw [Int.natAbs_natCast]; omega)
  rw [bin_fdiv (dv _), bin_fdiv (dv _), fdivN, fdivN]
  exact ⟨rfl, rfl⟩
theorem lowest_call (h : Has fns f 2 3 (BLowest fd) .pur) (hd : Has fns fd 2 2 BDivisor .pur) {a b : Nat} (hb : 0 < b) (hb2 : b < 2 ^ 8000) : callF fns gl (n + 2) f [.int (a : Nat), .int (b : Nat)] = .ok (pD (low (a, b))) := by
  have c := divisor_call (gl := gl) (n := n) hd (a := a) hb2
  obtain ⟨e1, e2⟩ := low_ev (a := a) hb hb2
  refine h.pur rfl rfl ?_
  show Out (exSs _ _ _ (BLowest fd) [.shr, .shr, .shr] [some (.int (a : Nat)), some (.int (b : Nat)), none]) _
  refine o_asgC (κ' := [.shr, .shr, .shr]) (d := .int (Nat.gcd a b : Nat)) hd.rf (by simp only [evE_cal, evL_cons, evL_nil, evE_var, getV_zero, getV_succ, Rs.ok_bind, c]) rfl rfl ?_
  dsimp only [List.set]
  refine o_ret (d := pD (low (a, b))) rfl ?_ rfl q_ret0
  simp only [evE_tup, evE_bin, evL_cons, evL_nil, evE_var, getV_zero, getV_succ, Rs.ok_bind, e1, e2]
  rfl
theorem lowL_call (h : Has fns f 2 4 BLowL .pur) {a b : Nat} (hb : 0 < b) (hb2 : b < 2 ^ 8000) : callF fns gl (n + 1) f [.int (a : Nat), .int (b : Nat)] = .ok (pD (low (a, b))) := by
  obtain ⟨e1, e2⟩ := low_ev (a := a) hb hb2
  refine h.pur rfl rfl ?_
  show Out (exSs _ _ _ BLowL [.shr, .shr, .shr, .shr] [some (.int (a : Nat)), some (.int (b : Nat)), none, none]) _
  refine o_asg (κ' := [.shr, .shr, .shr, .shr]) (d := .int (a : Nat)) rfl rfl rfl rfl rfl ?_
  dsimp only [List.set]
  refine o_asg (κ' := [.shr, .shr, .shr, .shr]) (d := .int (b : Nat)) rfl rfl rfl rfl rfl ?_
  dsimp only [List.set]
  refine o_whl (fun k κ ρ => κ = [.shr, .shr, .shr, .shr] ∧ ∃ x y : Nat, k = y ∧ Nat.gcd x y = Nat.gcd a b ∧ ρ = [some (.int (a : Nat)), some (.int (b : Nat)), some (.int (x : Nat)), some (.int (y : Nat))]) (m := b) (lt_fuel (k := 8000) hb2 (by decide)) ⟨rfl, a, b, rfl, rfl, rfl⟩ ?_
  rintro k κ ρ ⟨rfl, x, y, rfl, e, rfl⟩
  by_cases hy : k = 0
  · subst hy
    refine .inl ⟨by simp, ?_⟩
    have : x = Nat.gcd a b := by rw [← e, Nat.gcd_zero_right]
    subst this
    refine o_ret (d := pD (low (a, b))) rfl ?_ rfl q_ret0
    simp only [evE_tup, evE_bin, evL_cons, evL_nil, evE_var, getV_zero, getV_succ, Rs.ok_bind, e1, e2]
    rfl
  · refine .inr ⟨by simp; omega, ?_⟩
    refine o_par (κ' := [.shr, .shr, .shr, .shr]) (d := .int (k : Nat)) (d2 := .int ((x % k : Nat) : Int)) (by simp) ?_ rfl rfl rfl rfl (o_nil ⟨x % k, Nat.mod_lt _ (by omega), rfl, k, x % k, rfl, ?_, rfl⟩)
    · simp only [evE_bin, evE_var, getV_zero, getV_succ, Rs.ok_bind]
      rw [bin_mod (by omega), fmodN]
    · rw [← e, Nat.gcd_comm x k, Nat.gcd_rec k x, Nat.gcd_comm]
/-! sums -/
def npq : List (Nat × Nat) → Nat × Nat
  | [] => (0, 1)
  | (t, b) :: xs => (t * (npq xs).2 + b * (npq xs).1, b * (npq xs).2)
theorem npq_app : ∀ xs ys : List (Nat × Nat), npq (xs ++ ys) = ((npq xs).1 * (npq ys).2 + (npq xs).2 * (npq ys).1, (npq xs).2 * (npq ys).2)
  | [], ys => by simp [npq]
  | (t, b) :: xs, ys => by
    show (t * (npq (xs ++ ys)).2 + b * (npq (xs ++ ys)).1, b * (npq (xs ++ ys)).2) = _
    rw [npq_app xs ys]
    simp only [npq, Prod.mk.injEq]
    refine ⟨?_, ?_⟩
    · rw [Nat.add_mul, Nat.mul_add]
      simp only [Nat.mul_assoc, Nat.mul_comm, Nat.mul_left_comm, Nat.add_assoc]
    · rw [Nat.mul_assoc]
theorem npq_rev : ∀ xs : List (Nat × Nat), npq xs.reverse = npq xs
  | [] => rfl
  | (t, b) :: xs => by
    rw [List.reverse_cons, npq_app, npq_rev xs]
    simp only [npq, Prod.mk.injEq]
    refine ⟨?_, ?_⟩
    · simp only [Nat.mul_one, Nat.mul_zero, Nat.add_zero]
      rw [Nat.mul_comm (npq xs).1 b, Nat.mul_comm (npq xs).2 t, Nat.add_comm]
    · simp [Nat.mul_comm]
def GoodQ (q : Nat × Nat) : Prop := (1 ≤ q.1 ∧ q.1 ≤ 9999) ∧ 1 ≤ q.2 ∧ q.2 ≤ 9999
theorem npq_le : ∀ xs : List (Nat × Nat), (∀ q ∈ xs, GoodQ q) → 1 ≤ (npq xs).2 ∧ (npq xs).1 + (npq xs).2 ≤ 2 ^ (15 * xs.length)
  | [], _ => ⟨by decide, by decide⟩
  | (t, b) :: xs, h => by
    obtain ⟨⟨h1, h2⟩, h3, h4⟩ := h (t, b) List.mem_cons_self
    dsimp only at h1 h2 h3 h4
    obtain ⟨i1, i2⟩ := npq_le xs fun q hq => h q (List.mem_cons_of_mem _ hq)
    refine ⟨Nat.mul_pos h3 i1, ?_⟩
    show t * (npq xs).2 + b * (npq xs).1 + b * (npq xs).2 ≤ 2 ^ (15 * (xs.length + 1))
    generalize (npq xs).1 = N at *
    generalize (npq xs).2 = P at *
    have a1 : t * P ≤ 9999 * P := Nat.mul_le_mul_right _ h2
    have a2 : b * N ≤ 9999 * N := Nat.mul_le_mul_right _ h4
    have a3 : b * P ≤ 9999 * P := Nat.mul_le_mul_right _ h4
    rw [show 15 * (xs.length + 1) = 15 * xs.length + 15 by omega, Nat.pow_add]
    generalize 2 ^ (15 * xs.length) = Z at *
    omega
end
end PV

/-! PV, part W: octaves -/
namespace PV
open PySem PySem.Spec PyProof.Rows L2
def bitsN (A : Nat) : Nat := Builtin.Int.intBits (A : Int)
theorem bitsN_ok {A : Nat} (h : 0 < A) : 1 ≤ bitsN A ∧ 2 ^ (bitsN A - 1) ≤ A ∧ A < 2 ^ bitsN A := by
  have e : bitsN A = A.log2 + 1 := by
    unfold bitsN Builtin.Int.intBits
    simp
    omega
  rw [e]
  exact ⟨by omega, Nat.log2_self_le (by omega), Nat.lt_log2_self⟩
theorem bitsN_le {A n : Nat} (h : A < 2 ^ n) : bitsN A ≤ n := PyProof.Rows.intBits_le (by rw [Int.natAbs_natCast]; exact h)
/-- 2 to the k-th is no higher than A / B -/
def geK (k : Int) (A B : Nat) : Prop := B * 2 ^ k.toNat ≤ A * 2 ^ (-k).toNat
def oct0 (A B : Nat) : Int := (bitsN A : Int) - (bitsN B : Int)
def octN (A B : Nat) : Int := if A * 2 ^ (-(oct0 A B)).toNat < B * 2 ^ (oct0 A B).toNat then oct0 A B - 1 else oct0 A B
theorem octN_ok {A B : Nat} (hA : 0 < A) (hB : 0 < B) : geK (octN A B) A B ∧ ¬ geK (octN A B + 1) A B := by
  obtain ⟨a1, a2, a3⟩ := bitsN_ok hA
  obtain ⟨b1, b2, b3⟩ := bitsN_ok hB
  have p2 : ∀ {x y : Nat}, x ≤ y → 2 ^ x ≤ 2 ^ y := fun h => Nat.pow_le_pow_right (by decide) h
  have lo : geK (oct0 A B - 1) A B := by
    unfold geK oct0
    generalize bitsN A = p at *
    generalize bitsN B = q at *
    by_cases h : q + 1 ≤ p
    · obtain ⟨m, rfl⟩ : ∃ m, p = q + 1 + m := ⟨p - (q + 1), by omega⟩
      rw [show (((q + 1 + m : Nat) : Int) - (q : Nat) - 1).toNat = m by omega, show (-(((q + 1 + m : Nat) : Int) - (q : Nat) - 1)).toNat = 0 by omega, Nat.pow_zero, Nat.mul_one]
      have e : 2 ^ q * 2 ^ m = 2 ^ (q + 1 + m - 1) := by rw [← Nat.pow_add]; congr 1; omega
      have := Nat.mul_le_mul_right (2 ^ m) (Nat.le_of_lt b3)
      omega
    · obtain ⟨m, hm⟩ : ∃ m, q + 1 = p + m := ⟨q + 1 - p, by omega⟩
      have hq : q = p + m - 1 := by omega
      rw [show (((p : Nat) : Int) - (q : Nat) - 1).toNat = 0 by omega, show (-(((p : Nat) : Int) - (q : Nat) - 1)).toNat = m by omega, Nat.pow_zero, Nat.mul_one]
      have e : 2 ^ (p - 1) * 2 ^ m = 2 ^ q := by rw [← Nat.pow_add]; congr 1; omega
      have := Nat.mul_le_mul_right (2 ^ m) a2
      omega
  have hi : ¬ geK (oct0 A B + 1) A B := by
    unfold geK oct0
    generalize bitsN A = p at *
    generalize bitsN B = q at *
    intro hc
    by_cases h : q ≤ p + 1
    · obtain ⟨m, hm⟩ : ∃ m, p + 1 = q + m := ⟨p + 1 - q, by omega⟩
      rw [show (((p : Nat) : Int) - (q : Nat) + 1).toNat = m by omega, show (-(((p : Nat) : Int) - (q : Nat) + 1)).toNat = 0 by omega, Nat.pow_zero, Nat.mul_one] at hc
      have e : 2 ^ (q - 1) * 2 ^ m = 2 ^ p := by rw [← Nat.pow_add]; congr 1; omega
      have := Nat.mul_le_mul_right (2 ^ m) b2
      omega
    · obtain ⟨m, hm⟩ : ∃ m, q = p + 1 + m := ⟨q - (p + 1), by omega⟩
      rw [show (((p : Nat) : Int) - (q : Nat) + 1).toNat = 0 by omega, show (-(((p : Nat) : Int) - (q : Nat) + 1)).toNat = m by omega, Nat.pow_zero, Nat.mul_one] at hc
      have e : 2 ^ p * 2 ^ m = 2 ^ (q - 1) := by rw [← Nat.pow_add]; congr 1; omega
      have := Nat.mul_lt_mul_of_pos_right a3 (Nat.two_pow_pos m)
      omega
  unfold octN
  split
  · rename_i h
    refine ⟨lo, ?_⟩
    rw [show oct0 A B - 1 + 1 = oct0 A B by omega]
    unfold geK
    omega
  · rename_i h
    exact ⟨by unfold geK; omega, hi⟩
theorem octN_le {A B : Nat} (hA : 0 < A) (hB : 0 < B) (lA : A < 2 ^ 660) (lB : B < 2 ^ 660) : -660 ≤ octN A B ∧ octN A B ≤ 659 ∧ -659 ≤ oct0 A B ∧ oct0 A B ≤ 659 := by
  have a := bitsN_ok hA
  have b := bitsN_ok hB
  have c := bitsN_le lA
  have d := bitsN_le lB
  unfold octN oct0
  split <;> omega
theorem abv_5 {a b c d e : Int} : abv [a, b, c, d, e] = 2 ^ a.toNat * abv [0, b, c, d, e] := by
  show 2 ^ a.toNat * (3 ^ b.toNat * (5 ^ c.toNat * (7 ^ d.toNat * (11 ^ e.toNat * 1)))) = 2 ^ a.toNat * (2 ^ (0 : Int).toNat * (3 ^ b.toNat * (5 ^ c.toNat * (7 ^ d.toNat * (11 ^ e.toNat * 1)))))
  rw [show (0 : Int).toNat = 0 from rfl, Nat.pow_zero, Nat.one_mul]
theorem blw_5 {a b c d e : Int} : blw [a, b, c, d, e] = 2 ^ (-a).toNat * blw [0, b, c, d, e] := by
  show 2 ^ (-a).toNat * (3 ^ (-b).toNat * (5 ^ (-c).toNat * (7 ^ (-d).toNat * (11 ^ (-e).toNat * 1)))) = 2 ^ (-a).toNat * (2 ^ (-(0 : Int)).toNat * (3 ^ (-b).toNat * (5 ^ (-c).toNat * (7 ^ (-d).toNat * (11 ^ (-e).toNat * 1)))))
  rw [show (-(0 : Int)).toNat = 0 from rfl, Nat.pow_zero, Nat.one_mul]
theorem four_lt {b c d e : Nat} (hb : b ≤ 60) (hc : c ≤ 60) (hd : d ≤ 60) (he : e ≤ 60) : 2 ^ 0 * (3 ^ b * (5 ^ c * (7 ^ d * (11 ^ e * 1)))) < 2 ^ 660 := by
  have h1 : 3 ^ b ≤ 3 ^ 60 := Nat.pow_le_pow_right (by decide) hb
  have h2 : 5 ^ c ≤ 5 ^ 60 := Nat.pow_le_pow_right (by decide) hc
  have h3 : 7 ^ d ≤ 7 ^ 60 := Nat.pow_le_pow_right (by decide) hd
  have h4 : 11 ^ e ≤ 11 ^ 60 := Nat.pow_le_pow_right (by decide) he
  rw [Nat.pow_zero, Nat.one_mul, Nat.mul_one]
  have h5 : 3 ^ b * (5 ^ c * (7 ^ d * 11 ^ e)) ≤ 3 ^ 60 * (5 ^ 60 * (7 ^ 60 * 11 ^ 60)) := Nat.mul_le_mul h1 (Nat.mul_le_mul h2 (Nat.mul_le_mul h3 h4))
  have h6 : 3 ^ 60 * (5 ^ 60 * (7 ^ 60 * 11 ^ 60)) < 2 ^ 660 := by
    rw [← Nat.mul_pow, ← Nat.mul_pow, ← Nat.mul_pow]
    have : (2 : Nat) ^ 660 = (2 ^ 11) ^ 60 := by rw [← Nat.pow_mul]
    rw [this]
    exact Nat.pow_lt_pow_left (by decide) (by decide)
  omega
theorem abv_lt {b c d e : Int} (hb : b ≤ 60) (hc : c ≤ 60) (hd : d ≤ 60) (he : e ≤ 60) : abv [0, b, c, d, e] < 2 ^ 660 := four_lt (b := b.toNat) (c := c.toNat) (d := d.toNat) (e := e.toNat) (by omega) (by omega) (by omega) (by omega)
theorem blw_lt {b c d e : Int} (hb : -60 ≤ b) (hc : -60 ≤ c) (hd : -60 ≤ d) (he : -60 ≤ e) : blw [0, b, c, d, e] < 2 ^ 660 := four_lt (b := (-b).toNat) (c := (-c).toNat) (d := (-d).toNat) (e := (-e).toNat) (by omega) (by omega) (by omega) (by omega)
/-- the octaves of the last four numbers -/
def oct4 (b c d e : Int) : Int := octN (abv [0, b, c, d, e]) (blw [0, b, c, d, e])
section
variable {fns : List FnD} {gl : Nat → Dat} {f ff fr fo n : Nat}
def BOctaves (ff fr : Nat) : List Sm := [.unp [1, 2] (.cal ff [.bin .add (.tup [.cst (.int 0)]) (.slc (.var 0) [.cst (.int 1)] [])]),
    .asg 3 (.bin .sub (.bits (.var 1)) (.bits (.var 2))),
    .ite (.cmp .lt (.var 3) (.cst (.int 0))) [.asg 1 (.bin .mul (.var 1) (.cal fr [.cst (.int 2), .bin .sub (.cst (.int 0)) (.var 3)]))] [.asg 2 (.bin .mul (.var 2) (.cal fr [.cst (.int 2), .var 3]))],
    .ite (.cmp .lt (.var 1) (.var 2)) [.asg 3 (.bin .sub (.var 3) (.cst (.int 1)))] [],
    .ret (.bin .add (.idx (.var 0) (.cst (.int 0))) (.var 3))]
theorem octaves_call {k : Nat} (h : Has fns f 1 4 (BOctaves ff fr) .pur) (hf : Has fns ff 1 5 (BFractionOf k fr) .pur) (hr : Has fns fr 2 3 BRaised .pur) (hg : gl k = eT [2, 3, 5, 7, 11]) {a b c d e : Int} (hb : -60 ≤ b ∧ b ≤ 60) (hc : -60 ≤ c ∧ c ≤ 60) (hd : -60 ≤ d ∧ d ≤ 60) (he : -60 ≤ e ∧ e ≤ 60) :
    callF fns gl (n + 3) f [eT [a, b, c, d, e]] = .ok (.int (a + oct4 b c d e)) := by
  have fc := fractionOf_call (gl := gl) (n := n) hf hr (ps := [2, 3, 5, 7, 11]) (tone := [0, b, c, d, e]) hg (by decide) (by
    intro x hx
    simp only [List.mem_cons, List.not_mem_nil, or_false] at hx
    omega) (by decide)
  have pe : prodP (posP ([2, 3, 5, 7, 11].zip [0, b, c, d, e])) = abv [0, b, c, d, e] := rfl
  have ne : prodP (negP ([2, 3, 5, 7, 11].zip [0, b, c, d, e])) = blw [0, b, c, d, e] := rfl
  rw [pe, ne] at fc
  have lA := abv_lt hb.2 hc.2 hd.2 he.2
  have lB := blw_lt hb.1 hc.1 hd.1 he.1
  have pA : 0 < abv [0, b, c, d, e] := abv_pos
  have pB : 0 < blw [0, b, c, d, e] := blw_pos
  unfold oct4
  generalize abv [0, b, c, d, e] = A at *
  generalize blw [0, b, c, d, e] = B at *
  obtain ⟨_, _, o1, o2⟩ := octN_le pA pB lA lB
  refine h.pur rfl rfl ?_
  show Out (exSs _ _ _ (BOctaves ff fr) [.shr, .shr, .shr, .shr] [some (eT [a, b, c, d, e]), none, none, none]) _
  have fl : ∀ (es : List Ex) (κ : Kd), decide (2 ≤ flE (rfs fns) (.cal ff es) κ) = true := fun es κ => by
    simp only [flE, hf.rf]
    rfl
  have lk : ∀ es : List Ex, leak (rfs fns) (.cal ff es) = [] := fun es => by
    simp only [leak, hf.rf]
  have ev : evE (callF fns gl (n + 2)) gl (.bin .add (.tup [.cst (.int 0)]) (.slc (.var 0) [.cst (.int 1)] [])) [some (eT [a, b, c, d, e]), none, none, none] = .ok (eT [0, b, c, d, e]) := rfl
  refine o_unp (κ1 := [.shr, .shr, .shr, .shr]) (ρ' := [some (eT [a, b, c, d, e]), some (.int (A : Nat)), some (.int (B : Nat)), none]) (d := .tup [.int (A : Nat), .int (B : Nat)]) (by simp only [evE_cal, evL_cons, evL_nil, ev, Rs.ok_bind, fc]) (by rw [lk]; rfl) (fl _ _) rfl ?_
  show Out (exSs _ _ _ _ [.shr, .shr, .shr, .shr] _) _
  refine o_asg (κ' := [.shr, .shr, .shr, .shr]) (d := .int (oct0 A B)) rfl rfl rfl rfl rfl ?_
  dsimp only [List.set]
  have tail : ∀ X Y : Nat, X = A * 2 ^ (-(oct0 A B)).toNat → Y = B * 2 ^ (oct0 A B).toNat → Out (exSs (callF fns gl (n + 2)) gl (rfs fns) [.ite (.cmp .lt (.var 1) (.var 2)) [.asg 3 (.bin .sub (.var 3) (.cst (.int 1)))] [],
    .ret (.bin .add (.idx (.var 0) (.cst (.int 0))) (.var 3))] [.shr, .shr, .shr, .shr] [some (eT [a, b, c, d, e]), some (.int (X : Nat)), some (.int (Y : Nat)), some (.int (oct0 A B))]) (retP 0 (.int (a + octN A B))) := by
    intro X Y hX hY
    unfold octN
    rw [← hX, ← hY]
    refine o_if (k := decide (X < Y)) (by simp [Int.ofNat_lt]) (fun q => ?_) fun q => ?_
    · rw [if_pos (of_decide_eq_true q)]
      refine o_asg (κ' := [.shr, .shr, .shr, .shr]) (d := .int (oct0 A B - 1)) (by simp) rfl rfl rfl rfl (o_nil (thenP_nx ?_))
      dsimp only [List.set]
      exact o_ret (d := .int (a + (oct0 A B - 1))) rfl (by simp only [evE_bin, evE_idx, evE_var, evE_cst, getV_zero, getV_succ, Rs.ok_bind]; rw [show idxD (eT [a, b, c, d, e]) (.int 0) = .ok (.int a) from tup_0]; simp) rfl q_ret0
    · rw [if_neg (of_decide_eq_false q)]
      exact o_ret (d := .int (a + oct0 A B)) rfl (by simp only [evE_bin, evE_idx, evE_var, evE_cst, getV_zero, getV_succ, Rs.ok_bind]; rw [show idxD (eT [a, b, c, d, e]) (.int 0) = .ok (.int a) from tup_0]; simp) rfl q_ret0
  refine o_ite (k := decide (oct0 A B < 0)) (by simp) (fun q => ?_) fun q => ?_
  · have q := of_decide_eq_true q
    have c1 := raised_call (gl := gl) (n := n + 1) hr (p := 2) (N := (-(oct0 A B)).toNat) (by decide) (by omega)
    rw [Int.toNat_of_nonneg (by omega)] at c1
    have m1 : mulOk (A : Nat) ((2 ^ (-(oct0 A B)).toNat : Nat) : Int) = true := mul_ok (a := 660) (b := 8001) (by rw [Int.natAbs_natCast]; exact lA) (by rw [Int.natAbs_natCast]; exact pow_lt (N := 2000) (by decide) (by omega)) (by decide)
    refine o_asg (κ1 := [.shr, .shr, .shr, .shr]) (κ' := [.shr, .shr, .shr, .shr]) (fl := 3) (d := .int ((A * 2 ^ (-(oct0 A B)).toNat : Nat) : Int)) ?_ rfl (by simp only [flE, hr.rf]; rfl) rfl rfl (o_nil (thenP_nx ?_))
    · simp only [evE_bin, evE_cal, evL_cons, evL_nil, evE_var, evE_cst, getV_zero, getV_succ, Rs.ok_bind, bin_sub]
      rw [show (0 : Int) - oct0 A B = -(oct0 A B) by omega, show callF fns gl (n + 2) fr [.int 2, .int (-(oct0 A B))] = _ from c1]
      simp only [Rs.ok_bind]
      rw [bin_mul m1, ← Int.natCast_mul]
    · dsimp only [List.set]
      refine tail _ _ rfl ?_
      rw [show (oct0 A B).toNat = 0 by omega, Nat.pow_zero, Nat.mul_one]
  · have q := of_decide_eq_false q
    have c1 := raised_call (gl := gl) (n := n + 1) hr (p := 2) (N := (oct0 A B).toNat) (by decide) (by omega)
    rw [Int.toNat_of_nonneg (by omega)] at c1
    have m1 : mulOk (B : Nat) ((2 ^ (oct0 A B).toNat : Nat) : Int) = true := mul_ok (a := 660) (b := 8001) (by rw [Int.natAbs_natCast]; exact lB) (by rw [Int.natAbs_natCast]; exact pow_lt (N := 2000) (by decide) (by omega)) (by decide)
    refine o_asg (κ1 := [.shr, .shr, .shr, .shr]) (κ' := [.shr, .shr, .shr, .shr]) (fl := 3) (d := .int ((B * 2 ^ (oct0 A B).toNat : Nat) : Int)) ?_ rfl (by simp only [flE, hr.rf]; rfl) rfl rfl (o_nil (thenP_nx ?_))
    · simp only [evE_bin, evE_cal, evL_cons, evL_nil, evE_var, evE_cst, getV_zero, getV_succ, Rs.ok_bind]
      rw [show callF fns gl (n + 2) fr [.int 2, .int (oct0 A B)] = _ from c1]
      simp only [Rs.ok_bind]
      rw [bin_mul m1, ← Int.natCast_mul]
    · dsimp only [List.set]
      refine tail _ _ ?_ rfl
      rw [show (-(oct0 A B)).toNat = 0 by omega, Nat.pow_zero, Nat.mul_one]
def BFolded (fv fo : Nat) : List Sm := [.ret (.cal fv [.var 0, .tup [.cal fo [.var 0], .cst (.int 0), .cst (.int 0), .cst (.int 0), .cst (.int 0)]])]
theorem folded_call {k fv : Nat} (h : Has fns f 1 1 (BFolded fv fo) .pur) (hv : Has fns fv 2 4 (BZip .sub) .pur) (ho : Has fns fo 1 4 (BOctaves ff fr) .pur) (hf : Has fns ff 1 5 (BFractionOf k fr) .pur) (hr : Has fns fr 2 3 BRaised .pur) (hg : gl k = eT [2, 3, 5, 7, 11]) {a b c d e : Int} (hb : -60 ≤ b ∧ b ≤ 60) (hc : -60 ≤ c ∧ c ≤ 60) (hd : -60 ≤ d ∧ d ≤ 60) (he : -60 ≤ e ∧ e ≤ 60) :
    callF fns gl (n + 4) f [eT [a, b, c, d, e]] = .ok (eT [-(oct4 b c d e), b, c, d, e]) := by
  have o := octaves_call (gl := gl) (n := n) ho hf hr hg (a := a) hb hc hd he
  have v := zip_call (gl := gl) (n := n + 2) (g := (· - ·)) (fun _ _ => rfl) hv (xs := [a, b, c, d, e]) (ys := [a + oct4 b c d e, 0, 0, 0, 0]) (Nat.le_of_ble_eq_true rfl)
  refine h.pur rfl (pure_eT _) ?_
  show Out (exSs _ _ _ (BFolded fv fo) [.shr] [some (eT [a, b, c, d, e])]) _
  refine o_ret (d := eT [-(oct4 b c d e), b, c, d, e]) rfl ?_ rfl q_ret0
  simp only [evE_cal, evE_tup, evL_cons, evL_nil, evE_var, evE_cst, getV_zero, Rs.ok_bind, o]
  rw [show callF fns gl (n + 3) fv [eT [a, b, c, d, e], .tup [.int (a + oct4 b c d e), .int 0, .int 0, .int 0, .int 0]] = _ from v]
  simp only [List.zipWith_cons_cons, List.zipWith_nil_right]
  rw [show a - (a + oct4 b c d e) = -(oct4 b c d e) by omega]
  simp
end
end PV

/-! PV, part X: rows by mixing, folded rows, scales -/
namespace PV
open PySem PySem.Spec PyProof.Rows L2
def PR6 : List Int := [1000033, 1000037, 1000039, 1000081, 1000099, 1000117]
def partN (c : Int) (k m : Nat) : Int := ((c.fmod 1000003 * (48271 + 2 * (k : Int))).fmod (PR6.getD (k % 6) 0)).fmod (m : Int)
theorem partN_lt {c : Int} {k m : Nat} (h : 0 < m) : 0 ≤ partN c k m ∧ partN c k m < m := ⟨Int.fmod_nonneg_of_pos _ (by omega), Int.fmod_lt_of_pos _ (by omega)⟩
def signN (c : Int) (k h : Nat) : Int := (partN c k (2 * h + 1) + (h : Int)).fmod (2 * (h : Int) + 1) - (h : Int)
theorem signN_le {c : Int} {k h : Nat} : -(h : Int) ≤ signN c k h ∧ signN c k h ≤ (h : Int) := numB_le (c := partN c k (2 * h + 1)) (b := (h : Int)) (by omega)
def rowM (c : Int) (a b : Nat) : List Int := signN c 0 a :: (List.range 4).map fun i => signN c (1 + i) b
/-- a row within bounds -/
def RowB (A H : Int) (t : List Int) : Prop := ∃ a b c d e : Int, t = [a, b, c, d, e] ∧ (-A ≤ a ∧ a ≤ A) ∧ (-H ≤ b ∧ b ≤ H) ∧ (-H ≤ c ∧ c ≤ H) ∧ (-H ≤ d ∧ d ≤ H) ∧ (-H ≤ e ∧ e ≤ H)
theorem rowM_ok {c : Int} {a b : Nat} : RowB a b (rowM c a b) := ⟨_, _, _, _, _, rfl, signN_le, signN_le, signN_le, signN_le, signN_le⟩
theorem RowB.up {A H A' H' : Int} {t : List Int} (h : RowB A H t) (hA : A ≤ A') (hH : H ≤ H') : RowB A' H' t := by
  obtain ⟨a, b, c, d, e, rfl, h1, h2, h3, h4, h5⟩ := h
  exact ⟨a, b, c, d, e, rfl, by omega, by omega, by omega, by omega, by omega⟩
theorem RowB.len {A H : Int} {t : List Int} (h : RowB A H t) : t.length = 5 := by
  obtain ⟨a, b, c, d, e, rfl, _⟩ := h
  rfl
theorem RowB.inb {A H : Int} {t : List Int} (h : RowB A H t) (hA : A ≤ 700) (hH : H ≤ 60) : InB t := by
  obtain ⟨a, b, c, d, e, rfl, h1, h2, h3, h4, h5⟩ := h
  exact ⟨a, b, c, d, e, rfl, by omega, by omega, by omega, by omega, by omega⟩
theorem mul_two (X : Nat) : binop .mul (.int (X : Nat)) (.int 2) = .ok (.int ((X * 2 : Nat) : Int)) := by
  rw [bin_mul (mul_small (.inr (by decide)))]
  congr 2
theorem two_mul (X : Nat) : binop .mul (.int 2) (.int (X : Nat)) = .ok (.int ((2 * X : Nat) : Int)) := by
  rw [bin_mul (mul_small (.inl (by decide)))]
  congr 2
section
variable {fns : List FnD} {gl : Nat → Dat} {f fp fs ff fl fw fi fc fr n : Nat}
def BPart : List Sm := [.asg 3 (.idx (.lst [.cst (.int 1000033), .cst (.int 1000037), .cst (.int 1000039), .cst (.int 1000081), .cst (.int 1000099), .cst (.int 1000117)]) (.bin .mod (.var 1) (.cst (.int 6)))),
    .ret (.bin .mod (.bin .mod (.bin .mul (.bin .mod (.var 0) (.cst (.int 1000003))) (.bin .add (.cst (.int 48271)) (.bin .mul (.cst (.int 2)) (.var 1)))) (.var 3)) (.var 2))]
theorem part_call (h : Has fns f 3 4 BPart .pur) (c : Int) (k : Nat) {m : Nat} (hm : 0 < m) : callF fns gl (n + 1) f [.int c, .int (k : Nat), .int (m : Nat)] = .ok (.int (partN c k m)) := by
  have hk : k % 6 < 6 := Nat.mod_lt _ (by decide)
  refine h.pur rfl rfl ?_
  show Out (exSs _ _ _ BPart [.shr, .shr, .shr, .shr] [some (.int c), some (.int (k : Nat)), some (.int (m : Nat)), none]) _
  have hx : ∀ j, j < 6 → idxD (.lst [.int 1000033, .int 1000037, .int 1000039, .int 1000081, .int 1000099, .int 1000117]) (.int (j : Nat)) = .ok (.int (PR6.getD j 0)) ∧ PR6.getD j 0 ≠ 0 := by
    intro j hj
    have : j = 0 ∨ j = 1 ∨ j = 2 ∨ j = 3 ∨ j = 4 ∨ j = 5 := by omega
    rcases this with rfl | rfl | rfl | rfl | rfl | rfl <;> exact ⟨idx_lst rfl, by decide⟩
  obtain ⟨x1, x2⟩ := hx (k % 6) hk
  refine o_asg (κ' := [.shr, .shr, .shr, .shr]) (d := .int (PR6.getD (k % 6) 0)) ?_ rfl rfl rfl rfl ?_
  · simp only [evE_idx, evE_lst, evE_bin, evL_cons, evL_nil, evE_cst, evE_var, getV_zero, getV_succ, Rs.ok_bind]
    rw [bin_mod (by decide), show ((k : Nat) : Int).fmod 6 = ((k % 6 : Nat) : Int) from fmodN k 6]
    exact x1
  dsimp only [List.set]
  refine o_ret (d := .int (partN c k m)) rfl ?_ rfl q_ret0
  simp only [evE_bin, evE_cst, evE_var, getV_zero, getV_succ, Rs.ok_bind]
  have y1 := Int.fmod_nonneg_of_pos c (b := 1000003) (by decide)
  have y2 := Int.fmod_lt_of_pos c (b := 1000003) (by decide)
  rw [bin_mod (by decide), bin_mul (mul2_ok _)]
  simp only [Rs.ok_bind, bin_add]
  rw [bin_mul (mul_small (.inl (by omega)))]
  simp only [Rs.ok_bind]
  rw [bin_mod x2]
  simp only [Rs.ok_bind]
  rw [bin_mod (by omega)]
  rfl
def BSigned (fp : Nat) : List Sm := [.ret (.bin .sub (.bin .mod (.bin .add (.cal fp [.var 0, .var 1, .bin .add (.bin .mul (.cst (.int 2)) (.var 2)) (.cst (.int 1))]) (.var 2)) (.bin .add (.bin .mul (.cst (.int 2)) (.var 2)) (.cst (.int 1)))) (.var 2))]
theorem signed_call (h : Has fns f 3 3 (BSigned fp) .pur) (hp : Has fns fp 3 4 BPart .pur) (c : Int) (k b : Nat) : callF fns gl (n + 2) f [.int c, .int (k : Nat), .int (b : Nat)] = .ok (.int (signN c k b)) := by
  have pc := part_call (gl := gl) (n := n) hp c k (m := 2 * b + 1) (by omega)
  rw [show ((2 * b + 1 : Nat) : Int) = 2 * (b : Int) + 1 by omega] at pc
  refine h.pur rfl rfl ?_
  show Out (exSs _ _ _ (BSigned fp) [.shr, .shr, .shr] [some (.int c), some (.int (k : Nat)), some (.int (b : Nat))]) _
  refine o_ret (d := .int (signN c k b)) rfl ?_ rfl q_ret0
  simp only [evE_bin, evE_cal, evL_cons, evL_nil, evE_cst, evE_var, getV_zero, getV_succ, Rs.ok_bind]
  rw [bin_mul (mul2_ok _)]
  simp only [Rs.ok_bind, bin_add, pc]
  rw [bin_mod (by omega)]
  rfl
def BRowM (fs : Nat) : List Sm := [.asg 3 (.lst [.cal fs [.var 0, .cst (.int 0), .var 1]]),
    .fr (.nm 4) (.rng [.cst (.int 1), .cst (.int 5)]) [.app 3 (.cal fs [.var 0, .var 4, .var 2])],
    .ret (.bi .tuple [.var 3])]
theorem rowM_call (h : Has fns f 3 5 (BRowM fs) .pur) (hs : Has fns fs 3 3 (BSigned fp) .pur) (hp : Has fns fp 3 4 BPart .pur) (c : Int) (a b : Nat) : callF fns gl (n + 3) f [.int c, .int (a : Nat), .int (b : Nat)] = .ok (eT (rowM c a b)) := by
  have s0 := signed_call (gl := gl) (n := n) hs hp c 0 a
  have s1 := fun i => signed_call (gl := gl) (n := n) hs hp c (1 + i) b
  refine h.pur rfl (pure_eT _) ?_
  show Out (exSs _ _ _ (BRowM fs) [.shr, .shr, .shr, .shr, .shr] [some (.int c), some (.int (a : Nat)), some (.int (b : Nat)), none, none]) _
  refine o_asg (κ1 := [.shr, .shr, .shr, .shr, .shr]) (κ' := [.shr, .shr, .shr, .own, .shr]) (fl := 3) (d := eI [signN c 0 a]) ?_ (by simp only [leak, leak.leakL, hs.rf]; rfl) (by simp only [flE, flL, hs.rf]; rfl) rfl rfl ?_
  · simp only [evE_lst, evE_cal, evL_cons, evL_nil, evE_cst, evE_var, getV_zero, getV_succ, Rs.ok_bind]
    rw [show callF fns gl (n + 2) fs [.int c, .int 0, .int (a : Nat)] = _ from s0]
    rfl
  dsimp only [List.set]
  refine o_fr (κ1 := [.shr, .shr, .shr, .own, .shr]) (ds := (List.range 4).map fun i => Dat.int ((1 + i : Nat) : Int)) rfl rfl (by simp only [evS_rng, evL_cons, evL_nil, evE_cst, Rs.ok_bind]; exact rng2 (a := 1) (b := 5) (by decide) (by decide)) ?_
  refine for_inv (fun i : Nat => Dat.int ((1 + i : Nat) : Int)) (fun xs κ ρ => κ = [.shr, .shr, .shr, .own, .shr] ∧ ∃ (done : List Int) (o4 : Option Dat), done ++ (xs.map fun i => signN c (1 + i) b) = rowM c a b ∧ ρ = [some (.int c), some (.int (a : Nat)), some (.int (b : Nat)), some (eI done), o4]) ?_ ?_ (List.range 4) _ _ ⟨rfl, [signN c 0 a], none, rfl, rfl⟩
  · rintro x xs κ ρ ⟨rfl, done, o4, e1, rfl⟩
    refine ⟨[some (.int c), some (.int (a : Nat)), some (.int (b : Nat)), some (eI done), some (.int ((1 + x : Nat) : Int))], rfl, ?_⟩
    have dl : done.length + 1 ≤ 5 := by
      have := congrArg List.length e1
      simp [rowM] at this
      omega
    refine o_app (κ1 := [.shr, .shr, .shr, .own, .shr]) (d := .int (signN c (1 + x) b)) (xs := done.map Dat.int) (by simp only [leak, hs.rf]; rfl) (by simp only [flE, hs.rf]; rfl) rfl ?_ (by rw [List.length_map]; exact small1000 (by omega)) ?_
    · simp only [evE_cal, evL_cons, evL_nil, evE_var, getV_zero, getV_succ, Rs.ok_bind, s1]
    · refine o_nil ⟨rfl, done ++ [signN c (1 + x) b], some (.int ((1 + x : Nat) : Int)), ?_, by simp⟩
      rw [← e1]
      simp
  · rintro κ ρ ⟨rfl, done, o4, e1, rfl⟩
    have e1 : done = rowM c a b := by simpa using e1
    subst e1
    exact forP_nx (κ1 := [.shr, .shr, .shr, .own, .shr]) rfl (o_ret (d := eT (rowM c a b)) rfl (by simp) rfl q_ret0)
/-- the products above and below -/
def BFracL : List Sm := [.asg 1 (.cst (.int 1)),
    .asg 2 (.cst (.int 1)),
    .fr (.tp [3, 4]) (.zip (.lst [.cst (.int 2), .cst (.int 3), .cst (.int 5), .cst (.int 7), .cst (.int 11)]) (.var 0)) [.fr (.nm 5) (.rng [.bi .abs [.var 4]]) [.ite (.cmp .gt (.var 4) (.cst (.int 0))) [.asg 1 (.bin .mul (.var 1) (.var 3))] [.asg 2 (.bin .mul (.var 2) (.var 3))]]],
    .ret (.tup [.var 1, .var 2])]
theorem fracL_call (h : Has fns f 1 6 BFracL .pur) {row : List Int} (hr : ∀ c ∈ row, -100000 ≤ c ∧ c ≤ 100000) :
    callF fns gl (n + 1) f [eT row] = .ok (.tup [.int (abv row : Nat), .int (blw row : Nat)]) := by
  have pe : prodP (posP ([2, 3, 5, 7, 11].zip row)) = abv row := by
    unfold abv posP five
    rw [List.zip_map_right]
    rfl
  have ne : prodP (negP ([2, 3, 5, 7, 11].zip row)) = blw row := by
    unfold blw negP five
    rw [List.zip_map_right]
    rfl
  have hq : ∀ q ∈ ([2, 3, 5, 7, 11] : List Nat).zip row, (2 ≤ q.1 ∧ q.1 < 16) ∧ (-100000 ≤ q.2 ∧ q.2 ≤ 100000) := fun q hq => by
    have h1 := (List.of_mem_zip hq).1
    simp at h1
    exact ⟨by omega, hr _ (List.of_mem_zip hq).2⟩
  refine h.pur rfl rfl ?_
  show Out (exSs _ _ _ BFracL [.shr, .shr, .shr, .shr, .shr, .shr] [some (eT row), none, none, none, none, none]) _
  refine o_asg (κ' := [.shr, .shr, .shr, .shr, .shr, .shr]) (d := .int 1) (by simp) rfl rfl rfl rfl ?_
  dsimp only [List.set]
  refine o_asg (κ' := [.shr, .shr, .shr, .shr, .shr, .shr]) (d := .int 1) (by simp) rfl rfl rfl rfl ?_
  dsimp only [List.set]
  refine o_fr (κ1 := [.shr, .shr, .shr, .shr, .shr, .shr]) (ds := (([2, 3, 5, 7, 11] : List Nat).zip row).map fun q => Dat.tup [.int (q.1 : Nat), .int q.2]) rfl rfl ?_ ?_
  · have zz : (([.int 2, .int 3, .int 5, .int 7, .int 11] : List Dat).zip (row.map Dat.int)).map (fun p => Dat.tup [p.1, p.2]) = (([2, 3, 5, 7, 11] : List Nat).zip row).map fun q => Dat.tup [.int (q.1 : Nat), .int q.2] := by
      rw [show ([.int 2, .int 3, .int 5, .int 7, .int 11] : List Dat) = [2, 3, 5, 7, 11].map (fun p : Nat => Dat.int (p : Nat)) from rfl, List.zip_map, List.map_map]
      rfl
    simp only [evS_zip, evE_lst, evE_var, evL_cons, evL_nil, evE_cst, getV_zero, Rs.ok_bind]
    rw [zip_lt, zz]
  refine for_inv (fun q : Nat × Int => Dat.tup [.int (q.1 : Nat), .int q.2]) (fun xs κ ρ => κ = [.shr, .shr, .shr, .shr, .shr, .shr] ∧ (∀ q ∈ xs, (2 ≤ q.1 ∧ q.1 < 16) ∧ (-100000 ≤ q.2 ∧ q.2 ≤ 100000)) ∧ ∃ (top bot : Nat) (o3 o4 o5 : Option Dat), top * prodP (posP xs) = abv row ∧ bot * prodP (negP xs) = blw row ∧ ρ = [some (eT row), some (.int (top : Nat)), some (.int (bot : Nat)), o3, o4, o5]) ?_ ?_ (([2, 3, 5, 7, 11] : List Nat).zip row) _ _ ⟨rfl, hq, 1, 1, none, none, none, (Nat.one_mul _).trans pe, (Nat.one_mul _).trans ne, rfl⟩
  · rintro ⟨p, c⟩ xs κ ρ ⟨rfl, hx, top, bot, o3, o4, o5, e1, e2, rfl⟩
    have hx1 := hx (p, c) List.mem_cons_self
    dsimp only at hx1
    have hx2 : ∀ q ∈ xs, (2 ≤ q.1 ∧ q.1 < 16) ∧ (-100000 ≤ q.2 ∧ q.2 ≤ 100000) := fun q hq => hx q (List.mem_cons_of_mem _ hq)
    refine ⟨[some (eT row), some (.int (top : Nat)), some (.int (bot : Nat)), some (.int (p : Nat)), some (.int c), o5], rfl, ?_⟩
    refine o_fr (κ1 := [.shr, .shr, .shr, .shr, .shr, .shr]) (ds := (List.range (if c < 0 then -c else c).toNat).map fun i => Dat.int (0 + (i : Nat))) rfl rfl (by simp only [evS_rng, evE_bi, evL_cons, evL_nil, evE_var, getV_succ, getV_zero, Rs.ok_bind, bi_abs]; exact rng1I (by split <;> omega) (by split <;> omega)) ?_
    refine for_inv (fun i : Nat => Dat.int (0 + (i : Nat))) (fun ys κ ρ => κ = [.shr, .shr, .shr, .shr, .shr, .shr] ∧ ∃ (m1 m2 : Nat) (o5 : Option Dat), m1 * p ^ (if 0 < c then ys.length else 0) = top * p ^ c.toNat ∧ m2 * p ^ (if 0 < c then 0 else ys.length) = bot * p ^ (-c).toNat ∧ ρ = [some (eT row), some (.int (m1 : Nat)), some (.int (m2 : Nat)), some (.int (p : Nat)), some (.int c), o5]) ?_ ?_ (List.range (if c < 0 then -c else c).toNat) _ _ ⟨rfl, top, bot, o5, ?_, ?_, rfl⟩
    · rintro y ys κ ρ ⟨rfl, m1, m2, o5, e3, e4, rfl⟩
      refine ⟨[some (eT row), some (.int (m1 : Nat)), some (.int (m2 : Nat)), some (.int (p : Nat)), some (.int c), some (.int (0 + (y : Nat)))], rfl, ?_⟩
      refine o_ite (k := decide (0 < c)) (by simp) (fun q => ?_) fun q => ?_
      · have q := of_decide_eq_true q
        rw [if_pos q] at e3 e4
        refine o_asg (κ' := [.shr, .shr, .shr, .shr, .shr, .shr]) (d := .int ((m1 * p : Nat) : Int)) ?_ rfl rfl rfl rfl ?_
        · simp only [evE_bin, evE_var, getV_zero, getV_succ, Rs.ok_bind]
          rw [bin_mul (mul_small (.inr (by rw [Int.natAbs_natCast]; omega))), ← Int.natCast_mul]
        · refine o_nil (thenP_nx (o_nil ⟨rfl, m1 * p, m2, some (.int (0 + (y : Nat))), ?_, ?_, rfl⟩))
          · rw [if_pos q, ← e3, List.length_cons, Nat.pow_succ, Nat.mul_assoc, Nat.mul_comm p]
          · rw [if_pos q]; exact e4
      · have q := of_decide_eq_false q
        rw [if_neg q] at e3 e4
        refine o_asg (κ' := [.shr, .shr, .shr, .shr, .shr, .shr]) (d := .int ((m2 * p : Nat) : Int)) ?_ rfl rfl rfl rfl ?_
        · simp only [evE_bin, evE_var, getV_zero, getV_succ, Rs.ok_bind]
          rw [bin_mul (mul_small (.inr (by rw [Int.natAbs_natCast]; omega))), ← Int.natCast_mul]
        · refine o_nil (thenP_nx (o_nil ⟨rfl, m1, m2 * p, some (.int (0 + (y : Nat))), ?_, ?_, rfl⟩))
          · rw [if_neg q]; exact e3
          · rw [if_neg q, ← e4, List.length_cons, Nat.pow_succ, Nat.mul_assoc, Nat.mul_comm p]
    · rintro κ ρ ⟨rfl, m1, m2, o5, e3, e4, rfl⟩
      have e3 : m1 = top * p ^ c.toNat := by
        rw [← e3]
        split <;> simp
      have e4 : m2 = bot * p ^ (-c).toNat := by
        rw [← e4]
        split <;> simp
      subst e3 e4
      refine forP_nx (κ1 := [.shr, .shr, .shr, .shr, .shr, .shr]) rfl (o_nil ?_)
      refine ⟨rfl, hx2, _, _, some (.int (p : Nat)), some (.int c), o5, ?_, ?_, rfl⟩
      · rw [Nat.mul_assoc]; exact e1
      · rw [Nat.mul_assoc]; exact e2
    · rw [List.length_range]
      congr 2
      by_cases q1 : 0 < c
      · rw [if_pos q1, if_neg (by omega)]
      · rw [if_neg q1]; omega
    · rw [List.length_range]
      congr 2
      by_cases q1 : 0 < c
      · rw [if_pos q1]; omega
      · rw [if_neg q1]
        by_cases q2 : c < 0
        · rw [if_pos q2]
        · rw [if_neg q2]; omega
  · rintro κ ρ ⟨rfl, _, top, bot, o3, o4, o5, e1, e2, rfl⟩
    refine forP_nx (κ1 := [.shr, .shr, .shr, .shr, .shr, .shr]) rfl ?_
    have e1 : top = abv row := by rw [← e1]; exact (Nat.mul_one top).symm
    have e2 : bot = blw row := by rw [← e2]; exact (Nat.mul_one bot).symm
    rw [e1, e2]
    exact o_ret rfl (by simp) rfl q_ret0
theorem geK_sub {i j A B : Nat} : geK ((j : Int) - (i : Int)) A B ↔ B * 2 ^ j ≤ A * 2 ^ i := by
  unfold geK
  by_cases h : i ≤ j
  · obtain ⟨m, rfl⟩ : ∃ m, j = i + m := ⟨j - i, by omega⟩
    rw [show (((i + m : Nat) : Int) - (i : Int)).toNat = m by omega, show (-(((i + m : Nat) : Int) - (i : Int))).toNat = 0 by omega, Nat.pow_zero, Nat.mul_one, Nat.pow_add, Nat.mul_comm (2 ^ i), ← Nat.mul_assoc]
    exact (Nat.mul_le_mul_right_iff (Nat.two_pow_pos i)).symm
  · obtain ⟨m, rfl⟩ : ∃ m, i = j + m := ⟨i - j, by omega⟩
    rw [show ((j : Int) - ((j + m : Nat) : Int)).toNat = 0 by omega, show (-((j : Int) - ((j + m : Nat) : Int))).toNat = m by omega, Nat.pow_zero, Nat.mul_one, Nat.pow_add, Nat.mul_comm (2 ^ j), ← Nat.mul_assoc]
    exact (Nat.mul_le_mul_right_iff (Nat.two_pow_pos j)).symm
theorem geK_mono {A B : Nat} {N M : Int} (h : geK N A B) (hm : M ≤ N) : geK M A B := by
  obtain ⟨i, j, k, rfl, rfl⟩ : ∃ i j k : Nat, N = (j : Int) - (i : Int) ∧ M = (k : Int) - (i : Int) := ⟨N.natAbs + M.natAbs, (N + (N.natAbs + M.natAbs)).toNat, (M + (N.natAbs + M.natAbs)).toNat, by omega, by omega⟩
  rw [geK_sub] at h ⊢
  exact Nat.le_trans (Nat.mul_le_mul_left _ (Nat.pow_le_pow_right (by decide) (by omega))) h
theorem octN_uniq {A B : Nat} {N : Int} (hA : 0 < A) (hB : 0 < B) (h1 : geK N A B) (h2 : ¬ geK (N + 1) A B) : N = octN A B := by
  obtain ⟨g1, g2⟩ := octN_ok hA hB
  rcases Int.lt_trichotomy N (octN A B) with l | e | g
  · exact absurd (geK_mono g1 (by omega)) h2
  · exact e
  · exact absurd (geK_mono h1 (by omega)) g2
/-- folded, by doubling -/
def BFoldL (ff : Nat) : List Sm := [.asg 1 (.cal ff [.bin .add (.tup [.cst (.int 0)]) (.slc (.var 0) [.cst (.int 1)] [])]),
    .asg 2 (.idx (.var 1) (.cst (.int 0))),
    .asg 3 (.idx (.var 1) (.cst (.int 1))),
    .asg 4 (.cst (.int 0)),
    .whl (.cmp .lt (.var 2) (.var 3)) [.asg 2 (.bin .mul (.var 2) (.cst (.int 2))), .asg 4 (.bin .add (.var 4) (.cst (.int 1)))],
    .whl (.cmp .ge (.var 2) (.bin .mul (.cst (.int 2)) (.var 3))) [.asg 3 (.bin .mul (.var 3) (.cst (.int 2))), .asg 4 (.bin .sub (.var 4) (.cst (.int 1)))],
    .ret (.bin .add (.tup [.var 4]) (.slc (.var 0) [.cst (.int 1)] []))]
theorem foldL_call (h : Has fns f 1 5 (BFoldL ff) .pur) (hf : Has fns ff 1 6 BFracL .pur) {a b c d e : Int} (hb : -60 ≤ b ∧ b ≤ 60) (hc : -60 ≤ c ∧ c ≤ 60) (hd : -60 ≤ d ∧ d ≤ 60) (he : -60 ≤ e ∧ e ≤ 60) :
    callF fns gl (n + 2) f [eT [a, b, c, d, e]] = .ok (eT [-(oct4 b c d e), b, c, d, e]) := by
  have fc := fracL_call (gl := gl) (n := n) hf (row := [0, b, c, d, e]) (by
    intro x hx
    simp only [List.mem_cons, List.not_mem_nil, or_false] at hx
    omega)
  have lA := abv_lt hb.2 hc.2 hd.2 he.2
  have lB := blw_lt hb.1 hc.1 hd.1 he.1
  have pA : 0 < abv [0, b, c, d, e] := abv_pos
  have pB : 0 < blw [0, b, c, d, e] := blw_pos
  unfold oct4
  generalize abv [0, b, c, d, e] = A at *
  generalize blw [0, b, c, d, e] = B at *
  refine h.pur rfl (pure_eT _) ?_
  show Out (exSs _ _ _ (BFoldL ff) [.shr, .shr, .shr, .shr, .shr] [some (eT [a, b, c, d, e]), none, none, none, none]) _
  have ev : evE (callF fns gl (n + 1)) gl (.bin .add (.tup [.cst (.int 0)]) (.slc (.var 0) [.cst (.int 1)] [])) [some (eT [a, b, c, d, e]), none, none, none, none] = .ok (eT [0, b, c, d, e]) := rfl
  refine o_asgC (κ' := [.shr, .shr, .shr, .shr, .shr]) (d := .tup [.int (A : Nat), .int (B : Nat)]) hf.rf (by simp only [evE_cal, evL_cons, evL_nil, ev, Rs.ok_bind, fc]) rfl rfl ?_
  dsimp only [List.set]
  refine o_asg (κ' := [.shr, .shr, .shr, .shr, .shr]) (d := .int (A : Nat)) (by simp only [evE_idx, evE_var, evE_cst, getV_zero, getV_succ, Rs.ok_bind]; exact tup_0) rfl rfl rfl rfl ?_
  dsimp only [List.set]
  refine o_asg (κ' := [.shr, .shr, .shr, .shr, .shr]) (d := .int (B : Nat)) (by simp only [evE_idx, evE_var, evE_cst, getV_zero, getV_succ, Rs.ok_bind]; exact tup_1) rfl rfl rfl rfl ?_
  dsimp only [List.set]
  refine o_asg (κ' := [.shr, .shr, .shr, .shr, .shr]) (d := .int ((0 : Nat) : Int)) rfl rfl rfl rfl rfl ?_
  dsimp only [List.set]
  refine o_whl (fun m κ ρ => κ = [.shr, .shr, .shr, .shr, .shr] ∧ ∃ i X : Nat, X = A * 2 ^ i ∧ B ≤ X * 2 ^ m ∧ (i = 0 ∨ X < 2 * B) ∧ ρ = [some (eT [a, b, c, d, e]), some (.tup [.int (A : Nat), .int (B : Nat)]), some (.int (X : Nat)), some (.int (B : Nat)), some (.int (i : Nat))]) (m := 660) (lt_fuel (k := 20) (by decide) (by decide)) ⟨rfl, 0, A, by simp, ?_, .inl rfl, rfl⟩ ?_
  · have : 2 ^ 660 ≤ A * 2 ^ 660 := Nat.le_mul_of_pos_left _ pA
    omega
  rintro m κ ρ ⟨rfl, i, X, eX, hm, hi, rfl⟩
  by_cases q : X < B
  · refine .inr ⟨by simp [q], ?_⟩
    refine o_asg (κ' := [.shr, .shr, .shr, .shr, .shr]) (d := .int ((X * 2 : Nat) : Int)) ?_ rfl rfl rfl rfl ?_
    · simp only [evE_bin, evE_var, evE_cst, getV_zero, getV_succ, Rs.ok_bind, mul_two]
    dsimp only [List.set]
    refine o_asg (κ' := [.shr, .shr, .shr, .shr, .shr]) (d := .int ((i + 1 : Nat) : Int)) ?_ rfl rfl rfl rfl ?_
    · simp only [evE_bin, evE_var, evE_cst, getV_zero, getV_succ, Rs.ok_bind, bin_add]
      rfl
    dsimp only [List.set]
    cases m with
    | zero => rw [Nat.pow_zero, Nat.mul_one] at hm; omega
    | succ m =>
      refine o_nil ⟨m, by omega, rfl, i + 1, X * 2, ?_, ?_, .inr (by omega), rfl⟩
      · rw [eX, Nat.pow_succ, Nat.mul_assoc]
      · rw [Nat.pow_succ, Nat.mul_comm (2 ^ m) 2, ← Nat.mul_assoc] at hm
        exact hm
  refine .inl ⟨by simp [q], ?_⟩
  have q : B ≤ X := by omega
  have lX : X < 2 ^ 661 := by
    have : (2 : Nat) ^ 661 = 2 * 2 ^ 660 := by rw [Nat.pow_succ]; omega
    rcases hi with rfl | hi
    · rw [Nat.pow_zero, Nat.mul_one] at eX
      omega
    · omega
  clear hm
  refine o_whl (fun m κ ρ => κ = [.shr, .shr, .shr, .shr, .shr] ∧ ∃ j Y : Nat, Y = B * 2 ^ j ∧ Y ≤ X ∧ X < 2 * Y * 2 ^ m ∧ ρ = [some (eT [a, b, c, d, e]), some (.tup [.int (A : Nat), .int (B : Nat)]), some (.int (X : Nat)), some (.int (Y : Nat)), some (.int ((i : Int) - (j : Int)))]) (m := 660) (lt_fuel (k := 20) (by decide) (by decide)) ⟨rfl, 0, B, by simp, q, ?_, by simp⟩ ?_
  · have : (2 : Nat) ^ 661 = 2 * 2 ^ 660 := by rw [Nat.pow_succ]; omega
    have h2 : 2 * 1 * 2 ^ 660 ≤ 2 * B * 2 ^ 660 := Nat.mul_le_mul_right _ (Nat.mul_le_mul_left _ pB)
    omega
  rintro m κ ρ ⟨rfl, j, Y, eY, h1, h2, rfl⟩
  have ec : evE (callF fns gl (n + 1)) gl (.cmp .ge (.var 2) (.bin .mul (.cst (.int 2)) (.var 3))) [some (eT [a, b, c, d, e]), some (.tup [.int (A : Nat), .int (B : Nat)]), some (.int (X : Nat)), some (.int (Y : Nat)), some (.int ((i : Int) - (j : Int)))] = .ok (.bl (decide (2 * Y ≤ X))) := by
    simp only [evE_cmp, evE_bin, evE_var, evE_cst, getV_zero, getV_succ, Rs.ok_bind, two_mul, cmp_ge, Int.ofNat_le]
  by_cases q2 : 2 * Y ≤ X
  · rw [decide_eq_true q2] at ec
    refine .inr ⟨ec, ?_⟩
    refine o_asg (κ' := [.shr, .shr, .shr, .shr, .shr]) (d := .int ((Y * 2 : Nat) : Int)) ?_ rfl rfl rfl rfl ?_
    · simp only [evE_bin, evE_var, evE_cst, getV_zero, getV_succ, Rs.ok_bind, mul_two]
    dsimp only [List.set]
    refine o_asg (κ' := [.shr, .shr, .shr, .shr, .shr]) (d := .int ((i : Int) - ((j + 1 : Nat) : Int))) ?_ rfl rfl rfl rfl ?_
    · simp only [evE_bin, evE_var, evE_cst, getV_zero, getV_succ, Rs.ok_bind, bin_sub]
      rw [show (i : Int) - (j : Int) - 1 = (i : Int) - ((j + 1 : Nat) : Int) by omega]
    dsimp only [List.set]
    cases m with
    | zero => rw [Nat.pow_zero, Nat.mul_one] at h2; omega
    | succ m =>
      refine o_nil ⟨m, by omega, rfl, j + 1, Y * 2, ?_, by omega, ?_, rfl⟩
      · rw [eY, Nat.pow_succ, Nat.mul_assoc]
      · rw [Nat.pow_succ, Nat.mul_comm (2 ^ m) 2, ← Nat.mul_assoc] at h2
        rw [show 2 * (Y * 2) = 2 * Y * 2 by omega]
        exact h2
  · rw [decide_eq_false q2] at ec
    refine .inl ⟨ec, ?_⟩
    have oc : ((j : Int) - (i : Int)) = octN A B := octN_uniq pA pB (geK_sub.mpr (by rw [← eX, ← eY]; exact h1)) (by
      rw [show (j : Int) - (i : Int) + 1 = ((j + 1 : Nat) : Int) - (i : Int) by omega, geK_sub, ← eX, Nat.pow_succ, ← Nat.mul_assoc, ← eY]
      omega)
    refine o_ret (d := eT [-(octN A B), b, c, d, e]) rfl ?_ rfl q_ret0
    rw [← oc, show -((j : Int) - (i : Int)) = (i : Int) - (j : Int) by omega]
    rfl
end
end PV

/-! PV, part Y: scales made here, rows held against rows, tones by cells -/
namespace PV
open PySem PySem.Spec PyProof.Rows L2
theorem cmpN_lt {A B P N : Nat} (h : cmpN A B = cmpN P N) : A < B ↔ P < N := by
  unfold cmpN at h
  rcases Nat.lt_trichotomy A B with l | e | g <;> rcases Nat.lt_trichotomy P N with l' | e' | g'
  · exact ⟨fun _ => l', fun _ => l⟩
  · rw [if_neg (by omega), if_pos l, if_pos e'] at h; omega
  · rw [if_neg (by omega), if_pos l, if_neg (by omega), if_neg (by omega)] at h; omega
  · rw [if_pos e, if_neg (by omega), if_pos l'] at h; omega
  · omega
  · rw [if_pos e, if_neg (by omega), if_neg (by omega)] at h; omega
  · rw [if_neg (by omega), if_neg (by omega), if_neg (by omega), if_pos l'] at h; omega
  · rw [if_neg (by omega), if_neg (by omega), if_pos e'] at h; omega
  · omega
theorem lower_iff {x y : List Int} (hx : InB x) (hy : InB y) : meas x < meas y ↔ abv (x.zipWith (· - ·) y) < blw (x.zipWith (· - ·) y) := cmpN_lt (meas_cmp hx hy rfl)
theorem InB.sub_le {x y : List Int} (hx : InB x) (hy : InB y) : ∀ c ∈ x.zipWith (· - ·) y, -100000 ≤ c ∧ c ≤ 100000 := by
  obtain ⟨a, b, c, d, e, rfl, ha, hb, hc, hd, he⟩ := hx
  obtain ⟨a', b', c', d', e', rfl, ha', hb', hc', hd', he'⟩ := hy
  intro z hz
  simp only [List.zipWith_cons_cons, List.zipWith_nil_right, List.mem_cons, List.not_mem_nil, or_false] at hz
  omega
theorem InB.len {x : List Int} (hx : InB x) : x.length = 5 := by
  obtain ⟨a, b, c, d, e, rfl, _⟩ := hx
  rfl
/-! ### a scale: by insertion, each once -/
def insS (s : List (List Int)) (y : List Int) : List (List Int) := if y ∈ s then s else s.takeWhile (fun x => decide (meas x < meas y)) ++ [y] ++ s.dropWhile (fun x => decide (meas x < meas y))
def scaleS (ys : List (List Int)) : List (List Int) := ys.foldl insS []
theorem cut_while {α : Type} {p : α → Bool} : ∀ (k : Nat) (s : List α), (∀ x ∈ s.take k, p x = true) → (∀ x, s[k]? = some x → p x = false) → s.takeWhile p = s.take k ∧ s.dropWhile p = s.drop k
  | 0, [], _, _ => ⟨rfl, rfl⟩
  | 0, x :: s, _, h => by
    have := h x rfl
    exact ⟨by rw [List.takeWhile_cons, if_neg (by rw [this]; decide)]; rfl, by rw [List.dropWhile_cons, if_neg (by rw [this]; decide)]; rfl⟩
  | k + 1, [], _, _ => ⟨rfl, rfl⟩
  | k + 1, x :: s, h1, h2 => by
    have hx := h1 x (by simp)
    obtain ⟨i1, i2⟩ := cut_while k s (fun z hz => h1 z (by simp [hz])) (fun z hz => h2 z (by simpa using hz))
    exact ⟨by rw [List.takeWhile_cons, if_pos hx, i1]; rfl, by rw [List.dropWhile_cons, if_pos hx, i2]; rfl⟩
theorem mem_insS {s : List (List Int)} {x y : List Int} : x ∈ insS s y ↔ x = y ∨ x ∈ s := by
  unfold insS
  split
  · rename_i h
    constructor
    · exact .inr
    · rintro (rfl | h2)
      · exact h
      · exact h2
  · rw [List.append_assoc]
    have : x ∈ s ↔ x ∈ s.takeWhile (fun x => decide (meas x < meas y)) ∨ x ∈ s.dropWhile (fun x => decide (meas x < meas y)) := by
      rw [← List.mem_append, List.takeWhile_append_dropWhile]
    rw [this]
    simp only [List.mem_append, List.mem_singleton]
    constructor
    · rintro (h | h | h)
      · exact .inr (.inl h)
      · exact .inl h
      · exact .inr (.inr h)
    · rintro (h | h | h)
      · exact .inr (.inl h)
      · exact .inl h
      · exact .inr (.inr h)
abbrev Up (s : List (List Int)) : Prop := s.Pairwise fun x y => meas x < meas y
theorem up_insS {s : List (List Int)} {y : List Int} (h : Up s) (hs : ∀ x ∈ s, InB x) (hy : InB y) : Up (insS s y) := by
  unfold insS
  split
  · exact h
  · rename_i hn
    have e := List.takeWhile_append_dropWhile (p := fun x => decide (meas x < meas y)) (l := s)
    have hall : ∀ x ∈ s.takeWhile (fun x => decide (meas x < meas y)), meas x < meas y := fun x hx => of_decide_eq_true (List.all_eq_true.mp (List.all_takeWhile) x hx)
    have hdrop : ∀ x ∈ s.dropWhile (fun x => decide (meas x < meas y)), meas y < meas x := by
      have gen : ∀ s : List (List Int), Up s → (∀ x ∈ s, InB x) → y ∉ s → ∀ x ∈ s.dropWhile (fun x => decide (meas x < meas y)), meas y < meas x := by
        intro s
        induction s with
        | nil => intro _ _ _ x hx; cases hx
        | cons z s ih =>
          intro hu hi hn x hx
          rw [List.dropWhile_cons] at hx
          split at hx
          · exact ih (List.Pairwise.of_cons hu) (fun w hw => hi w (List.mem_cons_of_mem _ hw)) (fun hw => hn (List.mem_cons_of_mem _ hw)) x hx
          · rename_i hz
            have hz : ¬ meas z < meas y := fun q => hz (decide_eq_true q)
            have hne : meas z ≠ meas y := fun q => hn (by rw [← meas_inj (hi z List.mem_cons_self) hy q]; exact List.mem_cons_self)
            rcases List.mem_cons.mp hx with rfl | hx
            · omega
            · have := List.rel_of_pairwise_cons hu hx
              omega
      exact gen s h hs hn
    have h1 : Up (s.takeWhile (fun x => decide (meas x < meas y))) := h.sublist (List.takeWhile_sublist _)
    have h2 : Up (s.dropWhile (fun x => decide (meas x < meas y))) := h.sublist (List.dropWhile_sublist _)
    rw [List.append_assoc]
    refine List.pairwise_append.mpr ⟨h1, List.pairwise_cons.mpr ⟨hdrop, h2⟩, fun a ha b hb => ?_⟩
    rcases List.mem_cons.mp hb with rfl | hb
    · exact hall a ha
    · exact Nat.lt_trans (hall a ha) (hdrop b hb)
theorem fold_insS {ys s : List (List Int)} (h : Up s) (hs : ∀ x ∈ s, InB x) (hy : ∀ x ∈ ys, InB x) : Up (ys.foldl insS s) ∧ ∀ x, x ∈ ys.foldl insS s ↔ x ∈ ys ∨ x ∈ s := by
  induction ys generalizing s with
  | nil => exact ⟨h, fun x => by simp⟩
  | cons y ys ih =>
    have hy0 := hy y List.mem_cons_self
    obtain ⟨i1, i2⟩ := ih (s := insS s y) (up_insS h hs hy0) (fun x hx => by
      rcases mem_insS.mp hx with rfl | hx
      · exact hy0
      · exact hs x hx) (fun x hx => hy x (List.mem_cons_of_mem _ hx))
    refine ⟨i1, fun x => ?_⟩
    rw [List.foldl_cons, i2, mem_insS, List.mem_cons]
    constructor
    · rintro (h | h | h)
      · exact .inl (.inr h)
      · exact .inl (.inl h)
      · exact .inr h
    · rintro ((h | h) | h)
      · exact .inr (.inl h)
      · exact .inl h
      · exact .inr (.inr h)
theorem up_scaleS {ys : List (List Int)} (hy : ∀ x ∈ ys, InB x) : Up (scaleS ys) := (fold_insS .nil (fun x hx => by cases hx) hy).1
theorem mem_scaleS {ys : List (List Int)} (hy : ∀ x ∈ ys, InB x) {x : List Int} : x ∈ scaleS ys ↔ x ∈ ys := by
  rw [scaleS, (fold_insS .nil (fun x hx => by cases hx) hy).2]
  simp
theorem insS_len (s : List (List Int)) (y : List Int) : (insS s y).length ≤ s.length + 1 := by
  unfold insS
  split
  · omega
  · have := congrArg List.length (List.takeWhile_append_dropWhile (p := fun x => decide (meas x < meas y)) (l := s))
    simp only [List.length_append, List.length_cons, List.length_nil] at this ⊢
    omega
theorem fold_len (ys : List (List Int)) : ∀ s, (ys.foldl insS s).length ≤ s.length + ys.length := by
  induction ys with
  | nil => intro s; simp
  | cons y ys ih =>
    intro s
    have := ih (insS s y)
    have := insS_len s y
    rw [List.foldl_cons, List.length_cons]
    omega
theorem scaleS_len (ys : List (List Int)) : (scaleS ys).length ≤ ys.length := by
  have := fold_len ys []
  rw [scaleS]
  simpa using this
section
variable {fns : List FnD} {gl : Nat → Dat} {f fp fs ff fl fw fi fc fr n : Nat}
def BLowerL (ff fl : Nat) : List Sm := [.asg 2 (.cal ff [.cal fl [.var 0, .var 1]]),
    .ret (.cmp .lt (.idx (.var 2) (.cst (.int 0))) (.idx (.var 2) (.cst (.int 1))))]
theorem lowerL_call (h : Has fns f 2 3 (BLowerL ff fl) .pur) (hf : Has fns ff 1 6 BFracL .pur) (hl : Has fns fl 2 4 (BZip .sub) .pur) {x y : List Int} (hx : InB x) (hy : InB y) : callF fns gl (n + 2) f [eT x, eT y] = .ok (.bl (decide (meas x < meas y))) := by
  have z := zip_call (gl := gl) (n := n) (g := (· - ·)) (fun _ _ => rfl) hl (xs := x) (ys := y) (by rw [hx.len]; decide)
  have c := fracL_call (gl := gl) (n := n) hf (hx.sub_le hy)
  have e := lower_iff hx hy
  generalize x.zipWith (· - ·) y = d at *
  generalize abv d = P at *
  generalize blw d = N at *
  rw [decide_eq_decide.mpr e]
  refine h.pur rfl rfl ?_
  show Out (exSs _ _ _ (BLowerL ff fl) [.shr, .shr, .shr] [some (eT x), some (eT y), none]) _
  refine o_asgC (κ' := [.shr, .shr, .shr]) (d := .tup [.int (P : Nat), .int (N : Nat)]) hf.rf (by simp only [evE_cal, evL_cons, evL_nil, evE_var, getV_zero, getV_succ, Rs.ok_bind, z, c]) rfl rfl ?_
  dsimp only [List.set]
  refine o_ret (d := .bl (decide (P < N))) rfl ?_ rfl q_ret0
  simp only [evE_cmp, evE_idx, evE_var, evE_cst, getV_zero, getV_succ, Rs.ok_bind]
  rw [tup_0, tup_1]
  simp [Int.ofNat_lt]
def BScaleL (fw : Nat) : List Sm := [.asg 1 (.lst []),
    .fr (.nm 2) (.seq (.var 0)) [.ite (.cmp .notin (.var 2) (.var 1)) [.asg 3 (.cst (.int 0)), .whl (.and (.cmp .lt (.var 3) (.bi .len [.var 1])) (.cal fw [.idx (.var 1) (.var 3), .var 2])) [.asg 3 (.bin .add (.var 3) (.cst (.int 1)))], .ins 1 (.var 3) (.var 2)] []],
    .ret (.var 1)]
theorem eT_get {xs : List (List Int)} {k : Nat} {x : List Int} (h : xs[k]? = some x) : idxD (eLT xs) (.int (k : Nat)) = .ok (eT x) := idx_lst (by rw [List.getElem?_map, h]; rfl)
theorem scaleL_call (h : Has fns f 1 4 (BScaleL fw) .own) (hw : Has fns fw 2 3 (BLowerL ff fl) .pur) (hf : Has fns ff 1 6 BFracL .pur) (hl : Has fns fl 2 4 (BZip .sub) .pur) {ys : List (List Int)} (hy : ∀ y ∈ ys, InB y) (hn : ys.length ≤ 500) : callF fns gl (n + 3) f [eLT ys] = .ok (eLT (scaleS ys)) := by
  have lw := fun x y hx hy => lowerL_call (gl := gl) (n := n) (x := x) (y := y) hw hf hl hx hy
  refine h.own rfl ?_
  show Out (exSs _ _ _ (BScaleL fw) [.shr, .shr, .shr, .shr] [some (eLT ys), none, none, none]) _
  refine o_asg (κ' := [.shr, .own, .shr, .shr]) (d := .lst []) (by simp) rfl rfl rfl rfl ?_
  dsimp only [List.set]
  refine o_fr (κ1 := [.shr, .own, .shr, .shr]) (ds := ys.map eT) rfl rfl (by simp only [evS_seq, evE_var, getV_zero, Rs.ok_bind, items_l]) ?_
  refine for_inv eT (fun xs κ ρ => κ = [.shr, .own, .shr, .shr] ∧ (∀ y ∈ xs, InB y) ∧ ∃ (s : List (List Int)) (o2 o3 : Option Dat), (∀ y ∈ s, InB y) ∧ s.length + xs.length ≤ 500 ∧ xs.foldl insS s = scaleS ys ∧ ρ = [some (eLT ys), some (eLT s), o2, o3]) ?_ ?_ ys _ _ ⟨rfl, hy, [], none, none, fun x hx => (by cases hx), by simpa using hn, rfl, rfl⟩
  · rintro y xs κ ρ ⟨rfl, hx, s, o2, o3, hs, hln, e1, rfl⟩
    have y0 := hx y List.mem_cons_self
    have hx2 : ∀ y ∈ xs, InB y := fun z hz => hx z (List.mem_cons_of_mem _ hz)
    rw [List.length_cons] at hln
    refine ⟨[some (eLT ys), some (eLT s), some (eT y), o3], rfl, ?_⟩
    refine o_if (k := !decide (y ∈ s)) (by simp only [evE_cmp, evE_var, getV_zero, getV_succ, Rs.ok_bind]; exact (cmp_nin nice_eT (by decide) y s).trans (congrArg (fun b => Rs.ok (Dat.bl (!b))) (decide_eq_decide.mpr Iff.rfl))) (fun q => ?_) fun q => ?_
    · have q : y ∉ s := by simpa using q
      refine o_asg (κ' := [.shr, .own, .shr, .shr]) (d := .int ((0 : Nat) : Int)) rfl rfl rfl rfl rfl ?_
      dsimp only [List.set]
      refine o_whl (fun m κ ρ => κ = [.shr, .own, .shr, .shr] ∧ ∃ k : Nat, k + m = s.length ∧ (∀ x ∈ s.take k, meas x < meas y) ∧ ρ = [some (eLT ys), some (eLT s), some (eT y), some (.int (k : Nat))]) (m := s.length) (lt_fuel (k := 20) (Nat.lt_of_le_of_lt (show s.length ≤ 500 by omega) (by decide)) (by decide)) ⟨rfl, 0, by omega, by simp, rfl⟩ ?_
      rintro m κ ρ ⟨rfl, k, hk, hlow, rfl⟩
      have done : (∀ x, s[k]? = some x → ¬ meas x < meas y) → Out (exSs (callF fns gl (n + 2)) gl (rfs fns) [.ins 1 (.var 3) (.var 2)] [.shr, .own, .shr, .shr] [some (eLT ys), some (eLT s), some (eT y), some (.int (k : Nat))]) (thenP (callF fns gl (n + 2)) gl (rfs fns) [] (turnP (fun κ ρ => κ = [.shr, .own, .shr, .shr] ∧ (∀ y ∈ xs, InB y) ∧ ∃ (s : List (List Int)) (o2 o3 : Option Dat), (∀ y ∈ s, InB y) ∧ s.length + xs.length ≤ 500 ∧ xs.foldl insS s = scaleS ys ∧ ρ = [some (eLT ys), some (eLT s), o2, o3]) (forP (callF fns gl (n + 2)) gl (rfs fns) [.ret (.var 1)] [.shr, .own, .shr, .shr] (.seq (.var 0)) (retP 3 (eLT (scaleS ys)))))) := by
        intro hstop
        obtain ⟨t1, t2⟩ := cut_while (p := fun x => decide (meas x < meas y)) k s (fun x hx => decide_eq_true (hlow x hx)) (fun x hx => decide_eq_false (hstop x hx))
        refine o_ins (κ1 := [.shr, .own, .shr, .shr]) (d := eT y) (m := (k : Nat)) (xs := s.map eT) rfl rfl rfl (by simp only [evE_var, getV_zero, getV_succ]) (by simp only [evE_var, getV_zero, getV_succ]) (by omega) (by omega) (by rw [List.length_map]; exact small1000 (by omega)) ?_
        refine o_nil (thenP_nx (o_nil ⟨rfl, hx2, insS s y, some (eT y), some (.int (k : Nat)), fun z hz => ?_, ?_, e1, ?_⟩))
        · rcases mem_insS.mp hz with rfl | hz
          · exact y0
          · exact hs z hz
        · have := insS_len s y
          omega
        · dsimp only [List.set]
          rw [Int.toNat_natCast]
          unfold insS
          rw [if_neg q, t1, t2]
          simp [eLT]
      by_cases hend : k < s.length
      · have g : s[k]? = some s[k] := List.getElem?_eq_getElem hend
        have lk := lw s[k] y (hs _ (List.getElem_mem hend)) y0
        have ec : evE (callF fns gl (n + 2)) gl (.and (.cmp .lt (.var 3) (.bi .len [.var 1])) (.cal fw [.idx (.var 1) (.var 3), .var 2])) [some (eLT ys), some (eLT s), some (eT y), some (.int (k : Nat))] = .ok (.bl (decide (meas s[k] < meas y))) := by
          simp only [evE_and, evE_cmp, evE_bi, evE_cal, evE_idx, evL_cons, evL_nil, evE_var, getV_zero, getV_succ, Rs.ok_bind, bi_lenl, List.length_map, cmp_lt, truth_bl]
          rw [decide_eq_true (show ((k : Nat) : Int) < (s.length : Int) by omega)]
          simp only [if_true]
          rw [eT_get g]
          simp only [Rs.ok_bind, lk, truth_bl]
        by_cases hlt : meas s[k] < meas y
        · rw [decide_eq_true hlt] at ec
          refine .inr ⟨ec, ?_⟩
          refine o_asg (κ' := [.shr, .own, .shr, .shr]) (d := .int ((k + 1 : Nat) : Int)) ?_ rfl rfl rfl rfl ?_
          · simp only [evE_bin, evE_var, evE_cst, getV_zero, getV_succ, Rs.ok_bind, bin_add]
            rfl
          dsimp only [List.set]
          refine o_nil ⟨m - 1, by omega, rfl, k + 1, by omega, fun x hx => ?_, rfl⟩
          rw [List.take_succ, g, List.mem_append] at hx
          rcases hx with hx | hx
          · exact hlow x hx
          · have hx : x = s[k] := by simpa using hx
            rw [hx]
            exact hlt
        · rw [decide_eq_false hlt] at ec
          refine .inl ⟨ec, done fun x hx => ?_⟩
          rw [g] at hx
          injection hx with hx
          rw [← hx]
          exact hlt
      · refine .inl ⟨?_, done fun x hx => ?_⟩
        · simp only [evE_and, evE_cmp, evE_bi, evL_cons, evL_nil, evE_var, getV_zero, getV_succ, Rs.ok_bind, bi_lenl, List.length_map, cmp_lt, truth_bl]
          rw [decide_eq_false (show ¬ ((k : Nat) : Int) < (s.length : Int) by omega)]
          rfl
        · rw [List.getElem?_eq_none (by omega)] at hx
          cases hx
    · have q : y ∈ s := by simpa using q
      refine o_nil ⟨rfl, hx2, s, some (eT y), o3, hs, by omega, ?_, rfl⟩
      rw [← e1, List.foldl_cons]
      unfold insS
      rw [if_pos q]
  · rintro κ ρ ⟨rfl, _, s, o2, o3, hs, hln, e1, rfl⟩
    have e1 : s = scaleS ys := e1
    subst e1
    exact forP_nx (κ1 := [.shr, .own, .shr, .shr]) rfl (o_retv rfl rfl (q_ret rfl))
/-! ### rows held against rows -/
def BIsRow : List Sm := [.ite (.or (.not (.isi (.var 0) [.tuple])) (.cmp .ne (.bi .len [.var 0]) (.cst (.int 5)))) [.ret (.cst (.bl false))] [],
    .ret (.bi .all [.comp (.and (.isi (.var 1) [.int]) (.not (.isi (.var 1) [.bool]))) (.nm 1) (.seq (.var 0)) []])]
theorem isRow_call (h : Has fns f 1 2 BIsRow .pur) {xs : List Int} (hl : xs.length = 5) : callF fns gl (n + 1) f [eT xs] = .ok (.bl true) := by
  refine h.pur rfl rfl ?_
  show Out (exSs _ _ _ BIsRow [.shr, .shr] [some (eT xs), none]) _
  refine o_ifF (by simp [hl]) ?_
  refine o_ret (d := .bl true) rfl ?_ rfl q_ret0
  simp only [evE_bi, evE_comp, evS_seq, evL_cons, evL_nil, evE_var, getV_zero, Rs.ok_bind, items_t]
  rw [mapC_ok (h := fun _ => .bl true)]
  · simp only [Rs.ok_bind, List.length_map]
    rw [size_ok (by omega)]
    simp only [if_true, Rs.ok_bind]
    have := bi_all (ns := xs.map fun _ => true)
    rw [List.map_map] at this
    rw [show (xs.map fun _ => Dat.bl true) = xs.map (Dat.bl ∘ fun _ => true) from rfl, this]
    simp
  · intro x _
    simp [bindT, evC_nil]
def BRows (fi : Nat) : List Sm := [.ite (.or (.not (.isi (.var 0) [.list])) (.cmp .ne (.bi .len [.var 0]) (.bi .len [.var 1]))) [.ret (.cst (.bl false))] [],
    .fr (.nm 2) (.rng [.bi .len [.var 1]]) [.ite (.or (.not (.cal fi [.idx (.var 0) (.var 2)])) (.cmp .ne (.idx (.var 0) (.var 2)) (.idx (.var 1) (.var 2)))) [.ret (.cst (.bl false))] []],
    .ret (.cst (.bl true))]
theorem rows_call (h : Has fns f 2 3 (BRows fi) .pur) (hi : Has fns fi 1 2 BIsRow .pur) {xs : List (List Int)} (hl : ∀ x ∈ xs, x.length = 5) (hn : xs.length ≤ 1000) : callF fns gl (n + 2) f [eLT xs, eLT xs] = .ok (.bl true) := by
  have ir := fun x hx => isRow_call (gl := gl) (n := n) hi (xs := x) (hl x hx)
  refine h.pur rfl rfl ?_
  show Out (exSs _ _ _ (BRows fi) [.shr, .shr, .shr] [some (eLT xs), some (eLT xs), none]) _
  refine o_ifF (by simp) ?_
  refine o_fr (κ1 := [.shr, .shr, .shr]) (ds := (List.range xs.length).map fun i => Dat.int (i : Nat)) rfl rfl ?_ ?_
  · simp only [evS_rng, evE_bi, evL_cons, evL_nil, evE_var, getV_zero, getV_succ, Rs.ok_bind, bi_lenl, List.length_map]
    exact rng1 (by omega)
  refine for_inv (fun i : Nat => Dat.int (i : Nat)) (fun is κ ρ => κ = [.shr, .shr, .shr] ∧ (∀ i ∈ is, i < xs.length) ∧ ∃ o, ρ = [some (eLT xs), some (eLT xs), o]) ?_ ?_ (List.range xs.length) _ _ ⟨rfl, fun i hi => List.mem_range.mp hi, none, rfl⟩
  · rintro i is κ ρ ⟨rfl, hi, o, rfl⟩
    have il := hi i List.mem_cons_self
    have g : xs[i]? = some xs[i] := List.getElem?_eq_getElem il
    refine ⟨[some (eLT xs), some (eLT xs), some (.int (i : Nat))], rfl, ?_⟩
    refine o_ifF ?_ (o_nil ⟨rfl, fun j hj => hi j (List.mem_cons_of_mem _ hj), _, rfl⟩)
    simp only [evE_or, evE_not, evE_cal, evE_cmp, evE_idx, evL_cons, evL_nil, evE_var, getV_zero, getV_succ, Rs.ok_bind]
    rw [eT_get g]
    simp only [Rs.ok_bind, ir _ (List.getElem_mem il), truth_bl]
    rw [cmp_ne nice_eT (by decide)]
    simp
  · rintro κ ρ ⟨rfl, _, o, rfl⟩
    exact forP_nx (κ1 := [.shr, .shr, .shr]) rfl (o_ret (d := .bl true) rfl rfl rfl q_ret0)
/-! ### tones by cells -/
def BTones (fc fr fs : Nat) : List Sm := [.asg 4 (.lst []),
    .fr (.nm 5) (.rng [.var 2]) [.asg 6 (.bin .mod (.cal fc [.var 0, .bin .add (.var 1) (.var 5)]) (.cst (.int 1000003))), .asg 7 (.cal fr [.bin .fdiv (.var 6) (.cst (.int 4)), .cst (.int 30), .var 3]), .ite (.and (.cmp .eq (.bin .mod (.var 6) (.cst (.int 4))) (.cst (.int 3))) (.cmp .ne (.var 4) (.lst []))) [.asg 7 (.bin .add (.tup [.cal fs [.var 6, .cst (.int 5), .cst (.int 30)]]) (.slc (.idx (.var 4) (.bin .mod (.bin .fdiv (.var 6) (.cst (.int 4))) (.bi .len [.var 4]))) [.cst (.int 1)] []))] [], .app 4 (.var 7)],
    .ret (.var 4)]
def retE (m : Nat) (Q : Dat → Prop) : End → Prop
  | .rt fl d => m ≤ fl ∧ Q d
  | _ => False
theorem retE.ok {m : Nat} {Q : Dat → Prop} {r : Rs End} (h : Out r (retE m Q)) : ∃ fl d, m ≤ fl ∧ Q d ∧ r = .ok (.rt fl d) := by
  have h := h.get
  cases r with
  | ok e =>
    cases e with
    | rt fl d => exact ⟨fl, d, h.1, h.2, rfl⟩
    | nx _ _ => exact False.elim h
    | bk _ _ => exact False.elim h
    | ct _ _ => exact False.elim h
    | xc _ _ _ => exact False.elim h
    | r0 _ _ => exact False.elim h
  | ex z => exact False.elim h
  | no => exact False.elim h
theorem Has.ownE {ps N : Nat} {B : List Sm} {ds : List Dat} {Q : Dat → Prop} (h : Has fns f ps N B .own) (hl : ds.length = ps) (e : Out (exSs (callF fns gl n) gl (rfs fns) B (List.replicate N .shr) (ds.map some ++ List.replicate (N - ds.length) none)) (retE 3 Q)) : ∃ d, Q d ∧ callF fns gl (n + 1) f ds = .ok d := by
  obtain ⟨fl, d, h2, hq, e⟩ := retE.ok e
  refine ⟨d, hq, ?_⟩
  rw [h.call hl, e]
  unfold endR retB
  simp [rfOk, h2]
theorem Has.shrE {ps N : Nat} {B : List Sm} {ds : List Dat} {Q : Dat → Prop} (h : Has fns f ps N B .shr) (hl : ds.length = ps) (e : Out (exSs (callF fns gl n) gl (rfs fns) B (List.replicate N .shr) (ds.map some ++ List.replicate (N - ds.length) none)) (retE 2 Q)) : ∃ d, Q d ∧ callF fns gl (n + 1) f ds = .ok d := by
  obtain ⟨fl, d, h2, hq, e⟩ := retE.ok e
  refine ⟨d, hq, ?_⟩
  rw [h.call hl, e]
  unfold endR retB
  simp [rfOk, h2]
theorem Has.purE {ps N : Nat} {B : List Sm} {ds : List Dat} {Q : Dat → Prop} (h : Has fns f ps N B .pur) (hl : ds.length = ps) (hp : ∀ d, Q d → pureD d = true) (e : Out (exSs (callF fns gl n) gl (rfs fns) B (List.replicate N .shr) (ds.map some ++ List.replicate (N - ds.length) none)) (retE 0 Q)) : ∃ d, Q d ∧ callF fns gl (n + 1) f ds = .ok d := by
  obtain ⟨fl, d, h2, hq, e⟩ := retE.ok e
  refine ⟨d, hq, ?_⟩
  rw [h.call hl, e]
  exact endR_pur (hp d hq)
theorem q_retE {m fl : Nat} {d : Dat} {Q : Dat → Prop} (h : decide (m ≤ fl) = true) (hq : Q d) : retE m Q (.rt fl d) := ⟨of_decide_eq_true h, hq⟩
theorem add_tt {xs ys : List Dat} (h : xs.length + ys.length ≤ 1000) : binop .add (.tup xs) (.tup ys) = .ok (.tup (xs ++ ys)) := by
  show (if _ then _ else _) = _
  rw [if_pos (size_ok h)]
theorem add_ll {xs ys : List Dat} (h : xs.length + ys.length ≤ 1000) : binop .add (.lst xs) (.lst ys) = .ok (.lst (xs ++ ys)) := by
  show (if _ then _ else _) = _
  rw [if_pos (size_ok h)]
theorem slc_1 {a b c d e : Int} : slcD (eT [a, b, c, d, e]) (some 1) none = .ok (eT [b, c, d, e]) := rfl
theorem tones_call (h : Has fns f 4 8 (BTones fc fr fs) .own) (hc : Has fns fc 2 2 BCell .pur) (hr : Has fns fr 3 5 (BRowM fs) .pur) (hs : Has fns fs 3 3 (BSigned fp) .pur) (hp : Has fns fp 3 4 BPart .pur) (ns : List Int) (at' count half : Nat) (hcnt : count ≤ 500) : ∃ rs : List (List Int), rs.length = count ∧ (∀ r ∈ rs, RowB 30 half r) ∧ callF fns gl (n + 4) f [.rol (ns.map .int), .int (at' : Nat), .int (count : Nat), .int (half : Nat)] = .ok (eLT rs) := by
  have cc := fun k => cell_call (gl := gl) (n := n + 2) hc ns k
  have rc := fun c a b => rowM_call (gl := gl) (n := n) hr hs hp c a b
  have sc := fun c k b => signed_call (gl := gl) (n := n + 1) hs hp c k b
  suffices q : Out (exSs (callF fns gl (n + 3)) gl (rfs fns) (BTones fc fr fs) [.shr, .shr, .shr, .shr, .shr, .shr, .shr, .shr] [some (.rol (ns.map .int)), some (.int (at' : Nat)), some (.int (count : Nat)), some (.int (half : Nat)), none, none, none, none]) (retE 3 fun d => ∃ rs : List (List Int), rs.length = count ∧ (∀ r ∈ rs, RowB 30 half r) ∧ d = eLT rs) by
    obtain ⟨d, ⟨rs, q1, q2, rfl⟩, q3⟩ := h.ownE (gl := gl) (n := n + 3) (ds := [.rol (ns.map .int), .int (at' : Nat), .int (count : Nat), .int (half : Nat)]) rfl q
    exact ⟨rs, q1, q2, q3⟩
  refine o_asg (κ' := [.shr, .shr, .shr, .shr, .own, .shr, .shr, .shr]) (d := .lst []) (by simp) rfl rfl rfl rfl ?_
  dsimp only [List.set]
  refine o_fr (κ1 := [.shr, .shr, .shr, .shr, .own, .shr, .shr, .shr]) (ds := (List.range count).map fun i => Dat.int (i : Nat)) rfl rfl (by simp only [evS_rng, evL_cons, evL_nil, evE_var, getV_zero, getV_succ, Rs.ok_bind]; exact rng1 (by omega)) ?_
  refine for_inv (fun i : Nat => Dat.int (i : Nat)) (fun xs κ ρ => κ = [.shr, .shr, .shr, .shr, .own, .shr, .shr, .shr] ∧ ∃ (rs : List (List Int)) (o5 o6 o7 : Option Dat), rs.length + xs.length = count ∧ (∀ r ∈ rs, RowB 30 half r) ∧ ρ = [some (.rol (ns.map .int)), some (.int (at' : Nat)), some (.int (count : Nat)), some (.int (half : Nat)), some (eLT rs), o5, o6, o7]) ?_ ?_ (List.range count) _ _ ⟨rfl, [], none, none, none, by simp, fun r hr => (by cases hr), rfl⟩
  · rintro k xs κ ρ ⟨rfl, rs, o5, o6, o7, hlen, hrs, rfl⟩
    rw [List.length_cons] at hlen
    refine ⟨[some (.rol (ns.map .int)), some (.int (at' : Nat)), some (.int (count : Nat)), some (.int (half : Nat)), some (eLT rs), some (.int (k : Nat)), o6, o7], rfl, ?_⟩
    refine o_asg (κ1 := [.shr, .shr, .shr, .shr, .own, .shr, .shr, .shr]) (κ' := [.shr, .shr, .shr, .shr, .own, .shr, .shr, .shr]) (fl := 3) (d := .int ((cell ns (at' + k)).fmod 1000003)) ?_ rfl (by simp only [flE, hc.rf]; rfl) rfl rfl ?_
    · simp only [evE_bin, evE_cal, evL_cons, evL_nil, evE_var, evE_cst, getV_zero, getV_succ, Rs.ok_bind, bin_add]
      rw [← Int.natCast_add, cc]
      simp only [Rs.ok_bind]
      exact bin_mod (by decide)
    dsimp only [List.set]
    generalize (cell ns (at' + k)).fmod 1000003 = c
    refine o_asgC (κ' := [.shr, .shr, .shr, .shr, .own, .shr, .shr, .shr]) (d := eT (rowM (c.fdiv 4) 30 half)) hr.rf ?_ rfl rfl ?_
    · simp only [evE_cal, evE_bin, evL_cons, evL_nil, evE_var, evE_cst, getV_zero, getV_succ, Rs.ok_bind]
      rw [bin_fdiv (div_small (by decide) (by decide))]
      simp only [Rs.ok_bind]
      exact rc _ 30 half
    dsimp only [List.set]
    have tail : ∀ r : List Int, RowB 30 half r → Out (exSs (callF fns gl (n + 3)) gl (rfs fns) [.app 4 (.var 7)] [.shr, .shr, .shr, .shr, .own, .shr, .shr, .shr] [some (.rol (ns.map .int)), some (.int (at' : Nat)), some (.int (count : Nat)), some (.int (half : Nat)), some (eLT rs), some (.int (k : Nat)), some (.int c), some (eT r)]) (turnP (fun κ ρ => κ = [.shr, .shr, .shr, .shr, .own, .shr, .shr, .shr] ∧ ∃ (rs : List (List Int)) (o5 o6 o7 : Option Dat), rs.length + xs.length = count ∧ (∀ r ∈ rs, RowB 30 half r) ∧ ρ = [some (.rol (ns.map .int)), some (.int (at' : Nat)), some (.int (count : Nat)), some (.int (half : Nat)), some (eLT rs), o5, o6, o7]) (forP (callF fns gl (n + 3)) gl (rfs fns) [.ret (.var 4)] [.shr, .shr, .shr, .shr, .own, .shr, .shr, .shr] (.rng [.var 2]) (retE 3 fun d => ∃ rs : List (List Int), rs.length = count ∧ (∀ r ∈ rs, RowB 30 half r) ∧ d = eLT rs))) := by
      intro r hr
      refine o_app (κ1 := [.shr, .shr, .shr, .shr, .own, .shr, .shr, .shr]) (d := eT r) (xs := rs.map eT) rfl rfl rfl rfl (by rw [List.length_map]; exact small1000 (by omega)) ?_
      refine o_nil ⟨rfl, rs ++ [r], some (.int (k : Nat)), some (.int c), some (eT r), by simp; omega, fun z hz => ?_, ?_⟩
      · rcases List.mem_append.mp hz with hz | hz
        · exact hrs z hz
        · rw [List.mem_singleton.mp hz]; exact hr
      · simp
    refine o_if (k := decide (c.fmod 4 = 3) && decide (rs ≠ [])) ?_ (fun q => ?_) fun _ => tail _ rowM_ok
    · simp only [evE_and, evE_cmp, evE_bin, evE_lst, evL_nil, evE_var, evE_cst, getV_zero, getV_succ, Rs.ok_bind]
      rw [bin_mod (by decide)]
      simp only [Rs.ok_bind, cmp_eqi, truth_bl]
      rw [show cmpop .ne (eLT rs) (.lst []) = _ from cmp_ne nice_eLT (by decide) rs []]
      by_cases h1 : c.fmod 4 = 3
      · simp [h1]
      · simp [h1]
    · have q : c.fmod 4 = 3 ∧ rs ≠ [] := by simpa using q
      have pos : 0 < rs.length := List.length_pos_iff.mpr q.2
      obtain ⟨j, hj, ej⟩ := fmod_nat (c.fdiv 4) rs.length pos
      have g : rs[j]? = some rs[j] := List.getElem?_eq_getElem hj
      obtain ⟨a, b, c', d, e, er, h1, h2, h3, h4, h5⟩ := hrs _ (List.getElem_mem hj)
      rw [er] at g
      have s30 : -30 ≤ signN c 5 30 ∧ signN c 5 30 ≤ 30 := signN_le
      refine o_asg (κ1 := [.shr, .shr, .shr, .shr, .own, .shr, .shr, .shr]) (κ' := [.shr, .shr, .shr, .shr, .own, .shr, .shr, .shr]) (fl := 3) (d := eT [signN c 5 30, b, c', d, e]) ?_ rfl (by simp only [flE, flL, hs.rf]; rfl) rfl rfl (o_nil (thenP_nx ?_))
      · simp only [evE_bin, evE_tup, evE_slc, evE_idx, evE_bi, evE_cal, evL_cons, evL_nil, evE_var, evE_cst, getV_zero, getV_succ, Rs.ok_bind, bi_lenl, List.length_map]
        rw [bin_fdiv (div_small (by decide) (by decide)), show callF fns gl (n + 3) fs [.int c, .int 5, .int 30] = _ from sc c 5 30]
        simp only [Rs.ok_bind]
        rw [bin_mod (by omega), ej]
        simp only [Rs.ok_bind]
        rw [eT_get g]
        rfl
      · dsimp only [List.set]
        exact tail _ ⟨_, _, _, _, _, rfl, s30, h2, h3, h4, h5⟩
  · rintro κ ρ ⟨rfl, rs, o5, o6, o7, hlen, hrs, rfl⟩
    exact forP_nx (κ1 := [.shr, .shr, .shr, .shr, .own, .shr, .shr, .shr]) rfl (o_retv rfl rfl (q_retE rfl ⟨rs, by simpa using hlen, hrs, rfl⟩))
def BEdge : List Sm := [.ite (.cmp .eq (.var 0) (.lst [])) [.ret (.var 0)] [],
    .asg 3 (.bin .mod (.var 1) (.bi .len [.var 0])),
    .asg 4 (.bi .list [.idx (.var 0) (.var 3)]),
    .sti 4 (.bin .add (.cst (.int 1)) (.bin .mod (.bin .fdiv (.var 1) (.cst (.int 8))) (.cst (.int 4)))) (.var 2),
    .ret (.bin .add (.bin .add (.slc (.var 0) [] [.var 3]) (.lst [.bi .tuple [.var 4]])) (.slc (.var 0) [.bin .add (.var 3) (.cst (.int 1))] []))]
def cutL {α : Type} (xs : List α) (lo hi : Option Int) : List α := (xs.drop (HT.sIx xs.length 0 lo)).take (HT.sIx xs.length xs.length hi - HT.sIx xs.length 0 lo)
theorem cutL_map {α : Type} (e : α → Dat) (xs : List α) (lo hi : Option Int) : cutD (xs.map e) lo hi = (cutL xs lo hi).map e := by
  unfold cutD cutL
  rw [List.length_map, ← List.map_drop, ← List.map_take]
theorem cutL_len {α : Type} (xs : List α) (lo hi : Option Int) : (cutL xs lo hi).length ≤ xs.length := by
  unfold cutL
  rw [List.length_take, List.length_drop]
  omega
theorem cutL_mem {α : Type} {xs : List α} {lo hi : Option Int} {x : α} (h : x ∈ cutL xs lo hi) : x ∈ xs := List.mem_of_mem_drop (List.mem_of_mem_take h)
theorem edge_call (h : Has fns f 3 5 BEdge .shr) {A H : Int} {rs : List (List Int)} (hrs : ∀ r ∈ rs, RowB A H r) (hn : rs.length ≤ 200) (c : Int) {x : Int} (hx : -H ≤ x ∧ x ≤ H) : ∃ rs' : List (List Int), rs'.length ≤ 2 * rs.length + 1 ∧ (∀ r ∈ rs', RowB A H r) ∧ callF fns gl (n + 1) f [eLT rs, .int c, .int x] = .ok (eLT rs') := by
  suffices q : Out (exSs (callF fns gl n) gl (rfs fns) BEdge [.shr, .shr, .shr, .shr, .shr] [some (eLT rs), some (.int c), some (.int x), none, none]) (retE 2 fun d => ∃ rs' : List (List Int), rs'.length ≤ 2 * rs.length + 1 ∧ (∀ r ∈ rs', RowB A H r) ∧ d = eLT rs') by
    obtain ⟨d, ⟨rs', q1, q2, rfl⟩, q3⟩ := h.shrE (gl := gl) (n := n) (ds := [eLT rs, .int c, .int x]) rfl q
    exact ⟨rs', q1, q2, q3⟩
  refine o_if (k := decide (rs = [])) ?_ (fun q => ?_) fun q => ?_
  · simp only [evE_cmp, evE_lst, evL_nil, evE_var, getV_zero, Rs.ok_bind]
    exact cmp_eq nice_eLT (by decide) rs []
  · refine o_retv rfl rfl ?_
    show _ ∧ _
    exact ⟨by decide, rs, by omega, hrs, rfl⟩
  have q : rs ≠ [] := of_decide_eq_false q
  have pos : 0 < rs.length := List.length_pos_iff.mpr q
  obtain ⟨j, hj, ej⟩ := fmod_nat c rs.length pos
  obtain ⟨k, hk, ek⟩ := fmod_nat (c.fdiv 8) 4 (by decide)
  have ek : (c.fdiv 8).fmod 4 = (k : Nat) := ek
  have g : rs[j]? = some rs[j] := List.getElem?_eq_getElem hj
  obtain ⟨a, b, c', d, e, er, h1, h2, h3, h4, h5⟩ := hrs _ (List.getElem_mem hj)
  rw [er] at g
  refine o_asg (κ' := [.shr, .shr, .shr, .shr, .shr]) (d := .int (j : Nat)) ?_ rfl rfl rfl rfl ?_
  · simp only [evE_bin, evE_bi, evL_cons, evL_nil, evE_var, getV_zero, getV_succ, Rs.ok_bind, bi_lenl, List.length_map]
    rw [bin_mod (by omega), ej]
  dsimp only [List.set]
  refine o_asg (κ' := [.shr, .shr, .shr, .shr, .own]) (d := eI [a, b, c', d, e]) ?_ rfl rfl rfl rfl ?_
  · simp only [evE_idx, evE_bi, evL_cons, evL_nil, evE_var, getV_zero, getV_succ, Rs.ok_bind]
    rw [eT_get g]
    simp only [Rs.ok_bind, bi_list]
  dsimp only [List.set]
  have row : ∃ r : List Int, RowB A H r ∧ ([a, b, c', d, e].map Dat.int).set (1 + k) (.int x) = r.map Dat.int := by
    have : k = 0 ∨ k = 1 ∨ k = 2 ∨ k = 3 := by omega
    rcases this with rfl | rfl | rfl | rfl
    · exact ⟨[a, x, c', d, e], ⟨_, _, _, _, _, rfl, h1, hx, h3, h4, h5⟩, rfl⟩
    · exact ⟨[a, b, x, d, e], ⟨_, _, _, _, _, rfl, h1, h2, hx, h4, h5⟩, rfl⟩
    · exact ⟨[a, b, c', x, e], ⟨_, _, _, _, _, rfl, h1, h2, h3, hx, h5⟩, rfl⟩
    · exact ⟨[a, b, c', d, x], ⟨_, _, _, _, _, rfl, h1, h2, h3, h4, hx⟩, rfl⟩
  obtain ⟨r, hr, er2⟩ := row
  refine o_sti (κ1 := [.shr, .shr, .shr, .shr, .own]) (j := 1 + k) (m := 1 + (k : Int)) (d := .int x) (xs := [a, b, c', d, e].map Dat.int) rfl rfl rfl rfl ?_ ?_ ?_
  · simp only [evE_bin, evE_var, evE_cst, getV_zero, getV_succ, Rs.ok_bind]
    rw [bin_fdiv (div_small (by decide) (by decide))]
    simp only [Rs.ok_bind]
    rw [bin_mod (by decide), ek]
    rfl
  · have : k = 0 ∨ k = 1 ∨ k = 2 ∨ k = 3 := by omega
    rcases this with rfl | rfl | rfl | rfl <;> rfl
  rw [er2]
  dsimp only [List.set]
  have l1 := cutL_len rs none (some (j : Int))
  have l2 := cutL_len rs (some ((j : Int) + 1)) none
  refine o_ret (d := eLT (cutL rs none (some (j : Int)) ++ [r] ++ cutL rs (some ((j : Int) + 1)) none)) rfl ?_ rfl (q_retE rfl ⟨_, ?_, ?_, rfl⟩)
  · simp only [evE_bin, evE_slc, evE_lst, evE_bi, evL_cons, evL_nil, evE_var, evE_cst, getV_zero, getV_succ, Rs.ok_bind, partD, slcD, cutL_map, bi_tupl, bin_add]
    rw [add_ll (by simp only [List.length_map, List.length_cons, List.length_nil]; omega)]
    simp only [Rs.ok_bind]
    rw [add_ll (by simp only [List.length_map, List.length_cons, List.length_nil, List.length_append]; omega)]
    simp
  · simp only [List.length_append, List.length_cons, List.length_nil]
    omega
  · intro z hz
    rcases List.mem_append.mp hz with hz | hz
    · rcases List.mem_append.mp hz with hz | hz
      · exact hrs z (cutL_mem hz)
      · rw [List.mem_singleton.mp hz]; exact hr
    · exact hrs z (cutL_mem hz)
/-! ### folded rows lie from 1 on and below 2 -/
def ONE5 : List Int := [0, 0, 0, 0, 0]
def foldR (t : List Int) : List Int := match t with
  | [_, b, c, d, e] => [-(oct4 b c d e), b, c, d, e]
  | t => t
theorem foldR_ok {A H : Int} {t : List Int} (hH : H ≤ 60) (h : RowB A H t) : RowB 660 H (foldR t) ∧ meas ONE5 ≤ meas (foldR t) ∧ meas (foldR t) < 2 * meas ONE5 := by
  obtain ⟨a, b, c, d, e, rfl, ha, hb, hc, hd, he⟩ := h
  have n := octN_le (A := abv [0, b, c, d, e]) (B := blw [0, b, c, d, e]) abv_pos blw_pos (abv_lt (by omega) (by omega) (by omega) (by omega)) (blw_lt (by omega) (by omega) (by omega) (by omega))
  obtain ⟨g1, g2⟩ := octN_ok (A := abv [0, b, c, d, e]) (B := blw [0, b, c, d, e]) abv_pos blw_pos
  have rb : RowB 660 H (foldR [a, b, c, d, e]) := ⟨_, _, _, _, _, rfl, by unfold oct4; omega, hb, hc, hd, he⟩
  have ib : InB [-(oct4 b c d e), b, c, d, e] := ⟨_, _, _, _, _, rfl, by unfold oct4; omega, by omega, by omega, by omega, by omega⟩
  have i1 : InB ONE5 := ⟨_, _, _, _, _, rfl, by omega, by omega, by omega, by omega, by omega⟩
  have md := meas_diff ib i1 (d := [-(oct4 b c d e), b, c, d, e]) (by simp [ONE5])
  refine ⟨rb, ?_⟩
  show meas ONE5 ≤ meas [-(oct4 b c d e), b, c, d, e] ∧ meas [-(oct4 b c d e), b, c, d, e] < 2 * meas ONE5
  rw [abv_5, blw_5, Int.neg_neg] at md
  have pB : 0 < 2 ^ (oct4 b c d e).toNat * blw [0, b, c, d, e] := Nat.mul_pos (Nat.two_pow_pos _) blw_pos
  have e1 : 2 ^ (oct4 b c d e).toNat * blw [0, b, c, d, e] ≤ 2 ^ (-(oct4 b c d e)).toNat * abv [0, b, c, d, e] := by
    rw [Nat.mul_comm, Nat.mul_comm (2 ^ _) (abv _)]
    exact g1
  have e2 : 2 ^ (-(oct4 b c d e)).toNat * abv [0, b, c, d, e] < 2 * (2 ^ (oct4 b c d e).toNat * blw [0, b, c, d, e]) := by
    have g2 : ¬ geK (oct4 b c d e + 1) (abv [0, b, c, d, e]) (blw [0, b, c, d, e]) := g2
    obtain ⟨i, j, hij⟩ : ∃ i j : Nat, oct4 b c d e = (j : Int) - (i : Int) ∧ (oct4 b c d e).toNat = j ∧ (-(oct4 b c d e)).toNat = i := ⟨(-(oct4 b c d e)).toNat, (oct4 b c d e).toNat, by omega, rfl, rfl⟩
    obtain ⟨q1, q2, q3⟩ := hij
    rw [q2, q3]
    rw [q1, show (j : Int) - (i : Int) + 1 = ((j + 1 : Nat) : Int) - (i : Int) by omega, geK_sub, Nat.pow_succ, ← Nat.mul_assoc] at g2
    rw [Nat.mul_comm (2 ^ i), Nat.mul_comm (2 ^ j)]
    omega
  generalize 2 ^ (oct4 b c d e).toNat * blw [0, b, c, d, e] = Q at *
  generalize 2 ^ (-(oct4 b c d e)).toNat * abv [0, b, c, d, e] = P at *
  generalize meas [-(oct4 b c d e), b, c, d, e] = M at *
  have pO := meas_pos i1
  generalize meas ONE5 = O at *
  constructor
  · apply Nat.le_of_not_lt
    intro l
    have a1 : M * Q < O * Q := Nat.mul_lt_mul_of_pos_right l pB
    have a2 : O * Q ≤ O * P := Nat.mul_le_mul_left _ e1
    omega
  · apply Nat.lt_of_not_le
    intro l
    have a1 : O * P < O * (2 * Q) := Nat.mul_lt_mul_of_pos_left e2 pO
    have a2 : 2 * O * Q ≤ M * Q := Nat.mul_le_mul_right _ l
    rw [← Nat.mul_assoc, Nat.mul_comm O 2] at a1
    omega
end
end PV

/-! PV, part a: rows taken from rows, the greatest common lead (plain) -/
namespace PV
open PySem PySem.Spec PyProof.Rows L2
def lessR (a b : List Int) (t : Int) : List Int := a.zipWith (fun x y => x - t * y) b
def at5 (r : List Int) (j : Nat) : Int := r.getD j 0
theorem less_len {L : Nat} {a b : List Int} {t : Int} (ha : a.length = L) (hb : b.length = L) : (lessR a b t).length = L := by
  rw [lessR, List.length_zipWith, ha, hb, Nat.min_self]
theorem at_less {a b : List Int} {t : Int} (h : a.length = b.length) (j : Nat) : at5 (lessR a b t) j = at5 a j - t * at5 b j := by
  unfold at5 lessR
  rw [List.getD_eq_getElem?_getD, List.getD_eq_getElem?_getD, List.getD_eq_getElem?_getD, List.getElem?_zipWith]
  by_cases hj : j < a.length
  · rw [List.getElem?_eq_getElem hj, List.getElem?_eq_getElem (show j < b.length by omega)]
    rfl
  · rw [List.getElem?_eq_none (show a.length ≤ j by omega), List.getElem?_eq_none (show b.length ≤ j by omega)]
    simp
theorem ext5 {L : Nat} {a b : List Int} (ha : a.length = L) (hb : b.length = L) (h : ∀ j, at5 a j = at5 b j) : a = b := by
  apply List.ext_getElem (by rw [ha, hb])
  intro j h1 h2
  have := h j
  unfold at5 at this
  rw [List.getD_eq_getElem?_getD, List.getD_eq_getElem?_getD, List.getElem?_eq_getElem h1, List.getElem?_eq_getElem h2] at this
  exact this
theorem less_back {L : Nat} {a b : List Int} {t : Int} (ha : a.length = L) (hb : b.length = L) : lessR (lessR a b t) b (-t) = a := by
  have h1 := less_len (t := t) ha hb
  refine ext5 (less_len h1 hb) ha fun j => ?_
  rw [at_less (by rw [h1, hb]), at_less (by rw [ha, hb])]
  grind
/-- what is kept where rows are taken from rows -/
def Lin (L : Nat) (Q : List Int → Prop) : Prop := ∀ a b t, a.length = L → b.length = L → Q a → Q b → Q (lessR a b t)
/-- a form of the first five numbers -/
def ev (φ : Nat → Int) (r : List Int) : Int := φ 0 * at5 r 0 + φ 1 * at5 r 1 + φ 2 * at5 r 2 + φ 3 * at5 r 3 + φ 4 * at5 r 4
theorem ev_less {φ : Nat → Int} {a b : List Int} {t : Int} (h : a.length = b.length) : ev φ (lessR a b t) = ev φ a - t * ev φ b := by
  unfold ev
  simp only [at_less h]
  grind
/-! ### the floor's rest -/
theorem fdm (a b : Int) : a = a.fdiv b * b + a.fmod b := by
  have := Int.mul_fdiv_add_fmod a b
  rw [Int.mul_comm] at this
  omega
theorem fm_rng {a b : Int} (hb : b ≠ 0) : (0 < b ∧ 0 ≤ a.fmod b ∧ a.fmod b < b) ∨ (b < 0 ∧ b < a.fmod b ∧ a.fmod b ≤ 0) := by
  rcases Int.lt_or_gt_of_ne hb with h | h
  · refine .inr ⟨h, ?_⟩
    have e : a.fmod b = -((-a).fmod (-b)) := by
      have := Int.neg_fmod_neg (a := a) (b := b)
      omega
    have h1 := Int.fmod_nonneg_of_pos (-a) (b := -b) (by omega)
    have h2 := Int.fmod_lt_of_pos (-a) (b := -b) (by omega)
    omega
  · exact .inl ⟨h, Int.fmod_nonneg_of_pos a h, Int.fmod_lt_of_pos a h⟩
theorem fm_lt {a b : Int} (hb : b ≠ 0) : (a.fmod b).natAbs < b.natAbs := by
  have := fm_rng (a := a) hb
  omega
/-- both above, or both below nought -/
def Alike (a b : Int) : Prop := (0 < a ∧ 0 < b) ∨ (a < 0 ∧ b < 0)
theorem fm_alike {a b : Int} (hb : b ≠ 0) : a.fmod b = 0 ∨ Alike b (a.fmod b) := by
  have := fm_rng (a := a) hb
  unfold Alike
  omega
theorem fq_alike {a b : Int} (h : Alike a b) : (a.fmod b).natAbs + (a.fdiv b).natAbs * b.natAbs = a.natAbs := by
  have e := fdm a b
  have hb : b ≠ 0 := by unfold Alike at h; omega
  have r := fm_rng (a := a) hb
  rw [← Int.natAbs_mul]
  generalize hq : a.fdiv b = q at *
  generalize a.fmod b = m at *
  have : (0 < b ∧ 0 ≤ q * b) ∨ (b < 0 ∧ q * b ≤ 0) := by
    rcases h with ⟨h1, h2⟩ | ⟨h1, h2⟩
    · refine .inl ⟨h2, ?_⟩
      have : 0 ≤ q := by
        apply Int.le_of_not_gt
        intro l
        have : q * b ≤ -1 * b := Int.mul_le_mul_of_nonneg_right (by omega) (by omega)
        omega
      exact Int.mul_nonneg this (by omega)
    · refine .inr ⟨h2, ?_⟩
      have : 0 ≤ q := by
        apply Int.le_of_not_gt
        intro l
        have : -1 * b ≤ q * b := Int.mul_le_mul_of_nonpos_right (by omega) (by omega)
        omega
      exact Int.mul_nonpos_of_nonneg_of_nonpos this (by omega)
  generalize q * b = z at *
  unfold Alike at h
  omega
theorem fq_any {a b : Int} (hb : b ≠ 0) : (a.fmod b).natAbs + (a.fdiv b).natAbs * b.natAbs ≤ a.natAbs + 2 * b.natAbs := by
  have e := fdm a b
  have l := fm_lt (a := a) hb
  rw [← Int.natAbs_mul]
  generalize a.fdiv b * b = z at *
  omega
theorem fq_le {a b : Int} (hb : b ≠ 0) : (a.fdiv b).natAbs ≤ a.natAbs + 2 := by
  have h := fq_any (a := a) hb
  have l := fm_lt (a := a) hb
  have hb1 : 1 ≤ b.natAbs := by omega
  generalize a.fdiv b = q at *
  generalize a.fmod b = m at *
  apply Nat.le_of_not_lt
  intro c
  have c1 : a.natAbs + 3 ≤ q.natAbs := c
  have c2 : (a.natAbs + 3) * b.natAbs ≤ q.natAbs * b.natAbs := Nat.mul_le_mul_right _ c1
  have c3 : a.natAbs * 1 ≤ a.natAbs * b.natAbs := Nat.mul_le_mul_left _ hb1
  rw [Nat.add_mul] at c2
  omega
/-! ### the sizes of what is divided -/
def SmD (K : Nat) (a b : Int) : Prop := b.natAbs ≤ K ∨ a.natAbs ≤ K ∨ (Alike a b ∧ b.natAbs ≤ a.natAbs ∧ a.natAbs ≤ b.natAbs + K)
theorem fm_uniq {a b c k : Int} (hb : b ≠ 0) (e : a = c + k * b) (hc : (0 < b ∧ 0 ≤ c ∧ c < b) ∨ (b < 0 ∧ b < c ∧ c ≤ 0)) : a.fmod b = c := by
  have h := fdm a b
  have r := fm_rng (a := a) hb
  have d : a.fmod b - c = (k - a.fdiv b) * b := by
    rw [Int.sub_mul]
    omega
  generalize a.fmod b = m at *
  generalize k - a.fdiv b = z at *
  have : z = 0 := by
    apply Classical.byContradiction
    intro hz
    have h1 : 1 ≤ z.natAbs := by omega
    have h2 : 1 * b.natAbs ≤ z.natAbs * b.natAbs := Nat.mul_le_mul_right _ h1
    rw [← Int.natAbs_mul, ← d] at h2
    omega
  rw [this, Int.zero_mul] at d
  omega
theorem smD_next {K : Nat} {a b : Int} (ha : a ≠ 0) (hb : b ≠ 0) (h : SmD K a b) : SmD K b (a.fmod b) := by
  have l := fm_lt (a := a) hb
  by_cases c1 : b.natAbs ≤ K
  · exact .inl (by omega)
  rcases h with h | h | ⟨h1, h2, h3⟩
  · exact absurd h c1
  · by_cases s : Alike a b
    · have := fq_alike s
      refine .inl ?_
      generalize (a.fdiv b).natAbs * b.natAbs = z at *
      omega
    · refine .inr (.inr ?_)
      have e : a.fmod b = a + b := fm_uniq hb (k := -1) (by omega) (by unfold Alike at s; omega)
      rw [e]
      unfold Alike at s ⊢
      omega
  · refine .inl ?_
    by_cases z : a - b = 0
    · have : a.fmod b = 0 := fm_uniq hb (k := 1) (by omega) (by omega)
      rw [this]
      exact Nat.zero_le _
    · have s : Alike (a - b) b := by unfold Alike at h1 ⊢; omega
      have e : (a - b).fmod b = a.fmod b := by
        have q := fm_rng (a := a) hb
        have w := fdm a b
        refine fm_uniq hb (k := a.fdiv b - 1) ?_ q
        rw [Int.sub_mul]
        omega
      have := fq_alike s
      rw [e] at this
      generalize ((a - b).fdiv b).natAbs * b.natAbs = y at *
      unfold Alike at h1
      omega
theorem smD_div {K : Nat} {a b : Int} (hK : K < 2 ^ 8000) (hb : b ≠ 0) (h : SmD K a b) : divOk a b = true := by
  by_cases c1 : b.natAbs ≤ K
  · exact div_mid hb (by omega)
  unfold divOk Builtin.divisionGoesByPylong
  rw [decide_eq_true hb]
  have hb2 : (b == 0) = false := by simpa using hb
  have hb1 : b.natAbs ≠ 0 := by omega
  simp only [hb2, Bool.false_eq_true, if_false]
  have key : (if (a == 0) = true then 0 else a.natAbs.log2 / 30 + 1) ≤ b.natAbs.log2 / 30 + 1 + 150 ∨ (if (a == 0) = true then 0 else a.natAbs.log2 / 30 + 1) ≤ 400 := by
    by_cases ha : a = 0
    · left
      subst ha
      exact Nat.zero_le _
    · have ha2 : (a == 0) = false := by simpa using ha
      have ha1 : a.natAbs ≠ 0 := by omega
      simp only [ha2, Bool.false_eq_true, if_false]
      rcases h with h | h | ⟨h1, h2, h3⟩
      · exact absurd h c1
      · right
        have : a.natAbs.log2 < 8000 := (Nat.log2_lt ha1).mpr (by omega)
        omega
      · left
        have lb : b.natAbs < 2 ^ (b.natAbs.log2 + 1) := Nat.lt_log2_self
        have : a.natAbs.log2 < b.natAbs.log2 + 2 := (Nat.log2_lt ha1).mpr (by
          rw [show b.natAbs.log2 + 2 = (b.natAbs.log2 + 1) + 1 from rfl, Nat.pow_succ 2 (b.natAbs.log2 + 1)]
          omega)
        omega
  generalize (if (a == 0) = true then 0 else a.natAbs.log2 / 30 + 1) = da at *
  generalize b.natAbs.log2 / 30 + 1 = db at *
  by_cases h300 : db > 300
  · have : ¬ (da > db + 150) := by omega
    simp [this]
  · simp [h300]
/-! ### two rows, one taken from the other till its lead is nought -/
structure Euc (L q : Nat) (x0 y0 x y : List Int) : Prop where
  lx : x.length = L
  ly : y.length = L
  hz : ∀ j, q < j → j < 5 → at5 x j = 0 ∧ at5 y j = 0
  xq : at5 x q ≠ 0
  fwd : ∀ Q, Lin L Q → Q x0 → Q y0 → Q x ∧ Q y
  bwd : ∀ Q, Lin L Q → Q x → Q y → Q x0 ∧ Q y0
  det : ∀ φ, ev φ x0 = 0 → (ev φ y * at5 x q - ev φ x * at5 y q).natAbs = (ev φ y0 * at5 x0 q).natAbs
  pot : (x = x0 ∧ y = y0) ∨ ((at5 y q = 0 ∨ Alike (at5 x q) (at5 y q)) ∧ ∀ j, (at5 x j).natAbs * (at5 y q).natAbs + (at5 y j).natAbs * (at5 x q).natAbs ≤ (at5 x0 j).natAbs * (at5 y0 q).natAbs + (at5 y0 j).natAbs * ((at5 x0 q).natAbs + 2 * (at5 y0 q).natAbs))
  sm : SmD (at5 x0 q).natAbs (at5 x q) (at5 y q)
  xb : x = x0 ∨ ∀ j, (at5 x j).natAbs ≤ (at5 x0 j).natAbs * (at5 y0 q).natAbs + (at5 y0 j).natAbs * ((at5 x0 q).natAbs + 2 * (at5 y0 q).natAbs)
theorem Euc.start {L q : Nat} {x0 y0 : List Int} (lx : x0.length = L) (ly : y0.length = L) (hz : ∀ j, q < j → j < 5 → at5 x0 j = 0 ∧ at5 y0 j = 0) (xq : at5 x0 q ≠ 0) : Euc L q x0 y0 x0 y0 :=
  ⟨lx, ly, hz, xq, fun _ _ h1 h2 => ⟨h1, h2⟩, fun _ _ h1 h2 => ⟨h1, h2⟩, fun φ h => by rw [h, Int.zero_mul, Int.sub_zero], .inl ⟨rfl, rfl⟩, .inr (.inl (Nat.le_refl _)), .inl rfl⟩
theorem at_next {x y : List Int} {q : Nat} (h : x.length = y.length) : at5 (lessR x y ((at5 x q).fdiv (at5 y q))) q = (at5 x q).fmod (at5 y q) := by
  rw [at_less h]
  have := fdm (at5 x q) (at5 y q)
  omega
theorem Euc.next {L q : Nat} {x0 y0 x y : List Int} (h : Euc L q x0 y0 x y) (hy : at5 y q ≠ 0) : Euc L q x0 y0 y (lessR x y ((at5 x q).fdiv (at5 y q))) := by
  have hl : x.length = y.length := by rw [h.lx, h.ly]
  have ln : (lessR x y ((at5 x q).fdiv (at5 y q))).length = L := less_len h.lx h.ly
  have eq := at_next (q := q) hl
  refine ⟨h.ly, ln, fun j h1 h2 => ?_, hy, fun Q hQ a b => ?_, fun Q hQ a b => ?_, fun φ hφ => ?_, .inr ⟨?_, fun j => ?_⟩, ?_, .inr fun j => ?_⟩
  · obtain ⟨z1, z2⟩ := h.hz j h1 h2
    refine ⟨z2, ?_⟩
    rw [at_less hl, z1, z2]
    simp
  · obtain ⟨q1, q2⟩ := h.fwd Q hQ a b
    exact ⟨q2, hQ _ _ _ h.lx h.ly q1 q2⟩
  · refine h.bwd Q hQ ?_ a
    have := hQ _ _ (-((at5 x q).fdiv (at5 y q))) ln h.ly b a
    rw [less_back h.lx h.ly] at this
    exact this
  · rw [← h.det φ hφ, ev_less hl, at_less hl]
    rw [show ∀ A B C D t : Int, (A - t * B) * C - B * (D - t * C) = -(B * D - A * C) by intros; grind, Int.natAbs_neg]
  · rw [eq]
    exact fm_alike hy
  · rw [eq, at_less hl]
    have hp : ∀ z : Nat, (at5 y j).natAbs * ((at5 x q).fmod (at5 y q)).natAbs + (at5 x j - (at5 x q).fdiv (at5 y q) * at5 y j).natAbs * (at5 y q).natAbs ≤ (at5 y j).natAbs * (((at5 x q).fmod (at5 y q)).natAbs + ((at5 x q).fdiv (at5 y q)).natAbs * (at5 y q).natAbs) + (at5 x j).natAbs * (at5 y q).natAbs := fun _ => by
      have t1 : (at5 x j - (at5 x q).fdiv (at5 y q) * at5 y j).natAbs ≤ (at5 x j).natAbs + ((at5 x q).fdiv (at5 y q)).natAbs * (at5 y j).natAbs := by
        rw [← Int.natAbs_mul]
        omega
      have t2 := Nat.mul_le_mul_right (at5 y q).natAbs t1
      rw [Nat.add_mul] at t2
      rw [Nat.mul_add]
      have t3 : ((at5 x q).fdiv (at5 y q)).natAbs * (at5 y j).natAbs * (at5 y q).natAbs = (at5 y j).natAbs * (((at5 x q).fdiv (at5 y q)).natAbs * (at5 y q).natAbs) := by
        simp only [Nat.mul_assoc, Nat.mul_comm, Nat.mul_left_comm]
      omega
    refine Nat.le_trans (hp 0) ?_
    rcases h.pot with ⟨rfl, rfl⟩ | ⟨s, b⟩
    · have := Nat.mul_le_mul_left (at5 y j).natAbs (fq_any (a := at5 x q) hy)
      omega
    · have s : Alike (at5 x q) (at5 y q) := s.resolve_left hy
      rw [fq_alike s]
      have := b j
      omega
  · rw [eq]
    exact smD_next h.xq hy h.sm
  · have xq := h.xq
    rcases h.pot with ⟨rfl, rfl⟩ | ⟨_, b⟩
    · have : (at5 y j).natAbs * 1 ≤ (at5 y j).natAbs * ((at5 x q).natAbs + 2 * (at5 y q).natAbs) := Nat.mul_le_mul_left _ (by omega)
      omega
    · have b := b j
      have : (at5 y j).natAbs * 1 ≤ (at5 y j).natAbs * (at5 x q).natAbs := Nat.mul_le_mul_left _ (by omega)
      omega
theorem Euc.le {L q : Nat} {x0 y0 x y : List Int} (h : Euc L q x0 y0 x y) {t u : Nat} (hq : (at5 x0 q).natAbs ≤ 2 ^ t ∧ (at5 y0 q).natAbs ≤ 2 ^ t) {j : Nat} (hj : (at5 x0 j).natAbs ≤ 2 ^ u ∧ (at5 y0 j).natAbs ≤ 2 ^ u) : (at5 x j).natAbs ≤ 2 ^ (u + t + 2) ∧ (at5 y j).natAbs ≤ 2 ^ (u + t + 2) := by
  have C : (at5 x0 j).natAbs * (at5 y0 q).natAbs + (at5 y0 j).natAbs * ((at5 x0 q).natAbs + 2 * (at5 y0 q).natAbs) ≤ 2 ^ (u + t + 2) := by
    have a1 : (at5 x0 j).natAbs * (at5 y0 q).natAbs ≤ 2 ^ u * 2 ^ t := Nat.mul_le_mul hj.1 hq.2
    have a2 : (at5 y0 j).natAbs * ((at5 x0 q).natAbs + 2 * (at5 y0 q).natAbs) ≤ 2 ^ u * (3 * 2 ^ t) := Nat.mul_le_mul hj.2 (by omega)
    have e : 2 ^ (u + t + 2) = 4 * (2 ^ u * 2 ^ t) := by
      rw [Nat.pow_add, Nat.pow_add]
      omega
    rw [Nat.mul_left_comm] at a2
    omega
  have big : ∀ z : Nat, z ≤ 2 ^ u → z ≤ 2 ^ (u + t + 2) := fun z hz => Nat.le_trans hz (Nat.pow_le_pow_right (by decide) (by omega))
  refine ⟨?_, ?_⟩
  · rcases h.xb with rfl | b
    · exact big _ hj.1
    · exact Nat.le_trans (b j) C
  · rcases h.pot with ⟨rfl, rfl⟩ | ⟨_, b⟩
    · exact big _ hj.2
    · have b := b j
      have : (at5 y j).natAbs * 1 ≤ (at5 y j).natAbs * (at5 x q).natAbs := Nat.mul_le_mul_left _ (by have := h.xq; omega)
      omega
end PV

/-! PV, part b: one row put in among five places (plain) -/
namespace PV
open PySem PySem.Spec PyProof.Rows L2
abbrev Stps := List (Option (List Int))
def stp (ss : Stps) (j : Nat) : Option (List Int) := ss.getD j none
def piv (ss : Stps) (j : Nat) : Nat := match stp ss j with
  | some r => (at5 r j).natAbs
  | none => 1
def Pi (ss : Stps) : Nat := piv ss 0 * piv ss 1 * piv ss 2 * piv ss 3 * piv ss 4
theorem stp_set {ss : Stps} {q j : Nat} {o : Option (List Int)} (hl : ss.length = 5) (hq : q < 5) : stp (ss.set q o) j = if j = q then o else stp ss j := by
  unfold stp
  rw [List.getD_eq_getElem?_getD, List.getD_eq_getElem?_getD]
  by_cases h : j = q
  · subst h
    rw [if_pos rfl, List.getElem?_set_self (by omega)]
    rfl
  · rw [if_neg h, List.getElem?_set_ne (Ne.symm h)]
theorem piv_set {ss : Stps} {q j : Nat} {x : List Int} (hl : ss.length = 5) (hq : q < 5) : piv (ss.set q (some x)) j = if j = q then (at5 x q).natAbs else piv ss j := by
  unfold piv
  rw [stp_set hl hq]
  by_cases h : j = q
  · subst h
    simp
  · simp [h]
theorem lt5 {q : Nat} (h : q < 5) : q = 0 ∨ q = 1 ∨ q = 2 ∨ q = 3 ∨ q = 4 := by omega
theorem Pi_set {ss : Stps} {q : Nat} {x : List Int} (hl : ss.length = 5) (hq : q < 5) : Pi (ss.set q (some x)) * piv ss q = Pi ss * (at5 x q).natAbs := by
  unfold Pi
  simp only [piv_set hl hq]
  rcases lt5 hq with rfl | rfl | rfl | rfl | rfl <;> simp <;> ac_rfl
structure Led (L : Nat) (ss : Stps) : Prop where
  five : ss.length = 5
  len : ∀ j r, stp ss j = some r → r.length = L
  lead : ∀ j r, stp ss j = some r → at5 r j ≠ 0
  zero : ∀ j r, stp ss j = some r → ∀ i, j < i → i < 5 → at5 r i = 0
theorem piv_pos {L : Nat} {ss : Stps} (h : Led L ss) (j : Nat) : 0 < piv ss j := by
  unfold piv
  cases e : stp ss j with
  | none => exact Nat.one_pos
  | some r => have := h.lead j r e; show 0 < (at5 r j).natAbs; omega
theorem Pi_pos {L : Nat} {ss : Stps} (h : Led L ss) : 0 < Pi ss :=
  Nat.mul_pos (Nat.mul_pos (Nat.mul_pos (Nat.mul_pos (piv_pos h 0) (piv_pos h 1)) (piv_pos h 2)) (piv_pos h 3)) (piv_pos h 4)
theorem piv_dvd {ss : Stps} {q : Nat} (hq : q < 5) : piv ss q ∣ Pi ss := by
  unfold Pi
  rcases lt5 hq with rfl | rfl | rfl | rfl | rfl
  · exact ⟨piv ss 1 * piv ss 2 * piv ss 3 * piv ss 4, by ac_rfl⟩
  · exact ⟨piv ss 0 * piv ss 2 * piv ss 3 * piv ss 4, by ac_rfl⟩
  · exact ⟨piv ss 0 * piv ss 1 * piv ss 3 * piv ss 4, by ac_rfl⟩
  · exact ⟨piv ss 0 * piv ss 1 * piv ss 2 * piv ss 4, by ac_rfl⟩
  · exact ⟨piv ss 0 * piv ss 1 * piv ss 2 * piv ss 3, by ac_rfl⟩
theorem Led.set {L q : Nat} {ss : Stps} {x : List Int} (h : Led L ss) (hq : q < 5) (lx : x.length = L) (xq : at5 x q ≠ 0) (xz : ∀ i, q < i → i < 5 → at5 x i = 0) : Led L (ss.set q (some x)) := by
  have e := fun j => stp_set (j := j) (o := some x) h.five hq
  refine ⟨by rw [List.length_set]; exact h.five, fun j r q1 => ?_, fun j r q1 => ?_, fun j r q1 => ?_⟩ <;> rw [e] at q1 <;> split at q1
  · cases q1; exact lx
  · exact h.len j r q1
  · rename_i c; cases q1; rw [c]; exact xq
  · exact h.lead j r q1
  · rename_i c; cases q1; rw [c]; exact xz
  · exact h.zero j r q1
/-- all rows of a table have it -/
def AllR (ss : Stps) (Q : List Int → Prop) : Prop := ∀ j r, stp ss j = some r → Q r
structure Put (L : Nat) (ss0 : Stps) (v : List Int) (p : Nat) (ss : Stps) (lg : List Int) (t w : Nat) : Prop where
  led : Led L ss
  lgl : lg.length = L
  lgz : ∀ j, p ≤ j → j < 5 → at5 lg j = 0
  same : ∀ j, j < p → stp ss j = stp ss0 j
  kind : ∀ j, stp ss j = none ↔ stp ss0 j = none
  fwd : ∀ Q, Lin L Q → AllR ss0 Q → Q v → Q lg ∧ AllR ss Q
  bwd : ∀ Q, Lin L Q → Q lg → AllR ss Q → Q v ∧ AllR ss0 Q
  det : ∀ φ, AllR ss0 (fun r => ev φ r = 0) → (ev φ lg).natAbs * Pi ss = (ev φ v).natAbs * Pi ss0
  dvd : Pi ss ∣ Pi ss0
  mb : ∀ j, j < 5 → (at5 lg j).natAbs ≤ 2 ^ t ∧ AllR ss fun r => (at5 r j).natAbs ≤ 2 ^ t
  wb : ∀ j, (at5 lg j).natAbs ≤ 2 ^ w ∧ AllR ss fun r => (at5 r j).natAbs ≤ 2 ^ w
theorem Put.skip {L q : Nat} {ss0 ss : Stps} {v lg : List Int} {t w : Nat} (h : Put L ss0 v (q + 1) ss lg t w) (hz : at5 lg q = 0) : Put L ss0 v q ss lg t w :=
  ⟨h.led, h.lgl, fun j h1 h2 => by
    by_cases e : j = q
    · rw [e]; exact hz
    · exact h.lgz j (by omega) h2, fun j hj => h.same j (by omega), h.kind, h.fwd, h.bwd, h.det, h.dvd, h.mb, h.wb⟩
theorem pow_up {a b c : Nat} (h : a ≤ 2 ^ b) (hb : b ≤ c) : a ≤ 2 ^ c := Nat.le_trans h (Nat.pow_le_pow_right (by decide) hb)
theorem Put.up {L q : Nat} {ss0 ss : Stps} {v lg : List Int} {t w t' w' : Nat} (h : Put L ss0 v q ss lg t w) (ht : t ≤ t') (hw : w ≤ w') : Put L ss0 v q ss lg t' w' :=
  ⟨h.led, h.lgl, h.lgz, h.same, h.kind, h.fwd, h.bwd, h.det, h.dvd, fun j hj => ⟨pow_up (h.mb j hj).1 ht, fun k r e => pow_up ((h.mb j hj).2 k r e) ht⟩, fun j => ⟨pow_up (h.wb j).1 hw, fun k r e => pow_up ((h.wb j).2 k r e) hw⟩⟩
theorem Put.step {L q : Nat} {ss0 ss : Stps} {v lg x0 x y : List Int} {t w : Nat} (hq : q < 5) (h : Put L ss0 v (q + 1) ss lg t w) (hx0 : stp ss q = some x0) (hlg : at5 lg q ≠ 0) (E : Euc L q x0 lg x y) (hy : at5 y q = 0) : Put L ss0 v q (ss.set q (some x)) y (t + t + 2) (w + t + 2) := by
  have es := fun j => stp_set (j := j) (o := some x) h.led.five hq
  have all : ∀ Q : List Int → Prop, Q x → AllR ss Q → AllR (ss.set q (some x)) Q := fun Q h1 h2 j r e => by
    rw [es] at e
    split at e
    · cases e; exact h1
    · exact h2 j r e
  have back : ∀ Q : List Int → Prop, Q x0 → AllR (ss.set q (some x)) Q → AllR ss Q := fun Q h1 h2 j r e => by
    by_cases c : j = q
    · subst c
      rw [hx0] at e
      cases e
      exact h1
    · exact h2 j r (by rw [es, if_neg c]; exact e)
  have x0q : at5 x0 q ≠ 0 := h.led.lead q x0 hx0
  have px : piv ss q = (at5 x0 q).natAbs := by unfold piv; rw [hx0]
  have ps := Pi_set (x := x) h.led.five hq
  rw [px] at ps
  have dx : (at5 x q).natAbs ∣ (at5 x0 q).natAbs := by
    have := (E.bwd (fun r => r.length = L ∧ at5 x q ∣ at5 r q) (fun a b t la lb qa qb => ⟨less_len la lb, by
      rw [at_less (by rw [la, lb])]
      exact Int.dvd_sub qa.2 (Int.dvd_trans qb.2 (Int.dvd_mul_left _ _))⟩) ⟨E.lx, Int.dvd_refl _⟩ ⟨E.ly, by rw [hy]; exact Int.dvd_zero _⟩).1.2
    exact Int.natAbs_dvd_natAbs.mpr this
  have x0p : 0 < (at5 x0 q).natAbs := by omega
  refine ⟨h.led.set hq E.lx E.xq fun i h1 h2 => (E.hz i h1 h2).1, E.ly, fun j h1 h2 => ?_, fun j hj => ?_, fun j => ?_, fun Q hQ h1 h2 => ?_, fun Q hQ h1 h2 => ?_, fun φ hφ => ?_, ?_, fun j hj => ?_, fun j => ?_⟩
  · by_cases e : j = q
    · rw [e]; exact hy
    · exact (E.hz j (by omega) h2).2
  · rw [es, if_neg (by omega)]
    exact h.same j (by omega)
  · rw [es, ← h.kind]
    split
    · rename_i c
      rw [c, hx0]
      exact ⟨fun z => (by cases z), fun z => (by cases z)⟩
    · exact Iff.rfl
  · obtain ⟨a1, a2⟩ := h.fwd Q hQ h1 h2
    obtain ⟨b1, b2⟩ := E.fwd Q hQ (a2 q x0 hx0) a1
    exact ⟨b2, all Q b1 a2⟩
  · obtain ⟨b1, b2⟩ := E.bwd Q hQ (h2 q x (by rw [es, if_pos rfl])) h1
    exact h.bwd Q hQ b2 (back Q b1 h2)
  · have d1 := h.det φ hφ
    have v0 : ev φ x0 = 0 := hφ q x0 (by rw [← h.same q (by omega)]; exact hx0)
    have d2 := E.det φ v0
    rw [hy, Int.mul_zero, Int.sub_zero, Int.natAbs_mul, Int.natAbs_mul] at d2
    rw [← d1]
    refine Nat.eq_of_mul_eq_mul_right x0p ?_
    calc (ev φ y).natAbs * Pi (ss.set q (some x)) * (at5 x0 q).natAbs
        = (ev φ y).natAbs * (Pi (ss.set q (some x)) * (at5 x0 q).natAbs) := by ac_rfl
      _ = (ev φ y).natAbs * (Pi ss * (at5 x q).natAbs) := by rw [ps]
      _ = ((ev φ y).natAbs * (at5 x q).natAbs) * Pi ss := by ac_rfl
      _ = ((ev φ lg).natAbs * (at5 x0 q).natAbs) * Pi ss := by rw [d2]
      _ = (ev φ lg).natAbs * Pi ss * (at5 x0 q).natAbs := by ac_rfl
  · refine Nat.dvd_trans ?_ h.dvd
    obtain ⟨k, hk⟩ := dx
    refine ⟨k, ?_⟩
    refine Nat.eq_of_mul_eq_mul_right (show 0 < (at5 x q).natAbs by have := E.xq; omega) ?_
    rw [← ps, hk]
    ac_rfl
  · have e := E.le (t := t) (u := t) ⟨(h.mb q hq).2 q x0 hx0, (h.mb q hq).1⟩ (j := j) ⟨(h.mb j hj).2 q x0 hx0, (h.mb j hj).1⟩
    exact ⟨e.2, all _ e.1 fun k r e2 => pow_up ((h.mb j hj).2 k r e2) (by omega)⟩
  · have e := E.le (t := t) (u := w) ⟨(h.mb q hq).2 q x0 hx0, (h.mb q hq).1⟩ (j := j) ⟨(h.wb j).2 q x0 hx0, (h.wb j).1⟩
    exact ⟨e.2, all _ e.1 fun k r e2 => pow_up ((h.wb j).2 k r e2) (by omega)⟩
end PV

/-! PV, part c: how big a table's numbers are (plain) -/
namespace PV
open PySem PySem.Spec PyProof.Rows L2
def one1 (ss : Stps) (j : Nat) : Nat := if (stp ss j).isSome then 1 else 0
def cnt (ss : Stps) : Nat := one1 ss 0 + one1 ss 1 + one1 ss 2 + one1 ss 3 + one1 ss 4
theorem cnt_le (ss : Stps) : cnt ss ≤ 5 := by
  have h : ∀ j, one1 ss j ≤ 1 := fun j => by unfold one1; split <;> omega
  have := h 0
  have := h 1
  have := h 2
  have := h 3
  have := h 4
  unfold cnt
  omega
theorem cnt_same {ss ss' : Stps} (h : ∀ j, stp ss j = none ↔ stp ss' j = none) : cnt ss = cnt ss' := by
  have e : ∀ j, one1 ss j = one1 ss' j := fun j => by
    unfold one1
    have := h j
    cases h1 : stp ss j <;> cases h2 : stp ss' j <;> simp_all
  unfold cnt
  rw [e 0, e 1, e 2, e 3, e 4]
theorem cnt_new {ss : Stps} {q : Nat} {x : List Int} (hl : ss.length = 5) (hq : q < 5) (h : stp ss q = none) : cnt (ss.set q (some x)) = cnt ss + 1 := by
  have e : ∀ j, one1 (ss.set q (some x)) j = if j = q then 1 else one1 ss j := fun j => by
    unfold one1
    rw [stp_set hl hq]
    split <;> simp
  have z : one1 ss q = 0 := by unfold one1; rw [h]; rfl
  unfold cnt
  simp only [e]
  rcases lt5 hq with rfl | rfl | rfl | rfl | rfl <;> simp <;> omega
def szN (b r : Nat) : Nat := (2 ^ r - 1) * b
theorem szN_succ (b r : Nat) : szN b (r + 1) = szN b r + szN b r + b := by
  unfold szN
  have h : 1 ≤ 2 ^ r := Nat.one_le_two_pow
  obtain ⟨k, hk⟩ : ∃ k, 2 ^ r = k + 1 := ⟨2 ^ r - 1, by omega⟩
  rw [Nat.pow_succ, hk, show (k + 1) * 2 - 1 = k + k + 1 by omega, Nat.add_sub_cancel, Nat.add_mul, Nat.add_mul, Nat.one_mul]
theorem szN_mono {b r r' : Nat} (h : r ≤ r') : szN b r ≤ szN b r' := Nat.mul_le_mul_right _ (Nat.sub_le_sub_right (Nat.pow_le_pow_right (by decide) h) 1)
/-- forms that vanish on a table's rows, one by each place without a row -/
def Sys (b : Nat) (ss : Stps) : Prop := ∃ Δ : Int, Δ ≠ 0 ∧ Δ.natAbs ≤ 2 ^ szN b (cnt ss) ∧ Pi ss ∣ Δ.natAbs ∧ ∃ φ : Nat → Nat → Int, ∀ j, j < 5 → stp ss j = none →
  φ j j = Δ ∧ (∀ i, i < j → φ j i = 0) ∧ (∀ i, i < 5 → i ≠ j → stp ss i = none → φ j i = 0) ∧ AllR ss (fun r => ev (φ j) r = 0) ∧ ∀ i, i < 5 → (φ j i).natAbs ≤ 2 ^ szN b (cnt ss)
theorem lin_ev (L : Nat) (φ : Nat → Int) : Lin L (fun r => ev φ r = 0) := fun a b t la lb qa qb => by
  show ev φ (lessR a b t) = 0
  rw [ev_less (by rw [la, lb]), qa, qb, Int.mul_zero, Int.sub_zero]
/-- a form with nothing ahead of j, of a row with nothing from p on -/
theorem ev_zero {φ : Nat → Int} {r : List Int} {p j : Nat} (hp : p ≤ j) (h1 : ∀ i, i < j → φ i = 0) (h2 : ∀ i, p ≤ i → i < 5 → at5 r i = 0) : ev φ r = 0 := by
  have : ∀ i, i < 5 → φ i * at5 r i = 0 := fun i hi => by
    by_cases c : i < j
    · rw [h1 i c, Int.zero_mul]
    · rw [h2 i (by omega) hi, Int.mul_zero]
  unfold ev
  rw [this 0 (by decide), this 1 (by decide), this 2 (by decide), this 3 (by decide), this 4 (by decide)]
  rfl
theorem ev_lead {φ : Nat → Int} {r : List Int} {q : Nat} (hq : q < 5) (h1 : ∀ i, i < q → φ i = 0) (h2 : ∀ i, q < i → i < 5 → at5 r i = 0) : ev φ r = φ q * at5 r q := by
  have : ∀ i, i < 5 → i ≠ q → φ i * at5 r i = 0 := fun i hi hne => by
    by_cases c : i < q
    · rw [h1 i c, Int.zero_mul]
    · rw [h2 i (by omega) hi, Int.mul_zero]
  unfold ev
  rcases lt5 hq with rfl | rfl | rfl | rfl | rfl
  · rw [this 1 (by decide) (by decide), this 2 (by decide) (by decide), this 3 (by decide) (by decide), this 4 (by decide) (by decide)]; omega
  · rw [this 0 (by decide) (by decide), this 2 (by decide) (by decide), this 3 (by decide) (by decide), this 4 (by decide) (by decide)]; omega
  · rw [this 1 (by decide) (by decide), this 0 (by decide) (by decide), this 3 (by decide) (by decide), this 4 (by decide) (by decide)]; omega
  · rw [this 1 (by decide) (by decide), this 2 (by decide) (by decide), this 0 (by decide) (by decide), this 4 (by decide) (by decide)]; omega
  · rw [this 1 (by decide) (by decide), this 2 (by decide) (by decide), this 3 (by decide) (by decide), this 0 (by decide) (by decide)]; omega
theorem ev_le {φ : Nat → Int} {r : List Int} {A B : Nat} (h1 : ∀ i, i < 5 → (φ i).natAbs ≤ A) (h2 : ∀ i, i < 5 → (at5 r i).natAbs ≤ B) : (ev φ r).natAbs ≤ 5 * (A * B) := by
  have : ∀ i, i < 5 → (φ i * at5 r i).natAbs ≤ A * B := fun i hi => by
    rw [Int.natAbs_mul]
    exact Nat.mul_le_mul (h1 i hi) (h2 i hi)
  have a0 := this 0 (by decide)
  have a1 := this 1 (by decide)
  have a2 := this 2 (by decide)
  have a3 := this 3 (by decide)
  have a4 := this 4 (by decide)
  unfold ev
  omega
theorem Put.zero {L p j : Nat} {ss0 ss : Stps} {v lg : List Int} {t w : Nat} (hled : Led L ss0) (h : Put L ss0 v p ss lg t w) (hj : p ≤ j) {φ : Nat → Int} (hv : AllR ss0 fun r => ev φ r = 0) (h1 : ∀ i, i < j → φ i = 0) : ev φ v = 0 := by
  have d := h.det φ hv
  rw [ev_zero hj h1 h.lgz] at d
  have p0 := Pi_pos hled
  rw [Int.natAbs_zero, Nat.zero_mul] at d
  rcases Nat.mul_eq_zero.mp d.symm with z | z
  · omega
  · omega
structure After (L b : Nat) (ss0 : Stps) (v : List Int) (ss : Stps) (t w : Nat) : Prop where
  led : Led L ss
  fwd : ∀ Q, Lin L Q → AllR ss0 Q → Q v → AllR ss Q
  bwd : ∀ Q, Lin L Q → (∀ z, z.length = L → (∀ i, i < 5 → at5 z i = 0) → Q z) → AllR ss Q → Q v ∧ AllR ss0 Q
  mb : ∀ j, j < 5 → AllR ss fun r => (at5 r j).natAbs ≤ 2 ^ t
  wb : ∀ j, AllR ss fun r => (at5 r j).natAbs ≤ 2 ^ w
  sys : Sys b ss0 → Sys b ss
theorem Put.done {L b : Nat} {ss0 ss : Stps} {v lg : List Int} {t w : Nat} (hled : Led L ss0) (h : Put L ss0 v 0 ss lg t w) : After L b ss0 v ss t w := by
  refine ⟨h.led, fun Q hQ h1 h2 => (h.fwd Q hQ h1 h2).2, fun Q hQ hz h1 => h.bwd Q hQ (hz lg h.lgl fun i hi => h.lgz i (Nat.zero_le _) hi) h1, fun j hj => (h.mb j hj).2, fun j => (h.wb j).2, fun ⟨Δ, s1, s2, s3, φ, s4⟩ => ?_⟩
  have ec := cnt_same h.kind
  rw [← ec] at s2 s4
  refine ⟨Δ, s1, s2, Nat.dvd_trans h.dvd s3, φ, fun j hj hn => ?_⟩
  obtain ⟨t1, t2, t3, t4, t5⟩ := s4 j hj ((h.kind j).mp hn)
  exact ⟨t1, t2, fun i hi hne hi2 => t3 i hi hne ((h.kind i).mp hi2), (h.fwd _ (lin_ev L (φ j)) t4 (h.zero hled (Nat.zero_le j) t4 t2)).2, t5⟩
theorem Put.new {L b q : Nat} {ss0 ss : Stps} {v lg : List Int} {t w : Nat} (hled : Led L ss0) (hq : q < 5) (h : Put L ss0 v (q + 1) ss lg t w) (hn : stp ss q = none) (hlg : at5 lg q ≠ 0) {M : Nat} (hM : 10 * M ≤ 2 ^ b) (hv : ∀ i, i < 5 → (at5 v i).natAbs ≤ M) : After L b ss0 v (ss.set q (some lg)) t w := by
  have es := fun j => stp_set (j := j) (o := some lg) h.led.five hq
  have all : ∀ Q : List Int → Prop, Q lg → AllR ss Q → AllR (ss.set q (some lg)) Q := fun Q h1 h2 j r e => by
    rw [es] at e
    split at e
    · cases e; exact h1
    · exact h2 j r e
  have back : ∀ Q : List Int → Prop, AllR (ss.set q (some lg)) Q → AllR ss Q := fun Q h2 j r e => by
    by_cases c : j = q
    · subst c
      rw [hn] at e
      cases e
    · exact h2 j r (by rw [es, if_neg c]; exact e)
  refine ⟨h.led.set hq h.lgl hlg fun i h1 h2 => h.lgz i h1 h2, fun Q hQ h1 h2 => ?_, fun Q hQ hz h1 => ?_, fun j hj => ?_, fun j => ?_, fun ⟨Δ, s1, s2, s3, φ, s4⟩ => ?_⟩
  · obtain ⟨a1, a2⟩ := h.fwd Q hQ h1 h2
    exact all Q a1 a2
  · exact h.bwd Q hQ (h1 q lg (by rw [es, if_pos rfl])) (back Q h1)
  · exact all _ (h.mb j hj).1 (h.mb j hj).2
  · exact all _ (h.wb j).1 (h.wb j).2
  have hn0 : stp ss0 q = none := (h.kind q).mp hn
  have ec : cnt (ss.set q (some lg)) = cnt ss0 + 1 := by rw [cnt_new h.led.five hq hn, cnt_same h.kind]
  have zN : szN b (cnt (ss.set q (some lg))) = szN b (cnt ss0) + szN b (cnt ss0) + b := by rw [ec, szN_succ]
  obtain ⟨q1, q2, q3, q4, q5⟩ := s4 q hq hn0
  have d := h.det (φ q) q4
  rw [ev_lead hq q2 (fun i h1 h2 => h.lgz i h1 h2), q1, Int.natAbs_mul] at d
  have P0 := Pi_pos hled
  have P1 := Pi_pos h.led
  have E0 : ev (φ q) v ≠ 0 := fun z => by
    rw [z, Int.natAbs_zero, Nat.zero_mul] at d
    have : 0 < Δ.natAbs * (at5 lg q).natAbs * Pi ss := Nat.mul_pos (Nat.mul_pos (by omega) (by omega)) P1
    omega
  have eb : ∀ j, (∀ i, i < 5 → (φ j i).natAbs ≤ 2 ^ szN b (cnt ss0)) → (ev (φ j) v).natAbs ≤ 5 * (2 ^ szN b (cnt ss0) * M) := fun j hb => ev_le hb hv
  have EB := eb q q5
  have big : 10 * (2 ^ szN b (cnt ss0) * M) * 2 ^ szN b (cnt ss0) ≤ 2 ^ szN b (cnt (ss.set q (some lg))) := by
    rw [zN, Nat.pow_add, Nat.pow_add]
    have := Nat.mul_le_mul_left (2 ^ szN b (cnt ss0) * 2 ^ szN b (cnt ss0)) hM
    calc 10 * (2 ^ szN b (cnt ss0) * M) * 2 ^ szN b (cnt ss0) = 2 ^ szN b (cnt ss0) * 2 ^ szN b (cnt ss0) * (10 * M) := by ac_rfl
      _ ≤ _ := this
  have half : 5 * (2 ^ szN b (cnt ss0) * M) * 2 ^ szN b (cnt ss0) + 5 * (2 ^ szN b (cnt ss0) * M) * 2 ^ szN b (cnt ss0) ≤ 2 ^ szN b (cnt (ss.set q (some lg))) := by
    refine Nat.le_trans (Nat.le_of_eq ?_) big
    rw [← Nat.add_mul, ← Nat.add_mul]
  refine ⟨ev (φ q) v * Δ, Int.mul_ne_zero E0 s1, ?_, ?_, fun j i => ev (φ q) v * φ j i - ev (φ j) v * φ q i, fun j hj hjn => ?_⟩
  · rw [Int.natAbs_mul]
    have := Nat.mul_le_mul EB s2
    omega
  · obtain ⟨k, hk⟩ := s3
    have ep := Pi_set (x := lg) h.led.five hq
    have p1 : piv ss q = 1 := by unfold piv; rw [hn]
    rw [p1, Nat.mul_one] at ep
    have e2 : k * Pi (ss.set q (some lg)) = (ev (φ q) v).natAbs := by
      refine Nat.eq_of_mul_eq_mul_right P0 ?_
      rw [← d, ep, hk]
      ac_rfl
    rw [Int.natAbs_mul, ← e2]
    exact ⟨k * Δ.natAbs, by ac_rfl⟩
  · have hjq : j ≠ q := fun c => by
      rw [c, es, if_pos rfl] at hjn
      cases hjn
    rw [es, if_neg hjq] at hjn
    have hj0 : stp ss0 j = none := (h.kind j).mp hjn
    obtain ⟨t1, t2, t3, t4, t5⟩ := s4 j hj hj0
    refine ⟨?_, fun i hi => ?_, fun i hi hne hi2 => ?_, ?_, fun i hi => ?_⟩
    · show ev (φ q) v * φ j j - ev (φ j) v * φ q j = _
      rw [q3 j hj hjq hj0, t1, Int.mul_zero, Int.sub_zero]
    · show ev (φ q) v * φ j i - ev (φ j) v * φ q i = 0
      rw [t2 i hi, Int.mul_zero, Int.zero_sub]
      by_cases c : i < q
      · rw [q2 i c, Int.mul_zero]; rfl
      · rw [h.zero hled (show q + 1 ≤ j by omega) t4 t2, Int.zero_mul]; rfl
    · have hiq : i ≠ q := fun c => by
        rw [c, es, if_pos rfl] at hi2
        cases hi2
      rw [es, if_neg hiq] at hi2
      have hi0 := (h.kind i).mp hi2
      show ev (φ q) v * φ j i - ev (φ j) v * φ q i = 0
      rw [t3 i hi hne hi0, q3 i hi hiq hi0]
      simp
    · have lin : ∀ r, ev (fun i => ev (φ q) v * φ j i - ev (φ j) v * φ q i) r = ev (φ q) v * ev (φ j) r - ev (φ j) v * ev (φ q) r := fun r => by
        generalize ev (φ q) v = A
        generalize ev (φ j) v = B
        unfold ev
        grind
      have hf := h.fwd (fun r => ev (fun i => ev (φ q) v * φ j i - ev (φ j) v * φ q i) r = 0) (lin_ev L _) (fun k r e => by
        show ev _ r = 0
        rw [lin, t4 k r e, q4 k r e, Int.mul_zero, Int.mul_zero]
        rfl) (by
        show ev _ v = 0
        rw [lin, Int.mul_comm]
        exact Int.sub_self _)
      exact all _ hf.1 hf.2
    · have b1 : (ev (φ q) v * φ j i).natAbs ≤ 5 * (2 ^ szN b (cnt ss0) * M) * 2 ^ szN b (cnt ss0) := by
        rw [Int.natAbs_mul]
        exact Nat.mul_le_mul EB (t5 i hi)
      have b2 : (ev (φ j) v * φ q i).natAbs ≤ 5 * (2 ^ szN b (cnt ss0) * M) * 2 ^ szN b (cnt ss0) := by
        rw [Int.natAbs_mul]
        exact Nat.mul_le_mul (eb j t5) (q5 i hi)
      show (ev (φ q) v * φ j i - ev (φ j) v * φ q i).natAbs ≤ _
      omega
theorem Put.start {L : Nat} {ss0 : Stps} {v : List Int} {t w : Nat} (hled : Led L ss0) (lv : v.length = L) (h1 : ∀ j, j < 5 → (at5 v j).natAbs ≤ 2 ^ t ∧ AllR ss0 fun r => (at5 r j).natAbs ≤ 2 ^ t) (h2 : ∀ j, (at5 v j).natAbs ≤ 2 ^ w ∧ AllR ss0 fun r => (at5 r j).natAbs ≤ 2 ^ w) : Put L ss0 v 5 ss0 v t w :=
  ⟨hled, lv, fun j a b => by omega, fun _ _ => rfl, fun _ => Iff.rfl, fun _ _ a b => ⟨b, a⟩, fun _ _ a b => ⟨a, b⟩, fun _ _ => rfl, Nat.dvd_refl _, h1, h2⟩
/-! ### leads above nought, the numbers beside a lead brought down -/
/-- b's rows come of a's, at the same places, with the same leads but for their signs -/
structure Same5 (L : Nat) (a b : Stps) : Prop where
  led : Led L b
  kind : ∀ j, stp b j = none ↔ stp a j = none
  fwd : ∀ Q, Lin L Q → AllR a Q → AllR b Q
  bwd : ∀ Q, Lin L Q → AllR b Q → AllR a Q
  pi : ∀ j, piv b j = piv a j
theorem Same5.refl {L : Nat} {a : Stps} (h : Led L a) : Same5 L a a := ⟨h, fun _ => Iff.rfl, fun _ _ h => h, fun _ _ h => h, fun _ => rfl⟩
theorem Same5.trans {L : Nat} {a b c : Stps} (h1 : Same5 L a b) (h2 : Same5 L b c) : Same5 L a c :=
  ⟨h2.led, fun j => (h2.kind j).trans (h1.kind j), fun Q hQ h => h2.fwd Q hQ (h1.fwd Q hQ h), fun Q hQ h => h1.bwd Q hQ (h2.bwd Q hQ h), fun j => (h2.pi j).trans (h1.pi j)⟩
theorem Same5.sys {L b : Nat} {a c : Stps} (h : Same5 L a c) (s : Sys b a) : Sys b c := by
  obtain ⟨Δ, s1, s2, s3, φ, s4⟩ := s
  have ec := cnt_same h.kind
  rw [← ec] at s2 s4
  have ep : Pi c = Pi a := by
    unfold Pi
    rw [h.pi 0, h.pi 1, h.pi 2, h.pi 3, h.pi 4]
  refine ⟨Δ, s1, s2, by rw [ep]; exact s3, φ, fun j hj hn => ?_⟩
  obtain ⟨t1, t2, t3, t4, t5⟩ := s4 j hj ((h.kind j).mp hn)
  exact ⟨t1, t2, fun i hi hne hi2 => t3 i hi hne ((h.kind i).mp hi2), h.fwd _ (lin_ev L (φ j)) t4, t5⟩
def negR (r : List Int) : List Int := r.map fun x => 0 - x
theorem at_neg (r : List Int) (j : Nat) : at5 (negR r) j = -(at5 r j) := by
  unfold at5 negR
  rw [List.getD_eq_getElem?_getD, List.getD_eq_getElem?_getD, List.getElem?_map]
  cases r[j]? with
  | none => rfl
  | some x => show 0 - x = -x; omega
theorem neg_less {L : Nat} {r : List Int} (h : r.length = L) : lessR (lessR r r 1) r 1 = negR r := by
  have l1 : (lessR r r 1).length = L := less_len h h
  refine ext5 (less_len l1 h) (by unfold negR; rw [List.length_map]; exact h) fun j => ?_
  rw [at_less (by rw [l1, h]), at_less rfl, at_neg]
  omega
theorem neg_neg {r : List Int} : negR (negR r) = r := by
  unfold negR
  rw [List.map_map]
  conv => rhs; rw [← List.map_id r]
  refine List.map_congr_left fun x _ => ?_
  show 0 - (0 - x) = x
  omega
theorem lin_neg {L : Nat} {Q : List Int → Prop} (hQ : Lin L Q) {r : List Int} (h : r.length = L) (q : Q r) : Q (negR r) := by
  rw [← neg_less h]
  exact hQ _ _ _ (less_len h h) h (hQ _ _ _ h h q q) q
theorem Same5.neg {L q : Nat} {a : Stps} (h : Led L a) (hq : q < 5) {r : List Int} (hr : stp a q = some r) : Same5 L a (a.set q (some (negR r))) := by
  have es := fun j => stp_set (j := j) (o := some (negR r)) h.five hq
  have lr := h.len q r hr
  have ln : (negR r).length = L := by unfold negR; rw [List.length_map]; exact lr
  refine ⟨h.set hq ln (by rw [at_neg]; have := h.lead q r hr; omega) fun i h1 h2 => by rw [at_neg, h.zero q r hr i h1 h2]; rfl, fun j => ?_, fun Q hQ ha j x e => ?_, fun Q hQ hb j x e => ?_, fun j => ?_⟩
  · rw [es]
    split
    · rename_i c
      rw [c, hr]
      exact ⟨fun z => (by cases z), fun z => (by cases z)⟩
    · exact Iff.rfl
  · rw [es] at e
    split at e
    · cases e
      exact lin_neg hQ lr (ha q r hr)
    · exact ha j x e
  · by_cases c : j = q
    · subst c
      rw [hr] at e
      cases e
      have := lin_neg hQ ln (hb j (negR r) (by rw [es, if_pos rfl]))
      rw [neg_neg] at this
      exact this
    · exact hb j x (by rw [es, if_neg c]; exact e)
  · rw [piv_set h.five hq]
    split
    · rename_i c
      unfold piv
      rw [c, hr, at_neg, Int.natAbs_neg]
    · rfl
theorem Same5.low {L p q : Nat} {a : Stps} (h : Led L a) (hpq : p < q) (hq : q < 5) {x y : List Int} (hx : stp a q = some x) (hy : stp a p = some y) (t : Int) : Same5 L a (a.set q (some (lessR x y t))) := by
  have es := fun j => stp_set (j := j) (o := some (lessR x y t)) h.five hq
  have lx := h.len q x hx
  have ly := h.len p y hy
  have ln := less_len (t := t) lx ly
  have aq : at5 (lessR x y t) q = at5 x q := by
    rw [at_less (by rw [lx, ly]), h.zero p y hy q hpq hq]
    omega
  refine ⟨h.set hq ln (by rw [aq]; exact h.lead q x hx) fun i h1 h2 => by rw [at_less (by rw [lx, ly]), h.zero q x hx i h1 h2, h.zero p y hy i (by omega) h2]; simp, fun j => ?_, fun Q hQ ha j z e => ?_, fun Q hQ hb j z e => ?_, fun j => ?_⟩
  · rw [es]
    split
    · rename_i c
      rw [c, hx]
      exact ⟨fun z => (by cases z), fun z => (by cases z)⟩
    · exact Iff.rfl
  · rw [es] at e
    split at e
    · cases e
      exact hQ _ _ _ lx ly (ha q x hx) (ha p y hy)
    · exact ha j z e
  · by_cases c : j = q
    · subst c
      rw [hx] at e
      cases e
      have := hQ _ _ (-t) ln ly (hb j _ (by rw [es, if_pos rfl])) (hb p y (by rw [es, if_neg (by omega)]; exact hy))
      rw [less_back lx ly] at this
      exact this
    · exact hb j z (by rw [es, if_neg c]; exact e)
  · rw [piv_set h.five hq]
    split
    · rename_i c
      unfold piv
      rw [c, hx, aq]
    · rfl
/-- leads above nought, what stands beside a lead less than it -/
structure Red (ss : Stps) : Prop where
  pos : ∀ j r, stp ss j = some r → 0 < at5 r j
  low : ∀ p q x y, p < q → stp ss q = some x → stp ss p = some y → 0 ≤ at5 x p ∧ at5 x p < at5 y p
theorem Sys.piv_le {L b : Nat} {ss : Stps} (hl : Led L ss) (s : Sys b ss) {j : Nat} (hj : j < 5) : piv ss j ≤ 2 ^ szN b 5 := by
  obtain ⟨Δ, s1, s2, s3, _⟩ := s
  have h1 := Nat.le_of_dvd (by omega) (Nat.dvd_trans (piv_dvd hj) s3)
  exact Nat.le_trans h1 (Nat.le_trans s2 (Nat.pow_le_pow_right (by decide) (szN_mono (cnt_le ss))))
theorem Red.le {L b : Nat} {ss : Stps} (hl : Led L ss) (hr : Red ss) (s : Sys b ss) : ∀ j, j < 5 → AllR ss fun r => (at5 r j).natAbs ≤ 2 ^ (szN b 5 + szN b 5 + 3) := by
  intro j hj k r hk
  show (at5 r j).natAbs ≤ _
  have up : ∀ z : Nat, z ≤ 2 ^ szN b 5 → z ≤ 2 ^ (szN b 5 + szN b 5 + 3) := fun z hz => Nat.le_trans hz (Nat.pow_le_pow_right (by decide) (by omega))
  have hk5 : k < 5 := by
    apply Nat.lt_of_not_le
    intro c
    unfold stp at hk
    rw [List.getD_eq_getElem?_getD, List.getElem?_eq_none (by rw [hl.five]; exact c)] at hk
    cases hk
  have pivb : ∀ i, i < 5 → (stp ss i).isSome → (at5 r i).natAbs ≤ 2 ^ szN b 5 := fun i hi hs => by
    obtain ⟨y, hy⟩ := Option.isSome_iff_exists.mp hs
    have pb := s.piv_le hl hi
    unfold piv at pb
    rw [hy] at pb
    have pb : (at5 y i).natAbs ≤ 2 ^ szN b 5 := pb
    rcases Nat.lt_trichotomy i k with l | e | g
    · have := hr.low i k r y l hk hy
      omega
    · subst e
      rw [hk] at hy
      cases hy
      exact pb
    · rw [hl.zero k r hk i g hi]
      exact Nat.zero_le _
  by_cases hs : (stp ss j).isSome
  · exact up _ (pivb j hj hs)
  · have hn : stp ss j = none := by
      cases e : stp ss j with
      | none => rfl
      | some _ => rw [e] at hs; exact absurd rfl hs
    obtain ⟨Δ, s1, s2, s3, φ, s4⟩ := s
    obtain ⟨t1, t2, t3, t4, t5⟩ := s4 j hj hn
    have e0 : ev (φ j) r = 0 := t4 k r hk
    have cN : 2 ^ szN b (cnt ss) ≤ 2 ^ szN b 5 := Nat.pow_le_pow_right (by decide) (szN_mono (cnt_le ss))
    have oth : ∀ i, i < 5 → i ≠ j → (φ j i * at5 r i).natAbs ≤ 2 ^ szN b 5 * 2 ^ szN b 5 := fun i hi hne => by
      rw [Int.natAbs_mul]
      cases e : stp ss i with
      | none => rw [t3 i hi hne e, Int.natAbs_zero, Nat.zero_mul]; exact Nat.zero_le _
      | some y => exact Nat.mul_le_mul (Nat.le_trans (t5 i hi) cN) (pivb i hi (by rw [e]; rfl))
    have self : (at5 r j).natAbs ≤ (φ j j * at5 r j).natAbs := by
      rw [t1, Int.natAbs_mul]
      exact Nat.le_mul_of_pos_left _ (by omega)
    have fin : 4 * (2 ^ szN b 5 * 2 ^ szN b 5) ≤ 2 ^ (szN b 5 + szN b 5 + 3) := by
      rw [Nat.pow_add, Nat.pow_add]
      omega
    refine Nat.le_trans self (Nat.le_trans ?_ fin)
    unfold ev at e0
    rcases lt5 hj with rfl | rfl | rfl | rfl | rfl
    · have a1 := oth 1 (by decide) (by decide)
      have a2 := oth 2 (by decide) (by decide)
      have a3 := oth 3 (by decide) (by decide)
      have a4 := oth 4 (by decide) (by decide)
      omega
    · have a1 := oth 0 (by decide) (by decide)
      have a2 := oth 2 (by decide) (by decide)
      have a3 := oth 3 (by decide) (by decide)
      have a4 := oth 4 (by decide) (by decide)
      omega
    · have a1 := oth 1 (by decide) (by decide)
      have a2 := oth 0 (by decide) (by decide)
      have a3 := oth 3 (by decide) (by decide)
      have a4 := oth 4 (by decide) (by decide)
      omega
    · have a1 := oth 1 (by decide) (by decide)
      have a2 := oth 2 (by decide) (by decide)
      have a3 := oth 0 (by decide) (by decide)
      have a4 := oth 4 (by decide) (by decide)
      omega
    · have a1 := oth 1 (by decide) (by decide)
      have a2 := oth 2 (by decide) (by decide)
      have a3 := oth 3 (by decide) (by decide)
      have a4 := oth 0 (by decide) (by decide)
      omega
end PV

/-! PV, part d: one row put in (the walk) -/
namespace PV
open PySem PySem.Spec PyProof.Rows L2
def oD : Option (List Int) → Dat
  | none => .non
  | some r => eI r
abbrev eS (ss : Stps) : Dat := .lst (ss.map oD)
theorem mem_at {r : List Int} {x : Int} (h : x ∈ r) : ∃ j, x = at5 r j := by
  obtain ⟨j, hj, rfl⟩ := List.getElem_of_mem h
  refine ⟨j, ?_⟩
  unfold at5
  rw [List.getD_eq_getElem?_getD, List.getElem?_eq_getElem hj]
  rfl
theorem at_idx {r : List Int} {j : Nat} (h : j < r.length) : idxD (eI r) (.int (j : Nat)) = .ok (.int (at5 r j)) := by
  refine idx_lst ?_
  unfold at5
  rw [List.getElem?_map, List.getD_eq_getElem?_getD, List.getElem?_eq_getElem h]
  rfl
theorem stp_idx {ss : Stps} {j : Nat} (h : j < ss.length) : idxD (eS ss) (.int (j : Nat)) = .ok (oD (stp ss j)) := by
  refine idx_lst ?_
  unfold stp
  rw [List.getElem?_map, List.getD_eq_getElem?_getD, List.getElem?_eq_getElem h]
  rfl
def down : Nat → List Nat
  | 0 => []
  | p + 1 => p :: down p
section
variable {fns : List FnD} {gl : Nat → Dat} {f fl n : Nat}
def BLess : List Sm := [.ret (.comp (.bin .sub (.var 3) (.bin .mul (.var 2) (.var 4))) (.tp [3, 4]) (.zip (.var 0) (.var 1)) [])]
theorem less_call (h : Has fns f 3 5 BLess .own) {xs ys : List Int} {t : Int} (hl : xs.length ≤ 1000) (hm : ∀ y ∈ ys, mulOk t y = true) : callF fns gl (n + 1) f [eI xs, eI ys, .int t] = .ok (eI (lessR xs ys t)) := by
  refine h.own rfl ?_
  show Out (exSs _ _ _ BLess [.shr, .shr, .shr, .shr, .shr] [some (eI xs), some (eI ys), some (.int t), none, none]) _
  refine o_ret (d := eI (lessR xs ys t)) rfl ?_ rfl (q_ret rfl)
  simp only [evE_comp, evS_zip, evE_var, getV_zero, getV_succ, Rs.ok_bind, zip_ll, zip_ints]
  rw [mapC_ok (h := fun p => .int (p.1 - t * p.2))]
  · simp only [Rs.ok_bind, List.length_map, List.length_zip]
    rw [size_ok (by omega)]
    simp [lessR, List.zip_eq_zipWith, List.map_zipWith]
  · rintro ⟨x, y⟩ hp
    have := hm y (List.of_mem_zip hp).2
    simp [bindT, evC_nil, bin_mul this]
/-- the list that a def changes, some one of a kind -/
def ioE (Q : Dat → Prop) : End → Prop
  | .nx κ ρ => kd κ 0 = .arg ∧ ∃ d, Q d ∧ getV ρ 0 = .ok d
  | .r0 κ ρ => kd κ 0 = .arg ∧ ∃ d, Q d ∧ getV ρ 0 = .ok d
  | _ => False
theorem Has.ioE {ps N : Nat} {B : List Sm} {ds : List Dat} {Q : Dat → Prop} (h : Has fns f ps N B .io) (hl : ds.length = ps) (e : Out (exSs (callF fns gl n) gl (rfs fns) B (.arg :: List.replicate (N - 1) .shr) (ds.map some ++ List.replicate (N - ds.length) none)) (PV.ioE Q)) : ∃ d, Q d ∧ callF fns gl (n + 1) f ds = .ok d := by
  rw [h.callI hl]
  have e := e.get
  generalize exSs (callF fns gl n) gl (rfs fns) B (.arg :: List.replicate (N - 1) .shr) (ds.map some ++ List.replicate (N - ds.length) none) = r at e
  cases r with
  | ok e' =>
    cases e' with
    | nx κ ρ =>
      obtain ⟨k, d, q, g⟩ := e
      refine ⟨d, q, ?_⟩
      show (if kd κ 0 = .arg then getV ρ 0 else .no) = _
      rw [if_pos k, g]
    | r0 κ ρ =>
      obtain ⟨k, d, q, g⟩ := e
      refine ⟨d, q, ?_⟩
      show (if kd κ 0 = .arg then getV ρ 0 else .no) = _
      rw [if_pos k, g]
    | bk _ _ => exact False.elim e
    | ct _ _ => exact False.elim e
    | rt _ _ => exact False.elim e
    | xc _ _ _ => exact False.elim e
  | ex z => exact False.elim e
  | no => exact False.elim e
def BPutIn (fl : Nat) : List Sm := [.fr (.nm 2) (.seq (.lst [.cst (.int 4), .cst (.int 3), .cst (.int 2), .cst (.int 1), .cst (.int 0)])) [.whl (.cmp .ne (.idx (.var 1) (.var 2)) (.cst (.int 0))) [.asg 3 (.idx (.var 0) (.var 2)), .sti 0 (.var 2) (.var 1), .ite (.isn false (.var 3)) [.ret0] [], .asg 1 (.cal fl [.var 3, .var 1, .bin .fdiv (.idx (.var 3) (.var 2)) (.idx (.var 1) (.var 2))])]]]
/-- the bits of the first five numbers, behind so many places -/
def tB : Nat → Nat
  | 0 => 174750
  | 1 => 87374
  | 2 => 43686
  | 3 => 21842
  | 4 => 10920
  | _ => 5459
theorem tB_le (p : Nat) : tB p ≤ 174750 := by
  unfold tB
  split <;> omega
def wB (w p : Nat) : Nat := w + (5 - p) * 200000
theorem tB_step {q : Nat} (hq : q < 5) : tB (q + 1) + tB (q + 1) + 2 = tB q := by
  rcases lt5 hq with rfl | rfl | rfl | rfl | rfl <;> rfl
theorem wB_step {q w : Nat} (hq : q < 5) : wB w (q + 1) + tB (q + 1) + 2 ≤ wB w q := by
  have := tB_le (q + 1)
  unfold wB
  have e : 5 - q = (5 - (q + 1)) + 1 := by omega
  rw [e, Nat.add_mul]
  omega
theorem lt_p2 {x a c : Nat} (h : x ≤ 2 ^ a) (hc : a < c) : x < 2 ^ c := Nat.lt_of_le_of_lt h (Nat.pow_lt_pow_right (by decide) hc)
theorem set_same {ss : Stps} {q : Nat} {o : Option (List Int)} (h : stp ss q = o) (hq : q < ss.length) : ss.set q o = ss := by
  apply List.ext_getElem (by rw [List.length_set])
  intro j h1 h2
  rw [List.getElem_set]
  split
  · rename_i c
    subst c
    unfold stp at h
    rw [List.getD_eq_getElem?_getD, List.getElem?_eq_getElem h2] at h
    exact h.symm
  · rfl
theorem ix5 {ss : Stps} {q : Nat} (h : ss.length = 5) (hq : q < 5) : ixN (ss.map oD).length ((q : Nat) : Int) = some q := by
  rw [List.length_map, h]
  rcases lt5 hq with rfl | rfl | rfl | rfl | rfl <;> rfl
theorem putIn_call (h : Has fns f 2 4 (BPutIn fl) .io) (hl : Has fns fl 3 5 BLess .own) {L b w : Nat} {ss0 : Stps} {v : List Int} (hL5 : 5 ≤ L) (hL : L ≤ 100) (hled : Led L ss0) (lv : v.length = L) (hs : Sys b ss0) (hb : szN b 5 ≤ 2728) (hw0 : 5459 ≤ w) (hw : w ≤ 100000000)
    (hm : ∀ j, j < 5 → AllR ss0 fun r => (at5 r j).natAbs ≤ 2 ^ 5459) (hwb : ∀ j, (at5 v j).natAbs ≤ 2 ^ w ∧ AllR ss0 fun r => (at5 r j).natAbs ≤ 2 ^ w) {M : Nat} (hM : 10 * M ≤ 2 ^ b) (hM2 : M ≤ 2 ^ 5459) (hv : ∀ i, i < 5 → (at5 v i).natAbs ≤ M) :
    ∃ ss, After L b ss0 v ss (tB 0) (wB w 0) ∧ callF fns gl (n + 2) f [eS ss0, eI v] = .ok (eS ss) := by
  suffices q : Out (exSs (callF fns gl (n + 1)) gl (rfs fns) (BPutIn fl) [.arg, .shr, .shr, .shr] [some (eS ss0), some (eI v), none, none]) (ioE fun d => ∃ ss, After L b ss0 v ss (tB 0) (wB w 0) ∧ d = eS ss) by
    obtain ⟨d, ⟨ss, q1, rfl⟩, q2⟩ := h.ioE (gl := gl) (n := n + 1) (ds := [eS ss0, eI v]) rfl q
    exact ⟨ss, q1, q2⟩
  have st : Put L ss0 v 5 ss0 v (tB 5) (wB w 5) := Put.start hled lv (fun j hj => ⟨Nat.le_trans (hv j hj) hM2, hm j hj⟩) hwb
  refine o_fr (κ1 := [.arg, .shr, .shr, .shr]) (ds := (down 5).map fun i => Dat.int (i : Nat)) rfl rfl rfl ?_
  refine for_inv (fun i : Nat => Dat.int (i : Nat)) (fun xs κ ρ => ∃ (p : Nat) (k1 : SK) (ss : Stps) (lg : List Int) (o2 o3 : Option Dat), xs = down p ∧ p ≤ 5 ∧ (k1 = .shr ∨ k1 = .own) ∧ κ = [.arg, k1, .shr, .shr] ∧ Put L ss0 v p ss lg (tB p) (wB w p) ∧ ρ = [some (eS ss), some (eI lg), o2, o3]) ?_ ?_ (down 5) _ _ ⟨5, .shr, ss0, v, none, none, rfl, Nat.le_refl _, .inl rfl, rfl, st, rfl⟩
  · rintro x xs κ ρ ⟨p, k1, ss, lg, o2, o3, hx, hp, hk1, rfl, P, rfl⟩
    cases p with
    | zero => cases hx
    | succ q =>
    injection hx with e1 e2
    subst e1 e2
    have hq : x < 5 := by omega
    refine ⟨[some (eS ss), some (eI lg), some (.int (x : Nat)), o3], rfl, ?_⟩
    show Out (exSs _ _ _ _ [.arg, k1, .shr, .shr] _) _
    have evc : ∀ (S : Option Dat) (y : List Int) (o3 : Option Dat), y.length = L → evE (callF fns gl (n + 1)) gl (.cmp .ne (.idx (.var 1) (.var 2)) (.cst (.int 0))) [S, some (eI y), some (.int (x : Nat)), o3] = .ok (.bl (!decide (at5 y x = 0))) := by
      intro S y o3 ly
      simp only [evE_cmp, evE_idx, evE_var, evE_cst, getV_zero, getV_succ, Rs.ok_bind]
      rw [at_idx (by omega)]
      simp only [Rs.ok_bind, cmp_nei]
    have up : Put L ss0 v (x + 1) ss lg (tB x) (wB w x) := P.up (by have := tB_step hq; omega) (by have := wB_step (w := w) hq; omega)
    by_cases hz : at5 lg x = 0
    · refine o_whl (fun m κ ρ => κ = [.arg, k1, .shr, .shr] ∧ ρ = [some (eS ss), some (eI lg), some (.int (x : Nat)), o3]) (m := 0) (lt_fuel (k := 20) (by decide) (by decide)) ⟨rfl, rfl⟩ ?_
      rintro m κ ρ ⟨rfl, rfl⟩
      refine .inl ⟨by rw [evc _ _ _ P.lgl, decide_eq_true hz]; rfl, o_nil ⟨x, k1, ss, lg, some (.int (x : Nat)), o3, rfl, by omega, hk1, rfl, up.skip hz, rfl⟩⟩
    have fz : ∀ (k1 : SK), (k1 = .shr ∨ k1 = .own) → frz [.arg, k1, .shr, .shr] (leak (rfs fns) (.var 1)) = [.arg, .shr, .shr, .shr] := fun k1 hk => by
      rcases hk with rfl | rfl <;> rfl
    cases hst : stp ss x with
    | none =>
      refine o_whl (fun m κ ρ => κ = [.arg, k1, .shr, .shr] ∧ ρ = [some (eS ss), some (eI lg), some (.int (x : Nat)), o3]) (m := 0) (lt_fuel (k := 20) (by decide) (by decide)) ⟨rfl, rfl⟩ ?_
      rintro m κ ρ ⟨rfl, rfl⟩
      refine .inr ⟨by rw [evc _ _ _ P.lgl, decide_eq_false hz]; rfl, ?_⟩
      refine o_asg (κ1 := [.arg, k1, .shr, .shr]) (κ' := [.arg, k1, .shr, .shr]) (d := .non) ?_ rfl rfl rfl rfl ?_
      · simp only [evE_idx, evE_var, getV_zero, getV_succ, Rs.ok_bind]
        rw [stp_idx (by rw [P.led.five]; exact hq), hst]
        rfl
      dsimp only [List.set]
      refine o_sti (κ1 := [.arg, .shr, .shr, .shr]) (j := x) (m := (x : Nat)) (d := eI lg) (xs := ss.map oD) (fz k1 hk1) rfl rfl rfl rfl (ix5 P.led.five hq) ?_
      dsimp only [List.set]
      refine o_if (k := true) rfl (fun _ => ?_) fun e => by cases e
      refine o_ret0 ?_
      refine ⟨rfl, eS (ss.set x (some lg)), ⟨_, up.new hled hq hst hz hM hv |> fun A => ⟨A.led, A.fwd, A.bwd, fun j hj k r e => pow_up (A.mb j hj k r e) (tB_le x), fun j k r e => pow_up (A.wb j k r e) (by unfold wB; omega), A.sys⟩, rfl⟩, ?_⟩
      rw [getV_zero]
      congr 2
      rw [List.map_set]
      rfl
    | some x0 =>
      have lx0 : x0.length = L := P.led.len x x0 hst
      have hx0 := P.led.lead x x0 hst
      have K8 : (at5 x0 x).natAbs < 2 ^ 8000 := by
        have h1 := hs.piv_le hled hq
        have h2 : stp ss0 x = some x0 := by rw [← P.same x (by omega)]; exact hst
        unfold piv at h1
        rw [h2] at h1
        exact lt_p2 h1 (by omega)
      have mq : (at5 x0 x).natAbs ≤ 2 ^ tB (x + 1) ∧ (at5 lg x).natAbs ≤ 2 ^ tB (x + 1) := ⟨(P.mb x hq).2 x x0 hst, (P.mb x hq).1⟩
      have bw : ∀ {y1 y2 : List Int}, Euc L x x0 lg y1 y2 → ∀ j, (at5 y1 j).natAbs ≤ 2 ^ wB w x ∧ (at5 y2 j).natAbs ≤ 2 ^ wB w x := fun E j => by
        have := E.le mq (u := wB w (x + 1)) (j := j) ⟨(P.wb j).2 x x0 hst, (P.wb j).1⟩
        exact ⟨pow_up this.1 (wB_step hq), pow_up this.2 (wB_step hq)⟩
      have bq : ∀ {y1 y2 : List Int}, Euc L x x0 lg y1 y2 → (at5 y1 x).natAbs ≤ 2 ^ tB x ∧ (at5 y2 x).natAbs ≤ 2 ^ tB x := fun E => by
        have := E.le mq (u := tB (x + 1)) (j := x) mq
        rw [tB_step hq] at this
        exact this
      have wx : wB w x ≤ 101000000 := by
        unfold wB
        omega
      refine o_whl (fun m κ ρ => ∃ (y1 y2 : List Int) (k1 : SK) (o3 : Option Dat), m = (at5 y2 x).natAbs ∧ Euc L x x0 lg y1 y2 ∧ (k1 = .shr ∨ k1 = .own) ∧ κ = [.arg, k1, .shr, .shr] ∧ ρ = [some (eS (ss.set x (some y1))), some (eI y2), some (.int (x : Nat)), o3]) (m := (at5 lg x).natAbs) (lt_fuel (k := 174751) (lt_p2 mq.2 (by have := tB_le (x + 1); omega)) (by decide)) ⟨x0, lg, k1, o3, rfl, Euc.start lx0 P.lgl (fun j h1 h2 => ⟨P.led.zero x x0 hst j h1 h2, P.lgz j h1 h2⟩) hx0, hk1, rfl, by rw [set_same hst (by rw [P.led.five]; exact hq)]⟩ ?_
      rintro m κ ρ ⟨y1, y2, k1, o3, rfl, E, hk1, rfl, rfl⟩
      have l5 : (ss.set x (some y1)).length = 5 := by rw [List.length_set]; exact P.led.five
      by_cases hy : at5 y2 x = 0
      · refine .inl ⟨by rw [evc _ _ _ E.ly, decide_eq_true hy]; rfl, o_nil ⟨x, k1, ss.set x (some y1), y2, some (.int (x : Nat)), o3, rfl, by omega, hk1, rfl, ?_, rfl⟩⟩
        have := P.step hq hst hz E hy
        rw [tB_step hq] at this
        exact this.up (Nat.le_refl _) (wB_step hq)
      · refine .inr ⟨by rw [evc _ _ _ E.ly, decide_eq_false hy]; rfl, ?_⟩
        have dv : divOk (at5 y1 x) (at5 y2 x) = true := smD_div K8 hy E.sm
        have E2 := E.next hy
        have qb : ((at5 y1 x).fdiv (at5 y2 x)).natAbs < 2 ^ 174760 := by
          have h1 := fq_le (a := at5 y1 x) hy
          have h2 := (bq E).1
          have h3 : 2 ^ tB x ≤ 2 ^ 174750 := Nat.pow_le_pow_right (by decide) (tB_le x)
          have h4 : (2 : Nat) ^ 174760 = 2 ^ 174750 * 2 ^ 10 := by rw [← Nat.pow_add]
          have h5 : 1 ≤ 2 ^ 174750 := Nat.one_le_two_pow
          generalize (2 : Nat) ^ 174760 = Z at *
          generalize (2 : Nat) ^ 174750 = Y at *
          omega
        have lc := less_call (gl := gl) (n := n) hl (xs := y1) (ys := y2) (t := (at5 y1 x).fdiv (at5 y2 x)) (by rw [E.lx]; omega) (fun y hy2 => by
          obtain ⟨j, rfl⟩ := mem_at hy2
          exact mul_ok qb (lt_p2 (bw E j).2 (Nat.lt_succ_self _)) (by omega))
        refine o_asg (κ1 := [.arg, k1, .shr, .shr]) (κ' := [.arg, k1, .shr, .shr]) (d := eI y1) ?_ rfl rfl rfl rfl ?_
        · simp only [evE_idx, evE_var, getV_zero, getV_succ, Rs.ok_bind]
          rw [stp_idx (by rw [l5]; exact hq), stp_set P.led.five hq, if_pos rfl]
          rfl
        dsimp only [List.set]
        refine o_sti (κ1 := [.arg, .shr, .shr, .shr]) (j := x) (m := (x : Nat)) (d := eI y2) (xs := (ss.set x (some y1)).map oD) (fz k1 hk1) rfl rfl rfl rfl (ix5 l5 hq) ?_
        dsimp only [List.set]
        have es : (Dat.lst (((ss.set x (some y1)).map oD).set x (eI y2))) = eS (ss.set x (some y2)) := by
          rw [show eI y2 = oD (some y2) from rfl, ← List.map_set, List.set_set]
        rw [es]
        refine o_ifF rfl ?_
        refine o_asg (κ1 := [.arg, .shr, .shr, .shr]) (κ' := [.arg, .own, .shr, .shr]) (fl := 3) (d := eI (lessR y1 y2 ((at5 y1 x).fdiv (at5 y2 x)))) ?_ (by simp only [leak, leak.leakL, hl.rf]; rfl) (by simp only [flE, flL, hl.rf]; rfl) rfl rfl ?_
        · simp only [evE_cal, evE_bin, evE_idx, evL_cons, evL_nil, evE_var, getV_zero, getV_succ, Rs.ok_bind]
          rw [at_idx (by rw [E.lx]; omega), at_idx (by rw [E.ly]; omega)]
          simp only [Rs.ok_bind]
          rw [bin_fdiv dv]
          simp only [Rs.ok_bind, lc]
        dsimp only [List.set]
        refine o_nil ⟨_, ?_, y2, _, .own, some (eI y1), rfl, E2, .inr rfl, rfl, rfl⟩
        rw [at_next (by rw [E.lx, E.ly])]
        exact fm_lt hy
  · rintro κ ρ ⟨p, k1, ss, lg, o2, o3, hx, hp, hk1, rfl, P, rfl⟩
    cases p with
    | succ q => cases hx
    | zero => exact forP_nx (κ1 := [.arg, k1, .shr, .shr]) rfl (o_nil ⟨rfl, eS ss, ⟨ss, P.done hled, rfl⟩, by rw [getV_zero]⟩)
end
end PV

/-! PV, part e: brought down (plain, and the walk) -/
namespace PV
open PySem PySem.Spec PyProof.Rows L2
def md (p : Nat) : Nat := (5 - p + 1) * 174760
def wd (w p : Nat) : Nat := w + (5 - p) * 1100000
theorem md_step {p : Nat} (hp : p < 5) : md (p + 1) + 174760 = md p := by
  unfold md
  omega
theorem md_le (p : Nat) : md p ≤ 1048560 := by
  unfold md
  omega
theorem wd_step {p w : Nat} (hp : p < 5) : wd w (p + 1) + 1100000 = wd w p := by
  unfold wd
  omega
theorem two_le {x y : Int} {q : Int} {a c d e : Nat} (hx : x.natAbs ≤ 2 ^ a) (hy : y.natAbs ≤ 2 ^ c) (hq : q.natAbs ≤ 2 ^ d) (h1 : a + 1 ≤ e) (h2 : d + c + 1 ≤ e) : (x - q * y).natAbs ≤ 2 ^ e := by
  have m : (q * y).natAbs ≤ 2 ^ (d + c) := by
    rw [Int.natAbs_mul, Nat.pow_add]
    exact Nat.mul_le_mul hq hy
  have b1 := Nat.le_trans hx (Nat.pow_le_pow_right (by decide) (show a ≤ e - 1 by omega))
  have b2 := Nat.le_trans m (Nat.pow_le_pow_right (by decide) (show d + c ≤ e - 1 by omega))
  have e2 : 2 ^ e = 2 ^ (e - 1) + 2 ^ (e - 1) := by
    conv => lhs; rw [show e = (e - 1) + 1 by omega, Nat.pow_succ]
    omega
  omega
theorem fq_p2 {a b : Int} (hb : b ≠ 0) {k : Nat} (h : a.natAbs ≤ 2 ^ k) : (a.fdiv b).natAbs ≤ 2 ^ (k + 2) := by
  have h1 := fq_le (a := a) hb
  have h2 : 1 ≤ 2 ^ k := Nat.one_le_two_pow
  rw [Nat.pow_add]
  omega
theorem eS_set (ss : Stps) (q : Nat) (r : List Int) : Dat.lst ((ss.map oD).set q (eI r)) = eS (ss.set q (some r)) := by
  show _ = Dat.lst ((ss.set q (some r)).map oD)
  rw [List.map_set]
  rfl
structure BDn (L : Nat) (a ss : Stps) (w p : Nat) : Prop where
  same : Same5 L a ss
  low : ∀ j, j < p → stp ss j = stp a j
  pos : ∀ j r, p ≤ j → stp ss j = some r → 0 < at5 r j
  red : ∀ i q x y, p ≤ i → i < q → stp ss q = some x → stp ss i = some y → 0 ≤ at5 x i ∧ at5 x i < at5 y i
  mb : ∀ j, j < 5 → AllR ss fun r => (at5 r j).natAbs ≤ 2 ^ md p
  wb : ∀ j, AllR ss fun r => (at5 r j).natAbs ≤ 2 ^ wd w p
structure BI (L : Nat) (a ss : Stps) (y : List Int) (w p h : Nat) : Prop where
  same : Same5 L a ss
  low : ∀ j, j < p → stp ss j = stp a j
  rowp : stp ss p = some y
  ym : (∀ j, j < 5 → (at5 y j).natAbs ≤ 2 ^ 174750) ∧ ∀ j, (at5 y j).natAbs ≤ 2 ^ w
  pos : ∀ j r, p ≤ j → stp ss j = some r → 0 < at5 r j
  red : ∀ i q x z, p < i → i < q → stp ss q = some x → stp ss i = some z → 0 ≤ at5 x i ∧ at5 x i < at5 z i
  redp : ∀ q x, p < q → q < h → stp ss q = some x → 0 ≤ at5 x p ∧ at5 x p < at5 y p
  hi : ∀ q r, h ≤ q → stp ss q = some r → (∀ j, j < 5 → (at5 r j).natAbs ≤ 2 ^ md (p + 1)) ∧ ∀ j, (at5 r j).natAbs ≤ 2 ^ wd w (p + 1)
  mb : ∀ j, j < 5 → AllR ss fun r => (at5 r j).natAbs ≤ 2 ^ md p
  wb : ∀ j, AllR ss fun r => (at5 r j).natAbs ≤ 2 ^ wd w p
theorem BI.skip {L : Nat} {a ss : Stps} {y : List Int} {w p h : Nat} (b : BI L a ss y w p h) (hn : stp ss h = none) : BI L a ss y w p (h + 1) :=
  ⟨b.same, b.low, b.rowp, b.ym, b.pos, b.red, fun q x h1 h2 e => by
    by_cases c : q = h
    · rw [c, hn] at e; cases e
    · exact b.redp q x h1 (by omega) e, fun q r h1 e => b.hi q r (by omega) e, b.mb, b.wb⟩
theorem BI.step {L : Nat} {a ss : Stps} {x y : List Int} {w p h : Nat} (b : BI L a ss y w p h) (hph : p < h) (hh : h < 5) (hx : stp ss h = some x) : BI L a (ss.set h (some (lessR x y ((at5 x p).fdiv (at5 y p))))) y w p (h + 1) := by
  have led := b.same.led
  have es := fun j => stp_set (j := j) (o := some (lessR x y ((at5 x p).fdiv (at5 y p)))) led.five hh
  have lx := led.len h x hx
  have ly := led.len p y b.rowp
  have yp : 0 < at5 y p := b.pos p y (Nat.le_refl _) b.rowp
  have hl : x.length = y.length := by rw [lx, ly]
  have above : ∀ j, p < j → j < 5 → at5 (lessR x y ((at5 x p).fdiv (at5 y p))) j = at5 x j := fun j h1 h2 => by
    rw [at_less hl, led.zero p y b.rowp j h1 h2]
    omega
  have atp : at5 (lessR x y ((at5 x p).fdiv (at5 y p))) p = (at5 x p).fmod (at5 y p) := at_next hl
  obtain ⟨xm, xw⟩ := b.hi h x (Nat.le_refl _) hx
  have qb := fq_p2 (b := at5 y p) (by omega) (xm p (by omega))
  have ms := md_step (show p < 5 by omega)
  have ws := wd_step (w := w) (show p < 5 by omega)
  have ml := md_le (p + 1)
  have h5 : ∀ q x, stp ss q = some x → q < 5 := fun q x e => by
    apply Nat.lt_of_not_le
    intro c
    unfold stp at e
    rw [List.getD_eq_getElem?_getD, List.getElem?_eq_none (by rw [led.five]; exact c)] at e
    cases e
  refine ⟨b.same.trans (Same5.low led hph hh hx b.rowp _), fun j hj => ?_, ?_, b.ym, fun j r h1 e => ?_, fun i q z u h1 h2 e1 e2 => ?_, fun q z h1 h2 e => ?_, fun q r h1 e => ?_, fun j hj k r e => ?_, fun j k r e => ?_⟩
  · rw [es, if_neg (by omega)]
    exact b.low j hj
  · rw [es, if_neg (by omega)]
    exact b.rowp
  · rw [es] at e
    split at e
    · rename_i c
      cases e
      rw [c, above h hph hh]
      exact b.pos h x (by omega) hx
    · exact b.pos j r h1 e
  · rw [es] at e1 e2
    have e2' : ∃ u', stp ss i = some u' ∧ at5 u i = at5 u' i := by
      split at e2
      · rename_i c
        cases e2
        exact ⟨x, by rw [c]; exact hx, above i h1 (by omega)⟩
      · exact ⟨u, e2, rfl⟩
    have e1' : ∃ z', stp ss q = some z' ∧ at5 z i = at5 z' i := by
      split at e1
      · rename_i c
        cases e1
        exact ⟨x, by rw [c]; exact hx, above i h1 (by omega)⟩
      · exact ⟨z, e1, rfl⟩
    obtain ⟨u', c1, c2⟩ := e2'
    obtain ⟨z', c3, c4⟩ := e1'
    rw [c2, c4]
    exact b.red i q z' u' h1 h2 c3 c1
  · rw [es] at e
    split at e
    · cases e
      rw [atp]
      exact ⟨Int.fmod_nonneg_of_pos _ yp, Int.fmod_lt_of_pos _ yp⟩
    · exact b.redp q z h1 (by omega) e
  · rw [es, if_neg (by omega)] at e
    exact b.hi q r (by omega) e
  · rw [es] at e
    split at e
    · cases e
      show (at5 (lessR x y _) j).natAbs ≤ _
      rw [at_less hl]
      exact two_le (xm j hj) (b.ym.1 j hj) qb (by omega) (by omega)
    · exact b.mb j hj k r e
  · rw [es] at e
    split at e
    · cases e
      show (at5 (lessR x y _) j).natAbs ≤ _
      rw [at_less hl]
      have : w ≤ wd w (p + 1) := Nat.le_add_right _ _
      exact two_le (xw j) (b.ym.2 j) qb (by omega) (by omega)
    · exact b.wb j k r e
section
variable {fns : List FnD} {gl : Nat → Dat} {f fl n : Nat}
def BDown (fl : Nat) : List Sm := [.fr (.nm 1) (.seq (.lst [.cst (.int 4), .cst (.int 3), .cst (.int 2), .cst (.int 1), .cst (.int 0)])) [.asg 2 (.idx (.var 0) (.var 1)), .ite (.isn false (.var 2)) [.cnt] [], .ite (.cmp .lt (.idx (.var 2) (.var 1)) (.cst (.int 0))) [.asg 2 (.comp (.bin .sub (.cst (.int 0)) (.var 5)) (.nm 5) (.seq (.var 2)) []), .sti 0 (.var 1) (.var 2)] [], .fr (.nm 3) (.rng [.bin .add (.var 1) (.cst (.int 1)), .cst (.int 5)]) [.asg 4 (.idx (.var 0) (.var 3)), .ite (.isn true (.var 4)) [.sti 0 (.var 3) (.cal fl [.var 4, .var 2, .bin .fdiv (.idx (.var 4) (.var 1)) (.idx (.var 2) (.var 1))])] []]]]
theorem down_call (h : Has fns f 1 6 (BDown fl) .io) (hl : Has fns fl 3 5 BLess .own) {L b w : Nat} {a : Stps} (hL5 : 5 ≤ L) (hL : L ≤ 100) (hled : Led L a) (hs : Sys b a) (hb : szN b 5 ≤ 2728) (hw0 : 174750 ≤ w) (hw : w ≤ 100000000)
    (hm : ∀ j, j < 5 → AllR a fun r => (at5 r j).natAbs ≤ 2 ^ 174750) (hwb : ∀ j, AllR a fun r => (at5 r j).natAbs ≤ 2 ^ w) :
    ∃ ss, BDn L a ss w 0 ∧ callF fns gl (n + 2) f [eS a] = .ok (eS ss) := by
  suffices q : Out (exSs (callF fns gl (n + 1)) gl (rfs fns) (BDown fl) [.arg, .shr, .shr, .shr, .shr, .shr] [some (eS a), none, none, none, none, none]) (ioE fun d => ∃ ss, BDn L a ss w 0 ∧ d = eS ss) by
    obtain ⟨d, ⟨ss, q1, rfl⟩, q2⟩ := h.ioE (gl := gl) (n := n + 1) (ds := [eS a]) rfl q
    exact ⟨ss, q1, q2⟩
  have none5 : ∀ (c : Stps), c.length = 5 → ∀ j, 5 ≤ j → stp c j = none := fun c hc j hj => by
    unfold stp
    rw [List.getD_eq_getElem?_getD, List.getElem?_eq_none (by omega)]
    rfl
  have st : BDn L a a w 5 := ⟨Same5.refl hled, fun _ _ => rfl, fun j r h1 e => (by rw [none5 a hled.five j h1] at e; cases e), fun i q x y h1 h2 e1 e2 => (by rw [none5 a hled.five i h1] at e2; cases e2),
    fun j hj k r e => pow_up (hm j hj k r e) (by unfold md; omega), fun j k r e => pow_up (hwb j k r e) (by unfold wd; omega)⟩
  refine o_fr (κ1 := [.arg, .shr, .shr, .shr, .shr, .shr]) (ds := (down 5).map fun i => Dat.int (i : Nat)) rfl rfl rfl ?_
  refine for_inv (fun i : Nat => Dat.int (i : Nat)) (fun xs κ ρ => ∃ (p : Nat) (ss : Stps) (o1 o2 o3 o4 o5 : Option Dat), xs = down p ∧ p ≤ 5 ∧ κ = [.arg, .shr, .shr, .shr, .shr, .shr] ∧ BDn L a ss w p ∧ ρ = [some (eS ss), o1, o2, o3, o4, o5]) ?_ ?_ (down 5) _ _ ⟨5, a, none, none, none, none, none, rfl, Nat.le_refl _, rfl, st, rfl⟩
  · rintro p xs κ ρ ⟨p', ss, o1, o2, o3, o4, o5, hx, hp, rfl, B, rfl⟩
    cases p' with
    | zero => cases hx
    | succ p0 =>
    injection hx with e1 e2
    subst e1 e2
    have hp5 : p < 5 := by omega
    have led := B.same.led
    refine ⟨[some (eS ss), some (.int (p : Nat)), o2, o3, o4, o5], rfl, ?_⟩
    cases hst : stp ss p with
    | none =>
      refine o_asg (κ' := [.arg, .shr, .shr, .shr, .shr, .shr]) (d := .non) ?_ rfl rfl rfl rfl ?_
      · simp only [evE_idx, evE_var, getV_zero, getV_succ, Rs.ok_bind]
        rw [stp_idx (by rw [led.five]; exact hp5), hst]
        rfl
      dsimp only [List.set]
      refine o_if (k := true) rfl (fun _ => ?_) fun e => by cases e
      refine o_cnt ⟨p, ss, some (.int (p : Nat)), some .non, o3, o4, o5, rfl, by omega, rfl, ⟨B.same, fun j hj => B.low j (by omega), fun j r h1 e => ?_, fun i q x y h1 h2 e1 e2 => ?_, fun j hj k r e => pow_up (B.mb j hj k r e) (by have := md_step hp5; omega), fun j k r e => pow_up (B.wb j k r e) (by have := wd_step (w := w) hp5; omega)⟩, rfl⟩
      · by_cases c : j = p
        · rw [c, hst] at e; cases e
        · exact B.pos j r (by omega) e
      · by_cases c : i = p
        · rw [c, hst] at e2; cases e2
        · exact B.red i q x y (by omega) h2 e1 e2
    | some y0 =>
      have ly0 := led.len p y0 hst
      have sa : stp a p = some y0 := by rw [← B.low p (by omega)]; exact hst
      have y0m : (∀ j, j < 5 → (at5 y0 j).natAbs ≤ 2 ^ 174750) ∧ ∀ j, (at5 y0 j).natAbs ≤ 2 ^ w := ⟨fun j hj => hm j hj p y0 sa, fun j => hwb j p y0 sa⟩
      -- the row with its lead above nought, then the higher ones
      have tail : ∀ (ss : Stps) (y : List Int) (k3 o5 : Option Dat), BI L a ss y w p (p + 1) → Out (exSs (callF fns gl (n + 1)) gl (rfs fns) [.fr (.nm 3) (.rng [.bin .add (.var 1) (.cst (.int 1)), .cst (.int 5)]) [.asg 4 (.idx (.var 0) (.var 3)), .ite (.isn true (.var 4)) [.sti 0 (.var 3) (.cal fl [.var 4, .var 2, .bin .fdiv (.idx (.var 4) (.var 1)) (.idx (.var 2) (.var 1))])] []]] [.arg, .shr, .shr, .shr, .shr, .shr] [some (eS ss), some (.int (p : Nat)), some (eI y), k3, o4, o5]) (turnP (fun κ ρ => ∃ (p' : Nat) (ss : Stps) (o1 o2 o3 o4 o5 : Option Dat), down p = down p' ∧ p' ≤ 5 ∧ κ = [.arg, .shr, .shr, .shr, .shr, .shr] ∧ BDn L a ss w p' ∧ ρ = [some (eS ss), o1, o2, o3, o4, o5]) (forP (callF fns gl (n + 1)) gl (rfs fns) [] [.arg, .shr, .shr, .shr, .shr, .shr] (.seq (.lst [.cst (.int 4), .cst (.int 3), .cst (.int 2), .cst (.int 1), .cst (.int 0)])) (ioE fun d => ∃ ss, BDn L a ss w 0 ∧ d = eS ss))) := by
        intro ss y k3 o5 bi
        refine o_fr (κ1 := [.arg, .shr, .shr, .shr, .shr, .shr]) (ds := (List.range' (p + 1) (4 - p)).map fun i => Dat.int (i : Nat)) rfl rfl ?_ ?_
        · simp only [evS_rng, evE_bin, evL_cons, evL_nil, evE_var, evE_cst, getV_zero, getV_succ, Rs.ok_bind, bin_add]
          rw [show ((p : Nat) : Int) + 1 = ((p + 1 : Nat) : Int) by omega, show rngD [.int ((p + 1 : Nat) : Int), .int 5] = _ from rng2 (a := p + 1) (b := 5) (by omega) (by decide)]
          rw [show 5 - (p + 1) = 4 - p by omega, List.range'_eq_map_range, List.map_map]
          rfl
        refine for_inv (fun i : Nat => Dat.int (i : Nat)) (fun xs κ ρ => ∃ (h : Nat) (ss : Stps) (o3 o4 : Option Dat), p < h ∧ h + xs.length = 5 ∧ xs = List.range' h xs.length ∧ κ = [.arg, .shr, .shr, .shr, .shr, .shr] ∧ BI L a ss y w p h ∧ ρ = [some (eS ss), some (.int (p : Nat)), some (eI y), o3, o4, o5]) ?_ ?_ (List.range' (p + 1) (4 - p)) _ _ ⟨p + 1, ss, k3, o4, by omega, by rw [List.length_range']; omega, by rw [List.length_range'], rfl, bi, rfl⟩
        · rintro i is κ ρ ⟨h, ss, o3, o4, hph, hln, his, rfl, bi, rfl⟩
          rw [List.length_cons] at hln his
          have his : i :: is = h :: List.range' (h + 1) is.length := his
          injection his with e1 e2
          subst e1
          have hh : i < 5 := by omega
          have led := bi.same.led
          refine ⟨[some (eS ss), some (.int (p : Nat)), some (eI y), some (.int (i : Nat)), o4, o5], rfl, ?_⟩
          cases hsi : stp ss i with
          | none =>
            refine o_asg (κ' := [.arg, .shr, .shr, .shr, .shr, .shr]) (d := .non) ?_ rfl rfl rfl rfl ?_
            · simp only [evE_idx, evE_var, getV_zero, getV_succ, Rs.ok_bind]
              rw [stp_idx (by rw [led.five]; exact hh), hsi]
              rfl
            dsimp only [List.set]
            exact o_ifF rfl (o_nil ⟨i + 1, ss, _, _, by omega, by omega, e2, rfl, bi.skip hsi, rfl⟩)
          | some x =>
            have lx := led.len i x hsi
            have ly := led.len p y bi.rowp
            have yp : 0 < at5 y p := bi.pos p y (Nat.le_refl _) bi.rowp
            obtain ⟨xm, xw⟩ := bi.hi i x (Nat.le_refl _) hsi
            have qb := fq_p2 (b := at5 y p) (by omega) (xm p (by omega))
            have yK : (at5 y p).natAbs < 2 ^ 8000 := by
              have h1 := (bi.same.sys hs).piv_le led hp5
              unfold piv at h1
              rw [bi.rowp] at h1
              exact lt_p2 h1 (by omega)
            have ml := md_le (p + 1)
            have lc := less_call (gl := gl) (n := n) hl (xs := x) (ys := y) (t := (at5 x p).fdiv (at5 y p)) (by rw [lx]; omega) (fun z hz => by
              obtain ⟨j, rfl⟩ := mem_at hz
              exact mul_ok (a := md (p + 1) + 3) (b := w + 1) (lt_p2 qb (by omega)) (lt_p2 (bi.ym.2 j) (by omega)) (by omega))
            refine o_asg (κ' := [.arg, .shr, .shr, .shr, .shr, .shr]) (d := eI x) ?_ rfl rfl rfl rfl ?_
            · simp only [evE_idx, evE_var, getV_zero, getV_succ, Rs.ok_bind]
              rw [stp_idx (by rw [led.five]; exact hh), hsi]
              rfl
            dsimp only [List.set]
            refine o_if (k := true) rfl (fun _ => ?_) fun e => by cases e
            refine o_sti (κ1 := [.arg, .shr, .shr, .shr, .shr, .shr]) (j := i) (m := (i : Nat)) (d := eI (lessR x y ((at5 x p).fdiv (at5 y p)))) (xs := ss.map oD) (by simp only [leak, leak.leakL, hl.rf]; rfl) (by simp only [flE, flL, hl.rf]; rfl) rfl ?_ rfl (ix5 led.five hh) ?_
            · simp only [evE_cal, evE_bin, evE_idx, evL_cons, evL_nil, evE_var, getV_zero, getV_succ, Rs.ok_bind]
              rw [at_idx (by omega), at_idx (by omega)]
              simp only [Rs.ok_bind]
              rw [bin_fdiv (div_mid (by omega) yK)]
              simp only [Rs.ok_bind, lc]
            dsimp only [List.set]
            have es : (Dat.lst ((ss.map oD).set i (eI (lessR x y ((at5 x p).fdiv (at5 y p)))))) = eS (ss.set i (some (lessR x y ((at5 x p).fdiv (at5 y p))))) := eS_set _ _ _
            rw [es]
            exact o_nil (thenP_nx (o_nil ⟨i + 1, _, _, _, by omega, by omega, e2, rfl, bi.step hph hh hsi, rfl⟩))
        · rintro κ ρ ⟨h, ss, o3, o4, hph, hln, his, rfl, bi, rfl⟩
          have h5 : h = 5 := by simpa using hln
          subst h5
          refine forP_nx (κ1 := [.arg, .shr, .shr, .shr, .shr, .shr]) rfl (o_nil ⟨p, ss, _, _, _, _, _, rfl, by omega, rfl, ⟨bi.same, bi.low, bi.pos, fun i q x z h1 h2 e1 e2 => ?_, bi.mb, bi.wb⟩, rfl⟩)
          by_cases c : i = p
          · subst c
            rw [bi.rowp] at e2
            cases e2
            refine bi.redp q x h2 ?_ e1
            apply Nat.lt_of_not_le
            intro cc
            rw [none5 ss bi.same.led.five q cc] at e1
            cases e1
          · exact bi.red i q x z (by omega) h2 e1 e2
      refine o_asg (κ' := [.arg, .shr, .shr, .shr, .shr, .shr]) (d := eI y0) ?_ rfl rfl rfl rfl ?_
      · simp only [evE_idx, evE_var, getV_zero, getV_succ, Rs.ok_bind]
        rw [stp_idx (by rw [led.five]; exact hp5), hst]
        rfl
      dsimp only [List.set]
      refine o_ifF rfl ?_
      have mk : ∀ (c : Stps) (y : List Int), Same5 L ss c → (∀ j, j ≠ p → stp c j = stp ss j) → stp c p = some y → 0 < at5 y p → ((∀ j, j < 5 → (at5 y j).natAbs ≤ 2 ^ 174750) ∧ ∀ j, (at5 y j).natAbs ≤ 2 ^ w) → BI L a c y w p (p + 1) := by
        intro c y s5 ot rp yp ym
        have row : ∀ q r, stp c q = some r → q = p ∧ r = y ∨ q ≠ p ∧ stp ss q = some r := fun q r e => by
          by_cases cc : q = p
          · subst cc
            rw [rp] at e
            cases e
            exact .inl ⟨rfl, rfl⟩
          · rw [ot q cc] at e
            exact .inr ⟨cc, e⟩
        have ms := md_step hp5
        have ws := wd_step (w := w) hp5
        have wl : w ≤ wd w (p + 1) := Nat.le_add_right _ _
        refine ⟨B.same.trans s5, fun j hj => by rw [ot j (by omega)]; exact B.low j (by omega), rp, ym, fun j r h1 e => ?_, fun i q x z h1 h2 e1 e2 => ?_, fun q x h1 h2 e => by omega, fun q r h1 e => ?_, fun j hj k r e => ?_, fun j k r e => ?_⟩
        · rcases row j r e with ⟨rfl, rfl⟩ | ⟨cc, e⟩
          · exact yp
          · exact B.pos j r (by omega) e
        · rw [ot i (by omega)] at e2
          rw [ot q (by omega)] at e1
          exact B.red i q x z (by omega) h2 e1 e2
        · rw [ot q (by omega)] at e
          exact ⟨fun j hj => B.mb j hj q r e, fun j => B.wb j q r e⟩
        · rcases row k r e with ⟨rfl, rfl⟩ | ⟨cc, e⟩
          · exact pow_up (ym.1 j hj) (by unfold md at ms ⊢; omega)
          · exact pow_up (B.mb j hj k r e) (by omega)
        · rcases row k r e with ⟨rfl, rfl⟩ | ⟨cc, e⟩
          · exact pow_up (ym.2 j) (by omega)
          · exact pow_up (B.wb j k r e) (by omega)
      refine o_if (k := decide (at5 y0 p < 0)) ?_ (fun q => ?_) fun q => ?_
      · simp only [evE_cmp, evE_idx, evE_var, evE_cst, getV_zero, getV_succ, Rs.ok_bind]
        rw [at_idx (by omega)]
        simp only [Rs.ok_bind, cmp_lt]
      · have q := of_decide_eq_true q
        refine o_asg (κ' := [.arg, .shr, .own, .shr, .shr, .shr]) (d := eI (negR y0)) ?_ rfl rfl rfl rfl ?_
        · simp only [evE_comp, evS_seq, evE_var, getV_zero, getV_succ, Rs.ok_bind, items_l]
          rw [mapC_ok (h := fun x => .int (0 - x))]
          · simp only [Rs.ok_bind, List.length_map]
            rw [size_ok (by omega)]
            simp [negR]
          · intro x _
            simp [bindT, evC_nil]
        dsimp only [List.set]
        refine o_sti (κ1 := [.arg, .shr, .shr, .shr, .shr, .shr]) (j := p) (m := (p : Nat)) (d := eI (negR y0)) (xs := ss.map oD) rfl rfl rfl rfl rfl (ix5 led.five hp5) (o_nil (thenP_nx ?_))
        dsimp only [List.set]
        have es : (Dat.lst ((ss.map oD).set p (eI (negR y0)))) = eS (ss.set p (some (negR y0))) := eS_set _ _ _
        rw [es]
        refine tail _ _ _ _ (mk _ _ (Same5.neg led hp5 hst) (fun j hj => by rw [stp_set led.five hp5, if_neg hj]) (by rw [stp_set led.five hp5, if_pos rfl]) (by rw [at_neg]; omega) ⟨fun j hj => by rw [at_neg, Int.natAbs_neg]; exact y0m.1 j hj, fun j => by rw [at_neg, Int.natAbs_neg]; exact y0m.2 j⟩)
      · have q := of_decide_eq_false q
        have := led.lead p y0 hst
        exact tail _ _ _ _ (mk _ _ (Same5.refl led) (fun j hj => rfl) hst (by omega) y0m)
  · rintro κ ρ ⟨p, ss, o1, o2, o3, o4, o5, hx, hp, rfl, B, rfl⟩
    cases p with
    | succ q => cases hx
    | zero => exact forP_nx (κ1 := [.arg, .shr, .shr, .shr, .shr, .shr]) rfl (o_nil ⟨rfl, eS ss, ⟨ss, B, rfl⟩, by rw [getV_zero]⟩)
end
end PV

/-! PV, part f: the table of commas -/
namespace PV
open PySem PySem.Spec PyProof.Rows L2
def ext (cs : List (List Int)) (i : Nat) : List Int := cs.getD i [] ++ (List.replicate cs.length (0 : Int)).set i 1
/-- commas: rows of five, none beyond M -/
def Coms (M : Nat) (cs : List (List Int)) : Prop := cs.length ≤ 6 ∧ ∀ c ∈ cs, c.length = 5 ∧ ∀ x ∈ c, x.natAbs ≤ M
theorem getD_memL {cs : List (List Int)} {i : Nat} (h : i < cs.length) : cs.getD i [] ∈ cs ∧ cs[i]? = some (cs.getD i []) := by
  rw [List.getD_eq_getElem?_getD, List.getElem?_eq_getElem h]
  exact ⟨List.getElem_mem h, rfl⟩
theorem ext_len {M : Nat} {cs : List (List Int)} (h : Coms M cs) {i : Nat} (hi : i < cs.length) : (ext cs i).length = 5 + cs.length := by
  unfold ext
  rw [List.length_append, List.length_set, List.length_replicate, (h.2 _ (getD_memL hi).1).1]
theorem at_app {a c : List Int} {j : Nat} (h : j < a.length) : at5 (a ++ c) j = at5 a j := by
  unfold at5
  rw [List.getD_eq_getElem?_getD, List.getD_eq_getElem?_getD, List.getElem?_append_left h]
theorem at_mem {M : Nat} {c : List Int} (h : ∀ x ∈ c, x.natAbs ≤ M) (j : Nat) : (at5 c j).natAbs ≤ M := by
  unfold at5
  rw [List.getD_eq_getElem?_getD]
  by_cases hj : j < c.length
  · rw [List.getElem?_eq_getElem hj]
    exact h _ (List.getElem_mem hj)
  · rw [List.getElem?_eq_none (by omega)]
    exact Nat.zero_le _
theorem ext_le {M : Nat} {cs : List (List Int)} (h : Coms M cs) {i : Nat} (hi : i < cs.length) : (∀ j, j < 5 → (at5 (ext cs i) j).natAbs ≤ M) ∧ ∀ j, (at5 (ext cs i) j).natAbs ≤ M + 1 := by
  obtain ⟨l, b⟩ := h.2 _ (getD_memL hi).1
  refine ⟨fun j hj => ?_, at_mem fun x hx => ?_⟩
  · unfold ext
    rw [at_app (by omega)]
    exact at_mem b j
  · rcases List.mem_append.mp hx with hx | hx
    · have := b x hx
      omega
    · rcases List.mem_or_eq_of_mem_set hx with hx | rfl
      · rw [(List.mem_replicate.mp hx).2]
        exact Nat.zero_le _
      · exact Nat.succ_le_succ (Nat.zero_le _)
def Zer (L : Nat) (Q : List Int → Prop) : Prop := ∀ z, z.length = L → (∀ i, i < 5 → at5 z i = 0) → Q z
structure Tab (b : Nat) (cs : List (List Int)) (k : Nat) (ss : Stps) (w : Nat) : Prop where
  led : Led (5 + cs.length) ss
  red : Red ss
  sys : Sys b ss
  fwd : ∀ Q, Lin (5 + cs.length) Q → (∀ i, i < k → Q (ext cs i)) → AllR ss Q
  bwd : ∀ Q, Lin (5 + cs.length) Q → Zer (5 + cs.length) Q → AllR ss Q → ∀ i, i < k → Q (ext cs i)
  wb : ∀ j, AllR ss fun r => (at5 r j).natAbs ≤ 2 ^ w
def no5 : Stps := [none, none, none, none, none]
theorem stp_no5 (j : Nat) : stp no5 j = none := by
  unfold stp no5
  match j with
  | 0 => rfl
  | 1 => rfl
  | 2 => rfl
  | 3 => rfl
  | 4 => rfl
  | _ + 5 => rfl
theorem tab_start (b : Nat) (cs : List (List Int)) (w : Nat) : Tab b cs 0 no5 w := by
  have no : ∀ {j r}, stp no5 j = some r → False := fun {j r} e => by rw [stp_no5] at e; cases e
  refine ⟨⟨rfl, fun j r e => (no e).elim, fun j r e => (no e).elim, fun j r e => (no e).elim⟩, ⟨fun j r e => (no e).elim, fun p q x y _ e => (no e).elim⟩, ?_, fun Q _ _ j r e => (no e).elim, fun Q _ _ _ i hi => by omega, fun j k r e => (no e).elim⟩
  refine ⟨1, by decide, by show 1 ≤ 2 ^ _; exact Nat.one_le_two_pow, by decide, fun j i => if i = j then 1 else 0, fun j hj _ => ⟨if_pos rfl, fun i hi => if_neg (by omega), fun i _ hne _ => if_neg hne, fun k r e => (no e).elim, fun i _ => ?_⟩⟩
  refine Nat.le_trans ?_ Nat.one_le_two_pow
  show (if i = j then (1 : Int) else 0).natAbs ≤ 1
  split <;> decide
/-- the places where rows stand, from the left; the rows -/
def leadsOf (ss : Stps) : List Nat := (down 5).filter fun j => (stp ss j).isSome
def rowAt (ss : Stps) (j : Nat) : List Int := (stp ss j).getD []
def longsOf (ss : Stps) : List (List Int) := (leadsOf ss).map (rowAt ss)
theorem leads_mem {ss : Stps} {j : Nat} (h : j ∈ leadsOf ss) : j < 5 ∧ stp ss j = some (rowAt ss j) := by
  obtain ⟨h1, h2⟩ := List.mem_filter.mp h
  have h1 : j ∈ [4, 3, 2, 1, 0] := h1
  obtain ⟨r, hr⟩ := Option.isSome_iff_exists.mp h2
  unfold rowAt
  rw [hr]
  simp only [List.mem_cons, List.not_mem_nil, or_false] at h1
  exact ⟨by omega, rfl⟩
theorem mem_leads {ss : Stps} {j : Nat} {r : List Int} (hj : j < 5) (h : stp ss j = some r) : j ∈ leadsOf ss ∧ rowAt ss j = r := by
  refine ⟨List.mem_filter.mpr ⟨?_, by rw [h]; rfl⟩, by unfold rowAt; rw [h]; rfl⟩
  show j ∈ [4, 3, 2, 1, 0]
  simp only [List.mem_cons, List.not_mem_nil, or_false]
  omega
theorem leads_down (ss : Stps) : (leadsOf ss).Pairwise (· > ·) := List.Pairwise.filter _ (show ([4, 3, 2, 1, 0] : List Nat).Pairwise (· > ·) by decide)
theorem leads_len (ss : Stps) : (leadsOf ss).length ≤ 5 := List.length_filter_le _ _
theorem stp_lt {L : Nat} {ss : Stps} (h : Led L ss) {j : Nat} {r : List Int} (e : stp ss j = some r) : j < 5 := by
  apply Nat.lt_of_not_le
  intro c
  unfold stp at e
  rw [List.getD_eq_getElem?_getD, List.getElem?_eq_none (by rw [h.five]; exact c)] at e
  cases e
theorem long_mem {ss : Stps} {x : List Int} (h : x ∈ longsOf ss) : ∃ j, j < 5 ∧ stp ss j = some x := by
  obtain ⟨j, hj, rfl⟩ := List.mem_map.mp h
  exact ⟨j, leads_mem hj⟩
/-- the table's rows -/
def tabR (ss : Stps) : List (List Int) := (longsOf ss).map (·.take 5)
section
variable {fns : List FnD} {gl : Nat → Dat} {f fl fp fd fr n : Nat}
def BLong (fp fd : Nat) : List Sm := [.ite (.cmp .gt (.bi .len [.var 0]) (.cst (.int 6))) [.rse 0] [],
    .asg 1 (.lst [.cst .non, .cst .non, .cst .non, .cst .non, .cst .non]),
    .fr (.nm 2) (.rng [.bi .len [.var 0]]) [.asg 3 (.comp (.cst (.int 0)) (.nm 5) (.seq (.var 0)) []), .sti 3 (.var 2) (.cst (.int 1)), .cio fp 1 [.bin .add (.bi .list [.idx (.var 0) (.var 2)]) (.var 3)], .cio fd 1 []],
    .ret (.comp (.idx (.var 1) (.var 4)) (.nm 4) (.seq (.lst [.cst (.int 4), .cst (.int 3), .cst (.int 2), .cst (.int 1), .cst (.int 0)])) [.isn true (.idx (.var 1) (.var 4))])]
def WB (k : Nat) : Nat := 6000 + 6500000 * k
theorem long_call (h : Has fns f 1 6 (BLong fp fd) .own) (hp : Has fns fp 2 4 (BPutIn fl) .io) (hd : Has fns fd 1 6 (BDown fl) .io) (hl : Has fns fl 3 5 BLess .own) {b M : Nat} {cs : List (List Int)} (hc : Coms M cs) (hb : b ≤ 88) (hM : 10 * M ≤ 2 ^ b) :
    ∃ ss, Tab b cs cs.length ss (WB 6) ∧ callF fns gl (n + 3) f [eLT cs] = .ok (.lst ((longsOf ss).map eI)) := by
  have hsz : szN b 5 ≤ 2728 := by
    unfold szN
    have : (2 ^ 5 - 1) * b = 31 * b := rfl
    omega
  have M2 : M + 1 ≤ 2 ^ 5459 := by
    have h1 : M + 1 ≤ 2 ^ 89 := by
      have : 2 ^ b ≤ 2 ^ 88 := Nat.pow_le_pow_right (by decide) hb
      have e : (2 : Nat) ^ 89 = 2 * 2 ^ 88 := by decide
      have : 1 ≤ 2 ^ 88 := Nat.one_le_two_pow
      omega
    exact Nat.le_trans h1 (Nat.pow_le_pow_right (by decide) (by decide))
  suffices q : Out (exSs (callF fns gl (n + 2)) gl (rfs fns) (BLong fp fd) [.shr, .shr, .shr, .shr, .shr, .shr] [some (eLT cs), none, none, none, none, none]) (retE 3 fun d => ∃ ss, Tab b cs cs.length ss (WB 6) ∧ d = .lst ((longsOf ss).map eI)) by
    obtain ⟨d, ⟨ss, q1, rfl⟩, q2⟩ := h.ownE (gl := gl) (n := n + 2) (ds := [eLT cs]) rfl q
    exact ⟨ss, q1, q2⟩
  have l6 := hc.1
  refine o_ifF ?_ ?_
  · simp only [evE_cmp, evE_bi, evL_cons, evL_nil, evE_var, evE_cst, getV_zero, Rs.ok_bind, bi_lenl, List.length_map, cmp_gt]
    rw [decide_eq_false (by omega)]
  refine o_asg (κ' := [.shr, .own, .shr, .shr, .shr, .shr]) (d := eS no5) rfl rfl rfl rfl rfl ?_
  dsimp only [List.set]
  refine o_fr (κ1 := [.shr, .own, .shr, .shr, .shr, .shr]) (ds := (List.range cs.length).map fun i => Dat.int (i : Nat)) rfl rfl ?_ ?_
  · simp only [evS_rng, evE_bi, evL_cons, evL_nil, evE_var, getV_zero, Rs.ok_bind, bi_lenl, List.length_map]
    exact rng1 (by omega)
  refine for_inv (fun i : Nat => Dat.int (i : Nat)) (fun xs κ ρ => ∃ (k : Nat) (k3 : SK) (ss : Stps) (o2 o3 : Option Dat), k + xs.length = cs.length ∧ xs = List.range' k xs.length ∧ (k3 = .shr ∨ k3 = .own) ∧ κ = [.shr, .own, .shr, k3, .shr, .shr] ∧ Tab b cs k ss (WB k) ∧ ρ = [some (eLT cs), some (eS ss), o2, o3, none, none]) ?_ ?_ (List.range cs.length) _ _ ⟨0, .shr, no5, none, none, by rw [List.length_range]; omega, by rw [List.length_range, List.range_eq_range'], .inl rfl, rfl, tab_start b cs _, rfl⟩
  · rintro k xs κ ρ ⟨k', k3, ss, o2, o3, hlen, hxs, hk3, rfl, T, rfl⟩
    rw [List.length_cons] at hlen hxs
    have hxs : k :: xs = k' :: List.range' (k' + 1) xs.length := hxs
    injection hxs with e1 e2
    subst e1
    have kl : k < cs.length := by omega
    have cm := getD_memL kl
    have el := ext_len hc kl
    obtain ⟨eb1, eb2⟩ := ext_le hc kl
    have wk : WB k ≤ WB 5 := by unfold WB; omega
    have W5 : WB 5 = 32506000 := rfl
    have w0 : 6000 ≤ WB k := by unfold WB; omega
    obtain ⟨s1, A, c1⟩ := putIn_call (gl := gl) (n := n) hp hl (L := 5 + cs.length) (b := b) (w := WB k) (ss0 := ss) (v := ext cs k) (by omega) (by omega) T.led el T.sys hsz (by omega) (by omega)
      (fun j hj p r e => pow_up (T.red.le T.led T.sys j hj p r e) (by omega)) (fun j => ⟨pow_up (Nat.le_trans (eb2 j) M2) (by omega), T.wb j⟩) hM (by omega) eb1
    have w1 : wB (WB k) 0 = WB k + 1000000 := rfl
    obtain ⟨s2, B, c2⟩ := down_call (gl := gl) (n := n) hd hl (L := 5 + cs.length) (b := b) (w := wB (WB k) 0) (a := s1) (by omega) (by omega) A.led (A.sys T.sys) hsz (by omega) (by omega) (fun j hj => A.mb j hj) A.wb
    have w2 : wd (wB (WB k) 0) 0 = WB (k + 1) := by unfold wd wB WB; omega
    have T2 : Tab b cs (k + 1) s2 (WB (k + 1)) := by
      refine ⟨B.same.led, ⟨fun j r e => B.pos j r (Nat.zero_le _) e, fun p q x y hpq e1 e2 => B.red p q x y (Nat.zero_le _) hpq e1 e2⟩, B.same.sys (A.sys T.sys), fun Q hQ hq => ?_, fun Q hQ hz hq i hi => ?_, fun j => ?_⟩
      · exact B.same.fwd Q hQ (A.fwd Q hQ (T.fwd Q hQ fun i hi => hq i (by omega)) (hq k (by omega)))
      · obtain ⟨a1, a2⟩ := A.bwd Q hQ hz (B.same.bwd Q hQ hq)
        by_cases c : i = k
        · rw [c]; exact a1
        · exact T.bwd Q hQ hz a2 i (by omega)
      · rw [← w2]
        exact B.wb j
    refine ⟨[some (eLT cs), some (eS ss), some (.int (k : Nat)), o3, none, none], rfl, ?_⟩
    show Out (exSs _ _ _ _ [.shr, .own, .shr, k3, .shr, .shr] _) _
    refine o_asg (κ1 := [.shr, .own, .shr, k3, .shr, .shr]) (κ' := [.shr, .own, .shr, .own, .shr, .shr]) (d := eI (List.replicate cs.length 0)) ?_ rfl rfl rfl rfl ?_
    · simp only [evE_comp, evS_seq, evE_var, getV_zero, Rs.ok_bind, items_l]
      rw [mapC_ok (h := fun _ => .int 0)]
      · simp only [Rs.ok_bind, List.length_map]
        rw [size_ok (by omega)]
        simp [List.map_const']
      · intro x _
        simp [bindT, evC_nil]
    dsimp only [List.set]
    refine o_sti (κ1 := [.shr, .own, .shr, .own, .shr, .shr]) (j := k) (m := (k : Nat)) (d := .int 1) (xs := (List.replicate cs.length (0 : Int)).map Dat.int) rfl rfl rfl rfl rfl ?_ ?_
    · rw [List.length_map, List.length_replicate]
      unfold ixN
      simp
      omega
    dsimp only [List.set]
    rw [show ((List.replicate cs.length (0 : Int)).map Dat.int).set k (.int 1) = ((List.replicate cs.length (0 : Int)).set k 1).map Dat.int by rw [List.map_set]]
    refine o_cio (κ1 := [.shr, .own, .shr, .own, .shr, .shr]) (d0 := eS ss) (ds := [eI (ext cs k)]) (d1 := eS s1) rfl rfl rfl ?_ c1 ?_
    · simp only [evL_cons, evL_nil, evE_bin, evE_bi, evE_idx, evE_var, getV_zero, getV_succ, Rs.ok_bind]
      rw [eT_get cm.2]
      simp only [Rs.ok_bind, bi_list]
      rw [add_ll (by rw [List.length_map, List.length_map, List.length_set, List.length_replicate, (hc.2 _ cm.1).1]; omega)]
      simp only [Rs.ok_bind]
      congr 2
      show Dat.lst _ = Dat.lst ((ext cs k).map Dat.int)
      unfold ext
      rw [List.map_append]
    dsimp only [List.set]
    refine o_cio (κ1 := [.shr, .own, .shr, .own, .shr, .shr]) (d0 := eS s1) (ds := []) (d1 := eS s2) rfl rfl rfl rfl c2 ?_
    dsimp only [List.set]
    exact o_nil ⟨k + 1, .own, s2, _, _, by omega, e2, .inr rfl, rfl, T2, rfl⟩
  · rintro κ ρ ⟨k, k3, ss, o2, o3, hlen, hxs, hk3, rfl, T, rfl⟩
    rw [List.length_nil, Nat.add_zero] at hlen
    subst hlen
    refine forP_nx (κ1 := [.shr, .own, .shr, k3, .shr, .shr]) rfl ?_
    refine o_ret (d := .lst ((longsOf ss).map eI)) rfl ?_ rfl (q_retE rfl ⟨ss, ⟨T.led, T.red, T.sys, T.fwd, T.bwd, fun j p r e => pow_up (T.wb j p r e) (by unfold WB; omega)⟩, rfl⟩)
    have hs : evS (callF fns gl (n + 2)) gl (.seq (.lst [.cst (.int 4), .cst (.int 3), .cst (.int 2), .cst (.int 1), .cst (.int 0)])) [some (eLT cs), some (eS ss), o2, o3, none, none] = .ok ((down 5).map fun i => Dat.int (i : Nat)) := rfl
    rw [evE_comp, hs]
    simp only [Rs.ok_bind]
    rw [mapC_filter (p := fun j => (stp ss j).isSome) (h := fun j => oD (stp ss j))]
    · have e : ((down 5).filter fun j => (stp ss j).isSome).map (fun j => oD (stp ss j)) = (longsOf ss).map eI := by
        unfold longsOf
        rw [List.map_map]
        refine List.map_congr_left fun j hj => ?_
        rw [(leads_mem hj).2]
        rfl
      simp only [Rs.ok_bind]
      rw [e, size_ok (by rw [List.length_map]; unfold longsOf; rw [List.length_map]; have := leads_len ss; omega)]
      rfl
    · intro j hj
      have hj : j ∈ [4, 3, 2, 1, 0] := hj
      have j5 : j < 5 := by
        simp only [List.mem_cons, List.not_mem_nil, or_false] at hj
        omega
      have g : idxD (eS ss) (.int (j : Nat)) = .ok (oD (stp ss j)) := stp_idx (by rw [T.led.five]; exact j5)
      simp only [bindT, List.set_cons_succ, List.set_cons_zero, Rs.ok_bind, evC_cons, evC_nil, evE_isn, evE_idx, evE_var, getV_zero, getV_succ, g, truth_bl]
      cases stp ss j with
      | none => rfl
      | some r => rfl
def BTable (f : Nat) : List Sm := [.ret (.comp (.bi .tuple [.slc (.var 1) [] [.cst (.int 5)]]) (.nm 1) (.seq (.cal f [.var 0])) [])]
theorem slc_to {r : List Int} : slcD (eI r) none (some 5) = .ok (eI (r.take 5)) := by
  show Rs.ok (Dat.lst (cutD (r.map Dat.int) none (some 5))) = _
  rw [cutL_map]
  unfold cutL
  congr 3
  rw [show (some (5 : Int)) = some ((5 : Nat) : Int) from rfl, HT.sIx_nat, HT.sIx_none, List.drop_zero, Nat.sub_zero]
  rw [← List.take_eq_take_min]
theorem table_call {rs : List (List Int)} {dd : Dat} (h : Has fns f 1 2 (BTable fr) .own) (hr : rfs fns fr = .own) (hc : callF fns gl n fr [dd] = .ok (.lst (rs.map eI))) (hl : rs.length ≤ 1000) : callF fns gl (n + 1) f [dd] = .ok (eLT (rs.map (·.take 5))) := by
  refine h.own rfl ?_
  show Out (exSs _ _ _ (BTable fr) [.shr, .shr] [some dd, none]) _
  refine o_ret (d := eLT (rs.map (·.take 5))) rfl ?_ (by simp only [flE, flS, flL, hr]; rfl) (q_ret rfl)
  simp only [evE_comp, evS_seq, evE_cal, evL_cons, evL_nil, evE_var, getV_zero, Rs.ok_bind, hc, items_l]
  rw [mapC_ok (h := fun r : List Int => eT (r.take 5))]
  · simp only [Rs.ok_bind, List.length_map]
    rw [size_ok hl]
    simp [List.map_map]
  · intro r _
    simp only [bindT, List.set_cons_succ, List.set_cons_zero, Rs.ok_bind, evC_nil, evE_bi, evE_slc, evL_cons, evL_nil, evE_var, evE_cst, getV_zero, getV_succ, partD, slc_to, bi_tupl, if_true]
def BPowers (f : Nat) : List Sm := [.ret (.comp (.slc (.var 1) [.cst (.int 5)] []) (.nm 1) (.seq (.cal f [.var 0])) [])]
theorem slc_from {r : List Int} (h : 5 ≤ r.length) : slcD (eI r) (some 5) none = .ok (eI (r.drop 5)) := by
  show Rs.ok (Dat.lst (cutD (r.map Dat.int) (some 5) none)) = _
  rw [cutL_map]
  unfold cutL
  congr 3
  rw [show (some (5 : Int)) = some ((5 : Nat) : Int) from rfl, HT.sIx_nat, HT.sIx_none, Nat.min_eq_left h]
  exact List.take_of_length_le (by rw [List.length_drop]; omega)
theorem powers_call {rs : List (List Int)} {dd : Dat} (h : Has fns f 1 2 (BPowers fr) .own) (hr : rfs fns fr = .own) (hc : callF fns gl n fr [dd] = .ok (.lst (rs.map eI))) (hl : rs.length ≤ 1000) (h5 : ∀ r ∈ rs, 5 ≤ r.length) : callF fns gl (n + 1) f [dd] = .ok (eLL (rs.map (·.drop 5))) := by
  refine h.own rfl ?_
  show Out (exSs _ _ _ (BPowers fr) [.shr, .shr] [some dd, none]) _
  refine o_ret (d := eLL (rs.map (·.drop 5))) rfl ?_ (by simp only [flE, flS, flL, hr]; rfl) (q_ret rfl)
  simp only [evE_comp, evS_seq, evE_cal, evL_cons, evL_nil, evE_var, getV_zero, Rs.ok_bind, hc, items_l]
  rw [mapC_ok (h := fun r : List Int => eI (r.drop 5))]
  · simp only [Rs.ok_bind, List.length_map]
    rw [size_ok hl]
    simp [List.map_map]
  · intro r hr2
    simp only [bindT, List.set_cons_succ, List.set_cons_zero, Rs.ok_bind, evC_nil, evE_slc, evL_cons, evL_nil, evE_var, evE_cst, getV_zero, getV_succ, partD, slc_from (h5 r hr2), if_true]
end
end PV

/-! PV, part g: commas by cells, a table by steps -/
namespace PV
open PySem PySem.Spec PyProof.Rows L2
def Lim (B : Int) (t : List Int) : Prop := t.length = 5 ∧ ∀ x ∈ t, -B ≤ x ∧ x ≤ B
theorem Lim.up {B B' : Int} {t : List Int} (h : Lim B t) (hb : B ≤ B') : Lim B' t := ⟨h.1, fun x hx => by have := h.2 x hx; omega⟩
theorem q_thE {cf : Nat → List Dat → Rs Dat} {gl : Nat → Dat} {rf : Nat → Rf} {ss : List Sm} {m fl : Nat} {d : Dat} {Q : Dat → Prop} (h : decide (m ≤ fl) = true) (hq : Q d) : thenP cf gl rf ss (retE m Q) (.rt fl d) := ⟨of_decide_eq_true h, hq⟩
section
variable {fns : List FnD} {gl : Nat → Dat} {f n : Nat}
theorem nonE {ps N : Nat} {B : List Sm} {ds : List Dat} (h : Has fns f ps N B .pur) (hl : ds.length = ps) (e : Out (exSs (callF fns gl n) gl (rfs fns) B (List.replicate N .shr) (ds.map some ++ List.replicate (N - ds.length) none)) (fun e => match e with | .nx _ _ => True | _ => False)) : callF fns gl (n + 1) f ds = .ok .non := by
  rw [h.call hl]
  have e := e.get
  generalize exSs (callF fns gl n) gl (rfs fns) B (List.replicate N .shr) (ds.map some ++ List.replicate (N - ds.length) none) = r at e ⊢
  cases r with
  | ok e' => cases e' <;> first | rfl | exact False.elim e
  | ex z => exact False.elim e
  | no => exact False.elim e
/-- a list's or a script's k-th, or 0 -/
theorem cellG_call (h : Has fns f 2 2 BCell .pur) (ns : List Int) {dd : Dat} (hdd : dd = .rol (ns.map .int) ∨ dd = eI ns) (k : Nat) : callF fns gl (n + 1) f [dd, .int (k : Nat)] = .ok (.int (cell ns k)) := by
  rcases hdd with rfl | rfl
  · exact cell_call h ns k
  · refine h.pur rfl rfl ?_
    show Out (exSs _ _ _ BCell [.shr, .shr] [some (eI ns), some (.int (k : Nat))]) _
    refine o_if (k := decide (k < ns.length)) (by simp [Int.ofNat_lt]) (fun q => ?_) fun q => ?_
    · have q := of_decide_eq_true q
      refine o_ret (d := .int (cell ns k)) rfl ?_ rfl q_ret0
      simp only [evE_idx, evE_var, getV_zero, getV_succ, Rs.ok_bind]
      exact at_idx q
    · have q := of_decide_eq_false q
      rw [cell, List.getD_eq_getElem?_getD, List.getElem?_eq_none (by omega)]
      exact o_ret (d := .int 0) rfl rfl rfl q_ret0
theorem rowAtG_call {fc fn : Nat} (h : Has fns f 3 4 (BRowAt fn fc) .pur) (hn : Has fns fn 2 2 BNum .pur) (hc : Has fns fc 2 2 BCell .pur) (ns : List Int) {dd : Dat} (hdd : dd = .rol (ns.map .int) ∨ dd = eI ns) (k : Nat) {b : Int} (hb : 0 ≤ b) : callF fns gl (n + 2) f [dd, .int (k : Nat), .int b] = .ok (eT (rowB ns k b)) := by
  have cc := fun i => cellG_call (gl := gl) (n := n) hc ns hdd (k + i)
  refine h.pur rfl (pure_eT _) ?_
  show Out (exSs _ _ _ (BRowAt fn fc) [.shr, .shr, .shr, .shr] [some dd, some (.int (k : Nat)), some (.int b), none]) _
  refine o_ret (d := eT (rowB ns k b)) rfl ?_ rfl q_ret0
  simp only [evE_bi, evE_comp, evS_rng, evL_cons, evL_nil, evE_cst, Rs.ok_bind]
  rw [show rngD [.int 5] = _ from rng1 (n := 5) (by decide)]
  simp only [Rs.ok_bind]
  rw [mapC_ok (h := fun i => .int (numB (cell ns (k + i)) b))]
  · simp only [Rs.ok_bind, List.length_map, List.length_range]
    rw [size_ok (by decide)]
    simp [rowB]
  · intro i _
    simp only [bindT, List.set_cons_succ, List.set_cons_zero, Rs.ok_bind, evC_nil, evE_cal, evE_bin, evL_cons, evL_nil, evE_var, evE_cst, getV_zero, getV_succ, if_true, bin_add]
    rw [← Int.natCast_add, cc]
    simp only [Rs.ok_bind, num_call hn _ hb]
def BWith : List Sm := [.ret (.bi .tuple [.comp (.bin .add (.var 3) (.bin .mul (.var 2) (.var 4))) (.tp [3, 4]) (.zip (.var 0) (.var 1)) []])]
def BComma (fc fr fw : Nat) : List Sm := [.asg 4 (.bin .mod (.cal fc [.var 0, .var 1]) (.cst (.int 8))),
    .asg 5 (.bin .fdiv (.cal fc [.var 0, .var 1]) (.cst (.int 8))),
    .asg 6 (.cal fr [.var 0, .bin .add (.var 1) (.cst (.int 1)), .var 2]),
    .ite (.cmp .eq (.var 4) (.cst (.int 4))) [.ret (.tup [.cst (.int 0), .cst (.int 0), .cst (.int 0), .cst (.int 0), .cst (.int 0)])] [],
    .ite (.and (.cmp .eq (.var 4) (.cst (.int 5))) (.cmp .gt (.bi .len [.var 3]) (.cst (.int 0)))) [.ret (.cal fw [.tup [.cst (.int 0), .cst (.int 0), .cst (.int 0), .cst (.int 0), .cst (.int 0)], .idx (.var 3) (.bin .mod (.var 5) (.bi .len [.var 3])), .bin .sub (.bin .mod (.bin .fdiv (.var 5) (.cst (.int 6))) (.cst (.int 5))) (.cst (.int 2))])] [],
    .ite (.cmp .eq (.var 4) (.cst (.int 6))) [.ret (.cal fw [.var 6, .var 6, .bin .add (.cst (.int 1)) (.bin .mod (.var 5) (.cst (.int 3)))])] [],
    .ite (.cmp .eq (.var 4) (.cst (.int 7))) [.ret (.bi .tuple [.comp (.bin .mul (.var 8) (.bi .int [.cmp .isin (.var 7) (.tup [.bin .mod (.var 5) (.cst (.int 5)), .bin .mod (.bin .fdiv (.var 5) (.cst (.int 5))) (.cst (.int 5))])])) (.tp [7, 8]) (.enm (.var 6)) []])] [],
    .ret (.var 6)]
theorem with_call (h : Has fns f 3 5 BWith .pur) {xs ys : List Int} {m : Int} (hl : xs.length ≤ 1000) (hm : m.natAbs < 2 ^ 64) : callF fns gl (n + 1) f [eT xs, eT ys, .int m] = .ok (eT (xs.zipWith (fun x y => x + m * y) ys)) := by
  refine h.pur rfl (pure_eT _) ?_
  show Out (exSs _ _ _ BWith [.shr, .shr, .shr, .shr, .shr] [some (eT xs), some (eT ys), some (.int m), none, none]) _
  refine o_ret (d := eT (xs.zipWith (fun x y => x + m * y) ys)) rfl ?_ rfl q_ret0
  simp only [evE_bi, evL_cons, evL_nil, evE_comp, evS_zip, evE_var, getV_zero, getV_succ, Rs.ok_bind, zip_tt, zip_ints]
  rw [mapC_ok (h := fun p => .int (p.1 + m * p.2))]
  · simp only [Rs.ok_bind, List.length_map, List.length_zip]
    rw [size_ok (by omega)]
    simp [List.zip_eq_zipWith, List.map_zipWith]
  · intro p _
    simp [bindT, evC_nil, bin_mul (mul_small (.inl hm))]
theorem lim_with {xs ys : List Int} {m B C : Int} (hx : Lim B xs) (hy : Lim C ys) {q : Int} (hq : 0 ≤ q) (hm : -q ≤ m ∧ m ≤ q) (hC : 0 ≤ C) : Lim (B + q * C) (xs.zipWith (fun x y => x + m * y) ys) := by
  refine ⟨by rw [List.length_zipWith, hx.1, hy.1]; rfl, fun z hz => ?_⟩
  obtain ⟨i, hi, rfl⟩ := List.getElem_of_mem hz
  rw [List.length_zipWith] at hi
  rw [List.getElem_zipWith]
  have h1 := hx.2 xs[i] (List.getElem_mem _)
  have h2 := hy.2 ys[i] (List.getElem_mem _)
  generalize xs[i] = x at *
  generalize ys[i] = y at *
  have h3 : (m * y).natAbs ≤ (q * C).natAbs := by
    rw [Int.natAbs_mul, Int.natAbs_mul]
    exact Nat.mul_le_mul (by omega) (by omega)
  have h4 : 0 ≤ q * C := Int.mul_nonneg hq hC
  show -(B + q * C) ≤ x + m * y ∧ x + m * y ≤ B + q * C
  omega
theorem comma_call {fc fr fn fw : Nat} (h : Has fns f 4 9 (BComma fc fr fw) .pur) (hc : Has fns fc 2 2 BCell .pur) (hr0 : Has fns fr 3 4 (BRowAt fn fc) .pur) (hn : Has fns fn 2 2 BNum .pur) (hw : Has fns fw 3 5 BWith .pur) (ns : List Int) {dd : Dat} (hdd : dd = .rol (ns.map .int) ∨ dd = eI ns) (k : Nat) {b : Int} (hb : 0 ≤ b ∧ b ≤ 99) {rows : List (List Int)} {B : Int} (hB : 400 ≤ B) (hr : ∀ r ∈ rows, Lim B r) (hl : rows.length ≤ 100) : ∃ r, Lim (2 * B) r ∧ callF fns gl (n + 3) f [dd, .int (k : Nat), .int b, eLT rows] = .ok (eT r) := by
  have ck := cellG_call (gl := gl) (n := n + 1) hc ns hdd k
  have rc := rowAtG_call (gl := gl) (n := n) hr0 hn hc ns hdd (k + 1) (b := b) hb.1
  obtain ⟨j, hj, ej⟩ := fmod_nat (cell ns k) 8 (by decide)
  have ej : (cell ns k).fmod 8 = (j : Nat) := ej
  have lr : Lim b (rowB ns (k + 1) b) := ⟨rowB_len, rowB_le hb.1⟩
  generalize rowB ns (k + 1) b = row at *
  have z5 : Lim 0 [0, 0, 0, 0, 0] := ⟨rfl, by decide⟩
  suffices q : Out (exSs (callF fns gl (n + 2)) gl (rfs fns) (BComma fc fr fw) [.shr, .shr, .shr, .shr, .shr, .shr, .shr, .shr, .shr] [some dd, some (.int (k : Nat)), some (.int b), some (eLT rows), none, none, none, none, none]) (retE 0 fun d => ∃ r, Lim (2 * B) r ∧ d = eT r) by
    obtain ⟨d, ⟨r, q1, rfl⟩, q3⟩ := h.purE (gl := gl) (n := n + 2) (ds := [dd, .int (k : Nat), .int b, eLT rows]) rfl (fun d ⟨r, _, e⟩ => by rw [e]; exact pure_eT _) q
    exact ⟨r, q1, q3⟩
  refine o_asg (κ' := [.shr, .shr, .shr, .shr, .shr, .shr, .shr, .shr, .shr]) (fl := 3) (d := .int (j : Nat)) ?_ rfl (by simp only [flE, hc.rf]; rfl) rfl rfl ?_
  · simp only [evE_bin, evE_cal, evL_cons, evL_nil, evE_var, evE_cst, getV_zero, getV_succ, Rs.ok_bind, ck]
    rw [bin_mod (by decide), ej]
  dsimp only [List.set]
  refine o_asg (κ' := [.shr, .shr, .shr, .shr, .shr, .shr, .shr, .shr, .shr]) (fl := 3) (d := .int ((cell ns k).fdiv 8)) ?_ rfl (by simp only [flE, hc.rf]; rfl) rfl rfl ?_
  · simp only [evE_bin, evE_cal, evL_cons, evL_nil, evE_var, evE_cst, getV_zero, getV_succ, Rs.ok_bind, ck]
    exact bin_fdiv (div_small (by decide) (by decide))
  dsimp only [List.set]
  generalize (cell ns k).fdiv 8 = t
  refine o_asgC (κ' := [.shr, .shr, .shr, .shr, .shr, .shr, .shr, .shr, .shr]) (d := eT row) hr0.rf ?_ rfl rfl ?_
  · simp only [evE_cal, evE_bin, evL_cons, evL_nil, evE_var, evE_cst, getV_zero, getV_succ, Rs.ok_bind, bin_add]
    exact rc
  dsimp only [List.set]
  refine o_if (k := decide (j = 4)) (by simp only [evE_cmp, evE_var, evE_cst, getV_zero, getV_succ, Rs.ok_bind, cmp_eqi]; rw [decide_eq_decide.mpr (show ((j : Nat) : Int) = 4 ↔ j = 4 by omega)]) (fun q => ?_) fun q4 => ?_
  · exact o_ret (d := eT [0, 0, 0, 0, 0]) rfl rfl rfl (q_thE rfl ⟨_, z5.up (by omega), rfl⟩)
  refine o_if (k := decide (j = 5) && decide (0 < rows.length)) ?_ (fun q => ?_) fun q5 => ?_
  · simp only [evE_and, evE_cmp, evE_bi, evL_cons, evL_nil, evE_var, evE_cst, getV_zero, getV_succ, Rs.ok_bind, cmp_eqi, bi_lenl, List.length_map, cmp_gt, truth_bl]
    by_cases h : j = 5
    · subst h
      simp
    · rw [decide_eq_false (show ¬ ((j : Nat) : Int) = 5 by omega), decide_eq_false h]
      rfl
  · have q : j = 5 ∧ 0 < rows.length := by simpa using q
    obtain ⟨i, hi, ei⟩ := fmod_nat t rows.length q.2
    have g : rows[i]? = some rows[i] := List.getElem?_eq_getElem hi
    have h5a := Int.fmod_nonneg_of_pos (t.fdiv 6) (b := 5) (by decide)
    have h5b := Int.fmod_lt_of_pos (t.fdiv 6) (b := 5) (by decide)
    have lw := lim_with z5 (hr _ (List.getElem_mem hi)) (m := (t.fdiv 6).fmod 5 - 2) (q := 2) (by omega) (by omega) (by omega)
    have wc := with_call (gl := gl) (n := n + 1) hw (xs := [0, 0, 0, 0, 0]) (ys := rows[i]) (m := (t.fdiv 6).fmod 5 - 2) (by decide) (by omega)
    refine o_ret (d := eT ([0, 0, 0, 0, 0].zipWith (fun x y => x + ((t.fdiv 6).fmod 5 - 2) * y) rows[i])) rfl ?_ rfl (q_thE (by simp only [flE, hw.rf]; rfl) ⟨_, lw.up (by omega), rfl⟩)
    simp only [evE_cal, evE_tup, evE_idx, evE_bin, evE_bi, evL_cons, evL_nil, evE_var, evE_cst, getV_zero, getV_succ, Rs.ok_bind, bi_lenl, List.length_map]
    rw [bin_mod (by omega), ei, bin_fdiv (div_small (by decide) (by decide))]
    simp only [Rs.ok_bind]
    rw [bin_mod (by decide), eT_get g]
    simp only [Rs.ok_bind, bin_sub]
    exact wc
  refine o_if (k := decide (j = 6)) (by simp only [evE_cmp, evE_var, evE_cst, getV_zero, getV_succ, Rs.ok_bind, cmp_eqi]; rw [decide_eq_decide.mpr (show ((j : Nat) : Int) = 6 ↔ j = 6 by omega)]) (fun q => ?_) fun q6 => ?_
  · have h3a := Int.fmod_nonneg_of_pos t (b := 3) (by decide)
    have h3b := Int.fmod_lt_of_pos t (b := 3) (by decide)
    have lw := lim_with lr lr (m := 1 + t.fmod 3) (q := 3) (by omega) (by omega) (by omega)
    have wc := with_call (gl := gl) (n := n + 1) hw (xs := row) (ys := row) (m := 1 + t.fmod 3) (by rw [lr.1]; decide) (by omega)
    refine o_ret (d := eT (row.zipWith (fun x y => x + (1 + t.fmod 3) * y) row)) rfl ?_ rfl (q_thE (by simp only [flE, hw.rf]; rfl) ⟨_, lw.up (by omega), rfl⟩)
    simp only [evE_cal, evE_bin, evL_cons, evL_nil, evE_var, evE_cst, getV_zero, getV_succ, Rs.ok_bind]
    rw [bin_mod (by decide)]
    simp only [Rs.ok_bind, bin_add]
    exact wc
  refine o_if (k := decide (j = 7)) (by simp only [evE_cmp, evE_var, evE_cst, getV_zero, getV_succ, Rs.ok_bind, cmp_eqi]; rw [decide_eq_decide.mpr (show ((j : Nat) : Int) = 7 ↔ j = 7 by omega)]) (fun q => ?_) fun q7 => ?_
  · let g : Int × Nat → Int := fun p => p.1 * (if [t.fmod 5, (t.fdiv 5).fmod 5].any (· == (p.2 : Int)) then 1 else 0)
    refine o_ret (d := eT (row.zipIdx.map g)) rfl ?_ rfl (q_thE rfl ⟨_, ⟨by simp [lr.1], fun x hx => ?_⟩, rfl⟩)
    · have ze : (row.map Dat.int).zipIdx.map (fun p => Dat.tup [.int (p.2 : Nat), p.1]) = row.zipIdx.map fun p => Dat.tup [.int (p.2 : Nat), .int p.1] := by
        rw [List.zipIdx_map, List.map_map]
        rfl
      simp only [evE_bi, evE_comp, evS_enm, evL_cons, evL_nil, evE_var, getV_zero, getV_succ, Rs.ok_bind, enm_t, ze]
      rw [mapC_ok (h := fun p => .int (g p))]
      · simp only [Rs.ok_bind, List.length_map, List.length_zipIdx]
        rw [size_ok (by rw [lr.1]; decide)]
        simp
      · rintro ⟨x, i⟩ _
        simp only [bindT, List.zip_cons_cons, List.zip_nil_right, List.foldl_cons, List.foldl_nil, List.length_cons, List.length_nil, if_true, List.set_cons_succ, List.set_cons_zero, Rs.ok_bind, evC_nil, evE_bin, evE_bi, evE_cmp, evE_tup, evL_cons, evL_nil, evE_var, evE_cst, getV_zero, getV_succ]
        rw [bin_mod (by decide), bin_fdiv (div_small (by decide) (by decide))]
        simp only [Rs.ok_bind]
        rw [bin_mod (by decide)]
        simp only [Rs.ok_bind]
        rw [show cmpop .isin (.int ((i : Nat) : Int)) (.tup [.int (t.fmod 5), .int ((t.fdiv 5).fmod 5)]) = _ from cmp_inT (ns := [t.fmod 5, (t.fdiv 5).fmod 5])]
        simp only [Rs.ok_bind, bi_intb]
        rw [bin_mul (mul_small (.inr (by split <;> decide)))]
        rfl
    · obtain ⟨⟨y, i⟩, hp, rfl⟩ := List.mem_map.mp hx
      have := lr.2 y (List.fst_mem_of_mem_zipIdx hp)
      show -(2 * B) ≤ y * _ ∧ y * _ ≤ 2 * B
      split
      · omega
      · omega
  · refine o_retv rfl rfl (q_retE rfl ⟨row, lr.up (by omega), rfl⟩)

def BCommas (fc fm : Nat) : List Sm := [.asg 3 (.cal fc [.var 0, .var 1]),
    .asg 4 (.cst (.int 9)),
    .ite (.cmp .eq (.bin .mod (.bin .fdiv (.var 3) (.cst (.int 7))) (.cst (.int 4))) (.cst (.int 1))) [.asg 4 (.cst (.int 99))] [],
    .asg 5 (.lst []),
    .fr (.nm 6) (.rng [.bi .min2 [.bin .mod (.var 3) (.cst (.int 7)), .var 2]]) [.app 5 (.cal fm [.var 0, .bin .add (.bin .add (.var 1) (.cst (.int 1))) (.bin .mul (.cst (.int 6)) (.var 6)), .var 4, .var 5])],
    .ret (.var 5)]
theorem commas_call {fc fr fn fw fm : Nat} (h : Has fns f 3 7 (BCommas fc fm) .own) (hm : Has fns fm 4 9 (BComma fc fr fw) .pur) (hc : Has fns fc 2 2 BCell .pur) (hr0 : Has fns fr 3 4 (BRowAt fn fc) .pur) (hn : Has fns fn 2 2 BNum .pur) (hw : Has fns fw 3 5 BWith .pur) {dd : Dat} {ns : List Int} (hdd : dd = .rol (ns.map .int) ∨ dd = eI ns) (k0 : Nat) : ∃ cs : List (List Int), Coms 25600 cs ∧ callF fns gl (n + 4) f [dd, .int (k0 : Nat), .int 6] = .ok (eLT cs) := by
  have ck := fun k => cellG_call (gl := gl) (n := n + 2) hc ns hdd k
  obtain ⟨m, hm7, em⟩ := fmod_nat (cell ns k0) 7 (by decide)
  have em : (cell ns k0).fmod 7 = (m : Nat) := em
  have toC : ∀ cs : List (List Int), cs.length ≤ 6 → (∀ c ∈ cs, Lim (400 * 2 ^ 6) c) → Coms 25600 cs := fun cs h1 h2 => ⟨h1, fun c hc => ⟨(h2 c hc).1, fun x hx => by
    have e : (400 * 2 ^ 6 : Int) = 25600 := by decide
    have := (h2 c hc).2 x hx
    omega⟩⟩
  suffices q : Out (exSs (callF fns gl (n + 3)) gl (rfs fns) (BCommas fc fm) [.shr, .shr, .shr, .shr, .shr, .shr, .shr] [some dd, some (.int (k0 : Nat)), some (.int 6), none, none, none, none]) (retE 3 fun d => ∃ cs : List (List Int), Coms 25600 cs ∧ d = eLT cs) by
    obtain ⟨d, ⟨cs, q1, rfl⟩, q3⟩ := h.ownE (gl := gl) (n := n + 3) (ds := [dd, .int (k0 : Nat), .int 6]) rfl q
    exact ⟨cs, q1, q3⟩
  refine o_asgC (κ' := [.shr, .shr, .shr, .shr, .shr, .shr, .shr]) (d := .int (cell ns k0)) hc.rf (by simp only [evE_cal, evL_cons, evL_nil, evE_var, getV_zero, getV_succ, Rs.ok_bind, ck]) rfl rfl ?_
  dsimp only [List.set]
  refine o_asg (κ' := [.shr, .shr, .shr, .shr, .shr, .shr, .shr]) (d := .int 9) rfl rfl rfl rfl rfl ?_
  dsimp only [List.set]
  have tail : ∀ b : Int, 0 ≤ b → b ≤ 99 → Out (exSs (callF fns gl (n + 3)) gl (rfs fns) ((BCommas fc fm).drop 3) [.shr, .shr, .shr, .shr, .shr, .shr, .shr] [some dd, some (.int (k0 : Nat)), some (.int 6), some (.int (cell ns k0)), some (.int b), none, none]) (retE 3 fun d => ∃ cs : List (List Int), Coms 25600 cs ∧ d = eLT cs) := by
    intro b hb0 hb
    refine o_asg (κ' := [.shr, .shr, .shr, .shr, .shr, .own, .shr]) (d := .lst []) (by simp) rfl rfl rfl rfl ?_
    dsimp only [List.set]
    refine o_fr (κ1 := [.shr, .shr, .shr, .shr, .shr, .own, .shr]) (ds := (List.range m).map fun i => Dat.int (i : Nat)) rfl rfl ?_ ?_
    · simp only [evS_rng, evE_bi, evE_bin, evL_cons, evL_nil, evE_var, evE_cst, getV_zero, getV_succ, Rs.ok_bind]
      rw [bin_mod (by decide), em]
      simp only [Rs.ok_bind, bi_min]
      rw [if_neg (by omega)]
      exact rng1 (by omega)
    refine for_inv (fun i : Nat => Dat.int (i : Nat)) (fun is κ ρ => κ = [.shr, .shr, .shr, .shr, .shr, .own, .shr] ∧ ∃ (j : Nat) (rows : List (List Int)) (o6 : Option Dat), j + is.length = m ∧ is = List.range' j is.length ∧ rows.length = j ∧ (∀ r ∈ rows, Lim (400 * 2 ^ j) r) ∧ ρ = [some dd, some (.int (k0 : Nat)), some (.int 6), some (.int (cell ns k0)), some (.int b), some (eLT rows), o6]) ?_ ?_ (List.range m) _ _ ⟨rfl, 0, [], none, by simp, by rw [List.length_range, List.range_eq_range'], rfl, fun r hr => (by cases hr), rfl⟩
    · rintro k is κ ρ ⟨rfl, j, rows, o6, hj, his, hrl, hr, rfl⟩
      rw [List.length_cons] at hj his
      have his : k :: is = j :: List.range' (j + 1) is.length := his
      injection his with e1 e2
      subst e1
      have pw : (400 : Int) ≤ 400 * 2 ^ k := by
        have : k = 0 ∨ k = 1 ∨ k = 2 ∨ k = 3 ∨ k = 4 ∨ k = 5 := by omega
        rcases this with rfl | rfl | rfl | rfl | rfl | rfl <;> decide
      have pw2 : (400 * 2 ^ (k + 1) : Int) = 2 * (400 * 2 ^ k) := by rw [Int.pow_succ]; omega
      obtain ⟨r, lr, cc⟩ := comma_call (gl := gl) (n := n) hm hc hr0 hn hw ns hdd (k0 + 1 + 6 * k) ⟨hb0, hb⟩ pw hr (by omega)
      rw [← pw2] at lr
      have m6 : binop .mul (.int 6) (.int (k : Nat)) = .ok (.int (6 * (k : Int))) := bin_mul (mul_small (.inl (by decide)))
      refine ⟨[some dd, some (.int (k0 : Nat)), some (.int 6), some (.int (cell ns k0)), some (.int b), some (eLT rows), some (.int (k : Nat))], rfl, ?_⟩
      refine o_app (κ1 := [.shr, .shr, .shr, .shr, .shr, .own, .shr]) (d := eT r) (xs := rows.map eT) (by simp only [leak, hm.rf]; rfl) (by simp only [flE, hm.rf]; rfl) rfl ?_ (by rw [List.length_map]; exact small1000 (by omega)) ?_
      · simp only [evE_cal, evE_bin, evL_cons, evL_nil, evE_var, evE_cst, getV_zero, getV_succ, Rs.ok_bind, m6, bin_add]
        rw [show (k0 : Int) + 1 + 6 * (k : Int) = ((k0 + 1 + 6 * k : Nat) : Int) by omega]
        exact cc
      dsimp only [List.set]
      refine o_nil ⟨rfl, k + 1, rows ++ [r], some (.int (k : Nat)), by omega, e2, by simp [hrl], fun z hz => ?_, by simp⟩
      rcases List.mem_append.mp hz with hz | hz
      · exact (hr z hz).up (by rw [pw2]; omega)
      · rw [List.mem_singleton.mp hz]; exact lr
    · rintro κ ρ ⟨rfl, j, rows, o6, hj, his, hrl, hr, rfl⟩
      rw [List.length_nil, Nat.add_zero] at hj
      have up6 : ∀ j, j ≤ 6 → (400 * 2 ^ j : Int) ≤ 400 * 2 ^ 6 := by decide
      exact forP_nx (κ1 := [.shr, .shr, .shr, .shr, .shr, .own, .shr]) rfl (o_retv rfl rfl (q_retE rfl ⟨rows, toC rows (by omega) fun c hc => (hr c hc).up (up6 j (by omega)), rfl⟩))
  refine o_if (k := decide (((cell ns k0).fdiv 7).fmod 4 = 1)) ?_ (fun q => ?_) fun q => tail 9 (by decide) (by decide)
  · simp only [evE_cmp, evE_bin, evE_var, evE_cst, getV_zero, getV_succ, Rs.ok_bind]
    rw [bin_fdiv (div_small (by decide) (by decide))]
    simp only [Rs.ok_bind]
    rw [bin_mod (by decide)]
    simp only [Rs.ok_bind, cmp_eqi]
  · refine o_asg (κ' := [.shr, .shr, .shr, .shr, .shr, .shr, .shr]) (d := .int 99) rfl rfl rfl rfl rfl (o_nil (thenP_nx ?_))
    dsimp only [List.set]
    exact tail 99 (by decide) (by decide)
/-! ### leads, steps -/
def BLead : List Sm := [.asg 1 (.cst (.int 4)),
    .whl (.and (.cmp .ge (.var 1) (.cst (.int 0))) (.cmp .eq (.idx (.var 0) (.var 1)) (.cst (.int 0)))) [.asg 1 (.bin .sub (.var 1) (.cst (.int 1)))],
    .ret (.var 1)]
theorem at_idxT {r : List Int} {j : Nat} (h : j < r.length) : idxD (eT r) (.int (j : Nat)) = .ok (.int (at5 r j)) := by
  refine idx_tup ?_
  unfold at5
  rw [List.getElem?_map, List.getD_eq_getElem?_getD, List.getElem?_eq_getElem h]
  rfl
theorem lead_call (h : Has fns f 1 2 BLead .pur) {row : List Int} {dd : Dat} (hdd : dd = eT row ∨ dd = eI row) (hl : 5 ≤ row.length) {j : Nat} (hj : j < 5) (h0 : at5 row j ≠ 0) (hz : ∀ i, j < i → i < 5 → at5 row i = 0) : callF fns gl (n + 1) f [dd] = .ok (.int (j : Nat)) := by
  have ix : ∀ i, i < 5 → idxD dd (.int (i : Nat)) = .ok (.int (at5 row i)) := fun i hi => by
    rcases hdd with rfl | rfl
    · exact at_idxT (by omega)
    · exact at_idx (by omega)
  clear hdd
  refine h.pur rfl rfl ?_
  show Out (exSs _ _ _ BLead [.shr, .shr] [some dd, none]) _
  refine o_asg (κ' := [.shr, .shr]) (d := .int ((4 : Nat) : Int)) rfl rfl rfl rfl rfl ?_
  dsimp only [List.set]
  refine o_whl (fun m κ ρ => κ = [.shr, .shr] ∧ ∃ i : Nat, i = m ∧ j ≤ i ∧ i < 5 ∧ ρ = [some dd, some (.int (i : Nat))]) (m := 4) (lt_fuel (k := 20) (by decide) (by decide)) ⟨rfl, 4, rfl, by omega, by decide, rfl⟩ ?_
  rintro m κ ρ ⟨rfl, i, rfl, hji, hi, rfl⟩
  have ec : evE (callF fns gl n) gl (.and (.cmp .ge (.var 1) (.cst (.int 0))) (.cmp .eq (.idx (.var 0) (.var 1)) (.cst (.int 0)))) [some dd, some (.int (i : Nat))] = .ok (.bl (decide (at5 row i = 0))) := by
    simp only [evE_and, evE_cmp, evE_idx, evE_var, evE_cst, getV_zero, getV_succ, Rs.ok_bind, cmp_ge, truth_bl]
    rw [decide_eq_true (show (0 : Int) ≤ (i : Nat) by omega)]
    simp only [if_true, ix i hi, Rs.ok_bind, cmp_eqi, truth_bl]
  by_cases c : i = j
  · subst c
    exact .inl ⟨by rw [ec, decide_eq_false h0], o_retv rfl rfl q_ret0⟩
  · refine .inr ⟨by rw [ec, decide_eq_true (hz i (by omega) hi)], ?_⟩
    refine o_asg (κ' := [.shr, .shr]) (d := .int ((i - 1 : Nat) : Int)) ?_ rfl rfl rfl rfl ?_
    · simp only [evE_bin, evE_var, evE_cst, getV_zero, getV_succ, Rs.ok_bind, bin_sub]
      rw [show ((i : Nat) : Int) - 1 = ((i - 1 : Nat) : Int) by omega]
    dsimp only [List.set]
    exact o_nil ⟨i - 1, by omega, rfl, i - 1, rfl, by omega, by omega, rfl⟩
def BIsRow2 (fw : Nat) : List Sm := [.ret (.and (.isi (.var 0) [.tuple]) (.and (.cmp .eq (.bi .len [.var 0]) (.cst (.int 5))) (.bi .all [.comp (.cal fw [.var 1]) (.nm 1) (.seq (.var 0)) []])))]
theorem all_true {α : Type} (xs : List α) : doBi .all [.lst (xs.map fun _ => Dat.bl true)] = .ok (.bl true) := by
  have := bi_all (ns := xs.map fun _ => true)
  rw [List.map_map] at this
  rw [show (xs.map fun _ => Dat.bl true) = xs.map (Dat.bl ∘ fun _ => true) from rfl, this]
  simp
theorem isRow2_call {fw : Nat} (h : Has fns f 1 2 (BIsRow2 fw) .pur) (hw : Has fns fw 1 1 BWhole .pur) {xs : List Int} (hl : xs.length = 5) : callF fns gl (n + 2) f [eT xs] = .ok (.bl true) := by
  refine h.pur rfl rfl ?_
  show Out (exSs _ _ _ (BIsRow2 fw) [.shr, .shr] [some (eT xs), none]) _
  refine o_ret (d := .bl true) rfl ?_ rfl q_ret0
  simp only [evE_and, evE_isi, evE_cmp, evE_bi, evE_comp, evS_seq, evL_cons, evL_nil, evE_var, evE_cst, getV_zero, Rs.ok_bind, items_t, ty_tt, truth_bl, if_true, bi_lent, List.length_map, cmp_eqi]
  rw [decide_eq_true (show (xs.length : Int) = 5 by omega), mapC_ok (h := fun _ => .bl true)]
  · simp only [if_true, Rs.ok_bind, List.length_map]
    rw [size_ok (by omega)]
    simp only [if_true, Rs.ok_bind, all_true, truth_bl]
  · intro x _
    simp [bindT, evC_nil, whole_call hw]
def BAreRows (fi : Nat) : List Sm := [.ret (.and (.isi (.var 0) [.list]) (.bi .all [.comp (.cal fi [.var 1]) (.nm 1) (.seq (.var 0)) []]))]
theorem areRows_call {fi fw : Nat} (h : Has fns f 1 2 (BAreRows fi) .pur) (hi : Has fns fi 1 2 (BIsRow2 fw) .pur) (hw : Has fns fw 1 1 BWhole .pur) {xs : List (List Int)} (hl : ∀ x ∈ xs, x.length = 5) (hn : xs.length ≤ 1000) : callF fns gl (n + 3) f [eLT xs] = .ok (.bl true) := by
  refine h.pur rfl rfl ?_
  show Out (exSs _ _ _ (BAreRows fi) [.shr, .shr] [some (eLT xs), none]) _
  refine o_ret (d := .bl true) rfl ?_ rfl q_ret0
  simp only [evE_and, evE_isi, evE_bi, evE_comp, evS_seq, evL_cons, evL_nil, evE_var, evE_cst, getV_zero, Rs.ok_bind, items_l, ty_ll, truth_bl, if_true]
  rw [mapC_ok (h := fun _ => .bl true)]
  · simp only [Rs.ok_bind, List.length_map]
    rw [size_ok hn]
    simp only [if_true, Rs.ok_bind, all_true, truth_bl]
  · intro x hx
    have := isRow2_call (gl := gl) (n := n) hi hw (hl x hx)
    simp only [bindT, List.set_cons_succ, List.set_cons_zero, Rs.ok_bind, evC_nil, evE_cal, evL_cons, evL_nil, evE_var, getV_zero, getV_succ, if_true, this]
def BBySteps (fa fd : Nat) : List Sm := [.ite (.not (.cal fa [.var 0])) [.ret (.cst (.bl false))] [],
    .asg 1 (.cst (.int 5)),
    .fr (.tp [2, 3]) (.enm (.var 0)) [.asg 4 (.cal fd [.var 3]), .ite (.or (.cmp .lt (.var 4) (.cst (.int 0))) (.or (.cmp .ge (.var 4) (.var 1)) (.cmp .le (.idx (.var 3) (.var 4)) (.cst (.int 0))))) [.ret (.cst (.bl false))] [], .fr (.nm 5) (.seq (.slc (.var 0) [] [.var 2])) [.ite (.or (.cmp .lt (.idx (.var 5) (.var 4)) (.cst (.int 0))) (.cmp .ge (.idx (.var 5) (.var 4)) (.idx (.var 3) (.var 4)))) [.ret (.cst (.bl false))] []], .asg 1 (.var 4)],
    .ret (.cst (.bl true))]
theorem at_take {r : List Int} {j : Nat} (h : j < 5) : at5 (r.take 5) j = at5 r j := by
  unfold at5
  rw [List.getD_eq_getElem?_getD, List.getD_eq_getElem?_getD, List.getElem?_take_of_lt h]
theorem tab_len5 {L : Nat} {ss : Stps} (hl : Led L ss) (h5 : 5 ≤ L) {x : List Int} (hx : x ∈ tabR ss) : x.length = 5 := by
  obtain ⟨r, hr, rfl⟩ := List.mem_map.mp hx
  obtain ⟨j, _, e⟩ := long_mem hr
  rw [List.length_take, hl.len j r e]
  omega
theorem bySteps_call {fa fi fw fd : Nat} (h : Has fns f 1 6 (BBySteps fa fd) .pur) (ha : Has fns fa 1 2 (BAreRows fi) .pur) (hi : Has fns fi 1 2 (BIsRow2 fw) .pur) (hw : Has fns fw 1 1 BWhole .pur) (hd : Has fns fd 1 2 BLead .pur) {L : Nat} {ss : Stps} (hl : Led L ss) (h5 : 5 ≤ L) (hr : Red ss) : callF fns gl (n + 4) f [eLT (tabR ss)] = .ok (.bl true) := by
  let R : Nat → List Int := fun j => (rowAt ss j).take 5
  have eR : tabR ss = (leadsOf ss).map R := by
    unfold tabR longsOf
    rw [List.map_map]
    rfl
  have len5 : ∀ j ∈ leadsOf ss, (R j).length = 5 := fun j hj => tab_len5 hl h5 (by rw [eR]; exact List.mem_map_of_mem hj)
  have ar := areRows_call (gl := gl) (n := n) ha hi hw (xs := tabR ss) (fun x hx => tab_len5 hl h5 hx) (by rw [eR, List.length_map]; have := leads_len ss; omega)
  rw [eR] at ar ⊢
  have dn := leads_down ss
  refine h.pur rfl rfl ?_
  show Out (exSs _ _ _ (BBySteps fa fd) [.shr, .shr, .shr, .shr, .shr, .shr] [some (eLT ((leadsOf ss).map R)), none, none, none, none, none]) _
  refine o_ifF ?_ ?_
  · simp only [evE_not, evE_cal, evL_cons, evL_nil, evE_var, getV_zero, Rs.ok_bind, ar, truth_bl]
    rfl
  refine o_asg (κ' := [.shr, .shr, .shr, .shr, .shr, .shr]) (d := .int ((5 : Nat) : Int)) rfl rfl rfl rfl rfl ?_
  dsimp only [List.set]
  refine o_fr (κ1 := [.shr, .shr, .shr, .shr, .shr, .shr]) (ds := ((leadsOf ss).zipIdx).map fun p => Dat.tup [.int (p.2 : Nat), eT (R p.1)]) rfl rfl ?_ ?_
  · simp only [evS_enm, evE_var, getV_zero, Rs.ok_bind, enm_l]
    rw [List.map_map, List.zipIdx_map, List.map_map]
    rfl
  refine for_inv (fun p : Nat × Nat => Dat.tup [.int (p.2 : Nat), eT (R p.1)]) (fun xs κ ρ => κ = [.shr, .shr, .shr, .shr, .shr, .shr] ∧ ∃ (done js : List Nat) (a : Nat) (o2 o3 o4 o5 : Option Dat), leadsOf ss = done ++ js ∧ xs = js.zipIdx done.length ∧ (∀ j ∈ js, j < a) ∧ ρ = [some (eLT ((leadsOf ss).map R)), some (.int (a : Nat)), o2, o3, o4, o5]) ?_ ?_ ((leadsOf ss).zipIdx) _ _ ⟨rfl, [], leadsOf ss, 5, none, none, none, none, rfl, rfl, fun j hj => (leads_mem hj).1, rfl⟩
  · rintro ⟨j, i⟩ xs κ ρ ⟨rfl, done, js, a, o2, o3, o4, o5, e1, e2, ha2, rfl⟩
    cases js with
    | nil => cases e2
    | cons j' js =>
    rw [List.zipIdx_cons] at e2
    injection e2 with e2 e3
    injection e2 with e4 e5
    subst e4 e5
    have jm : j ∈ leadsOf ss := by rw [e1]; simp
    obtain ⟨j5, js0⟩ := leads_mem jm
    have rl := len5 j jm
    have pos := hr.pos j _ js0
    have ja := ha2 j List.mem_cons_self
    have aj : at5 (R j) j = at5 (rowAt ss j) j := at_take j5
    have lc := lead_call (gl := gl) (n := n + 2) hd (row := R j) (.inl rfl) (by omega) j5 (by rw [aj]; omega) (fun i h1 h2 => by
      show at5 ((rowAt ss j).take 5) i = 0
      rw [at_take h2]
      exact hl.zero j _ js0 i h1 h2)
    have ix : ∀ k, k ∈ leadsOf ss → idxD (eT (R k)) (.int (j : Nat)) = .ok (.int (at5 (rowAt ss k) j)) := fun k hk => by
      rw [at_idxT (by rw [len5 k hk]; exact j5)]
      congr 2
      exact at_take j5
    refine ⟨[some (eLT ((leadsOf ss).map R)), some (.int (a : Nat)), some (.int (done.length : Nat)), some (eT (R j)), o4, o5], rfl, ?_⟩
    refine o_asgC (κ' := [.shr, .shr, .shr, .shr, .shr, .shr]) (d := .int (j : Nat)) hd.rf (by simp only [evE_cal, evL_cons, evL_nil, evE_var, getV_zero, getV_succ, Rs.ok_bind, lc]) rfl rfl ?_
    dsimp only [List.set]
    refine o_ifF ?_ ?_
    · simp only [evE_or, evE_cmp, evE_idx, evE_var, evE_cst, getV_zero, getV_succ, Rs.ok_bind, cmp_lt, cmp_ge, truth_bl]
      rw [decide_eq_false (show ¬ ((j : Nat) : Int) < 0 by omega), decide_eq_false (show ¬ ((a : Nat) : Int) ≤ (j : Nat) by omega), ix j jm]
      simp only [Rs.ok_bind, cmp_le]
      rw [decide_eq_false (by omega)]
      rfl
    refine o_fr (κ1 := [.shr, .shr, .shr, .shr, .shr, .shr]) (ds := done.map fun k => eT (R k)) rfl rfl ?_ ?_
    · simp only [evS_seq, evE_slc, evL_cons, evL_nil, evE_var, getV_zero, getV_succ, Rs.ok_bind, partD]
      show (Rs.ok (Dat.lst (cutD (((leadsOf ss).map R).map eT) none (some ((done.length : Nat) : Int))))).bind itemsD = _
      simp only [Rs.ok_bind, items_l]
      rw [cutL_map, e1, List.map_append]
      unfold cutL
      rw [HT.sIx_nat, HT.sIx_none, List.drop_zero, Nat.sub_zero, List.length_append, List.length_map, Nat.min_eq_left (by omega), List.take_left' (by rw [List.length_map]), List.map_map]
      rfl
    refine for_inv (fun k : Nat => eT (R k)) (fun ks κ ρ => κ = [.shr, .shr, .shr, .shr, .shr, .shr] ∧ (∀ k ∈ ks, k ∈ done) ∧ ∃ o5, ρ = [some (eLT ((leadsOf ss).map R)), some (.int (a : Nat)), some (.int (done.length : Nat)), some (eT (R j)), some (.int (j : Nat)), o5]) ?_ ?_ done _ _ ⟨rfl, fun k hk => hk, o5, rfl⟩
    · rintro k ks κ ρ ⟨rfl, hk, o5, rfl⟩
      have kd : k ∈ done := hk k List.mem_cons_self
      have km : k ∈ leadsOf ss := by rw [e1]; exact List.mem_append_left _ kd
      have kj : j < k := by
        rw [e1] at dn
        exact (List.pairwise_append.mp dn).2.2 k kd j List.mem_cons_self
      obtain ⟨r1, r2⟩ := hr.low j k _ _ kj (leads_mem km).2 js0
      refine ⟨[some (eLT ((leadsOf ss).map R)), some (.int (a : Nat)), some (.int (done.length : Nat)), some (eT (R j)), some (.int (j : Nat)), some (eT (R k))], rfl, ?_⟩
      refine o_ifF ?_ (o_nil ⟨rfl, fun z hz => hk z (List.mem_cons_of_mem _ hz), _, rfl⟩)
      simp only [evE_or, evE_cmp, evE_idx, evE_var, evE_cst, getV_zero, getV_succ, Rs.ok_bind, ix k km, ix j jm, cmp_lt, cmp_ge, truth_bl]
      rw [decide_eq_false (by omega), decide_eq_false (by omega)]
      rfl
    · rintro κ ρ ⟨rfl, _, o5, rfl⟩
      refine forP_nx (κ1 := [.shr, .shr, .shr, .shr, .shr, .shr]) rfl ?_
      refine o_asg (κ' := [.shr, .shr, .shr, .shr, .shr, .shr]) (d := .int (j : Nat)) rfl rfl rfl rfl rfl ?_
      dsimp only [List.set]
      refine o_nil ⟨rfl, done ++ [j], js, j, _, _, _, _, by rw [e1]; simp, by rw [e3]; simp, fun k hk => ?_, rfl⟩
      rw [e1] at dn
      exact List.rel_of_pairwise_cons (List.pairwise_append.mp dn).2.1 hk
  · rintro κ ρ ⟨rfl, done, js, a, o2, o3, o4, o5, e1, e2, ha2, rfl⟩
    exact forP_nx (κ1 := [.shr, .shr, .shr, .shr, .shr, .shr]) rfl (o_ret (d := .bl true) rfl rfl rfl q_ret0)
end
end PV

/-! PV, part h: what commas make -/
namespace PV
open PySem PySem.Spec PyProof.Rows L2
def Z5 : List Int := [0, 0, 0, 0, 0]
theorem at_Z5 (j : Nat) : at5 Z5 j = 0 := by
  unfold at5 Z5
  match j with
  | 0 => rfl
  | 1 => rfl
  | 2 => rfl
  | 3 => rfl
  | 4 => rfl
  | _ + 5 => rfl
/-- a row and another one, this taken so many times -/
def withR (a b : List Int) (t : Int) : List Int := a.zipWith (fun x y => x + t * y) b
theorem with_less (a b : List Int) (t : Int) : withR a b t = lessR a b (-t) := by
  unfold withR lessR
  congr 1
  funext x y
  grind
/-- the sum of the powers' products at a place -/
def sumZ (zs : List (List Int × Int)) (j : Nat) : Int := match zs with
  | [] => 0
  | (c, n) :: zs => n * at5 c j + sumZ zs j
def prodR (zs : List (List Int × Int)) (made : List Int) : List Int := zs.foldl (fun m z => withR m z.1 z.2) made
theorem prodR_len {zs : List (List Int × Int)} : ∀ {made : List Int}, made.length = 5 → (∀ z ∈ zs, z.1.length = 5) → (prodR zs made).length = 5 := by
  induction zs with
  | nil => intro made h _; exact h
  | cons z zs ih =>
    intro made h hz
    refine ih ?_ fun w hw => hz w (List.mem_cons_of_mem _ hw)
    show (withR made z.1 z.2).length = 5
    rw [with_less]
    exact less_len h (hz z List.mem_cons_self)
theorem prodR_at {zs : List (List Int × Int)} (j : Nat) : ∀ {made : List Int}, made.length = 5 → (∀ z ∈ zs, z.1.length = 5) → at5 (prodR zs made) j = at5 made j + sumZ zs j := by
  induction zs with
  | nil => intro made h _; show at5 made j = at5 made j + 0; omega
  | cons z zs ih =>
    intro made h hz
    have hz0 := hz z List.mem_cons_self
    have l : (withR made z.1 z.2).length = 5 := by rw [with_less]; exact less_len h hz0
    show at5 (prodR zs (withR made z.1 z.2)) j = at5 made j + (z.2 * at5 z.1 j + sumZ zs j)
    rw [ih l fun w hw => hz w (List.mem_cons_of_mem _ hw), with_less, at_less (by rw [h, hz0]), Int.neg_mul]
    omega
theorem sumZ_less {j : Nat} {t : Int} : ∀ (cs : List (List Int)) (a b : List Int), a.length = b.length → sumZ (cs.zip (lessR a b t)) j = sumZ (cs.zip a) j - t * sumZ (cs.zip b) j
  | [], a, b, _ => by simp [sumZ]
  | c :: cs, [], [], _ => by simp [sumZ, lessR]
  | c :: cs, [], _ :: _, h => by cases h
  | c :: cs, _ :: _, [], h => by cases h
  | c :: cs, x :: a, y :: b, h => by
    have ih := sumZ_less (j := j) (t := t) cs a b (by simpa using h)
    show (x - t * y) * at5 c j + sumZ (cs.zip (lessR a b t)) j = (x * at5 c j + sumZ (cs.zip a) j) - t * (y * at5 c j + sumZ (cs.zip b) j)
    rw [ih]
    grind
theorem sumZ_zero {j : Nat} : ∀ (cs : List (List Int)) (k : Nat), sumZ (cs.zip (List.replicate k (0 : Int))) j = 0
  | [], k => by simp [sumZ]
  | c :: cs, 0 => by simp [sumZ]
  | c :: cs, k + 1 => by
    show 0 * at5 c j + sumZ (cs.zip (List.replicate k 0)) j = 0
    rw [sumZ_zero cs k]
    omega
theorem sumZ_unit {j : Nat} : ∀ (cs : List (List Int)) (i : Nat), i < cs.length → sumZ (cs.zip ((List.replicate cs.length (0 : Int)).set i 1)) j = at5 (cs.getD i []) j
  | [], i, h => by cases h
  | c :: cs, 0, _ => by
    show 1 * at5 c j + sumZ (cs.zip (List.replicate cs.length 0)) j = at5 c j
    rw [sumZ_zero]
    omega
  | c :: cs, i + 1, h => by
    show 0 * at5 c j + sumZ (cs.zip ((List.replicate cs.length (0 : Int)).set i 1)) j = at5 (cs.getD i []) j
    rw [sumZ_unit cs i (by simpa using h)]
    omega
theorem less_drop (a b : List Int) (t : Int) (k : Nat) : (lessR a b t).drop k = lessR (a.drop k) (b.drop k) t := by
  unfold lessR
  rw [List.drop_zipWith]
theorem less_take (a b : List Int) (t : Int) (k : Nat) : (lessR a b t).take k = lessR (a.take k) (b.take k) t := by
  unfold lessR
  rw [List.take_zipWith]
/-- a long row: its five numbers are made by its powers -/
def Made (cs : List (List Int)) (r : List Int) : Prop := ∀ j, j < 5 → at5 r j = sumZ (cs.zip (r.drop 5)) j
theorem lin_made (L : Nat) (cs : List (List Int)) : Lin L (Made cs) := fun a b t la lb qa qb j hj => by
  rw [at_less (by rw [la, lb]), qa j hj, qb j hj, less_drop, sumZ_less _ _ _ (by rw [List.length_drop, List.length_drop, la, lb])]
theorem ext_drop {M : Nat} {cs : List (List Int)} (h : Coms M cs) {i : Nat} (hi : i < cs.length) : (ext cs i).drop 5 = (List.replicate cs.length (0 : Int)).set i 1 ∧ (ext cs i).take 5 = cs.getD i [] := by
  have l := (h.2 _ (getD_memL hi).1).1
  unfold ext
  exact ⟨List.drop_left' l, List.take_left' l⟩
theorem made_ext {M : Nat} {cs : List (List Int)} (h : Coms M cs) {i : Nat} (hi : i < cs.length) : Made cs (ext cs i) := fun j hj => by
  rw [(ext_drop h hi).1, sumZ_unit cs i hi]
  unfold ext
  exact at_app (by rw [(h.2 _ (getD_memL hi).1).1]; exact hj)
theorem tab_made {b M w : Nat} {cs : List (List Int)} {ss : Stps} (h : Coms M cs) (T : Tab b cs cs.length ss w) : AllR ss (Made cs) := T.fwd _ (lin_made _ cs) fun i hi => made_ext h hi
theorem long_made {b M w : Nat} {cs : List (List Int)} {ss : Stps} (h : Coms M cs) (T : Tab b cs cs.length ss w) {r : List Int} (hr : r ∈ longsOf ss) : r.length = 5 + cs.length ∧ prodR (cs.zip (r.drop 5)) Z5 = r.take 5 := by
  obtain ⟨j, hj, e⟩ := long_mem hr
  have l := T.led.len j r e
  refine ⟨l, ?_⟩
  have hz : ∀ z ∈ cs.zip (r.drop 5), z.1.length = 5 := fun z hz => (h.2 _ (List.of_mem_zip hz).1).1
  refine ext5 (prodR_len rfl hz) (by rw [List.length_take, l]; omega) fun i => ?_
  rw [prodR_at i rfl hz, at_Z5, Int.zero_add]
  by_cases hi : i < 5
  · rw [at_take hi]
    exact (tab_made h T j r e i hi).symm
  · have : at5 (r.take 5) i = 0 := by
      unfold at5
      rw [List.getD_eq_getElem?_getD, List.getElem?_eq_none (by rw [List.length_take]; omega)]
      rfl
    rw [this]
    have gen : ∀ zs : List (List Int × Int), (∀ z ∈ zs, z.1.length = 5) → sumZ zs i = 0 := by
      intro zs
      induction zs with
      | nil => intro _; rfl
      | cons z zs ih =>
        intro hz
        have l0 : at5 z.1 i = 0 := by
          unfold at5
          rw [List.getD_eq_getElem?_getD, List.getElem?_eq_none (by rw [hz z List.mem_cons_self]; omega)]
          rfl
        show z.2 * at5 z.1 i + sumZ zs i = 0
        rw [l0, ih fun w hw => hz w (List.mem_cons_of_mem _ hw), Int.mul_zero]
        rfl
    exact gen _ hz
/-! ### what rows by steps make -/
/-- x is made by the rows at these places -/
def Sp (R : Nat → List Int) : List Nat → List Int → Prop
  | [], x => x = Z5
  | j :: js, x => ∃ c : Int, Sp R js (lessR x (R j) c)
section
variable {R : Nat → List Int}
theorem Sp.zero : ∀ (js : List Nat), (∀ j ∈ js, (R j).length = 5) → Sp R js Z5
  | [], _ => rfl
  | j :: js, h => ⟨0, by
    have : lessR Z5 (R j) 0 = Z5 := ext5 (L := 5) (less_len rfl (h j List.mem_cons_self)) rfl fun i => by
      rw [at_less (by rw [h j List.mem_cons_self]; rfl)]
      omega
    rw [this]
    exact Sp.zero js fun k hk => h k (List.mem_cons_of_mem _ hk)⟩
theorem Sp.len : ∀ {js : List Nat} {x : List Int}, Sp R js x → (∀ j ∈ js, (R j).length = 5) → x.length = 5 ∨ x.length > 5
  | [], x, h, _ => .inl (by rw [show x = Z5 from h]; rfl)
  | j :: js, x, ⟨c, h⟩, hl => by
    have := Sp.len h fun k hk => hl k (List.mem_cons_of_mem _ hk)
    unfold lessR at this
    rw [List.length_zipWith, hl j List.mem_cons_self] at this
    omega
theorem Sp.less : ∀ {js : List Nat} {a b : List Int} (t : Int), a.length = 5 → b.length = 5 → (∀ j ∈ js, (R j).length = 5) → Sp R js a → Sp R js b → Sp R js (lessR a b t)
  | [], a, b, t, la, lb, _, ha, hb => by
    have ha : a = Z5 := ha
    have hb : b = Z5 := hb
    subst ha hb
    show _ = Z5
    exact ext5 (L := 5) (less_len rfl rfl) rfl fun i => by rw [at_less rfl, at_Z5]; omega
  | j :: js, a, b, t, la, lb, hl, ⟨c, ha⟩, ⟨d, hb⟩ => by
    have lr := hl j List.mem_cons_self
    have h := Sp.less t (less_len la lr) (less_len lb lr) (fun k hk => hl k (List.mem_cons_of_mem _ hk)) ha hb
    refine ⟨c - t * d, ?_⟩
    have e : lessR (lessR a b t) (R j) (c - t * d) = lessR (lessR a (R j) c) (lessR b (R j) d) t := by
      refine ext5 (L := 5) (less_len (less_len la lb) lr) (less_len (less_len la lr) (less_len lb lr)) fun i => ?_
      rw [at_less (by rw [less_len la lb, lr]), at_less (by rw [la, lb]), at_less (by rw [less_len la lr, less_len lb lr]), at_less (by rw [la, lr]), at_less (by rw [lb, lr])]
      grind
    rw [e]
    exact h
theorem Sp.row : ∀ {js : List Nat} {k : Nat}, (∀ j ∈ js, (R j).length = 5) → k ∈ js → Sp R js (R k)
  | [], k, _, h => by cases h
  | j :: js, k, hl, h => by
    have hl2 : ∀ j ∈ js, (R j).length = 5 := fun i hi => hl i (List.mem_cons_of_mem _ hi)
    by_cases e : k = j
    · subst e
      have lr := hl k List.mem_cons_self
      refine ⟨1, ?_⟩
      have : lessR (R k) (R k) 1 = Z5 := ext5 (L := 5) (less_len lr lr) rfl fun i => by rw [at_less rfl, at_Z5]; omega
      rw [this]
      exact Sp.zero js hl2
    · have hk : k ∈ js := (List.mem_cons.mp h).resolve_left e
      have lr := hl j List.mem_cons_self
      refine ⟨0, ?_⟩
      have : lessR (R k) (R j) 0 = R k := ext5 (L := 5) (less_len (hl2 k hk) lr) (hl2 k hk) fun i => by
        rw [at_less (by rw [hl2 k hk, lr])]
        omega
      rw [this]
      exact Sp.row hl2 hk
/-- rows by steps -/
structure Stair (R : Nat → List Int) (js : List Nat) : Prop where
  len : ∀ j ∈ js, (R j).length = 5
  lt : ∀ j ∈ js, j < 5
  dn : js.Pairwise (· > ·)
  pos : ∀ j ∈ js, 0 < at5 (R j) j
  zero : ∀ j ∈ js, ∀ i, j < i → at5 (R j) i = 0
theorem Stair.tail {j : Nat} {js : List Nat} (h : Stair R (j :: js)) : Stair R js :=
  ⟨fun k hk => h.len k (List.mem_cons_of_mem _ hk), fun k hk => h.lt k (List.mem_cons_of_mem _ hk), List.Pairwise.of_cons h.dn, fun k hk => h.pos k (List.mem_cons_of_mem _ hk), fun k hk => h.zero k (List.mem_cons_of_mem _ hk)⟩
theorem Sp.above : ∀ {js : List Nat} {x : List Int}, x.length = 5 → Stair R js → Sp R js x → ∀ i, (∀ j ∈ js, j < i) → at5 x i = 0
  | [], x, _, _, h, i, _ => by rw [show x = Z5 from h, at_Z5]
  | j :: js, x, lx, s, ⟨c, h⟩, i, hi => by
    have lr := s.len j List.mem_cons_self
    have := Sp.above (less_len lx lr) s.tail h i fun k hk => hi k (List.mem_cons_of_mem _ hk)
    rw [at_less (by rw [lx, lr]), s.zero j List.mem_cons_self i (hi j List.mem_cons_self)] at this
    omega
/-- the coefficient of the first row is what its lead goes into the number there -/
theorem Sp.head {j : Nat} {js : List Nat} {x : List Int} (lx : x.length = 5) (s : Stair R (j :: js)) (h : Sp R (j :: js) x) : at5 x j = (at5 x j).fdiv (at5 (R j) j) * at5 (R j) j ∧ Sp R js (lessR x (R j) ((at5 x j).fdiv (at5 (R j) j))) := by
  obtain ⟨c, h⟩ := h
  have lr := s.len j List.mem_cons_self
  have p := s.pos j List.mem_cons_self
  have z := Sp.above (less_len lx lr) s.tail h j fun k hk => List.rel_of_pairwise_cons s.dn hk
  rw [at_less (by rw [lx, lr])] at z
  have e : (at5 x j).fdiv (at5 (R j) j) = c := by
    rw [show at5 x j = c * at5 (R j) j by omega]
    exact Int.mul_fdiv_cancel _ (by omega)
  rw [e]
  exact ⟨by omega, h⟩
end
def tabAt (ss : Stps) (j : Nat) : List Int := (rowAt ss j).take 5
theorem tab_stair {L : Nat} {ss : Stps} (hl : Led L ss) (h5 : 5 ≤ L) (hr : Red ss) : Stair (tabAt ss) (leadsOf ss) := by
  have len : ∀ j ∈ leadsOf ss, (tabAt ss j).length = 5 := fun j hj => by
    unfold tabAt
    rw [List.length_take, hl.len j _ (leads_mem hj).2]
    omega
  refine ⟨len, fun j hj => (leads_mem hj).1, leads_down ss, fun j hj => ?_, fun j hj i hi => ?_⟩
  · unfold tabAt
    rw [at_take (leads_mem hj).1]
    exact hr.pos j _ (leads_mem hj).2
  · by_cases c : i < 5
    · unfold tabAt
      rw [at_take c]
      exact hl.zero j _ (leads_mem hj).2 i hi c
    · unfold at5
      rw [List.getD_eq_getElem?_getD, List.getElem?_eq_none (by rw [len j hj]; omega)]
      rfl
theorem tabR_eq (ss : Stps) : tabR ss = (leadsOf ss).map (tabAt ss) := by
  unfold tabR longsOf
  rw [List.map_map]
  rfl
/-- each comma is made by the table -/
theorem tab_sp {b M w : Nat} {cs : List (List Int)} {ss : Stps} (h : Coms M cs) (T : Tab b cs cs.length ss w) : ∀ c ∈ cs, Sp (tabAt ss) (leadsOf ss) c := by
  have st := tab_stair T.led (by omega) T.red
  have t5 : ∀ {a : List Int}, a.length = 5 + cs.length → (a.take 5).length = 5 := fun l => by rw [List.length_take, l]; omega
  have q := T.bwd (fun r => Sp (tabAt ss) (leadsOf ss) (r.take 5)) (fun a b t la lb qa qb => by
    show Sp _ _ ((lessR a b t).take 5)
    rw [less_take]
    exact Sp.less t (t5 la) (t5 lb) st.len qa qb) (fun z lz hz => by
    have : z.take 5 = Z5 := ext5 (L := 5) (t5 lz) rfl fun i => by
      rw [at_Z5]
      by_cases c : i < 5
      · rw [at_take c]; exact hz i c
      · unfold at5
        rw [List.getD_eq_getElem?_getD, List.getElem?_eq_none (by rw [t5 lz]; omega)]
        rfl
    show Sp _ _ (z.take 5)
    rw [this]
    exact Sp.zero _ st.len) (fun j r e => by
    have m := mem_leads (stp_lt T.led e) e
    have : r.take 5 = tabAt ss j := by unfold tabAt; rw [m.2]
    show Sp _ _ (r.take 5)
    rw [this]
    exact Sp.row st.len m.1)
  intro c hc
  obtain ⟨i, hi, rfl⟩ := List.getElem_of_mem hc
  have := q i hi
  rw [(ext_drop h hi).2, List.getD_eq_getElem?_getD, List.getElem?_eq_getElem hi] at this
  exact this
section
variable {fns : List FnD} {gl : Nat → Dat} {f fw fd n : Nat}
theorem with_callG (h : Has fns f 3 5 BWith .pur) {xs ys : List Int} {m : Int} (hl : xs.length ≤ 1000) (hm : ∀ y ∈ ys, mulOk m y = true) : callF fns gl (n + 1) f [eT xs, eT ys, .int m] = .ok (eT (withR xs ys m)) := by
  refine h.pur rfl (pure_eT _) ?_
  show Out (exSs _ _ _ BWith [.shr, .shr, .shr, .shr, .shr] [some (eT xs), some (eT ys), some (.int m), none, none]) _
  refine o_ret (d := eT (withR xs ys m)) rfl ?_ rfl q_ret0
  simp only [evE_bi, evL_cons, evL_nil, evE_comp, evS_zip, evE_var, getV_zero, getV_succ, Rs.ok_bind, zip_tt, zip_ints]
  rw [mapC_ok (h := fun p => .int (p.1 + m * p.2))]
  · simp only [Rs.ok_bind, List.length_map, List.length_zip]
    rw [size_ok (by omega)]
    simp [withR, List.zip_eq_zipWith, List.map_zipWith]
  · rintro ⟨x, y⟩ hp
    simp [bindT, evC_nil, bin_mul (hm y (List.of_mem_zip hp).2)]
def BProdL (fw : Nat) : List Sm := [.asg 2 (.tup [.cst (.int 0), .cst (.int 0), .cst (.int 0), .cst (.int 0), .cst (.int 0)]),
    .fr (.tp [3, 4]) (.zip (.var 0) (.var 1)) [.asg 2 (.cal fw [.var 2, .var 3, .var 4])],
    .ret (.var 2)]
theorem prodL_call (h : Has fns f 2 5 (BProdL fw) .pur) (hw : Has fns fw 3 5 BWith .pur) {cs : List (List Int)} {ps : List Int} (hc : ∀ c ∈ cs, c.length = 5 ∧ ∀ x ∈ c, x.natAbs < 2 ^ 64) : callF fns gl (n + 2) f [eLT cs, eI ps] = .ok (eT (prodR (cs.zip ps) Z5)) := by
  refine h.pur rfl (pure_eT _) ?_
  show Out (exSs _ _ _ (BProdL fw) [.shr, .shr, .shr, .shr, .shr] [some (eLT cs), some (eI ps), none, none, none]) _
  refine o_asg (κ' := [.shr, .shr, .shr, .shr, .shr]) (d := eT Z5) rfl rfl rfl rfl rfl ?_
  dsimp only [List.set]
  refine o_fr (κ1 := [.shr, .shr, .shr, .shr, .shr]) (ds := (cs.zip ps).map fun z => Dat.tup [eT z.1, .int z.2]) rfl rfl ?_ ?_
  · simp only [evS_zip, evE_var, getV_zero, getV_succ, Rs.ok_bind, zip_ll]
    rw [List.zip_map, List.map_map]
    rfl
  refine for_inv (fun z : List Int × Int => Dat.tup [eT z.1, .int z.2]) (fun xs κ ρ => κ = [.shr, .shr, .shr, .shr, .shr] ∧ (∀ z ∈ xs, z.1.length = 5 ∧ ∀ x ∈ z.1, x.natAbs < 2 ^ 64) ∧ ∃ (made : List Int) (o3 o4 : Option Dat), made.length = 5 ∧ prodR xs made = prodR (cs.zip ps) Z5 ∧ ρ = [some (eLT cs), some (eI ps), some (eT made), o3, o4]) ?_ ?_ (cs.zip ps) _ _ ⟨rfl, fun z hz => hc _ (List.of_mem_zip hz).1, Z5, none, none, rfl, rfl, rfl⟩
  · rintro ⟨c, m⟩ xs κ ρ ⟨rfl, hx, made, o3, o4, lm, e, rfl⟩
    obtain ⟨lc, bc⟩ := hx (c, m) List.mem_cons_self
    have wc := with_callG (gl := gl) (n := n) hw (xs := made) (ys := c) (m := m) (by omega) fun y hy => mul_small (.inr (bc y hy))
    refine ⟨[some (eLT cs), some (eI ps), some (eT made), some (eT c), some (.int m)], rfl, ?_⟩
    refine o_asgC (κ' := [.shr, .shr, .shr, .shr, .shr]) (d := eT (withR made c m)) hw.rf (by simp only [evE_cal, evL_cons, evL_nil, evE_var, getV_zero, getV_succ, Rs.ok_bind, wc]) rfl rfl ?_
    dsimp only [List.set]
    exact o_nil ⟨rfl, fun z hz => hx z (List.mem_cons_of_mem _ hz), withR made c m, _, _, by rw [with_less]; exact less_len lm lc, e, rfl⟩
  · rintro κ ρ ⟨rfl, _, made, o3, o4, lm, e, rfl⟩
    have e : made = prodR (cs.zip ps) Z5 := e
    rw [← e]
    exact forP_nx (κ1 := [.shr, .shr, .shr, .shr, .shr]) rfl (o_retv rfl rfl q_ret0)
def BPowersL (fw : Nat) : List Sm := [.ret (.and (.isi (.var 0) [.list]) (.and (.cmp .eq (.bi .len [.var 0]) (.var 1)) (.bi .all [.comp (.cal fw [.var 2]) (.nm 2) (.seq (.var 0)) []])))]
theorem powersL_call (h : Has fns f 2 3 (BPowersL fw) .pur) (hw : Has fns fw 1 1 BWhole .pur) {ps : List Int} (hl : ps.length ≤ 1000) : callF fns gl (n + 2) f [eI ps, .int ps.length] = .ok (.bl true) := by
  refine h.pur rfl rfl ?_
  show Out (exSs _ _ _ (BPowersL fw) [.shr, .shr, .shr] [some (eI ps), some (.int ps.length), none]) _
  refine o_ret (d := .bl true) rfl ?_ rfl q_ret0
  simp only [evE_and, evE_isi, evE_cmp, evE_bi, evE_comp, evS_seq, evL_cons, evL_nil, evE_var, getV_zero, getV_succ, Rs.ok_bind, items_l, ty_ll, truth_bl, if_true, bi_lenl, List.length_map, cmp_eqi, decide_true]
  rw [mapC_ok (h := fun _ => .bl true)]
  · simp only [if_true, Rs.ok_bind, List.length_map]
    rw [size_ok hl]
    simp only [if_true, Rs.ok_bind, all_true, truth_bl]
  · intro x _
    simp [bindT, evC_nil, whole_call hw]
end
end PV

/-! PV, part i: brought to nothing by the table's rows -/
namespace PV
open PySem PySem.Spec PyProof.Rows L2
theorem sumZ_le {A M j : Nat} : ∀ zs : List (List Int × Int), (∀ z ∈ zs, z.2.natAbs ≤ A ∧ ∀ x ∈ z.1, x.natAbs ≤ M) → (sumZ zs j).natAbs ≤ zs.length * (A * M)
  | [], _ => Nat.zero_le _
  | (c, n) :: zs, h => by
    have ih := sumZ_le (A := A) (M := M) (j := j) zs fun z hz => h z (List.mem_cons_of_mem _ hz)
    obtain ⟨h1, h2⟩ := h (c, n) List.mem_cons_self
    have m : (n * at5 c j).natAbs ≤ A * M := by
      rw [Int.natAbs_mul]
      exact Nat.mul_le_mul h1 (at_mem h2 j)
    show (n * at5 c j + sumZ zs j).natAbs ≤ _
    rw [List.length_cons, Nat.add_mul]
    omega
theorem sp_prod {R : Nat → List Int} {js : List Nat} (hl : ∀ j ∈ js, (R j).length = 5) : ∀ {zs : List (List Int × Int)} {made : List Int}, made.length = 5 → Sp R js made → (∀ z ∈ zs, z.1.length = 5 ∧ Sp R js z.1) → Sp R js (prodR zs made)
  | [], _, _, h, _ => h
  | (c, n) :: zs, made, lm, h, hz => by
    obtain ⟨lc, sc⟩ := hz (c, n) List.mem_cons_self
    show Sp R js (prodR zs (withR made c n))
    rw [with_less]
    exact sp_prod hl (less_len lm lc) (Sp.less _ lm lc hl h sc) fun z hz2 => hz z (List.mem_cons_of_mem _ hz2)
section
variable {fns : List FnD} {gl : Nat → Dat} {f fw fd fl n : Nat}
def BDownL (fd fw : Nat) : List Sm := [.fr (.nm 2) (.seq (.var 0)) [.asg 3 (.cal fd [.var 2]), .asg 1 (.cal fw [.var 1, .var 2, .bin .sub (.cst (.int 0)) (.bin .fdiv (.idx (.var 1) (.var 3)) (.idx (.var 2) (.var 3)))])],
    .ret (.var 1)]
/-- how big a step's rows are -/
def Big (R : Nat → List Int) (js : List Nat) : Prop := ∀ j ∈ js, (at5 (R j) j).natAbs < 2 ^ 8000 ∧ ∀ i, (at5 (R j) i).natAbs ≤ 2 ^ 5459
theorem downL_call (h : Has fns f 2 4 (BDownL fd fw) .pur) (hd : Has fns fd 1 2 BLead .pur) (hw : Has fns fw 3 5 BWith .pur) {R : Nat → List Int} {js : List Nat} (st : Stair R js) (hb : Big R js) {x : List Int} (lx : x.length = 5) (hx : ∀ i, (at5 x i).natAbs ≤ 2 ^ 100) (sp : Sp R js x) : callF fns gl (n + 2) f [eLT (js.map R), eT x] = .ok (eT Z5) := by
  have js5 : js.length ≤ 5 := by
    have hn : ∀ (l : List Nat) (k : Nat), l.Pairwise (· > ·) → (∀ j ∈ l, j < k) → l.length ≤ k := by
      intro l
      induction l with
      | nil => intro k _ _; exact Nat.zero_le _
      | cons a l ih =>
        intro k hp hk
        have h1 := ih a (List.Pairwise.of_cons hp) fun j hj => List.rel_of_pairwise_cons hp hj
        have h2 := hk a List.mem_cons_self
        rw [List.length_cons]
        omega
    exact hn js 5 st.dn st.lt
  refine h.pur rfl (pure_eT _) ?_
  show Out (exSs _ _ _ (BDownL fd fw) [.shr, .shr, .shr, .shr] [some (eLT (js.map R)), some (eT x), none, none]) _
  refine o_fr (κ1 := [.shr, .shr, .shr, .shr]) (ds := js.map fun j => eT (R j)) rfl rfl ?_ ?_
  · simp only [evS_seq, evE_var, getV_zero, Rs.ok_bind, items_l, List.map_map]
    rfl
  refine for_inv (fun j : Nat => eT (R j)) (fun xs κ ρ => κ = [.shr, .shr, .shr, .shr] ∧ Stair R xs ∧ Big R xs ∧ ∃ (x : List Int) (k : Nat) (o2 o3 : Option Dat), k + xs.length ≤ 5 ∧ x.length = 5 ∧ Sp R xs x ∧ (∀ i, (at5 x i).natAbs ≤ 2 ^ (100 + k * 5470)) ∧ ρ = [some (eLT (js.map R)), some (eT x), o2, o3]) ?_ ?_ js _ _ ⟨rfl, st, hb, x, 0, none, none, by omega, lx, sp, fun i => by simpa using hx i, rfl⟩
  · rintro j xs κ ρ ⟨rfl, st, hb, x, k, o2, o3, hk, lx, sp, bx, rfl⟩
    rw [List.length_cons] at hk
    have lr := st.len j List.mem_cons_self
    have j5 := st.lt j List.mem_cons_self
    have p := st.pos j List.mem_cons_self
    obtain ⟨b1, b2⟩ := hb j List.mem_cons_self
    obtain ⟨e1, sp2⟩ := Sp.head lx st sp
    have lc := lead_call (gl := gl) (n := n) hd (row := R j) (.inl rfl) (by omega) j5 (by omega) fun i h1 _ => st.zero j List.mem_cons_self i h1
    have qb := fq_p2 (b := at5 (R j) j) (by omega) (bx j)
    have wc := with_callG (gl := gl) (n := n) hw (xs := x) (ys := R j) (m := 0 - (at5 x j).fdiv (at5 (R j) j)) (by omega) (fun y hy => by
      obtain ⟨i, rfl⟩ := mem_at hy
      exact mul_ok (a := 100 + k * 5470 + 3) (b := 5460) (lt_p2 (by rw [Int.zero_sub, Int.natAbs_neg]; exact qb) (by omega)) (lt_p2 (b2 i) (by omega)) (by omega))
    rw [with_less, show -(0 - (at5 x j).fdiv (at5 (R j) j)) = (at5 x j).fdiv (at5 (R j) j) by omega] at wc
    refine ⟨[some (eLT (js.map R)), some (eT x), some (eT (R j)), o3], rfl, ?_⟩
    refine o_asgC (κ' := [.shr, .shr, .shr, .shr]) (d := .int (j : Nat)) hd.rf (by simp only [evE_cal, evL_cons, evL_nil, evE_var, getV_zero, getV_succ, Rs.ok_bind, lc]) rfl rfl ?_
    dsimp only [List.set]
    refine o_asgC (κ' := [.shr, .shr, .shr, .shr]) (d := eT (lessR x (R j) ((at5 x j).fdiv (at5 (R j) j)))) hw.rf ?_ rfl rfl ?_
    · simp only [evE_cal, evE_bin, evE_idx, evL_cons, evL_nil, evE_var, evE_cst, getV_zero, getV_succ, Rs.ok_bind]
      rw [at_idxT (by omega), at_idxT (by omega)]
      simp only [Rs.ok_bind]
      rw [bin_fdiv (div_mid (by omega) b1)]
      simp only [Rs.ok_bind, bin_sub, wc]
    dsimp only [List.set]
    refine o_nil ⟨rfl, st.tail, fun i hi => hb i (List.mem_cons_of_mem _ hi), _, k + 1, _, _, by omega, less_len lx lr, sp2, fun i => ?_, rfl⟩
    rw [at_less (by rw [lx, lr])]
    exact two_le (bx i) (b2 i) qb (by omega) (by omega)
  · rintro κ ρ ⟨rfl, _, _, x, k, o2, o3, hk, lx, sp, bx, rfl⟩
    have sp : x = Z5 := sp
    subst sp
    exact forP_nx (κ1 := [.shr, .shr, .shr, .shr]) rfl (o_retv rfl rfl q_ret0)
end
theorem tab_big {b w : Nat} {cs : List (List Int)} {k : Nat} {ss : Stps} (T : Tab b cs k ss w) (hb : b ≤ 88) : Big (tabAt ss) (leadsOf ss) := by
  have hsz : szN b 5 ≤ 2728 := by
    unfold szN
    have : (2 ^ 5 - 1) * b = 31 * b := rfl
    omega
  intro j hj
  obtain ⟨j5, e⟩ := leads_mem hj
  refine ⟨?_, fun i => ?_⟩
  · have h1 := T.sys.piv_le T.led j5
    unfold piv at h1
    rw [e] at h1
    unfold tabAt
    rw [at_take j5]
    exact lt_p2 h1 (by omega)
  · by_cases c : i < 5
    · unfold tabAt
      rw [at_take c]
      exact pow_up (T.red.le T.led T.sys i c j _ e) (by omega)
    · unfold tabAt at5
      rw [List.getD_eq_getElem?_getD, List.getElem?_eq_none (by rw [List.length_take]; omega)]
      exact Nat.zero_le _
end PV

/-! PV, part j: a table is the only one; rows turned among one another (plain, and walks) -/
namespace PV
open PySem PySem.Spec PyProof.Rows L2
/-- rows by steps, what stands beside a lead less than it -/
structure Hid (R : Nat → List Int) (js : List Nat) : Prop where
  st : Stair R js
  red : ∀ i ∈ js, ∀ k ∈ js, i < k → 0 ≤ at5 (R k) i ∧ at5 (R k) i < at5 (R i) i
theorem at_off {r : List Int} (h : r.length = 5) {i : Nat} (hi : 5 ≤ i) : at5 r i = 0 := by
  unfold at5
  rw [List.getD_eq_getElem?_getD, List.getElem?_eq_none (by omega)]
  rfl
/-- what is made and not nothing has its last number at a lead's place, and the lead goes into it -/
theorem Sp.top {R : Nat → List Int} : ∀ {js : List Nat} {x : List Int}, x.length = 5 → Stair R js → Sp R js x → x ≠ Z5 → ∃ j ∈ js, at5 x j ≠ 0 ∧ at5 (R j) j ∣ at5 x j ∧ ∀ i, j < i → at5 x i = 0
  | [], x, _, _, h, hx => absurd h hx
  | j :: js, x, lx, s, h, hx => by
    obtain ⟨e, h2⟩ := Sp.head lx s h
    by_cases c : at5 x j = 0
    · have q0 : (at5 x j).fdiv (at5 (R j) j) = 0 := by rw [c]; exact Int.zero_fdiv _
      rw [q0] at h2
      have lr := s.len j List.mem_cons_self
      have ex : lessR x (R j) 0 = x := ext5 (L := 5) (less_len lx lr) lx fun i => by
        rw [at_less (by rw [lx, lr])]
        omega
      rw [ex] at h2
      obtain ⟨k, hk, a, b, d⟩ := Sp.top lx s.tail h2 hx
      exact ⟨k, List.mem_cons_of_mem _ hk, a, b, d⟩
    · exact ⟨j, List.mem_cons_self, c, ⟨_, by rw [Int.mul_comm]; exact e⟩, fun i hi => Sp.above lx s h i fun k hk => by
        rcases List.mem_cons.mp hk with rfl | hk
        · exact hi
        · have := List.rel_of_pairwise_cons s.dn hk
          omega⟩
theorem down_eq : ∀ {l1 l2 : List Nat}, l1.Pairwise (· > ·) → l2.Pairwise (· > ·) → (∀ x, x ∈ l1 ↔ x ∈ l2) → l1 = l2
  | [], [], _, _, _ => rfl
  | [], b :: l2, _, _, h => absurd ((h b).mpr List.mem_cons_self) (by simp)
  | a :: l1, [], _, _, h => absurd ((h a).mp List.mem_cons_self) (by simp)
  | a :: l1, b :: l2, p1, p2, h => by
    have ab : a = b := by
      rcases List.mem_cons.mp ((h a).mp List.mem_cons_self) with e | e
      · exact e
      · rcases List.mem_cons.mp ((h b).mpr List.mem_cons_self) with e2 | e2
        · exact e2.symm
        · have := List.rel_of_pairwise_cons p1 e2
          have := List.rel_of_pairwise_cons p2 e
          omega
    subst ab
    rw [down_eq (List.Pairwise.of_cons p1) (List.Pairwise.of_cons p2) fun x => ?_]
    constructor
    · intro hx
      have := List.rel_of_pairwise_cons p1 hx
      exact (List.mem_cons.mp ((h x).mp (List.mem_cons_of_mem _ hx))).resolve_left (by omega)
    · intro hx
      have := List.rel_of_pairwise_cons p2 hx
      exact (List.mem_cons.mp ((h x).mpr (List.mem_cons_of_mem _ hx))).resolve_left (by omega)
theorem ne_Z5 {R : Nat → List Int} {js : List Nat} (s : Stair R js) {j : Nat} (hj : j ∈ js) : R j ≠ Z5 := fun e => by
  have := s.pos j hj
  rw [e, at_Z5] at this
  omega
theorem lead_in {R R' : Nat → List Int} {js js' : List Nat} (s : Stair R js) (s' : Stair R' js') (h : ∀ j ∈ js, Sp R' js' (R j)) {j : Nat} (hj : j ∈ js) : j ∈ js' ∧ at5 (R' j) j ∣ at5 (R j) j := by
  obtain ⟨k, hk, a, b, d⟩ := Sp.top (s.len j hj) s' (h j hj) (ne_Z5 s hj)
  have e : k = j := by
    rcases Nat.lt_trichotomy k j with l | e | g
    · have := d j l
      have := s.pos j hj
      omega
    · exact e
    · exact absurd (s.zero j hj k g) a
  subst e
  exact ⟨hk, b⟩
theorem leads_same {R R' : Nat → List Int} {js js' : List Nat} (s : Stair R js) (s' : Stair R' js') (h : ∀ j ∈ js, Sp R' js' (R j)) (h' : ∀ j ∈ js', Sp R js (R' j)) : js = js' ∧ ∀ j ∈ js, at5 (R j) j = at5 (R' j) j := by
  refine ⟨down_eq s.dn s'.dn fun x => ⟨fun hx => (lead_in s s' h hx).1, fun hx => (lead_in s' s h' hx).1⟩, fun j hj => ?_⟩
  obtain ⟨a, b⟩ := lead_in s s' h hj
  obtain ⟨_, c⟩ := lead_in s' s h' a
  exact Int.dvd_antisymm (by have := s.pos j hj; omega) (by have := s'.pos j a; omega) c b
/-- two rests of the same that are both less than the leads are the same -/
theorem rest_same {R : Nat → List Int} {js : List Nat} (s : Stair R js) {x y : List Int} (lx : x.length = 5) (ly : y.length = 5) (h : Sp R js (lessR x y 1)) (hx : ∀ j ∈ js, 0 ≤ at5 x j ∧ at5 x j < at5 (R j) j) (hy : ∀ j ∈ js, 0 ≤ at5 y j ∧ at5 y j < at5 (R j) j) : x = y := by
  apply Classical.byContradiction
  intro hne
  have ld := less_len (t := 1) lx ly
  have hd : lessR x y 1 ≠ Z5 := fun e => hne (ext5 lx ly fun i => by
    have := congrArg (fun r => at5 r i) e
    simp only [at_Z5] at this
    rw [at_less (by rw [lx, ly])] at this
    omega)
  obtain ⟨j, hj, a, b, _⟩ := Sp.top ld s h hd
  rw [at_less (by rw [lx, ly])] at a b
  have h1 := hx j hj
  have h2 := hy j hj
  have := Int.natAbs_dvd_natAbs.mpr b
  have := Nat.le_of_dvd (by omega) this
  omega
theorem hid_same {R R' : Nat → List Int} {js js' : List Nat} (s : Hid R js) (s' : Hid R' js') (h : ∀ j ∈ js, Sp R' js' (R j)) (h' : ∀ j ∈ js', Sp R js (R' j)) : js = js' ∧ ∀ j ∈ js, R j = R' j := by
  obtain ⟨e, le⟩ := leads_same s.st s'.st h h'
  subst e
  refine ⟨rfl, fun j hj => ?_⟩
  apply Classical.byContradiction
  intro hne
  have l1 := s.st.len j hj
  have l2 := s'.st.len j hj
  have sp : Sp R js (lessR (R j) (R' j) 1) := Sp.less 1 l1 l2 s.st.len (Sp.row s.st.len hj) (h' j hj)
  have hd : lessR (R j) (R' j) 1 ≠ Z5 := fun e => hne (ext5 l1 l2 fun i => by
    have := congrArg (fun r => at5 r i) e
    simp only [at_Z5] at this
    rw [at_less (by rw [l1, l2])] at this
    omega)
  obtain ⟨i, hi, a, b, _⟩ := Sp.top (less_len l1 l2) s.st sp hd
  rw [at_less (by rw [l1, l2])] at a b
  have lj := le j hj
  rcases Nat.lt_trichotomy i j with l | e | g
  · have h1 := s.red i hi j hj l
    have h2 := s'.red i hi j hj l
    rw [← le i hi] at h2
    have := Int.natAbs_dvd_natAbs.mpr b
    have := Nat.le_of_dvd (by omega) this
    omega
  · subst e
    omega
  · rw [s.st.zero j hj i g, s'.st.zero j hj i g] at a
    omega
theorem tab_hid {L : Nat} {ss : Stps} (hl : Led L ss) (h5 : 5 ≤ L) (hr : Red ss) : Hid (tabAt ss) (leadsOf ss) := by
  refine ⟨tab_stair hl h5 hr, fun i hi k hk hik => ?_⟩
  obtain ⟨i5, ei⟩ := leads_mem hi
  obtain ⟨k5, ek⟩ := leads_mem hk
  unfold tabAt
  rw [at_take i5, at_take i5]
  exact hr.low i k _ _ hik ek ei
/-! ### rows turned among one another -/
/-- what is kept where rows are taken from rows holds of the ones just where of the others -/
def Eqv (a c : List (List Int)) : Prop := ∀ Q, Lin 5 Q → ((∀ r ∈ a, Q r) ↔ ∀ r ∈ c, Q r)
theorem Eqv.refl (a : List (List Int)) : Eqv a a := fun _ _ => Iff.rfl
theorem Eqv.trans {a b c : List (List Int)} (h1 : Eqv a b) (h2 : Eqv b c) : Eqv a c := fun Q hQ => (h1 Q hQ).trans (h2 Q hQ)
theorem sp_lin {R : Nat → List Int} {js : List Nat} (hl : ∀ j ∈ js, (R j).length = 5) : Lin 5 (Sp R js) := fun _ _ t la lb qa qb => Sp.less t la lb hl qa qb
/-- rows of five, none beyond M -/
def Rows5 (M : Nat) (cs : List (List Int)) : Prop := ∀ c ∈ cs, c.length = 5 ∧ ∀ x ∈ c, x.natAbs ≤ M
theorem Rows5.up {M M' : Nat} {cs : List (List Int)} (h : Rows5 M cs) (hm : M ≤ M') : Rows5 M' cs := fun c hc => ⟨(h c hc).1, fun x hx => Nat.le_trans ((h c hc).2 x hx) hm⟩
theorem with_le {M A : Nat} {a c : List Int} {t : Int} (la : a.length = 5) (lc : c.length = 5) (ha : ∀ x ∈ a, x.natAbs ≤ A) (hc : ∀ x ∈ c, x.natAbs ≤ M) {k : Nat} (ht : t.natAbs ≤ k) : (withR a c t).length = 5 ∧ ∀ x ∈ withR a c t, x.natAbs ≤ A + k * M := by
  have l : (withR a c t).length = 5 := by rw [with_less]; exact less_len la lc
  refine ⟨l, fun x hx => ?_⟩
  obtain ⟨j, rfl⟩ := mem_at hx
  rw [with_less, at_less (by rw [la, lc])]
  have h1 := at_mem ha j
  have h2 : (-t * at5 c j).natAbs ≤ k * M := by
    rw [Int.natAbs_mul, Int.natAbs_neg]
    exact Nat.mul_le_mul ht (at_mem hc j)
  omega
theorem set_mem {α : Type} {l : List α} {i : Nat} {a x : α} (h : x ∈ l.set i a) : x = a ∨ ∃ j, j ≠ i ∧ l[j]? = some x := by
  obtain ⟨j, hj, e⟩ := List.getElem_of_mem h
  rw [List.getElem_set] at e
  split at e
  · exact .inl e.symm
  · rename_i c
    rw [List.length_set] at hj
    exact .inr ⟨j, fun z => c z.symm, by rw [List.getElem?_eq_getElem hj, e]⟩
theorem eqv_set {cs : List (List Int)} {i : Nat} {r : List Int} (hi : i < cs.length) (hf : ∀ Q, Lin 5 Q → (∀ c ∈ cs, Q c) → Q r) (hb : ∀ Q, Lin 5 Q → (∀ j, j ≠ i → ∀ c, cs[j]? = some c → Q c) → Q r → Q cs[i]) : Eqv cs (cs.set i r) := fun Q hQ => by
  constructor
  · intro h x hx
    rcases set_mem hx with rfl | ⟨j, _, e⟩
    · exact hf Q hQ h
    · exact h x (List.mem_of_getElem? e)
  · intro h x hx
    have hr : Q r := h r (by rw [List.mem_iff_getElem?]; exact ⟨i, by rw [List.getElem?_set_self hi]⟩)
    have ot : ∀ j, j ≠ i → ∀ c, cs[j]? = some c → Q c := fun j hj c e => h c (by rw [List.mem_iff_getElem?]; exact ⟨j, by rw [List.getElem?_set_ne (Ne.symm hj)]; exact e⟩)
    obtain ⟨j, hj, rfl⟩ := List.getElem_of_mem hx
    by_cases c : j = i
    · subst c
      exact hb Q hQ ot hr
    · exact ot j c _ (List.getElem?_eq_getElem hj)
theorem eqv_swap {cs : List (List Int)} {i j : Nat} (hi : i < cs.length) (hj : j < cs.length) : Eqv cs ((cs.set i cs[j]).set j cs[i]) := fun Q _ => by
  constructor
  · intro h x hx
    rcases set_mem hx with rfl | ⟨k, hk, e⟩
    · exact h _ (List.getElem_mem hi)
    · rcases set_mem (List.mem_of_getElem? e) with rfl | ⟨m, _, e2⟩
      · exact h _ (List.getElem_mem hj)
      · exact h x (List.mem_of_getElem? e2)
  · intro h x hx
    obtain ⟨k, hk, rfl⟩ := List.getElem_of_mem hx
    by_cases c1 : k = i
    · subst c1
      exact h _ (by rw [List.mem_iff_getElem?]; exact ⟨j, by rw [List.getElem?_set_self (by rw [List.length_set]; exact hj)]⟩)
    · by_cases c2 : k = j
      · subst c2
        exact h _ (by rw [List.mem_iff_getElem?]; exact ⟨i, by rw [List.getElem?_set_ne (Ne.symm (fun z => c1 z.symm)), List.getElem?_set_self hi]⟩)
      · exact h _ (by rw [List.mem_iff_getElem?]; exact ⟨k, by rw [List.getElem?_set_ne (Ne.symm c2), List.getElem?_set_ne (Ne.symm c1), List.getElem?_eq_getElem hk]⟩)
section
variable {fns : List FnD} {gl : Nat → Dat} {f fw fc fn fr fd n : Nat}
def BDeed (fw : Nat) : List Sm := [.ite (.cmp .eq (.bi .len [.var 0]) (.cst (.int 0))) [.ret (.var 0)] [],
    .asg 2 (.bin .mod (.bin .fdiv (.var 1) (.cst (.int 4))) (.bi .len [.var 0])),
    .asg 3 (.bin .mod (.bin .add (.bin .add (.var 2) (.cst (.int 1))) (.bin .mod (.bin .fdiv (.var 1) (.cst (.int 24))) (.bi .max2 [.cst (.int 1), .bin .sub (.bi .len [.var 0]) (.cst (.int 1))]))) (.bi .len [.var 0])),
    .asg 4 (.bi .list [.var 0]),
    .ite (.cmp .eq (.bin .mod (.var 1) (.cst (.int 4))) (.cst (.int 0))) [.sti 4 (.var 2) (.idx (.var 0) (.var 3)), .sti 4 (.var 3) (.idx (.var 0) (.var 2))] [],
    .ite (.cmp .eq (.bin .mod (.var 1) (.cst (.int 4))) (.cst (.int 1))) [.sti 4 (.var 2) (.cal fw [.tup [.cst (.int 0), .cst (.int 0), .cst (.int 0), .cst (.int 0), .cst (.int 0)], .idx (.var 0) (.var 2), .neg (.cst (.int 1))])] [],
    .ite (.and (.cmp .gt (.bin .mod (.var 1) (.cst (.int 4))) (.cst (.int 1))) (.cmp .ne (.var 2) (.var 3))) [.sti 4 (.var 2) (.cal fw [.idx (.var 0) (.var 2), .idx (.var 0) (.var 3), .idx (.tup [.cst (.int 1), .neg (.cst (.int 1)), .cst (.int 2)]) (.bin .mod (.bin .fdiv (.var 1) (.cst (.int 120))) (.cst (.int 3)))])] [],
    .ret (.var 4)]
theorem ixT {xs : List (List Int)} {i : Nat} (hi : i < xs.length) : ixN (xs.map eT).length ((i : Nat) : Int) = some i := by
  rw [List.length_map]
  unfold ixN
  simp
  omega
theorem deed_call (h : Has fns f 2 5 (BDeed fw) .shr) (hw : Has fns fw 3 5 BWith .pur) {M : Nat} {cs : List (List Int)} (hr : Rows5 M cs) (hM : M < 2 ^ 90) (hn : cs.length ≤ 100) (c : Int) : ∃ cs' : List (List Int), cs'.length = cs.length ∧ Rows5 (3 * M) cs' ∧ Eqv cs cs' ∧ callF fns gl (n + 2) f [eLT cs, .int c] = .ok (eLT cs') := by
  suffices q : Out (exSs (callF fns gl (n + 1)) gl (rfs fns) (BDeed fw) [.shr, .shr, .shr, .shr, .shr] [some (eLT cs), some (.int c), none, none, none]) (retE 2 fun d => ∃ cs' : List (List Int), cs'.length = cs.length ∧ Rows5 (3 * M) cs' ∧ Eqv cs cs' ∧ d = eLT cs') by
    obtain ⟨d, ⟨cs', q1, q2, q3, rfl⟩, q4⟩ := h.shrE (gl := gl) (n := n + 1) (ds := [eLT cs, .int c]) rfl q
    exact ⟨cs', q1, q2, q3, q4⟩
  refine o_if (k := decide (cs.length = 0)) ?_ (fun q => ?_) fun q => ?_
  · simp only [evE_cmp, evE_bi, evL_cons, evL_nil, evE_var, evE_cst, getV_zero, Rs.ok_bind, bi_lenl, List.length_map, cmp_eqi]
    rw [decide_eq_decide.mpr (show (cs.length : Int) = 0 ↔ cs.length = 0 by omega)]
  · refine o_retv rfl rfl ?_
    show _ ∧ _
    exact ⟨by decide, cs, rfl, hr.up (by omega), Eqv.refl cs, rfl⟩
  have pos : 0 < cs.length := by have := of_decide_eq_false q; omega
  obtain ⟨i, hi, ei⟩ := fmod_nat (c.fdiv 4) cs.length pos
  obtain ⟨u, hu, eu⟩ := fmod_nat (c.fdiv 24) (max 1 (cs.length - 1)) (by omega)
  have wm : max 1 (cs.length - 1) ≤ 100 := by omega
  have ej := fmodN (i + 1 + u) cs.length
  have hj : (i + 1 + u) % cs.length < cs.length := Nat.mod_lt _ pos
  generalize (i + 1 + u) % cs.length = j at *
  have gi : cs[i]? = some cs[i] := List.getElem?_eq_getElem hi
  have gj : cs[j]? = some cs[j] := List.getElem?_eq_getElem hj
  have mi := hr _ (List.getElem_mem hi)
  have mj := hr _ (List.getElem_mem hj)
  refine o_asg (κ' := [.shr, .shr, .shr, .shr, .shr]) (d := .int (i : Nat)) ?_ rfl rfl rfl rfl ?_
  · simp only [evE_bin, evE_bi, evL_cons, evL_nil, evE_var, evE_cst, getV_zero, getV_succ, Rs.ok_bind, bi_lenl, List.length_map]
    rw [bin_fdiv (div_small (by decide) (by decide))]
    simp only [Rs.ok_bind]
    rw [bin_mod (by omega), ei]
  dsimp only [List.set]
  refine o_asg (κ' := [.shr, .shr, .shr, .shr, .shr]) (d := .int (j : Nat)) ?_ rfl rfl rfl rfl ?_
  · simp only [evE_bin, evE_bi, evL_cons, evL_nil, evE_var, evE_cst, getV_zero, getV_succ, Rs.ok_bind, bi_lenl, List.length_map, bin_sub, bin_add, bi_max]
    rw [bin_fdiv (div_small (by decide) (by decide))]
    simp only [Rs.ok_bind]
    rw [show (if (cs.length : Int) - 1 > 1 then (cs.length : Int) - 1 else 1) = ((max 1 (cs.length - 1) : Nat) : Int) by split <;> omega, bin_mod (by omega), eu]
    simp only [Rs.ok_bind, bin_add]
    rw [show ((i : Nat) : Int) + 1 + ((u : Nat) : Int) = ((i + 1 + u : Nat) : Int) by omega, bin_mod (by omega), ej]
  dsimp only [List.set]
  refine o_asg (κ' := [.shr, .shr, .shr, .shr, .own]) (d := eLT cs) (by simp only [evE_bi, evL_cons, evL_nil, evE_var, getV_zero, Rs.ok_bind, bi_lisl]) rfl rfl rfl rfl ?_
  dsimp only [List.set]
  obtain ⟨m, hm, em⟩ := fmod_nat c 4 (by decide)
  have em : c.fmod 4 = (m : Nat) := em
  have cm : ∀ (o : Option Dat) (k : Int), evE (callF fns gl (n + 1)) gl (.cmp .eq (.bin .mod (.var 1) (.cst (.int 4))) (.cst (.int k))) [some (eLT cs), some (.int c), some (.int (i : Nat)), some (.int (j : Nat)), o] = .ok (.bl (decide ((m : Int) = k))) := fun o k => by
    simp only [evE_cmp, evE_bin, evE_var, evE_cst, getV_zero, getV_succ, Rs.ok_bind]
    rw [bin_mod (by decide), em]
    simp only [Rs.ok_bind, cmp_eqi]
  have cg : ∀ (o : Option Dat), evE (callF fns gl (n + 1)) gl (.and (.cmp .gt (.bin .mod (.var 1) (.cst (.int 4))) (.cst (.int 1))) (.cmp .ne (.var 2) (.var 3))) [some (eLT cs), some (.int c), some (.int (i : Nat)), some (.int (j : Nat)), o] = .ok (.bl (decide (1 < m) && !decide (i = j))) := fun o => by
    simp only [evE_and, evE_cmp, evE_bin, evE_var, evE_cst, getV_zero, getV_succ, Rs.ok_bind]
    rw [bin_mod (by decide), em]
    simp only [Rs.ok_bind, cmp_gt, truth_bl]
    by_cases c1 : 1 < m
    · rw [decide_eq_true (show (1 : Int) < (m : Nat) by omega), decide_eq_true c1]
      simp only [if_true, cmp_nei, Rs.ok_bind, truth_bl]
      rw [decide_eq_decide.mpr (show ((i : Nat) : Int) = (j : Nat) ↔ i = j by omega)]
      rfl
    · rw [decide_eq_false (show ¬ (1 : Int) < (m : Nat) by omega), decide_eq_false c1]
      rfl
  have wk : ∀ {a r : List Int} {t : Int}, a.length = 5 → (∀ x ∈ r, x.natAbs ≤ M) → t.natAbs ≤ 2 → callF fns gl (n + 1) fw [eT a, eT r, .int t] = .ok (eT (withR a r t)) := fun la hr ht => with_callG hw (by omega) fun y _ => mul_small (.inl (by omega))
  have keep : Rows5 (3 * M) cs := hr.up (by omega)
  have put : ∀ (r : List Int), r.length = 5 → (∀ x ∈ r, x.natAbs ≤ 3 * M) → Rows5 (3 * M) (cs.set i r) := fun r lr br x hx => by
    rcases set_mem hx with rfl | ⟨k, _, e⟩
    · exact ⟨lr, br⟩
    · exact keep x (List.mem_of_getElem? e)
  have stm : ∀ (xs : List (List Int)) (q : Nat) (r : List Int), ((xs.map eT).set q (eT r)) = (xs.set q r).map eT := fun xs q r => by rw [List.map_set]
  have hm : m = 0 ∨ m = 1 ∨ 1 < m := by omega
  rcases hm with rfl | rfl | hm
  · refine o_if (k := true) (by rw [cm]; rfl) (fun _ => ?_) fun e => by cases e
    refine o_sti (κ1 := [.shr, .shr, .shr, .shr, .own]) (j := i) (m := (i : Nat)) (d := eT cs[j]) (xs := cs.map eT) rfl rfl rfl (by simp only [evE_idx, evE_var, getV_zero, getV_succ, Rs.ok_bind]; exact eT_get gj) rfl (ixT hi) ?_
    dsimp only [List.set]
    rw [stm]
    refine o_sti (κ1 := [.shr, .shr, .shr, .shr, .own]) (j := j) (m := (j : Nat)) (d := eT cs[i]) (xs := (cs.set i cs[j]).map eT) rfl rfl rfl (by simp only [evE_idx, evE_var, getV_zero, getV_succ, Rs.ok_bind]; exact eT_get gi) rfl (ixT (by rw [List.length_set]; exact hj)) (o_nil (thenP_nx ?_))
    dsimp only [List.set]
    rw [stm]
    refine o_ifF (by rw [cm]; rfl) (o_ifF (by rw [cg]; rfl) (o_retv rfl rfl (q_retE rfl ⟨(cs.set i cs[j]).set j cs[i], by simp, fun x hx => ?_, eqv_swap hi hj, rfl⟩)))
    rcases set_mem hx with rfl | ⟨k, _, e⟩
    · exact keep _ (List.getElem_mem hi)
    · rcases set_mem (List.mem_of_getElem? e) with rfl | ⟨k2, _, e2⟩
      · exact keep _ (List.getElem_mem hj)
      · exact keep x (List.mem_of_getElem? e2)
  · refine o_ifF (by rw [cm]; rfl) (o_if (k := true) (by rw [cm]; rfl) (fun _ => ?_) fun e => by cases e)
    have wc := wk (a := Z5) (r := cs[i]) (t := -1) rfl mi.2 (by decide)
    obtain ⟨w1, w2⟩ := with_le (a := Z5) (A := 0) (t := -1) (k := 1) rfl mi.1 (by decide) mi.2 (by decide)
    refine o_sti (κ1 := [.shr, .shr, .shr, .shr, .own]) (j := i) (m := (i : Nat)) (d := eT (withR Z5 cs[i] (-1))) (xs := cs.map eT) (by simp only [leak, hw.rf]; rfl) (by simp only [flE, hw.rf]; rfl) rfl ?_ rfl (ixT hi) (o_nil (thenP_nx ?_))
    · simp only [evE_cal, evE_tup, evE_idx, evE_neg, evL_cons, evL_nil, evE_var, evE_cst, getV_zero, getV_succ, Rs.ok_bind, neg_int]
      rw [eT_get gi]
      simp only [Rs.ok_bind]
      exact wc
    dsimp only [List.set]
    rw [stm]
    refine o_ifF (by rw [cg]; rfl) (o_retv rfl rfl (q_retE rfl ⟨cs.set i (withR Z5 cs[i] (-1)), by simp, put _ w1 (fun x hx => by have := w2 x hx; omega), eqv_set hi (fun Q hQ hq => ?_) (fun Q hQ _ hq => ?_), rfl⟩))
    · have q := lin_neg hQ mi.1 (hq _ (List.getElem_mem hi))
      have e : negR cs[i] = withR Z5 cs[i] (-1) := ext5 (L := 5) (by unfold negR; rw [List.length_map]; exact mi.1) w1 fun k => by
        rw [at_neg, with_less, at_less (by rw [mi.1]; rfl), at_Z5]
        omega
      rw [← e]
      exact q
    · have q := lin_neg hQ w1 hq
      have e : negR (withR Z5 cs[i] (-1)) = cs[i] := ext5 (L := 5) (by unfold negR; rw [List.length_map]; exact w1) mi.1 fun k => by
        rw [at_neg, with_less, at_less (by rw [mi.1]; rfl), at_Z5]
        omega
      rw [← e]
      exact q
  · refine o_ifF (by rw [cm, decide_eq_false (by omega)]) (o_ifF (by rw [cm, decide_eq_false (by omega)]) ?_)
    refine o_if (cg _) (fun q => ?_) fun q => o_retv rfl rfl (q_retE rfl ⟨cs, rfl, keep, Eqv.refl cs, rfl⟩)
    have hij : i ≠ j := by
      intro e
      rw [e] at q
      simp at q
    obtain ⟨s, hs, es⟩ := fmod_nat (c.fdiv 120) 3 (by decide)
    have es : (c.fdiv 120).fmod 3 = (s : Nat) := es
    have tt : ∃ t : Int, t.natAbs ≤ 2 ∧ idxD (.tup [.int 1, .int (-1), .int 2]) (.int (s : Nat)) = .ok (.int t) := by
      have : s = 0 ∨ s = 1 ∨ s = 2 := by omega
      rcases this with rfl | rfl | rfl
      · exact ⟨1, by decide, idx_tup rfl⟩
      · exact ⟨-1, by decide, idx_tup rfl⟩
      · exact ⟨2, by decide, idx_tup rfl⟩
    obtain ⟨t, ht, et⟩ := tt
    have wc := wk (a := cs[i]) (r := cs[j]) (t := t) mi.1 mj.2 ht
    obtain ⟨w1, w2⟩ := with_le (A := M) (t := t) (k := 2) mi.1 mj.1 mi.2 mj.2 ht
    refine o_sti (κ1 := [.shr, .shr, .shr, .shr, .own]) (j := i) (m := (i : Nat)) (d := eT (withR cs[i] cs[j] t)) (xs := cs.map eT) (by simp only [leak, hw.rf]; rfl) (by simp only [flE, hw.rf]; rfl) rfl ?_ rfl (ixT hi) (o_nil (thenP_nx ?_))
    · simp only [evE_cal, evE_tup, evE_idx, evE_neg, evE_bin, evL_cons, evL_nil, evE_var, evE_cst, getV_zero, getV_succ, Rs.ok_bind, neg_int]
      rw [eT_get gi, eT_get gj, bin_fdiv (div_small (by decide) (by decide))]
      simp only [Rs.ok_bind]
      rw [bin_mod (by decide), es]
      simp only [Rs.ok_bind, et]
      exact wc
    dsimp only [List.set]
    rw [stm]
    refine o_retv rfl rfl (q_retE rfl ⟨cs.set i (withR cs[i] cs[j] t), by simp, put _ w1 (fun x hx => by have := w2 x hx; omega), eqv_set hi (fun Q hQ hq => ?_) (fun Q hQ ho hq => ?_), rfl⟩)
    · rw [with_less]
      exact hQ _ _ _ mi.1 mj.1 (hq _ (List.getElem_mem hi)) (hq _ (List.getElem_mem hj))
    · have qj := ho j (Ne.symm hij) cs[j] gj
      have q := hQ _ _ t w1 mj.1 hq qj
      have e : lessR (withR cs[i] cs[j] t) cs[j] t = cs[i] := by
        rw [with_less]
        have := less_back (t := -t) mi.1 mj.1
        rw [Int.neg_neg] at this
        exact this
      rw [e] at q
      exact q
def BExtra (fw : Nat) : List Sm := [.asg 2 (.tup [.cst (.int 0), .cst (.int 0), .cst (.int 0), .cst (.int 0), .cst (.int 0)]),
    .ite (.cmp .gt (.bi .len [.var 0]) (.cst (.int 0))) [.asg 2 (.cal fw [.var 2, .idx (.var 0) (.bin .mod (.var 1) (.bi .len [.var 0])), .bin .sub (.bin .mod (.bin .fdiv (.var 1) (.cst (.int 5))) (.cst (.int 5))) (.cst (.int 2))]), .asg 2 (.cal fw [.var 2, .idx (.var 0) (.bin .mod (.bin .fdiv (.var 1) (.cst (.int 25))) (.bi .len [.var 0])), .bin .sub (.bin .mod (.bin .fdiv (.var 1) (.cst (.int 125))) (.cst (.int 5))) (.cst (.int 2))])] [],
    .ret (.var 2)]
/-- what takes part in each thing that is kept, nothing too -/
theorem extra_call (h : Has fns f 2 3 (BExtra fw) .pur) (hw : Has fns fw 3 5 BWith .pur) {M : Nat} {cs : List (List Int)} (hr : Rows5 M cs) (hn : cs.length ≤ 100) (c : Int) : ∃ r : List Int, r.length = 5 ∧ (∀ x ∈ r, x.natAbs ≤ 4 * M) ∧ (∀ Q, Lin 5 Q → Q Z5 → (∀ c ∈ cs, Q c) → Q r) ∧ callF fns gl (n + 2) f [eLT cs, .int c] = .ok (eT r) := by
  suffices q : Out (exSs (callF fns gl (n + 1)) gl (rfs fns) (BExtra fw) [.shr, .shr, .shr] [some (eLT cs), some (.int c), none]) (retE 0 fun d => ∃ r : List Int, r.length = 5 ∧ (∀ x ∈ r, x.natAbs ≤ 4 * M) ∧ (∀ Q, Lin 5 Q → Q Z5 → (∀ c ∈ cs, Q c) → Q r) ∧ d = eT r) by
    obtain ⟨d, ⟨r, q1, q2, q3, rfl⟩, q4⟩ := h.purE (gl := gl) (n := n + 1) (ds := [eLT cs, .int c]) rfl (fun d ⟨r, _, _, _, e⟩ => by rw [e]; exact pure_eT _) q
    exact ⟨r, q1, q2, q3, q4⟩
  refine o_asg (κ' := [.shr, .shr, .shr]) (d := eT Z5) rfl rfl rfl rfl rfl ?_
  dsimp only [List.set]
  refine o_if (k := decide (0 < cs.length)) ?_ (fun q => ?_) fun q => o_retv rfl rfl (q_retE rfl ⟨Z5, rfl, fun x hx => ?_, fun Q _ z _ => z, rfl⟩)
  · simp only [evE_cmp, evE_bi, evL_cons, evL_nil, evE_var, evE_cst, getV_zero, Rs.ok_bind, bi_lenl, List.length_map, cmp_gt]
    rw [decide_eq_decide.mpr (show (0 : Int) < (cs.length : Int) ↔ 0 < cs.length by omega)]
  · have q := of_decide_eq_true q
    obtain ⟨i, hi, ei⟩ := fmod_nat c cs.length q
    obtain ⟨j, hj, ej⟩ := fmod_nat (c.fdiv 25) cs.length q
    have gi : cs[i]? = some cs[i] := List.getElem?_eq_getElem hi
    have gj : cs[j]? = some cs[j] := List.getElem?_eq_getElem hj
    have mi := hr _ (List.getElem_mem hi)
    have mj := hr _ (List.getElem_mem hj)
    have tb : ∀ x : Int, (x.fmod 5 - 2).natAbs ≤ 2 := fun x => by
      have := Int.fmod_nonneg_of_pos x (b := 5) (by decide)
      have := Int.fmod_lt_of_pos x (b := 5) (by decide)
      omega
    have wk : ∀ {a r : List Int} {t : Int}, a.length = 5 → t.natAbs ≤ 2 → callF fns gl (n + 1) fw [eT a, eT r, .int t] = .ok (eT (withR a r t)) := fun la ht => with_callG hw (by omega) fun y _ => mul_small (.inl (by omega))
    obtain ⟨w1, w2⟩ := with_le (a := Z5) (A := 0) (k := 2) rfl mi.1 (by decide) mi.2 (tb (c.fdiv 5))
    obtain ⟨v1, v2⟩ := with_le (k := 2) w1 mj.1 w2 mj.2 (tb (c.fdiv 125))
    have c1 := wk (a := Z5) (r := cs[i]) rfl (tb (c.fdiv 5))
    have c2 := wk (r := cs[j]) w1 (tb (c.fdiv 125))
    have qz : ∀ Q, Lin 5 Q → Q Z5 → (∀ c ∈ cs, Q c) → Q (withR (withR Z5 cs[i] ((c.fdiv 5).fmod 5 - 2)) cs[j] ((c.fdiv 125).fmod 5 - 2)) := fun Q hQ z hq => by
      rw [with_less]
      refine hQ _ _ _ w1 mj.1 ?_ (hq _ (List.getElem_mem hj))
      rw [with_less]
      exact hQ _ _ _ rfl mi.1 z (hq _ (List.getElem_mem hi))
    have ev : ∀ (o : List Int) (k : Int), k = 5 ∨ k = 125 → evE (callF fns gl (n + 1)) gl (.bin .sub (.bin .mod (.bin .fdiv (.var 1) (.cst (.int k))) (.cst (.int 5))) (.cst (.int 2))) [some (eLT cs), some (.int c), some (eT o)] = .ok (.int ((c.fdiv k).fmod 5 - 2)) := fun o k hk => by
      simp only [evE_bin, evE_var, evE_cst, getV_zero, getV_succ, Rs.ok_bind]
      rw [bin_fdiv (div_small (by omega) (by rcases hk with rfl | rfl <;> decide))]
      simp only [Rs.ok_bind]
      rw [bin_mod (by decide)]
      simp only [Rs.ok_bind, bin_sub]
    refine o_asgC (κ' := [.shr, .shr, .shr]) (d := eT (withR Z5 cs[i] ((c.fdiv 5).fmod 5 - 2))) hw.rf ?_ rfl rfl ?_
    · rw [evE_cal, evL_cons, evL_cons, evL_cons, ev Z5 5 (.inl rfl)]
      simp only [evE_idx, evE_bin, evE_bi, evL_cons, evL_nil, evE_var, getV_zero, getV_succ, Rs.ok_bind, bi_lenl, List.length_map]
      rw [bin_mod (by omega), ei]
      simp only [Rs.ok_bind]
      rw [eT_get gi]
      simp only [Rs.ok_bind, c1]
    dsimp only [List.set]
    refine o_asgC (κ' := [.shr, .shr, .shr]) (d := eT (withR (withR Z5 cs[i] ((c.fdiv 5).fmod 5 - 2)) cs[j] ((c.fdiv 125).fmod 5 - 2))) hw.rf ?_ rfl rfl (o_nil (thenP_nx ?_))
    · rw [evE_cal, evL_cons, evL_cons, evL_cons, ev _ 125 (.inr rfl)]
      simp only [evE_idx, evE_bin, evE_bi, evL_cons, evL_nil, evE_var, evE_cst, getV_zero, getV_succ, Rs.ok_bind, bi_lenl, List.length_map]
      rw [bin_fdiv (div_small (by decide) (by decide))]
      simp only [Rs.ok_bind]
      rw [bin_mod (by omega), ej]
      simp only [Rs.ok_bind]
      rw [eT_get gj]
      simp only [Rs.ok_bind, c2]
    dsimp only [List.set]
    exact o_retv rfl rfl (q_retE rfl ⟨_, v1, fun x hx => by have := v2 x hx; omega, qz, rfl⟩)
  · have hx : x ∈ Z5 := hx
    simp [Z5] at hx
    rw [hx]
    exact Nat.zero_le _
end
end PV

/-! PV, part k: a table hidden among commas, rests -/
namespace PV
open PySem PySem.Spec PyProof.Rows L2
theorem Sp.sub {R R' : Nat → List Int} {js : List Nat} (hl : ∀ j ∈ js, (R j).length = 5) : ∀ {js' : List Nat} {x : List Int}, x.length = 5 → (∀ j ∈ js', (R' j).length = 5) → (∀ j ∈ js', Sp R js (R' j)) → Sp R' js' x → Sp R js x
  | [], x, _, _, _, h => by rw [show x = Z5 from h]; exact Sp.zero js hl
  | j :: js', x, lx, l', h, ⟨c, hc⟩ => by
    have lr := l' j List.mem_cons_self
    have := Sp.sub hl (less_len lx lr) (fun k hk => l' k (List.mem_cons_of_mem _ hk)) (fun k hk => h k (List.mem_cons_of_mem _ hk)) hc
    have q := Sp.less (-c) (less_len lx lr) lr hl this (h j List.mem_cons_self)
    rw [less_back lx lr] at q
    exact q
theorem Stair.le5 {R : Nat → List Int} {js : List Nat} (s : Stair R js) : js.length ≤ 5 := by
  have hn : ∀ (l : List Nat) (k : Nat), l.Pairwise (· > ·) → (∀ j ∈ l, j < k) → l.length ≤ k := by
    intro l
    induction l with
    | nil => intro k _ _; exact Nat.zero_le _
    | cons a l ih =>
      intro k hp hk
      have h1 := ih a (List.Pairwise.of_cons hp) fun j hj => List.rel_of_pairwise_cons hp hj
      have h2 := hk a List.mem_cons_self
      rw [List.length_cons]
      omega
  exact hn js 5 s.dn s.lt
/-- the j-th number of a row with its lead at p -/
def leadAt (ns : List Int) (k p : Nat) (ld : List Int) (j : Nat) : Int := if p < j then 0 else if j = p then at5 ld j else if 0 < at5 ld j then (cell ns (k + j)).fmod (at5 ld j) else numB (cell ns (k + j)) 9
def leadRow (ns : List Int) (k p : Nat) (ld : List Int) : List Int := (List.range 5).map (leadAt ns k p ld)
theorem leadRow_at {ns : List Int} {k p : Nat} {ld : List Int} {j : Nat} (hj : j < 5) : at5 (leadRow ns k p ld) j = leadAt ns k p ld j := by
  unfold at5 leadRow
  rw [List.getD_eq_getElem?_getD, List.getElem?_map, List.getElem?_range hj]
  rfl
theorem leadRow_len {ns : List Int} {k p : Nat} {ld : List Int} : (leadRow ns k p ld).length = 5 := by simp [leadRow]
/-- leads, 0 or above -/
def Leads (M : Nat) (ld : List Int) : Prop := ld.length = 5 ∧ ∀ j, 0 ≤ at5 ld j ∧ (at5 ld j).natAbs ≤ M
def placesOf (ld : List Int) : List Nat := (down 5).filter fun j => decide (0 < at5 ld j)
theorem places_mem {ld : List Int} {j : Nat} : j ∈ placesOf ld ↔ j < 5 ∧ 0 < at5 ld j := by
  unfold placesOf
  rw [List.mem_filter]
  show j ∈ [4, 3, 2, 1, 0] ∧ _ ↔ _
  simp only [List.mem_cons, List.not_mem_nil, or_false, decide_eq_true_eq]
  omega
theorem places_down (ld : List Int) : (placesOf ld).Pairwise (· > ·) := List.Pairwise.filter _ (show ([4, 3, 2, 1, 0] : List Nat).Pairwise (· > ·) by decide)
theorem leadRow_hid {M : Nat} {ns : List Int} {K : Nat → Nat} {ld : List Int} (h : Leads M ld) (hM : 9 ≤ M) : Hid (fun p => leadRow ns (K p) p ld) (placesOf ld) ∧ ∀ j ∈ placesOf ld, ∀ x ∈ leadRow ns (K j) j ld, x.natAbs ≤ M := by
  refine ⟨⟨⟨fun j _ => leadRow_len, fun j hj => (places_mem.mp hj).1, places_down ld, fun j hj => ?_, fun j hj i hi => ?_⟩, fun i hi k hk hik => ?_⟩, fun j hj x hx => ?_⟩
  · rw [leadRow_at (places_mem.mp hj).1]
    unfold leadAt
    rw [if_neg (by omega), if_pos rfl]
    exact (places_mem.mp hj).2
  · by_cases c : i < 5
    · rw [leadRow_at c]
      unfold leadAt
      rw [if_pos hi]
    · exact at_off leadRow_len (by omega)
  · obtain ⟨i5, li⟩ := places_mem.mp hi
    rw [leadRow_at i5, leadRow_at i5]
    have e1 : leadAt ns (K k) k ld i = (cell ns (K k + i)).fmod (at5 ld i) := by
      unfold leadAt
      rw [if_neg (by omega), if_neg (by omega), if_pos li]
    have e2 : leadAt ns (K i) i ld i = at5 ld i := by
      unfold leadAt
      rw [if_neg (by omega), if_pos rfl]
    rw [e1, e2]
    exact ⟨Int.fmod_nonneg_of_pos _ li, Int.fmod_lt_of_pos _ li⟩
  · obtain ⟨i, hi, rfl⟩ := List.mem_map.mp hx
    have := h.2 i
    unfold leadAt
    split
    · exact Nat.zero_le _
    · split
      · exact this.2
      · split
        · rename_i c
          have a := Int.fmod_nonneg_of_pos (cell ns (K j + i)) c
          have b := Int.fmod_lt_of_pos (cell ns (K j + i)) c
          omega
        · have := numB_le (c := cell ns (K j + i)) (b := 9) (by decide)
          omega
/-- what is kept, nothing too, holds of the ones just where of the others -/
def EqvZ (a c : List (List Int)) : Prop := ∀ Q, Lin 5 Q → Q Z5 → ((∀ r ∈ a, Q r) ↔ ∀ r ∈ c, Q r)
theorem Eqv.z {a c : List (List Int)} (h : Eqv a c) : EqvZ a c := fun Q hQ _ => h Q hQ
theorem EqvZ.trans {a b c : List (List Int)} (h1 : EqvZ a b) (h2 : EqvZ b c) : EqvZ a c := fun Q hQ z => (h1 Q hQ z).trans (h2 Q hQ z)
/-- the table of commas among which a table is hidden is that table -/
theorem hidden_tab {b M w : Nat} {R : Nat → List Int} {js : List Nat} {cs : List (List Int)} {ss : Stps} (hR : Hid R js) (hc : Coms M cs) (he : EqvZ (js.map R) cs) (T : Tab b cs cs.length ss w) : leadsOf ss = js ∧ (∀ j ∈ js, tabAt ss j = R j) ∧ tabR ss = js.map R := by
  have th := tab_hid T.led (by omega) T.red
  have st := th.st
  -- each hidden row is made by the table
  have a1 : ∀ j ∈ js, Sp (tabAt ss) (leadsOf ss) (R j) := by
    have := (he (Sp (tabAt ss) (leadsOf ss)) (sp_lin st.len) (Sp.zero _ st.len)).mpr (tab_sp hc T)
    exact fun j hj => this _ (List.mem_map_of_mem hj)
  -- each row of the table is made by the hidden rows
  have a2 : ∀ c ∈ cs, Sp R js c := (he (Sp R js) (sp_lin hR.st.len) (Sp.zero _ hR.st.len)).mp fun r hr => by
    obtain ⟨j, hj, rfl⟩ := List.mem_map.mp hr
    exact Sp.row hR.st.len hj
  have t5 : ∀ {a : List Int}, a.length = 5 + cs.length → (a.take 5).length = 5 := fun l => by rw [List.length_take, l]; omega
  have a3 : ∀ j ∈ leadsOf ss, Sp R js (tabAt ss j) := by
    have q := T.fwd (fun r => Sp R js (r.take 5)) (fun a b t la lb qa qb => by
      show Sp _ _ ((lessR a b t).take 5)
      rw [less_take]
      exact Sp.less t (t5 la) (t5 lb) hR.st.len qa qb) (fun i hi => by
      show Sp _ _ ((ext cs i).take 5)
      rw [(ext_drop hc hi).2]
      exact a2 _ (getD_memL hi).1)
    exact fun j hj => q j _ (leads_mem hj).2
  obtain ⟨e1, e2⟩ := hid_same hR th a1 a3
  refine ⟨e1.symm, fun j hj => (e2 j hj).symm, ?_⟩
  rw [tabR_eq, ← e1]
  exact List.map_congr_left fun j hj => (e2 j hj).symm
section
variable {fns : List FnD} {gl : Nat → Dat} {f fw fc fn fr fd fl ft fx n : Nat}
def BLeadRow (fc fn : Nat) : List Sm := [.asg 4 (.lst []),
    .fr (.nm 5) (.rng [.cst (.int 5)]) [.asg 6 (.cal fc [.var 0, .bin .add (.var 1) (.var 5)]), .ite (.cmp .gt (.var 5) (.var 2)) [.app 4 (.cst (.int 0))] [.ite (.cmp .eq (.var 5) (.var 2)) [.app 4 (.idx (.var 3) (.var 5))] [.ite (.cmp .gt (.idx (.var 3) (.var 5)) (.cst (.int 0))) [.app 4 (.bin .mod (.var 6) (.idx (.var 3) (.var 5)))] [.app 4 (.cal fn [.var 6, .cst (.int 9)])]]]],
    .ret (.bi .tuple [.var 4])]
theorem leadRow_call (h : Has fns f 4 7 (BLeadRow fc fn) .pur) (hc : Has fns fc 2 2 BCell .pur) (hn : Has fns fn 2 2 BNum .pur) {ns : List Int} {dd : Dat} (hdd : dd = .rol (ns.map .int) ∨ dd = eI ns) (k p : Nat) {ld : List Int} (hl : ld.length = 5) : callF fns gl (n + 2) f [dd, .int (k : Nat), .int (p : Nat), eI ld] = .ok (eT (leadRow ns k p ld)) := by
  have cc := fun k => cellG_call (gl := gl) (n := n) hc ns hdd k
  have nc := fun c => num_call (gl := gl) (n := n) hn c (b := 9) (by decide)
  refine h.pur rfl (pure_eT _) ?_
  show Out (exSs _ _ _ (BLeadRow fc fn) [.shr, .shr, .shr, .shr, .shr, .shr, .shr] [some dd, some (.int (k : Nat)), some (.int (p : Nat)), some (eI ld), none, none, none]) _
  refine o_asg (κ' := [.shr, .shr, .shr, .shr, .own, .shr, .shr]) (d := .lst []) (by simp) rfl rfl rfl rfl ?_
  dsimp only [List.set]
  refine o_fr (κ1 := [.shr, .shr, .shr, .shr, .own, .shr, .shr]) (ds := (List.range 5).map fun i => Dat.int (i : Nat)) rfl rfl (by simp only [evS_rng, evL_cons, evL_nil, evE_cst, Rs.ok_bind]; exact rng1 (n := 5) (by decide)) ?_
  refine for_inv (fun i : Nat => Dat.int (i : Nat)) (fun xs κ ρ => κ = [.shr, .shr, .shr, .shr, .own, .shr, .shr] ∧ (∀ x ∈ xs, x < 5) ∧ ∃ (done : List Int) (o5 o6 : Option Dat), done ++ xs.map (leadAt ns k p ld) = leadRow ns k p ld ∧ ρ = [some dd, some (.int (k : Nat)), some (.int (p : Nat)), some (eI ld), some (eI done), o5, o6]) ?_ ?_ (List.range 5) _ _ ⟨rfl, fun x hx => List.mem_range.mp hx, [], none, none, rfl, rfl⟩
  · rintro j xs κ ρ ⟨rfl, hx, done, o5, o6, e1, rfl⟩
    have j5 := hx j List.mem_cons_self
    have dl : done.length + 1 ≤ 5 := by
      have := congrArg List.length e1
      rw [leadRow_len] at this
      simp at this
      omega
    refine ⟨[some dd, some (.int (k : Nat)), some (.int (p : Nat)), some (eI ld), some (eI done), some (.int (j : Nat)), o6], rfl, ?_⟩
    refine o_asgC (κ' := [.shr, .shr, .shr, .shr, .own, .shr, .shr]) (d := .int (cell ns (k + j))) hc.rf ?_ rfl rfl ?_
    · simp only [evE_cal, evE_bin, evL_cons, evL_nil, evE_var, getV_zero, getV_succ, Rs.ok_bind, bin_add]
      rw [← Int.natCast_add, cc]
    dsimp only [List.set]
    have ix : ∀ (o : Option Dat), evE (callF fns gl (n + 1)) gl (.idx (.var 3) (.var 5)) [some dd, some (.int (k : Nat)), some (.int (p : Nat)), some (eI ld), some (eI done), some (.int (j : Nat)), o] = .ok (.int (at5 ld j)) := fun o => by
      simp only [evE_idx, evE_var, getV_zero, getV_succ, Rs.ok_bind]
      exact at_idx (by omega)
    have nxt : ∀ (v : Int), v = leadAt ns k p ld j → Out (exSs (callF fns gl (n + 1)) gl (rfs fns) [] [.shr, .shr, .shr, .shr, .own, .shr, .shr] [some dd, some (.int (k : Nat)), some (.int (p : Nat)), some (eI ld), some (.lst (done.map Dat.int ++ [.int v])), some (.int (j : Nat)), some (.int (cell ns (k + j)))]) (turnP (fun κ ρ => κ = [.shr, .shr, .shr, .shr, .own, .shr, .shr] ∧ (∀ x ∈ xs, x < 5) ∧ ∃ (done : List Int) (o5 o6 : Option Dat), done ++ xs.map (leadAt ns k p ld) = leadRow ns k p ld ∧ ρ = [some dd, some (.int (k : Nat)), some (.int (p : Nat)), some (eI ld), some (eI done), o5, o6]) (forP (callF fns gl (n + 1)) gl (rfs fns) [.ret (.bi .tuple [.var 4])] [.shr, .shr, .shr, .shr, .own, .shr, .shr] (.rng [.cst (.int 5)]) (retP 0 (eT (leadRow ns k p ld))))) := by
      intro v hv
      refine o_nil ⟨rfl, fun z hz => hx z (List.mem_cons_of_mem _ hz), done ++ [v], _, _, ?_, by simp; exact ⟨rfl, rfl⟩⟩
      rw [hv, ← e1]
      simp
    refine o_ite (k := decide (p < j)) (by simp only [evE_cmp, evE_var, getV_zero, getV_succ, Rs.ok_bind, cmp_gt, Int.ofNat_lt]) (fun q => ?_) fun q => ?_
    · have q := of_decide_eq_true q
      refine o_app (κ1 := [.shr, .shr, .shr, .shr, .own, .shr, .shr]) (d := .int 0) (xs := done.map Dat.int) rfl rfl rfl rfl (by rw [List.length_map]; exact small1000 (by omega)) (o_nil (thenP_nx ?_))
      dsimp only [List.set]
      exact nxt 0 (by unfold leadAt; rw [if_pos q])
    · have q := of_decide_eq_false q
      refine o_ite (k := decide (j = p)) (by simp only [evE_cmp, evE_var, getV_zero, getV_succ, Rs.ok_bind, cmp_eqi]; rw [decide_eq_decide.mpr (show ((j : Nat) : Int) = (p : Nat) ↔ j = p by omega)]) (fun q2 => ?_) fun q2 => ?_
      · have q2 := of_decide_eq_true q2
        refine o_app (κ1 := [.shr, .shr, .shr, .shr, .own, .shr, .shr]) (d := .int (at5 ld j)) (xs := done.map Dat.int) rfl rfl rfl (ix _) (by rw [List.length_map]; exact small1000 (by omega)) (o_nil (thenP_nx (o_nil (thenP_nx ?_))))
        dsimp only [List.set]
        exact nxt _ (by unfold leadAt; rw [if_neg q, if_pos q2])
      · have q2 := of_decide_eq_false q2
        refine o_ite (k := decide (0 < at5 ld j)) (by rw [evE_cmp, ix]; simp only [evE_cst, Rs.ok_bind, cmp_gt]) (fun q3 => ?_) fun q3 => ?_
        · have q3 := of_decide_eq_true q3
          refine o_app (κ1 := [.shr, .shr, .shr, .shr, .own, .shr, .shr]) (d := .int ((cell ns (k + j)).fmod (at5 ld j))) (xs := done.map Dat.int) rfl rfl rfl ?_ (by rw [List.length_map]; exact small1000 (by omega)) (o_nil (thenP_nx (o_nil (thenP_nx (o_nil (thenP_nx ?_))))))
          · rw [evE_bin, ix]
            simp only [evE_var, getV_zero, getV_succ, Rs.ok_bind]
            exact bin_mod (by omega)
          dsimp only [List.set]
          exact nxt _ (by unfold leadAt; rw [if_neg q, if_neg q2, if_pos q3])
        · have q3 := of_decide_eq_false q3
          refine o_app (κ1 := [.shr, .shr, .shr, .shr, .own, .shr, .shr]) (d := .int (numB (cell ns (k + j)) 9)) (xs := done.map Dat.int) (by simp only [leak, hn.rf]; rfl) (by simp only [flE, hn.rf]; rfl) rfl (by simp only [evE_cal, evL_cons, evL_nil, evE_var, evE_cst, getV_zero, getV_succ, Rs.ok_bind, nc]) (by rw [List.length_map]; exact small1000 (by omega)) (o_nil (thenP_nx (o_nil (thenP_nx (o_nil (thenP_nx ?_))))))
          dsimp only [List.set]
          exact nxt _ (by unfold leadAt; rw [if_neg q, if_neg q2, if_neg q3])
  · rintro κ ρ ⟨rfl, _, done, o5, o6, e1, rfl⟩
    have e1 : done = leadRow ns k p ld := by simpa using e1
    subst e1
    exact forP_nx (κ1 := [.shr, .shr, .shr, .shr, .own, .shr, .shr]) rfl (o_ret (d := eT (leadRow ns k p ld)) rfl (by simp) rfl q_ret0)
def BSteps (fc fr : Nat) : List Sm := [.asg 1 (.lst []),
    .fr (.nm 2) (.rng [.cst (.int 5)]) [.asg 5 (.cal fc [.var 0, .bin .add (.cst (.int 1)) (.var 2)]), .app 1 (.idx (.tup [.cst (.int 0), .bin .add (.cst (.int 1)) (.bin .mod (.bin .fdiv (.var 5) (.cst (.int 3))) (.cst (.int 7))), .bin .add (.cst (.int 1)) (.bin .mod (.bin .fdiv (.var 5) (.cst (.int 3))) (.cst (.int 300)))]) (.bin .mod (.var 5) (.cst (.int 3))))],
    .asg 3 (.lst []),
    .fr (.nm 4) (.seq (.lst [.cst (.int 4), .cst (.int 3), .cst (.int 2), .cst (.int 1), .cst (.int 0)])) [.ite (.cmp .gt (.idx (.var 1) (.var 4)) (.cst (.int 0))) [.app 3 (.cal fr [.var 0, .bin .add (.cst (.int 6)) (.bin .mul (.cst (.int 5)) (.var 4)), .var 4, .var 1])] []],
    .ret (.var 3)]
theorem steps_call (h : Has fns f 1 6 (BSteps fc fr) .own) (hr : Has fns fr 4 7 (BLeadRow fc fn) .pur) (hc : Has fns fc 2 2 BCell .pur) (hn : Has fns fn 2 2 BNum .pur) {ns : List Int} {dd : Dat} (hdd : dd = .rol (ns.map .int) ∨ dd = eI ns) : ∃ (R : Nat → List Int) (js : List Nat), Hid R js ∧ Rows5 300 (js.map R) ∧ callF fns gl (n + 3) f [dd] = .ok (eLT (js.map R)) := by
  have cc := fun k => cellG_call (gl := gl) (n := n + 1) hc ns hdd k
  suffices q : Out (exSs (callF fns gl (n + 2)) gl (rfs fns) (BSteps fc fr) [.shr, .shr, .shr, .shr, .shr, .shr] [some dd, none, none, none, none, none]) (retE 3 fun d => ∃ (R : Nat → List Int) (js : List Nat), Hid R js ∧ Rows5 300 (js.map R) ∧ d = eLT (js.map R)) by
    obtain ⟨d, ⟨R, js, q1, q2, rfl⟩, q3⟩ := h.ownE (gl := gl) (n := n + 2) (ds := [dd]) rfl q
    exact ⟨R, js, q1, q2, q3⟩
  refine o_asg (κ' := [.shr, .own, .shr, .shr, .shr, .shr]) (d := .lst []) (by simp) rfl rfl rfl rfl ?_
  dsimp only [List.set]
  refine o_fr (κ1 := [.shr, .own, .shr, .shr, .shr, .shr]) (ds := (List.range 5).map fun i => Dat.int (i : Nat)) rfl rfl (by simp only [evS_rng, evL_cons, evL_nil, evE_cst, Rs.ok_bind]; exact rng1 (n := 5) (by decide)) ?_
  refine for_inv (fun i : Nat => Dat.int (i : Nat)) (fun xs κ ρ => κ = [.shr, .own, .shr, .shr, .shr, .shr] ∧ ∃ (ld : List Int) (o2 o5 : Option Dat), ld.length + xs.length = 5 ∧ (∀ x ∈ ld, 0 ≤ x ∧ x ≤ 300) ∧ ρ = [some dd, some (eI ld), o2, none, none, o5]) ?_ ?_ (List.range 5) _ _ ⟨rfl, [], none, none, rfl, fun x hx => (by cases hx), rfl⟩
  · rintro j xs κ ρ ⟨rfl, ld, o2, o5, hlen, hld, rfl⟩
    rw [List.length_cons] at hlen
    refine ⟨[some dd, some (eI ld), some (.int (j : Nat)), none, none, o5], rfl, ?_⟩
    refine o_asgC (κ' := [.shr, .own, .shr, .shr, .shr, .shr]) (d := .int (cell ns (1 + j))) hc.rf ?_ rfl rfl ?_
    · simp only [evE_cal, evE_bin, evL_cons, evL_nil, evE_var, evE_cst, getV_zero, getV_succ, Rs.ok_bind, bin_add]
      rw [show (1 : Int) + (j : Int) = ((1 + j : Nat) : Int) by omega, cc]
    dsimp only [List.set]
    generalize cell ns (1 + j) = c
    obtain ⟨s, hs, es⟩ := fmod_nat c 3 (by decide)
    have es : c.fmod 3 = (s : Nat) := es
    have a7 := Int.fmod_nonneg_of_pos (c.fdiv 3) (b := 7) (by decide)
    have b7 := Int.fmod_lt_of_pos (c.fdiv 3) (b := 7) (by decide)
    have a3 := Int.fmod_nonneg_of_pos (c.fdiv 3) (b := 300) (by decide)
    have b3 := Int.fmod_lt_of_pos (c.fdiv 3) (b := 300) (by decide)
    have tt : ∃ t : Int, (0 ≤ t ∧ t ≤ 300) ∧ idxD (.tup [.int 0, .int (1 + (c.fdiv 3).fmod 7), .int (1 + (c.fdiv 3).fmod 300)]) (.int (s : Nat)) = .ok (.int t) := by
      have : s = 0 ∨ s = 1 ∨ s = 2 := by omega
      rcases this with rfl | rfl | rfl
      · exact ⟨0, by omega, idx_tup rfl⟩
      · exact ⟨1 + (c.fdiv 3).fmod 7, by omega, idx_tup rfl⟩
      · exact ⟨1 + (c.fdiv 3).fmod 300, by omega, idx_tup rfl⟩
    obtain ⟨t, ht, et⟩ := tt
    refine o_app (κ1 := [.shr, .own, .shr, .shr, .shr, .shr]) (d := .int t) (xs := ld.map Dat.int) rfl rfl rfl ?_ (by rw [List.length_map]; exact small1000 (by omega)) ?_
    · simp only [evE_idx, evE_tup, evE_bin, evL_cons, evL_nil, evE_var, evE_cst, getV_zero, getV_succ, Rs.ok_bind]
      rw [bin_fdiv (div_small (by decide) (by decide)), bin_mod (i := c) (by decide), es]
      simp only [Rs.ok_bind]
      rw [bin_mod (by decide), bin_mod (by decide)]
      simp only [Rs.ok_bind, bin_add]
      exact et
    dsimp only [List.set]
    refine o_nil ⟨rfl, ld ++ [t], _, _, by simp; omega, fun x hx => ?_, by simp; exact ⟨rfl, rfl⟩⟩
    rcases List.mem_append.mp hx with hx | hx
    · exact hld x hx
    · rw [List.mem_singleton.mp hx]; exact ht
  · rintro κ ρ ⟨rfl, ld, o2, o5, hlen, hld, rfl⟩
    have hl5 : ld.length = 5 := by simpa using hlen
    have LD : Leads 300 ld := ⟨hl5, fun j => by
      unfold at5
      rw [List.getD_eq_getElem?_getD]
      by_cases hj : j < ld.length
      · rw [List.getElem?_eq_getElem hj]
        have := hld _ (List.getElem_mem hj)
        show 0 ≤ ld[j] ∧ ld[j].natAbs ≤ 300
        omega
      · rw [List.getElem?_eq_none (by omega)]
        exact ⟨Int.le_refl _, Nat.zero_le _⟩⟩
    let R : Nat → List Int := fun p => leadRow ns (6 + 5 * p) p ld
    obtain ⟨hid, hb⟩ := leadRow_hid (ns := ns) (K := fun p => 6 + 5 * p) LD (by decide)
    have lr := fun p => leadRow_call (gl := gl) (n := n) hr hc hn hdd (6 + 5 * p) p hl5
    refine forP_nx (κ1 := [.shr, .own, .shr, .shr, .shr, .shr]) rfl ?_
    refine o_asg (κ' := [.shr, .own, .shr, .own, .shr, .shr]) (d := .lst []) (by simp) rfl rfl rfl rfl ?_
    dsimp only [List.set]
    refine o_fr (κ1 := [.shr, .own, .shr, .own, .shr, .shr]) (ds := (down 5).map fun i => Dat.int (i : Nat)) rfl rfl rfl ?_
    refine for_inv (fun i : Nat => Dat.int (i : Nat)) (fun xs κ ρ => κ = [.shr, .own, .shr, .own, .shr, .shr] ∧ (∀ x ∈ xs, x < 5) ∧ xs.length ≤ 5 ∧ ∃ (done : List Nat) (o4 : Option Dat), done.length + xs.length ≤ 5 ∧ done ++ xs.filter (fun j => decide (0 < at5 ld j)) = placesOf ld ∧ ρ = [some dd, some (eI ld), o2, some (eLT (done.map R)), o4, o5]) ?_ ?_ (down 5) _ _ ⟨rfl, by decide, by decide, [], none, by decide, rfl, rfl⟩
    · rintro p xs κ ρ ⟨rfl, hx, hxl, done, o4, hlen, e1, rfl⟩
      have p5 := hx p List.mem_cons_self
      rw [List.length_cons] at hlen hxl
      refine ⟨[some dd, some (eI ld), o2, some (eLT (done.map R)), some (.int (p : Nat)), o5], rfl, ?_⟩
      rw [List.filter_cons] at e1
      refine o_if (k := decide (0 < at5 ld p)) ?_ (fun q => ?_) fun q => ?_
      · simp only [evE_cmp, evE_idx, evE_var, evE_cst, getV_zero, getV_succ, Rs.ok_bind]
        rw [at_idx (by omega)]
        simp only [Rs.ok_bind, cmp_gt]
      · rw [if_pos q] at e1
        refine o_app (κ1 := [.shr, .own, .shr, .own, .shr, .shr]) (d := eT (R p)) (xs := (done.map R).map eT) (by simp only [leak, hr.rf]; rfl) (by simp only [flE, hr.rf]; rfl) rfl ?_ (by rw [List.length_map, List.length_map]; exact small1000 (by omega)) (o_nil (thenP_nx ?_))
        · simp only [evE_cal, evE_bin, evL_cons, evL_nil, evE_var, evE_cst, getV_zero, getV_succ, Rs.ok_bind]
          rw [bin_mul (mul_small (.inl (by decide)))]
          simp only [Rs.ok_bind, bin_add]
          rw [show (6 : Int) + 5 * (p : Int) = ((6 + 5 * p : Nat) : Int) by omega]
          exact lr p
        dsimp only [List.set]
        refine o_nil ⟨rfl, fun z hz => hx z (List.mem_cons_of_mem _ hz), by omega, done ++ [p], _, by simp; omega, ?_, by simp; rfl⟩
        rw [← e1]
        simp
      · rw [if_neg (by rw [q]; decide)] at e1
        exact o_nil ⟨rfl, fun z hz => hx z (List.mem_cons_of_mem _ hz), by omega, done, _, by omega, e1, rfl⟩
    · rintro κ ρ ⟨rfl, _, _, done, o4, hlen, e1, rfl⟩
      have e1 : done = placesOf ld := by simpa using e1
      subst e1
      refine forP_nx (κ1 := [.shr, .own, .shr, .own, .shr, .shr]) rfl (o_retv rfl rfl (q_retE rfl ⟨R, placesOf ld, hid, fun c hc => ?_, rfl⟩))
      obtain ⟨j, hj, rfl⟩ := List.mem_map.mp hc
      exact ⟨hid.st.len j hj, hb j hj⟩
def BHidden (fc fx fd : Nat) : List Sm := [.asg 2 (.bi .list [.var 1]),
    .fr (.nm 3) (.rng [.bi .min2 [.bin .mod (.cal fc [.var 0, .cst (.int 0)]) (.cst (.int 4)), .bin .sub (.cst (.int 6)) (.bi .len [.var 1])]]) [.app 2 (.cal fx [.var 1, .cal fc [.var 0, .bin .add (.cst (.int 31)) (.var 3)]])],
    .fr (.nm 4) (.seq (.slc (.var 0) [.cst (.int 34)] [.cst (.int 46)])) [.asg 2 (.cal fd [.var 2, .var 4])],
    .ret (.var 2)]
theorem hidden_call (h : Has fns f 2 5 (BHidden fc fx fd) .shr) (hc : Has fns fc 2 2 BCell .pur) (hx : Has fns fx 2 3 (BExtra fw) .pur) (hd : Has fns fd 2 5 (BDeed fw) .shr) (hw : Has fns fw 3 5 BWith .pur) {ns : List Int} {dd : Dat} (hdd : dd = .rol (ns.map .int) ∨ dd = eI ns) {M : Nat} {rows : List (List Int)} (hr : Rows5 M rows) (hM : M ≤ 2 ^ 40) (hn : rows.length ≤ 5) : ∃ cs : List (List Int), cs.length ≤ 6 ∧ Rows5 (4 * M * 3 ^ 12) cs ∧ EqvZ rows cs ∧ callF fns gl (n + 3) f [dd, eLT rows] = .ok (eLT cs) := by
  have cc := fun k => cellG_call (gl := gl) (n := n + 1) hc ns hdd k
  suffices q : Out (exSs (callF fns gl (n + 2)) gl (rfs fns) (BHidden fc fx fd) [.shr, .shr, .shr, .shr, .shr] [some dd, some (eLT rows), none, none, none]) (retE 2 fun d => ∃ cs : List (List Int), cs.length ≤ 6 ∧ Rows5 (4 * M * 3 ^ 12) cs ∧ EqvZ rows cs ∧ d = eLT cs) by
    obtain ⟨d, ⟨cs, q1, q2, q3, rfl⟩, q4⟩ := h.shrE (gl := gl) (n := n + 2) (ds := [dd, eLT rows]) rfl q
    exact ⟨cs, q1, q2, q3, q4⟩
  obtain ⟨m, hm, em⟩ := fmod_nat (cell ns 0) 4 (by decide)
  have em : (cell ns 0).fmod 4 = (m : Nat) := em
  refine o_asg (κ' := [.shr, .shr, .own, .shr, .shr]) (d := eLT rows) (by simp only [evE_bi, evL_cons, evL_nil, evE_var, getV_zero, getV_succ, Rs.ok_bind, bi_lisl]) rfl rfl rfl rfl ?_
  dsimp only [List.set]
  refine o_fr (κ1 := [.shr, .shr, .own, .shr, .shr]) (ds := (List.range (min m (6 - rows.length))).map fun i => Dat.int (i : Nat)) rfl rfl ?_ ?_
  · simp only [evS_rng, evE_bi, evE_bin, evE_cal, evL_cons, evL_nil, evE_var, evE_cst, getV_zero, getV_succ, Rs.ok_bind, bi_lenl, List.length_map, bin_sub]
    rw [show callF fns gl (n + 2) fc [dd, .int 0] = _ from cc 0]
    simp only [Rs.ok_bind]
    rw [bin_mod (by decide), em]
    simp only [Rs.ok_bind, bi_min]
    rw [show (if (6 : Int) - (rows.length : Int) < (m : Nat) then (6 : Int) - (rows.length : Int) else (m : Nat)) = ((min m (6 - rows.length) : Nat) : Int) by split <;> omega]
    exact rng1 (by omega)
  refine for_inv (fun i : Nat => Dat.int (i : Nat)) (fun xs κ ρ => κ = [.shr, .shr, .own, .shr, .shr] ∧ ∃ (cs : List (List Int)) (o3 : Option Dat), cs.length + xs.length ≤ 6 ∧ Rows5 (4 * M) cs ∧ EqvZ rows cs ∧ ρ = [some dd, some (eLT rows), some (eLT cs), o3, none]) ?_ ?_ (List.range (min m (6 - rows.length))) _ _ ⟨rfl, rows, none, by rw [List.length_range]; omega, hr.up (by omega), (Eqv.refl rows).z, rfl⟩
  · rintro j xs κ ρ ⟨rfl, cs, o3, hlen, h5, he, rfl⟩
    rw [List.length_cons] at hlen
    obtain ⟨r, lr, br, qr, xc⟩ := extra_call (gl := gl) (n := n) hx hw hr (by omega) (cell ns (31 + j))
    refine ⟨[some dd, some (eLT rows), some (eLT cs), some (.int (j : Nat)), none], rfl, ?_⟩
    refine o_app (κ1 := [.shr, .shr, .own, .shr, .shr]) (d := eT r) (xs := cs.map eT) (by simp only [leak, hx.rf]; rfl) (by simp only [flE, hx.rf]; rfl) rfl ?_ (by rw [List.length_map]; exact small1000 (by omega)) ?_
    · simp only [evE_cal, evE_bin, evL_cons, evL_nil, evE_var, evE_cst, getV_zero, getV_succ, Rs.ok_bind, bin_add]
      rw [show (31 : Int) + (j : Int) = ((31 + j : Nat) : Int) by omega, cc]
      simp only [Rs.ok_bind, xc]
    dsimp only [List.set]
    refine o_nil ⟨rfl, cs ++ [r], _, by simp; omega, fun c hc2 => ?_, fun Q hQ z => ?_, by simp; rfl⟩
    · rcases List.mem_append.mp hc2 with hc2 | hc2
      · exact h5 c hc2
      · rw [List.mem_singleton.mp hc2]; exact ⟨lr, br⟩
    · rw [he Q hQ z]
      constructor
      · intro hq c hc2
        rcases List.mem_append.mp hc2 with hc2 | hc2
        · exact hq c hc2
        · rw [List.mem_singleton.mp hc2]
          exact qr Q hQ z ((he Q hQ z).mpr hq)
      · exact fun hq c hc2 => hq c (List.mem_append_left _ hc2)
  · rintro κ ρ ⟨rfl, cs0, o3, hlen, h5, he, rfl⟩
    have hlen : cs0.length ≤ 6 := by simpa using hlen
    refine forP_nx (κ1 := [.shr, .shr, .own, .shr, .shr]) rfl ?_
    have sl : ∃ xs : List Int, xs.length ≤ 12 ∧ evS (callF fns gl (n + 2)) gl (.seq (.slc (.var 0) [.cst (.int 34)] [.cst (.int 46)])) [some dd, some (eLT rows), some (eLT cs0), o3, none] = .ok (xs.map Dat.int) := by
      refine ⟨cutL ns (some 34) (some 46), ?_, ?_⟩
      · unfold cutL
        rw [List.length_take, show (some (34 : Int)) = some ((34 : Nat) : Int) from rfl, show (some (46 : Int)) = some ((46 : Nat) : Int) from rfl, HT.sIx_nat, HT.sIx_nat]
        omega
      · rcases hdd with rfl | rfl
        · simp only [evS_seq, evE_slc, evL_cons, evL_nil, evE_var, evE_cst, getV_zero, Rs.ok_bind, partD, slcD, cutL_map, items_l]
        · simp only [evS_seq, evE_slc, evL_cons, evL_nil, evE_var, evE_cst, getV_zero, Rs.ok_bind, partD, slcD, cutL_map, items_l]
    obtain ⟨xs, hxs, ex⟩ := sl
    refine o_fr (κ1 := [.shr, .shr, .own, .shr, .shr]) (ds := xs.map Dat.int) rfl rfl ex ?_
    refine for_inv Dat.int (fun ys κ ρ => ∃ (k2 : SK) (cs : List (List Int)) (k : Nat) (o4 : Option Dat), (k2 = .own ∨ k2 = .shr) ∧ κ = [.shr, .shr, k2, .shr, .shr] ∧ k + ys.length ≤ 12 ∧ cs.length ≤ 6 ∧ Rows5 (4 * M * 3 ^ k) cs ∧ EqvZ rows cs ∧ ρ = [some dd, some (eLT rows), some (eLT cs), o3, o4]) ?_ ?_ xs _ _ ⟨.own, cs0, 0, none, .inl rfl, rfl, by omega, hlen, by simpa using h5, he, rfl⟩
    · rintro y ys κ ρ ⟨k2, cs, k, o4, hk2, rfl, hk, hlen, h5, he, rfl⟩
      rw [List.length_cons] at hk
      have pk : 3 ^ k ≤ 3 ^ 12 := Nat.pow_le_pow_right (by decide) (by omega)
      have mb : 4 * M * 3 ^ k < 2 ^ 90 := by
        have h1 : 4 * M * 3 ^ k ≤ 4 * 2 ^ 40 * 3 ^ 12 := Nat.mul_le_mul (by omega) pk
        have h2 : 4 * 2 ^ 40 * 3 ^ 12 < 2 ^ 90 := by decide
        omega
      obtain ⟨cs', l', r', e', dc⟩ := deed_call (gl := gl) (n := n) hd hw h5 mb (by omega) y
      refine ⟨[some dd, some (eLT rows), some (eLT cs), o3, some (.int y)], rfl, ?_⟩
      show Out (exSs _ _ _ _ [.shr, .shr, k2, .shr, .shr] _) _
      refine o_asg (κ1 := [.shr, .shr, .shr, .shr, .shr]) (κ' := [.shr, .shr, .shr, .shr, .shr]) (fl := 2) (d := eLT cs') (by simp only [evE_cal, evL_cons, evL_nil, evE_var, getV_zero, getV_succ, Rs.ok_bind, dc]) (by rcases hk2 with rfl | rfl <;> (simp only [leak, leak.leakL, hd.rf]; rfl)) (by simp only [flE, flL, hd.rf]; rfl) rfl rfl ?_
      dsimp only [List.set]
      refine o_nil ⟨.shr, cs', k + 1, _, .inr rfl, rfl, by omega, by omega, ?_, he.trans e'.z, rfl⟩
      rw [Nat.pow_succ, ← Nat.mul_assoc, Nat.mul_comm _ 3]
      exact r'
    · rintro κ ρ ⟨k2, cs, k, o4, hk2, rfl, hk, hlen, h5, he, rfl⟩
      have pk : 3 ^ k ≤ 3 ^ 12 := Nat.pow_le_pow_right (by decide) (by omega)
      refine forP_nx (κ1 := [.shr, .shr, k2, .shr, .shr]) rfl (o_retv rfl rfl ?_)
      exact ⟨by rcases hk2 with rfl | rfl <;> decide, cs, hlen, h5.up (Nat.mul_le_mul_left _ pk), he, rfl⟩
/-- what is left of a row by the table -/
def BRest (ft fd fl : Nat) : List Sm := [.asg 2 (.bi .list [.var 1]),
    .fr (.nm 3) (.seq (.cal ft [.var 0])) [.asg 4 (.cal fd [.var 3]), .asg 2 (.cal fl [.var 2, .var 3, .bin .fdiv (.idx (.var 2) (.var 4)) (.idx (.var 3) (.var 4))])],
    .ret (.bi .tuple [.var 2])]
theorem rest_call (h : Has fns f 2 5 (BRest ft fd fl) .pur) (hft : rfs fns ft = .own) (hd : Has fns fd 1 2 BLead .pur) (hl : Has fns fl 3 5 BLess .own) {R : Nat → List Int} {js : List Nat} (st : Stair R js) (bg : Big R js) {dd : Dat} (tc : callF fns gl (n + 1) ft [dd] = .ok (eLT (js.map R))) {x : List Int} (lx : x.length = 5) (bx : ∀ i, (at5 x i).natAbs ≤ 2 ^ 100) : ∃ y : List Int, y.length = 5 ∧ Sp R js (lessR x y 1) ∧ (∀ j ∈ js, 0 ≤ at5 y j ∧ at5 y j < at5 (R j) j) ∧ callF fns gl (n + 2) f [dd, eT x] = .ok (eT y) := by
  suffices q : Out (exSs (callF fns gl (n + 1)) gl (rfs fns) (BRest ft fd fl) [.shr, .shr, .shr, .shr, .shr] [some dd, some (eT x), none, none, none]) (retE 0 fun d => ∃ y : List Int, y.length = 5 ∧ Sp R js (lessR x y 1) ∧ (∀ j ∈ js, 0 ≤ at5 y j ∧ at5 y j < at5 (R j) j) ∧ d = eT y) by
    obtain ⟨d, ⟨y, q1, q2, q3, rfl⟩, q4⟩ := h.purE (gl := gl) (n := n + 1) (ds := [dd, eT x]) rfl (fun d ⟨y, _, _, _, e⟩ => by rw [e]; exact pure_eT _) q
    exact ⟨y, q1, q2, q3, q4⟩
  refine o_asg (κ' := [.shr, .shr, .own, .shr, .shr]) (d := eI x) (by simp only [evE_bi, evL_cons, evL_nil, evE_var, getV_zero, getV_succ, Rs.ok_bind, bi_list]) rfl rfl rfl rfl ?_
  dsimp only [List.set]
  refine o_fr (κ1 := [.shr, .shr, .own, .shr, .shr]) (ds := js.map fun j => eT (R j)) (by simp only [leakS, leak, leak.leakL, hft]; rfl) (by simp only [flS, okS, flE, flL, hft]; rfl) ?_ ?_
  · simp only [evS_seq, evE_cal, evL_cons, evL_nil, evE_var, getV_zero, Rs.ok_bind, tc, items_l, List.map_map]
    rfl
  have j5 := st.le5
  have zz : lessR x x 1 = Z5 := ext5 (L := 5) (less_len lx lx) rfl fun i => by rw [at_less rfl, at_Z5]; omega
  refine for_inv (fun j : Nat => eT (R j)) (fun xs κ ρ => κ = [.shr, .shr, .own, .shr, .shr] ∧ ∃ (done : List Nat) (y : List Int) (k : Nat) (o3 o4 : Option Dat), done ++ xs = js ∧ k + xs.length ≤ 5 ∧ y.length = 5 ∧ Sp R js (lessR x y 1) ∧ (∀ j ∈ done, 0 ≤ at5 y j ∧ at5 y j < at5 (R j) j) ∧ (∀ i, (at5 y i).natAbs ≤ 2 ^ (100 + k * 5470)) ∧ ρ = [some dd, some (eT x), some (eI y), o3, o4]) ?_ ?_ js _ _ ⟨rfl, [], x, 0, none, none, rfl, by omega, lx, by rw [zz]; exact Sp.zero _ st.len, fun j hj => (by cases hj), fun i => by simpa using bx i, rfl⟩
  · rintro j xs κ ρ ⟨rfl, done, y, k, o3, o4, e1, hk, ly, sp, hd0, by', rfl⟩
    rw [List.length_cons] at hk
    have jm : j ∈ js := by rw [← e1]; simp
    have lr := st.len j jm
    have jl := st.lt j jm
    have p := st.pos j jm
    obtain ⟨b1, b2⟩ := bg j jm
    have lc := lead_call (gl := gl) (n := n) hd (row := R j) (.inl rfl) (by omega) jl (by omega) fun i h1 _ => st.zero j jm i h1
    have qb := fq_p2 (b := at5 (R j) j) (by omega) (by' j)
    have wc := less_call (gl := gl) (n := n) hl (xs := y) (ys := R j) (t := (at5 y j).fdiv (at5 (R j) j)) (by omega) (fun z hz => by
      obtain ⟨i, rfl⟩ := mem_at hz
      exact mul_ok (a := 100 + k * 5470 + 3) (b := 5460) (lt_p2 qb (by omega)) (lt_p2 (b2 i) (by omega)) (by omega))
    refine ⟨[some dd, some (eT x), some (eI y), some (eT (R j)), o4], rfl, ?_⟩
    refine o_asgC (κ' := [.shr, .shr, .own, .shr, .shr]) (d := .int (j : Nat)) hd.rf (by simp only [evE_cal, evL_cons, evL_nil, evE_var, getV_zero, getV_succ, Rs.ok_bind, lc]) rfl rfl ?_
    dsimp only [List.set]
    have lcm : callF fns gl (n + 1) fl [eI y, eT (R j), .int ((at5 y j).fdiv (at5 (R j) j))] = .ok (eI (lessR y (R j) ((at5 y j).fdiv (at5 (R j) j)))) := by
      refine hl.own rfl ?_
      show Out (exSs _ _ _ BLess [.shr, .shr, .shr, .shr, .shr] [some (eI y), some (eT (R j)), some (.int _), none, none]) _
      refine o_ret (d := eI (lessR y (R j) ((at5 y j).fdiv (at5 (R j) j)))) rfl ?_ rfl (q_ret rfl)
      simp only [evE_comp, evS_zip, evE_var, getV_zero, getV_succ, Rs.ok_bind, zip_lt, zip_ints]
      rw [mapC_ok (h := fun p => .int (p.1 - (at5 y j).fdiv (at5 (R j) j) * p.2))]
      · simp only [Rs.ok_bind, List.length_map, List.length_zip]
        rw [size_ok (by omega)]
        simp [lessR, List.zip_eq_zipWith, List.map_zipWith]
      · rintro ⟨u, v⟩ hp
        have m : mulOk ((at5 y j).fdiv (at5 (R j) j)) v = true := by
          obtain ⟨i, rfl⟩ := mem_at (List.of_mem_zip hp).2
          exact mul_ok (a := 100 + k * 5470 + 3) (b := 5460) (lt_p2 qb (by omega)) (lt_p2 (b2 i) (by omega)) (by omega)
        simp [bindT, evC_nil, bin_mul m]
    refine o_asg (κ1 := [.shr, .shr, .shr, .shr, .shr]) (κ' := [.shr, .shr, .own, .shr, .shr]) (fl := 3) (d := eI (lessR y (R j) ((at5 y j).fdiv (at5 (R j) j)))) ?_ (by simp only [leak, leak.leakL, hl.rf]; rfl) (by simp only [flE, flL, hl.rf]; rfl) rfl rfl ?_
    · simp only [evE_cal, evE_bin, evE_idx, evL_cons, evL_nil, evE_var, getV_zero, getV_succ, Rs.ok_bind]
      rw [at_idx (by omega), at_idxT (by omega)]
      simp only [Rs.ok_bind]
      rw [bin_fdiv (div_mid (by omega) b1)]
      simp only [Rs.ok_bind, lcm]
    dsimp only [List.set]
    have ll := less_len (t := (at5 y j).fdiv (at5 (R j) j)) ly lr
    have atj := at_next (q := j) (x := y) (y := R j) (by rw [ly, lr])
    refine o_nil ⟨rfl, done ++ [j], _, k + 1, _, _, by rw [← e1]; simp, by omega, ll, ?_, fun i hi => ?_, fun i => ?_, rfl⟩
    · have e : lessR x (lessR y (R j) ((at5 y j).fdiv (at5 (R j) j))) 1 = lessR (lessR x y 1) (R j) (-((at5 y j).fdiv (at5 (R j) j))) := by
        refine ext5 (L := 5) (less_len lx ll) (less_len (less_len lx ly) lr) fun i => ?_
        rw [at_less (by rw [lx, ll]), at_less (by rw [ly, lr]), at_less (by rw [less_len lx ly, lr]), at_less (by rw [lx, ly])]
        grind
      rw [e]
      exact Sp.less _ (less_len lx ly) lr st.len sp (Sp.row st.len jm)
    · rcases List.mem_append.mp hi with hi | hi
      · have im : i ∈ js := by rw [← e1]; exact List.mem_append_left _ hi
        have ij : j < i := by
          have dn := st.dn
          rw [← e1] at dn
          exact (List.pairwise_append.mp dn).2.2 i hi j List.mem_cons_self
        rw [at_less (by rw [ly, lr]), st.zero j jm i ij, Int.mul_zero, Int.sub_zero]
        exact hd0 i hi
      · rw [List.mem_singleton.mp hi, atj]
        exact ⟨Int.fmod_nonneg_of_pos _ p, Int.fmod_lt_of_pos _ p⟩
    · rw [at_less (by rw [ly, lr])]
      exact two_le (by' i) (b2 i) qb (by omega) (by omega)
  · rintro κ ρ ⟨rfl, done, y, k, o3, o4, e1, hk, ly, sp, hd0, by', rfl⟩
    have e1 : done = js := by simpa using e1
    subst e1
    exact forP_nx (κ1 := [.shr, .shr, .own, .shr, .shr]) rfl (o_ret (d := eT y) rfl (by simp) rfl (q_retE rfl ⟨y, ly, sp, hd0, rfl⟩))
end
end PV

/-! PV, part l: papers -/
namespace PV
open PySem PySem.Spec PyProof.Rows L2
/-- numbers held against a row -/
def dt (n x : List Int) : Int := ev (at5 n) x
theorem dt_less {a b x : List Int} {t : Int} (h : a.length = b.length) : dt (lessR a b t) x = dt a x - t * dt b x := by
  unfold dt ev
  simp only [at_less h]
  grind
abbrev Rec := Nat × List Int × Int
/-- the sum of rows, each so often, at a place -/
def sumD (R : Nat → List Int) (c : Nat → Int) (i : Nat) : List Rec → Int
  | [] => 0
  | r :: rs => c r.1 * at5 (R r.1) i + sumD R c i rs
/-- x is y and rows, y with nothing at the rows' leads -/
structure Dec (R : Nat → List Int) (rs : List Rec) (x y : List Int) (c : Nat → Int) : Prop where
  eq : ∀ i, i < 5 → at5 x i = at5 y i + sumD R c i rs
  zero : ∀ r ∈ rs, at5 y r.1 = 0
structure Parts (R : Nat → List Int) (rs : List Rec) (bot : Int) : Prop where
  len : ∀ r ∈ rs, r.2.1.length = 5
  pos : ∀ r ∈ rs, 0 < r.2.2
  dvd : ∀ r ∈ rs, r.2.2 ∣ bot
  val : ∀ x y c, Dec R rs x y c → ∀ r ∈ rs, dt r.2.1 x = r.2.2 * c r.1
/-- numbers whose sum with a row is bot times what the rows leave of it at a place -/
def partAt (R : Nat → List Int) (p : Nat) (bot : Int) : List Rec → List Int → List Int
  | [], n => n
  | r :: rs, n => partAt R p bot rs (lessR n r.2.1 (at5 (R r.1) p * bot.fdiv r.2.2))
theorem partAt_len {R : Nat → List Int} {p : Nat} {bot : Int} : ∀ {rs : List Rec} {n : List Int}, n.length = 5 → (∀ r ∈ rs, r.2.1.length = 5) → (partAt R p bot rs n).length = 5
  | [], _, h, _ => h
  | r :: rs, n, h, hr => by
    show (partAt R p bot rs (lessR n r.2.1 (at5 (R r.1) p * bot.fdiv r.2.2))).length = 5
    exact partAt_len (less_len h (hr r List.mem_cons_self)) fun q hq => hr q (List.mem_cons_of_mem _ hq)
theorem partAt_dt {R : Nat → List Int} {p : Nat} {bot : Int} {x : List Int} {c : Nat → Int} : ∀ {rs : List Rec} {n : List Int}, n.length = 5 → (∀ r ∈ rs, r.2.1.length = 5) → (∀ r ∈ rs, r.2.2 ∣ bot ∧ 0 < r.2.2) → (∀ r ∈ rs, dt r.2.1 x = r.2.2 * c r.1) → dt (partAt R p bot rs n) x = dt n x - bot * sumD R c p rs
  | [], n, _, _, _, _ => by show dt n x = dt n x - bot * 0; omega
  | r :: rs, n, h, hl, hd, hv => by
    have l := hl r List.mem_cons_self
    show dt (partAt R p bot rs _) x = _
    rw [partAt_dt (less_len h l) (fun q hq => hl q (List.mem_cons_of_mem _ hq)) (fun q hq => hd q (List.mem_cons_of_mem _ hq)) (fun q hq => hv q (List.mem_cons_of_mem _ hq)), dt_less (by rw [h, l]), hv r List.mem_cons_self]
    obtain ⟨⟨k, hk⟩, pos⟩ := hd r List.mem_cons_self
    have e : bot.fdiv r.2.2 = k := by
      rw [hk, Int.mul_comm]
      exact Int.mul_fdiv_cancel _ (by omega)
    rw [e]
    show _ - at5 (R r.1) p * k * (r.2.2 * c r.1) - bot * sumD R c p rs = dt n x - bot * (c r.1 * at5 (R r.1) p + sumD R c p rs)
    rw [hk]
    grind
def unit5 (p : Nat) (bot : Int) : List Int := Z5.set p bot
theorem unit5_at {p : Nat} {bot : Int} (hp : p < 5) (i : Nat) : at5 (unit5 p bot) i = if i = p then bot else 0 := by
  unfold unit5 at5
  rw [List.getD_eq_getElem?_getD]
  split
  · rename_i c
    rw [c, List.getElem?_set_self (show p < Z5.length from hp)]
    rfl
  · rename_i c
    rw [List.getElem?_set_ne (Ne.symm c), ← List.getD_eq_getElem?_getD]
    exact at_Z5 i
theorem unit5_dt {p : Nat} {bot : Int} (hp : p < 5) (x : List Int) : dt (unit5 p bot) x = bot * at5 x p := by
  unfold dt ev
  simp only [unit5_at hp]
  rcases lt5 hp with rfl | rfl | rfl | rfl | rfl <;> simp
theorem Parts.at {R : Nat → List Int} {rs : List Rec} {bot : Int} (h : Parts R rs bot) {p : Nat} (hp : p < 5) {x y : List Int} {c : Nat → Int} (d : Dec R rs x y c) : dt (partAt R p bot rs (unit5 p bot)) x = bot * at5 y p := by
  rw [partAt_dt (by simp [unit5, Z5]) h.len (fun r hr => ⟨h.dvd r hr, h.pos r hr⟩) (h.val x y c d), unit5_dt hp, d.eq p hp]
  grind
theorem sumD_app {R : Nat → List Int} {c : Nat → Int} {i : Nat} : ∀ (a b : List Rec), sumD R c i (a ++ b) = sumD R c i a + sumD R c i b
  | [], b => by show sumD R c i b = 0 + _; omega
  | r :: a, b => by
    show c r.1 * at5 (R r.1) i + sumD R c i (a ++ b) = c r.1 * at5 (R r.1) i + sumD R c i a + sumD R c i b
    rw [sumD_app a b]
    omega
/-- one row more -/
theorem Parts.add {R : Nat → List Int} {rs : List Rec} {bot : Int} (h : Parts R rs bot) {j : Nat} (hj : j < 5) (hl : (R j).length = 5) (hp : 0 < at5 (R j) j) (hz : ∀ r ∈ rs, at5 (R j) r.1 = 0) (hb : 0 < bot) : Parts R (rs ++ [(j, partAt R j bot rs (unit5 j bot), bot * at5 (R j) j)]) (bot * at5 (R j) j) := by
  have pl : (partAt R j bot rs (unit5 j bot)).length = 5 := partAt_len (by simp [unit5, Z5]) h.len
  -- the decomposition without the last row
  have dec : ∀ x y c, Dec R (rs ++ [(j, partAt R j bot rs (unit5 j bot), bot * at5 (R j) j)]) x y c → Dec R rs x (lessR y (R j) (-(c j))) c ∧ at5 y j = 0 ∨ y.length ≠ 5 := by
    intro x y c d
    by_cases ly : y.length = 5
    · refine .inl ⟨⟨fun i hi => ?_, fun r hr => ?_⟩, d.zero (j, partAt R j bot rs (unit5 j bot), bot * at5 (R j) j) (List.mem_append_right _ List.mem_cons_self)⟩
      · rw [at_less (by rw [ly, hl]), d.eq i hi, sumD_app]
        show at5 y i + (sumD R c i rs + (c j * at5 (R j) i + 0)) = _
        grind
      · rw [at_less (by rw [ly, hl]), hz r hr, d.zero r (List.mem_append_left _ hr)]
        omega
    · exact .inr ly
  -- any row is as good as one of five numbers
  have cut : ∀ x y c, Dec R (rs ++ [(j, partAt R j bot rs (unit5 j bot), bot * at5 (R j) j)]) x y c → (∀ r ∈ rs, r.1 < 5) → True := fun _ _ _ _ _ => trivial
  refine ⟨fun r hr => ?_, fun r hr => ?_, fun r hr => ?_, fun x y c d r hr => ?_⟩
  · rcases List.mem_append.mp hr with hr | hr
    · exact h.len r hr
    · rw [List.mem_singleton.mp hr]; exact pl
  · rcases List.mem_append.mp hr with hr | hr
    · exact h.pos r hr
    · rw [List.mem_singleton.mp hr]; exact Int.mul_pos hb hp
  · rcases List.mem_append.mp hr with hr | hr
    · exact Int.dvd_trans (h.dvd r hr) (Int.dvd_mul_right _ _)
    · rw [List.mem_singleton.mp hr]; exact Int.dvd_refl _
  · -- y as five numbers
    let y5 : List Int := [at5 y 0, at5 y 1, at5 y 2, at5 y 3, at5 y 4]
    have y5a : ∀ i, i < 5 → at5 y5 i = at5 y i := fun i hi => by rcases lt5 hi with rfl | rfl | rfl | rfl | rfl <;> rfl
    have y50 : ∀ i, at5 y i = 0 → at5 y5 i = 0 := fun i hi => by
      by_cases c5 : i < 5
      · rw [y5a i c5, hi]
      · exact at_off rfl (by omega)
    have d5 : Dec R (rs ++ [(j, partAt R j bot rs (unit5 j bot), bot * at5 (R j) j)]) x y5 c := ⟨fun i hi => by rw [y5a i hi]; exact d.eq i hi, fun r hr => y50 _ (d.zero r hr)⟩
    rcases dec x y5 c d5 with ⟨d1, z1⟩ | hne
    · rcases List.mem_append.mp hr with hr | hr
      · exact h.val x _ c d1 r hr
      · rw [List.mem_singleton.mp hr]
        show dt (partAt R j bot rs (unit5 j bot)) x = bot * at5 (R j) j * c j
        rw [h.at hj d1, at_less (by rw [hl]; rfl), z1]
        grind
    · exact absurd rfl hne
theorem parts_nil (R : Nat → List Int) : Parts R [] 1 := ⟨fun r hr => (by cases hr), fun r hr => (by cases hr), fun r hr => (by cases hr), fun x y c d r hr => (by cases hr)⟩
/-- what the remaining rows make is at nothing but their places -/
theorem dec_of_sp {R : Nat → List Int} : ∀ {js : List Nat} {x : List Int}, x.length = 5 → Stair R js → Sp R js x → ∀ (rs : List Rec) (xs : List Nat), rs.map (·.1) ++ xs = js → ∃ c y, y.length = 5 ∧ Sp R xs y ∧ Dec R rs x y c
  | js, x, lx, st, sp, [], xs, e => ⟨fun _ => 0, x, lx, by have : xs = js := e; rw [this]; exact sp, ⟨fun i _ => by show _ = _ + 0; omega, fun r hr => (by cases hr)⟩⟩
  | js, x, lx, st, sp, r :: rs, xs, e => by
    subst e
    obtain ⟨e1, sp2⟩ := Sp.head (j := r.1) (js := rs.map (·.1) ++ xs) lx st sp
    have lr : (R r.1).length = 5 := st.len r.1 List.mem_cons_self
    obtain ⟨c, y, ly, sy, d⟩ := dec_of_sp (less_len lx lr) st.tail sp2 rs xs rfl
    have nm : ∀ q ∈ rs, q.1 ≠ r.1 := fun q hq z => by
      have : r.1 > q.1 := List.rel_of_pairwise_cons st.dn (show q.1 ∈ rs.map (·.1) ++ xs from List.mem_append_left _ (List.mem_map_of_mem hq))
      omega
    have sumC : ∀ (v : Int) (i : Nat) (l : List Rec), (∀ q ∈ l, q.1 ≠ r.1) → sumD R (fun k => if k = r.1 then v else c k) i l = sumD R c i l := by
      intro v i l
      induction l with
      | nil => intro _; rfl
      | cons q l ih =>
        intro h
        show (if q.1 = r.1 then v else c q.1) * at5 (R q.1) i + _ = c q.1 * at5 (R q.1) i + _
        rw [if_neg (h q List.mem_cons_self), ih fun z hz => h z (List.mem_cons_of_mem _ hz)]
    refine ⟨fun k => if k = r.1 then (at5 x r.1).fdiv (at5 (R r.1) r.1) else c k, y, ly, sy, fun i hi => ?_, fun q hq => ?_⟩
    · have := d.eq i hi
      rw [at_less (by rw [lx, lr])] at this
      show _ = _ + ((if r.1 = r.1 then _ else _) * at5 (R r.1) i + _)
      rw [if_pos rfl, sumC _ _ _ nm]
      omega
    · rcases List.mem_cons.mp hq with rfl | hq
      · refine Sp.above ly ⟨fun k hk => st.len k (List.mem_cons_of_mem _ (List.mem_append_right _ hk)), fun k hk => st.lt k (List.mem_cons_of_mem _ (List.mem_append_right _ hk)), ?_, fun k hk => st.pos k (List.mem_cons_of_mem _ (List.mem_append_right _ hk)), fun k hk => st.zero k (List.mem_cons_of_mem _ (List.mem_append_right _ hk))⟩ sy _ fun k hk => List.rel_of_pairwise_cons st.dn (List.mem_append_right _ hk)
        exact (List.pairwise_append.mp (List.Pairwise.of_cons st.dn)).2.1
      · exact d.zero q hq
/-! ### the product of the leads -/
def prL (R : Nat → List Int) : List Nat → Nat
  | [] => 1
  | j :: js => (at5 (R j) j).natAbs * prL R js
theorem prL_pi {L : Nat} {ss : Stps} (h : Led L ss) (h5 : 5 ≤ L) : prL (tabAt ss) (leadsOf ss) = Pi ss := by
  have pv : ∀ j, j < 5 → (stp ss j).isSome = true → (at5 (tabAt ss j) j).natAbs = piv ss j := fun j hj hs => by
    obtain ⟨r, hr⟩ := Option.isSome_iff_exists.mp hs
    unfold tabAt rowAt piv
    rw [hr, at_take hj]
    rfl
  have p1 : ∀ j, (stp ss j).isSome = false → piv ss j = 1 := fun j hs => by
    unfold piv
    cases e : stp ss j with
    | none => rfl
    | some r => rw [e] at hs; cases hs
  have gen : ∀ l : List Nat, (∀ j ∈ l, j < 5) → prL (tabAt ss) (l.filter fun j => (stp ss j).isSome) = (l.map (piv ss)).foldr (· * ·) 1 := by
    intro l
    induction l with
    | nil => intro _; rfl
    | cons j l ih =>
      intro hl
      rw [List.filter_cons, List.map_cons, List.foldr_cons]
      have ih := ih fun k hk => hl k (List.mem_cons_of_mem _ hk)
      by_cases c : (stp ss j).isSome = true
      · rw [if_pos c]
        show (at5 (tabAt ss j) j).natAbs * prL _ _ = _
        rw [pv j (hl j List.mem_cons_self) c, ih]
      · have c : (stp ss j).isSome = false := by simpa using c
        rw [if_neg (by rw [c]; decide), ih, p1 j c, Nat.one_mul]
  have := gen (down 5) (by decide)
  unfold leadsOf
  rw [this]
  show piv ss 4 * (piv ss 3 * (piv ss 2 * (piv ss 1 * (piv ss 0 * 1)))) = _
  unfold Pi
  rw [Nat.mul_one]
  ac_rfl
theorem prL_pos {R : Nat → List Int} : ∀ {js : List Nat}, Stair R js → 0 < prL R js
  | [], _ => Nat.one_pos
  | j :: js, s => Nat.mul_pos (by have := s.pos j List.mem_cons_self; omega) (prL_pos s.tail)
theorem Sys.pi_le {L b : Nat} {ss : Stps} (hl : Led L ss) (s : Sys b ss) : Pi ss ≤ 2 ^ szN b 5 := by
  obtain ⟨Δ, s1, s2, s3, _⟩ := s
  have h1 := Nat.le_of_dvd (by omega) s3
  exact Nat.le_trans h1 (Nat.le_trans s2 (Nat.pow_le_pow_right (by decide) (szN_mono (cnt_le ss))))
section
variable {fns : List FnD} {gl : Nat → Dat} {f fl n : Nat}
def BPartAt (fl : Nat) : List Sm := [.asg 4 (.lst [.cst (.int 0), .cst (.int 0), .cst (.int 0), .cst (.int 0), .cst (.int 0)]),
    .sti 4 (.var 0) (.var 3),
    .fr (.tp [5, 6]) (.zip (.var 1) (.var 2)) [.asg 4 (.cal fl [.var 4, .idx (.var 6) (.cst (.int 0)), .bin .mul (.idx (.var 5) (.var 0)) (.bin .fdiv (.var 3) (.idx (.var 6) (.cst (.int 1))))])],
    .ret (.var 4)]
def nb (k : Nat) : Nat := 3000 + 8300 * k
theorem partAt_call (h : Has fns f 4 7 (BPartAt fl) .ownp) (hl : Has fns fl 3 5 BLess .own) {R : Nat → List Int} {G : Nat → List Int} {rs : List Rec} {bot : Int} (P : Parts R rs bot) (hb : 0 < bot) (hb2 : bot.natAbs ≤ 2 ^ 2728) (hG : ∀ r ∈ rs, 5 ≤ (G r.1).length ∧ ∀ i, i < 5 → at5 (G r.1) i = at5 (R r.1) i) (hR : ∀ r ∈ rs, ∀ i, (at5 (R r.1) i).natAbs ≤ 2 ^ 5459) (hn : ∀ r ∈ rs, ∀ i, (at5 r.2.1 i).natAbs ≤ 2 ^ nb rs.length) (hk : rs.length ≤ 5) {p : Nat} (hp : p < 5) :
    (∀ i, (at5 (partAt R p bot rs (unit5 p bot)) i).natAbs ≤ 2 ^ nb (rs.length + 1)) ∧ callF fns gl (n + 2) f [.int (p : Nat), .lst (rs.map fun r => eI (G r.1)), .lst (rs.map fun r => Dat.tup [eI r.2.1, .int r.2.2]), .int bot] = .ok (eI (partAt R p bot rs (unit5 p bot))) := by
  have bq : ∀ r ∈ rs, (at5 (R r.1) p * bot.fdiv r.2.2).natAbs ≤ 2 ^ 8187 := fun r hr => by
    obtain ⟨k, hk⟩ := P.dvd r hr
    have pos := P.pos r hr
    have e : bot.fdiv r.2.2 = k := by
      rw [hk, Int.mul_comm]
      exact Int.mul_fdiv_cancel _ (by omega)
    have k2 : k.natAbs ≤ 2 ^ 2728 := by
      refine Nat.le_trans ?_ hb2
      rw [hk, Int.natAbs_mul]
      exact Nat.le_mul_of_pos_left _ (by omega)
    rw [e, Int.natAbs_mul, show (8187 : Nat) = 5459 + 2728 from rfl, Nat.pow_add]
    exact Nat.mul_le_mul (hR r hr p) k2
  have size : ∀ (xs : List Rec) (m : List Int) (i : Nat), (∀ r ∈ xs, r ∈ rs) → m.length = 5 → (∀ k, (at5 m k).natAbs ≤ 2 ^ (nb rs.length + 8190 + i)) → ∀ k, (at5 (partAt R p bot xs m) k).natAbs ≤ 2 ^ (nb rs.length + 8190 + i + xs.length) := by
    intro xs
    induction xs with
    | nil => intro m i _ _ hm k; exact hm k
    | cons r xs ih =>
      intro m i hx lm hm k
      have hr := hx r List.mem_cons_self
      have := ih (lessR m r.2.1 (at5 (R r.1) p * bot.fdiv r.2.2)) (i + 1) (fun q hq => hx q (List.mem_cons_of_mem _ hq)) (less_len lm (P.len r hr)) (fun k => by
        rw [at_less (by rw [lm, P.len r hr])]
        exact two_le (hm k) (hn r hr k) (bq r hr) (by omega) (by omega)) k
      rw [show nb rs.length + 8190 + i + (r :: xs).length = nb rs.length + 8190 + (i + 1) + xs.length by rw [List.length_cons]; omega]
      exact this
  have u0 : ∀ k, (at5 (unit5 p bot) k).natAbs ≤ 2 ^ (nb rs.length + 8190 + 0) := fun k => by
    rw [unit5_at hp]
    split
    · exact pow_up hb2 (by unfold nb; omega)
    · exact Nat.zero_le _
  refine ⟨fun i => pow_up (size rs (unit5 p bot) 0 (fun r hr => hr) (by simp [unit5, Z5]) u0 i) (by unfold nb; omega), ?_⟩
  refine h.ownp rfl (ownp_eI _) ?_
  show Out (exSs _ _ _ (BPartAt fl) [.shr, .shr, .shr, .shr, .shr, .shr, .shr] [some (.int (p : Nat)), some (.lst (rs.map fun r => eI (G r.1))), some (.lst (rs.map fun r => Dat.tup [eI r.2.1, .int r.2.2])), some (.int bot), none, none, none]) _
  refine o_asg (κ' := [.shr, .shr, .shr, .shr, .own, .shr, .shr]) (d := eI Z5) rfl rfl rfl rfl rfl ?_
  dsimp only [List.set]
  refine o_sti (κ1 := [.shr, .shr, .shr, .shr, .own, .shr, .shr]) (j := p) (m := (p : Nat)) (d := .int bot) (xs := Z5.map Dat.int) rfl rfl rfl rfl rfl (by rcases lt5 hp with rfl | rfl | rfl | rfl | rfl <;> rfl) ?_
  dsimp only [List.set]
  rw [show (Z5.map Dat.int).set p (.int bot) = (unit5 p bot).map Dat.int by unfold unit5; rw [List.map_set]]
  refine o_fr (κ1 := [.shr, .shr, .shr, .shr, .own, .shr, .shr]) (ds := rs.map fun r => Dat.tup [eI (G r.1), .tup [eI r.2.1, .int r.2.2]]) rfl rfl ?_ ?_
  · simp only [evS_zip, evE_var, getV_zero, getV_succ, Rs.ok_bind, zip_ll]
    rw [List.zip_map', List.map_map]
    rfl
  refine for_inv (fun r : Rec => Dat.tup [eI (G r.1), .tup [eI r.2.1, .int r.2.2]]) (fun xs κ ρ => κ = [.shr, .shr, .shr, .shr, .own, .shr, .shr] ∧ (∀ r ∈ xs, r ∈ rs) ∧ ∃ (m : List Int) (i : Nat) (o5 o6 : Option Dat), i + xs.length ≤ 5 ∧ m.length = 5 ∧ (∀ k, (at5 m k).natAbs ≤ 2 ^ (nb rs.length + 8190 + i)) ∧ partAt R p bot xs m = partAt R p bot rs (unit5 p bot) ∧ ρ = [some (.int (p : Nat)), some (.lst (rs.map fun r => eI (G r.1))), some (.lst (rs.map fun r => Dat.tup [eI r.2.1, .int r.2.2])), some (.int bot), some (eI m), o5, o6]) ?_ ?_ rs _ _ ⟨rfl, fun r hr => hr, unit5 p bot, 0, none, none, by omega, by simp [unit5, Z5], u0, rfl, rfl⟩
  · rintro r xs κ ρ ⟨rfl, hx, m, i, o5, o6, hi, lm, hm, e1, rfl⟩
    rw [List.length_cons] at hi
    have hr := hx r List.mem_cons_self
    obtain ⟨g1, g2⟩ := hG r hr
    have pos := P.pos r hr
    have lr := P.len r hr
    have c8 : r.2.2.natAbs < 2 ^ 8000 := by
      have h1 := Nat.le_of_dvd (by omega) (Int.natAbs_dvd_natAbs.mpr (P.dvd r hr))
      exact lt_p2 (Nat.le_trans h1 hb2) (by decide)
    have mR : mulOk (at5 (R r.1) p) (bot.fdiv r.2.2) = true := mul_ok (a := 5460) (b := 2731) (lt_p2 (hR r hr p) (by decide)) (lt_p2 (fq_p2 (by omega) hb2) (by decide)) (by decide)
    have lc := less_call (gl := gl) (n := n) hl (xs := m) (ys := r.2.1) (t := at5 (R r.1) p * bot.fdiv r.2.2) (by omega) (fun y hy => by
      obtain ⟨k, rfl⟩ := mem_at hy
      exact mul_ok (a := 8188) (b := nb rs.length + 1) (lt_p2 (bq r hr) (by decide)) (lt_p2 (hn r hr k) (by omega)) (by unfold nb; omega))
    refine ⟨[some (.int (p : Nat)), some (.lst (rs.map fun r => eI (G r.1))), some (.lst (rs.map fun r => Dat.tup [eI r.2.1, .int r.2.2])), some (.int bot), some (eI m), some (eI (G r.1)), some (.tup [eI r.2.1, .int r.2.2])], rfl, ?_⟩
    refine o_asg (κ1 := [.shr, .shr, .shr, .shr, .shr, .shr, .shr]) (κ' := [.shr, .shr, .shr, .shr, .own, .shr, .shr]) (fl := 3) (d := eI (lessR m r.2.1 (at5 (R r.1) p * bot.fdiv r.2.2))) ?_ (by simp only [leak, leak.leakL, hl.rf]; rfl) (by simp only [flE, flL, hl.rf]; rfl) rfl rfl ?_
    · simp only [evE_cal, evE_bin, evE_idx, evL_cons, evL_nil, evE_var, evE_cst, getV_zero, getV_succ, Rs.ok_bind]
      rw [tup_0, tup_1, at_idx (by omega), g2 p hp]
      simp only [Rs.ok_bind]
      rw [bin_fdiv (div_mid (by omega) c8)]
      simp only [Rs.ok_bind]
      rw [bin_mul mR]
      simp only [Rs.ok_bind, lc]
    dsimp only [List.set]
    refine o_nil ⟨rfl, fun q hq => hx q (List.mem_cons_of_mem _ hq), _, i + 1, _, _, by omega, less_len lm lr, fun k => ?_, e1, rfl⟩
    rw [at_less (by rw [lm, lr])]
    exact two_le (hm k) (hn r hr k) (bq r hr) (by omega) (by omega)
  · rintro κ ρ ⟨rfl, _, m, i, o5, o6, hi, lm, hm, e1, rfl⟩
    have e1 : m = partAt R p bot rs (unit5 p bot) := e1
    rw [← e1]
    exact forP_nx (κ1 := [.shr, .shr, .shr, .shr, .own, .shr, .shr]) rfl (o_retv rfl rfl (q_ret rfl))
end
end PV

/-! PV, part m: papers (the walk) -/
namespace PV
open PySem PySem.Spec PyProof.Rows L2
theorem bi_divmod {i j : Int} (h0 : 0 < j) (h : divOk i j = true) : doBi .divmod [.int i, .int j] = .ok (.tup [.int (i.fdiv j), .int (i.fmod j)]) := by
  show (if (decide (0 < j) && divOk i j) = true then _ else _) = _
  rw [if_pos (by rw [decide_eq_true h0, h]; rfl), Int.fdiv_eq_ediv_of_nonneg i (by omega), Int.fmod_eq_emod_of_nonneg i (by omega)]
theorem dot_dt {n x : List Int} (hn : n.length = 5) (hx : x.length = 5) : dot n x = dt n x := by
  match n, hn, x, hx with
  | [a, b, c, d, e], _, [a', b', c', d', e'], _ =>
    show (List.sum [a * a', b * b', c * c', d * d', e * e']) = ev (at5 [a, b, c, d, e]) [a', b', c', d', e']
    simp [ev, at5]
    omega
/-- numbers brought below a ring say the same in it -/
theorem dt_ring {n x : List Int} {B : Int} (hB : B ≠ 0) : (dt (n.map fun v => v.fmod B) x).fmod B = (dt n x).fmod B := by
  have at' : ∀ i, at5 (n.map fun v => v.fmod B) i = at5 n i - (at5 n i).fdiv B * B := fun i => by
    unfold at5
    rw [List.getD_eq_getElem?_getD, List.getD_eq_getElem?_getD, List.getElem?_map]
    cases n[i]? with
    | none => show (0 : Int) = 0 - Int.fdiv 0 B * B; rw [Int.zero_fdiv]; omega
    | some v =>
      show v.fmod B = v - v.fdiv B * B
      have := fdm v B
      omega
  have e : dt (n.map fun v => v.fmod B) x = dt n x - ((at5 n 0).fdiv B * at5 x 0 + (at5 n 1).fdiv B * at5 x 1 + (at5 n 2).fdiv B * at5 x 2 + (at5 n 3).fdiv B * at5 x 3 + (at5 n 4).fdiv B * at5 x 4) * B := by
    unfold dt ev
    simp only [at']
    grind
  rw [e]
  generalize (at5 n 0).fdiv B * at5 x 0 + (at5 n 1).fdiv B * at5 x 1 + (at5 n 2).fdiv B * at5 x 2 + (at5 n 3).fdiv B * at5 x 3 + (at5 n 4).fdiv B * at5 x 4 = z
  have h := fdm (dt n x) B
  refine fm_uniq hB (k := (dt n x).fdiv B - z) ?_ (fm_rng hB)
  rw [Int.sub_mul]
  omega
/-- what a paper tells -/
def PaperOk (R : Nat → List Int) (js : List Nat) (cs : List (List Int)) (row : List Int) (d : Dat) : Prop :=
  (∃ ps : List Int, d = .tup [.str "made", eI ps] ∧ ps.length = cs.length ∧ prodR (cs.zip ps) Z5 = row ∧ ∀ x ∈ ps, x.natAbs ≤ 2 ^ 40000000) ∨
  (¬ Sp R js row ∧ ∃ (k : List Int) (m : Int), d = .tup [.str "told", eK k m] ∧ k.length = 5 ∧ (m = 0 ∨ 2 ≤ m) ∧ (∀ x ∈ k, x.natAbs ≤ 2 ^ 60000) ∧ (∀ c ∈ cs, valK k m c = 0) ∧ valK k m row ≠ 0)
section
variable {fns : List FnD} {gl : Nat → Dat} {f fl fd fp fr n : Nat}
def BPaper (fr fd fp fl : Nat) : List Sm := [.asg 2 (.comp (.cst (.int 0)) (.nm 12) (.seq (.var 0)) []),
    .asg 3 (.bi .list [.var 1]),
    .asg 4 (.lst []),
    .asg 5 (.lst []),
    .asg 6 (.cst (.int 1)),
    .fr (.nm 7) (.seq (.cal fr [.var 0])) [.asg 8 (.cal fd [.slc (.var 7) [] [.cst (.int 5)]]), .asg 9 (.cal fp [.var 8, .var 4, .var 5, .var 6]), .asg 6 (.bin .mul (.var 6) (.idx (.var 7) (.var 8))), .unp [10, 11] (.bi .divmod [.idx (.var 3) (.var 8), .idx (.var 7) (.var 8)]), .ite (.cmp .ne (.var 11) (.cst (.int 0))) [.ret (.tup [.cst (.str "told"), .tup [.bi .tuple [.comp (.bin .mod (.var 13) (.var 6)) (.nm 13) (.seq (.var 9)) []], .var 6]])] [], .asg 3 (.cal fl [.var 3, .slc (.var 7) [] [.cst (.int 5)], .var 10]), .asg 2 (.cal fl [.var 2, .slc (.var 7) [.cst (.int 5)] [], .bin .sub (.cst (.int 0)) (.var 10)]), .app 4 (.var 7), .app 5 (.tup [.var 9, .var 6])],
    .fr (.nm 8) (.rng [.cst (.int 5)]) [.ite (.cmp .ne (.idx (.var 3) (.var 8)) (.cst (.int 0))) [.ret (.tup [.cst (.str "told"), .tup [.bi .tuple [.cal fp [.var 8, .var 4, .var 5, .var 6]], .cst (.int 0)]])] []],
    .ret (.tup [.cst (.str "made"), .var 2])]
def pw (k : Nat) : Nat := 39006200 + k * 30000
theorem paper_call (h : Has fns f 2 14 (BPaper fr fd fp fl) .shr) (hfr : rfs fns fr = .own) (hd : Has fns fd 1 2 BLead .pur) (hp : Has fns fp 4 7 (BPartAt fl) .ownp) (hl : Has fns fl 3 5 BLess .own) {b M : Nat} {cs : List (List Int)} {ss : Stps} (hc : Coms M cs) (hb : b ≤ 88) (T : Tab b cs cs.length ss (WB 6)) (lc : callF fns gl (n + 2) fr [eLT cs] = .ok (.lst ((longsOf ss).map eI))) {row : List Int} (lr : row.length = 5) (br : ∀ i, (at5 row i).natAbs ≤ 2 ^ 100) :
    ∃ d, PaperOk (tabAt ss) (leadsOf ss) cs row d ∧ callF fns gl (n + 3) f [eLT cs, eT row] = .ok d := by
  have st := tab_stair T.led (by omega) T.red
  have bg := tab_big T hb
  have sp := tab_sp hc T
  have hsz : szN b 5 ≤ 2728 := by
    unfold szN
    have : (2 ^ 5 - 1) * b = 31 * b := rfl
    omega
  have pr0 : prL (tabAt ss) (leadsOf ss) ≤ 2 ^ 2728 := by
    rw [prL_pi T.led (by omega)]
    exact pow_up (T.sys.pi_le T.led) hsz
  -- the long rows
  have Gl : ∀ j ∈ leadsOf ss, (rowAt ss j).length = 5 + cs.length ∧ (rowAt ss j).take 5 = tabAt ss j ∧ (∀ i, i < 5 → at5 (rowAt ss j) i = at5 (tabAt ss j) i) ∧ Made cs (rowAt ss j) ∧ ∀ i, (at5 (rowAt ss j) i).natAbs ≤ 2 ^ WB 6 := fun j hj => by
    obtain ⟨j5, e⟩ := leads_mem hj
    exact ⟨T.led.len j _ e, rfl, fun i hi => by unfold tabAt; rw [at_take hi], tab_made hc T j _ e, fun i => T.wb i j _ e⟩
  have l6 := hc.1
  suffices q : Out (exSs (callF fns gl (n + 2)) gl (rfs fns) (BPaper fr fd fp fl) [.shr, .shr, .shr, .shr, .shr, .shr, .shr, .shr, .shr, .shr, .shr, .shr, .shr, .shr] [some (eLT cs), some (eT row), none, none, none, none, none, none, none, none, none, none, none, none]) (retE 2 fun d => PaperOk (tabAt ss) (leadsOf ss) cs row d) by
    exact h.shrE (gl := gl) (n := n + 2) (ds := [eLT cs, eT row]) rfl q
  generalize hR : tabAt ss = R at *
  generalize hG : rowAt ss = G at *
  generalize hjs : leadsOf ss = js at *
  have eL : longsOf ss = js.map G := by unfold longsOf; rw [hjs, hG]
  rw [eL] at lc
  have js5 := st.le5
  have z0 : ∀ i, sumZ (cs.zip (List.replicate cs.length (0 : Int))) i = 0 := fun i => sumZ_zero cs cs.length
  refine o_asg (κ' := [.shr, .shr, .own, .shr, .shr, .shr, .shr, .shr, .shr, .shr, .shr, .shr, .shr, .shr]) (d := eI (List.replicate cs.length 0)) ?_ rfl rfl rfl rfl ?_
  · simp only [evE_comp, evS_seq, evE_var, getV_zero, Rs.ok_bind, items_l]
    rw [mapC_ok (h := fun _ => .int 0)]
    · simp only [Rs.ok_bind, List.length_map]
      rw [size_ok (by omega)]
      simp [List.map_const']
    · intro x _
      simp [bindT, evC_nil]
  dsimp only [List.set]
  refine o_asg (κ' := [.shr, .shr, .own, .own, .shr, .shr, .shr, .shr, .shr, .shr, .shr, .shr, .shr, .shr]) (d := eI row) (by simp only [evE_bi, evL_cons, evL_nil, evE_var, getV_zero, getV_succ, Rs.ok_bind, bi_list]) rfl rfl rfl rfl ?_
  dsimp only [List.set]
  refine o_asg (κ' := [.shr, .shr, .own, .own, .own, .shr, .shr, .shr, .shr, .shr, .shr, .shr, .shr, .shr]) (d := .lst []) (by simp) rfl rfl rfl rfl ?_
  dsimp only [List.set]
  refine o_asg (κ' := [.shr, .shr, .own, .own, .own, .own, .shr, .shr, .shr, .shr, .shr, .shr, .shr, .shr]) (d := .lst []) (by simp) rfl rfl rfl rfl ?_
  dsimp only [List.set]
  refine o_asg (κ' := [.shr, .shr, .own, .own, .own, .own, .shr, .shr, .shr, .shr, .shr, .shr, .shr, .shr]) (d := .int 1) rfl rfl rfl rfl rfl ?_
  dsimp only [List.set]
  refine o_fr (κ1 := [.shr, .shr, .own, .own, .own, .own, .shr, .shr, .shr, .shr, .shr, .shr, .shr, .shr]) (ds := js.map fun j => eI (G j)) (by simp only [leakS, leak, leak.leakL, hfr]; rfl) (by simp only [flS, okS, flE, flL, hfr]; rfl) ?_ ?_
  · simp only [evS_seq, evE_cal, evL_cons, evL_nil, evE_var, getV_zero, Rs.ok_bind, lc, items_l, List.map_map]
    rfl
  refine for_inv (fun j : Nat => eI (G j)) (fun xs κ ρ => ∃ (k9 : SK) (rs : List Rec) (bot : Int) (left ps : List Int) (c : Nat → Int) (o7 o8 o9 o10 o11 : Option Dat), (k9 = .shr ∨ k9 = .own) ∧ κ = [.shr, .shr, .own, .own, .own, .own, .shr, .shr, .shr, k9, .shr, .shr, .shr, .shr] ∧ rs.map (·.1) ++ xs = js ∧ Parts R rs bot ∧ 0 < bot ∧ bot.natAbs * prL R xs ≤ 2 ^ 2728 ∧ (∀ r ∈ rs, ∀ i, (at5 r.2.1 i).natAbs ≤ 2 ^ nb rs.length) ∧ left.length = 5 ∧ Dec R rs row left c ∧ (∀ i, (at5 left i).natAbs ≤ 2 ^ (100 + rs.length * 5470)) ∧ (Sp R js row → Sp R xs left) ∧ ps.length = cs.length ∧ (∀ i, i < 5 → at5 row i = at5 left i + sumZ (cs.zip ps) i) ∧ (∀ i, (at5 ps i).natAbs ≤ 2 ^ pw rs.length) ∧ ρ = [some (eLT cs), some (eT row), some (eI ps), some (eI left), some (.lst (rs.map fun r => eI (G r.1))), some (.lst (rs.map fun r => Dat.tup [eI r.2.1, .int r.2.2])), some (.int bot), o7, o8, o9, o10, o11, none, none]) ?_ ?_ js _ _ ⟨.shr, [], 1, row, List.replicate cs.length 0, fun _ => 0, none, none, none, none, none, .inl rfl, rfl, rfl, parts_nil R, by decide, by simpa using pr0, fun r hr => (by cases hr), lr, ⟨fun i _ => by show _ = _ + 0; omega, fun r hr => (by cases hr)⟩, fun i => by simpa using br i, fun s => s, List.length_replicate, fun i _ => by rw [z0]; omega, fun i => by
    refine Nat.le_trans (at_mem (M := 0) (fun x hx => by rw [(List.mem_replicate.mp hx).2]; exact Nat.le_refl _) i) (Nat.zero_le _), rfl⟩
  · rintro j xs κ ρ ⟨k9, rs, bot, left, ps, c, o7, o8, o9, o10, o11, hk9, rfl, ejs, P, bpos, bprod, bn, ll, dec, bl, spl, lps, made, bps, rfl⟩
    have jm : j ∈ js := by rw [← ejs]; simp
    obtain ⟨gl1, gl2, gl3, gl4, gl5⟩ := Gl j jm
    have lrj := st.len j jm
    have j5 := st.lt j jm
    have pj := st.pos j jm
    obtain ⟨b1, b2⟩ := bg j jm
    have rsl : rs.length + (xs.length + 1) ≤ 5 := by
      have := congrArg List.length ejs
      rw [List.length_append, List.length_map, List.length_cons] at this
      omega
    have inj : ∀ r ∈ rs, r.1 ∈ js ∧ j < r.1 := fun r hr => by
      have rm : r.1 ∈ rs.map (·.1) := List.mem_map_of_mem hr
      refine ⟨by rw [← ejs]; exact List.mem_append_left _ rm, ?_⟩
      have dn := st.dn
      rw [← ejs] at dn
      exact (List.pairwise_append.mp dn).2.2 _ rm j List.mem_cons_self
    have stx : Stair R (j :: xs) := by
      have hx : ∀ k ∈ j :: xs, k ∈ js := fun k hk => by rw [← ejs]; exact List.mem_append_right _ hk
      have dn := st.dn
      rw [← ejs] at dn
      exact ⟨fun k hk => st.len k (hx k hk), fun k hk => st.lt k (hx k hk), (List.pairwise_append.mp dn).2.1, fun k hk => st.pos k (hx k hk), fun k hk => st.zero k (hx k hk)⟩
    have pr1 : 0 < prL R xs := prL_pos stx.tail
    have bot2 : bot.natAbs ≤ 2 ^ 2728 := by
      have h1 : bot.natAbs * 1 ≤ bot.natAbs * prL R (j :: xs) := Nat.mul_le_mul_left _ (prL_pos stx)
      omega
    have bprod2 : (bot * at5 (R j) j).natAbs * prL R xs ≤ 2 ^ 2728 := by
      rw [Int.natAbs_mul, Nat.mul_assoc]
      exact bprod
    have bot3 : (bot * at5 (R j) j).natAbs ≤ 2 ^ 2728 := by
      have h1 : (bot * at5 (R j) j).natAbs * 1 ≤ (bot * at5 (R j) j).natAbs * prL R xs := Nat.mul_le_mul_left _ pr1
      omega
    have bp2 : 0 < bot * at5 (R j) j := Int.mul_pos bpos pj
    have leadc := lead_call (gl := gl) (n := n + 1) hd (row := R j) (.inr rfl) (by omega) j5 (by omega) fun i h1 _ => st.zero j jm i h1
    obtain ⟨pb, pc⟩ := partAt_call (gl := gl) (n := n) hp hl (G := G) P bpos bot2 (fun r hr => by
      obtain ⟨a1, _, a3, _⟩ := Gl r.1 (inj r hr).1
      exact ⟨by omega, a3⟩) (fun r hr => (bg r.1 (inj r hr).1).2) bn (by omega) j5
    have Padd := P.add j5 lrj pj (fun r hr => st.zero j jm r.1 (inj r hr).2) bpos
    have nl := partAt_len (R := R) (p := j) (bot := bot) (n := unit5 j bot) (by simp [unit5, Z5]) P.len
    have nv : ∀ x y c, Dec R rs x y c → dt (partAt R j bot rs (unit5 j bot)) x = bot * at5 y j := fun x y c d => P.at j5 d
    generalize partAt R j bot rs (unit5 j bot) = num at *
    have lg5 : at5 (G j) j = at5 (R j) j := gl3 j j5
    refine ⟨[some (eLT cs), some (eT row), some (eI ps), some (eI left), some (.lst (rs.map fun r => eI (G r.1))), some (.lst (rs.map fun r => Dat.tup [eI r.2.1, .int r.2.2])), some (.int bot), some (eI (G j)), o8, o9, o10, o11, none, none], rfl, ?_⟩
    show Out (exSs _ _ _ _ [.shr, .shr, .own, .own, .own, .own, .shr, .shr, .shr, k9, .shr, .shr, .shr, .shr] _) _
    refine o_asgC (κ' := [.shr, .shr, .own, .own, .own, .own, .shr, .shr, .shr, k9, .shr, .shr, .shr, .shr]) (d := .int (j : Nat)) hd.rf ?_ rfl rfl ?_
    · simp only [evE_cal, evE_slc, evL_cons, evL_nil, evE_var, evE_cst, getV_zero, getV_succ, Rs.ok_bind, partD, slc_to, gl2, leadc]
    dsimp only [List.set]
    refine o_asg (κ1 := [.shr, .shr, .own, .own, .own, .own, .shr, .shr, .shr, k9, .shr, .shr, .shr, .shr]) (κ' := [.shr, .shr, .own, .own, .own, .own, .shr, .shr, .shr, .own, .shr, .shr, .shr, .shr]) (fl := 3) (d := eI num) (by simp only [evE_cal, evL_cons, evL_nil, evE_var, getV_zero, getV_succ, Rs.ok_bind, pc]) (by simp only [leak, hp.rf]; rfl) (by simp only [flE, hp.rf]; rfl) rfl rfl ?_
    dsimp only [List.set]
    refine o_asg (κ' := [.shr, .shr, .own, .own, .own, .own, .shr, .shr, .shr, .own, .shr, .shr, .shr, .shr]) (d := .int (bot * at5 (R j) j)) ?_ rfl rfl rfl rfl ?_
    · simp only [evE_bin, evE_idx, evE_var, getV_zero, getV_succ, Rs.ok_bind]
      rw [at_idx (by omega), lg5]
      simp only [Rs.ok_bind]
      exact bin_mul (mul_ok (a := 2729) (b := 8000) (lt_p2 bot2 (by decide)) b1 (by decide))
    dsimp only [List.set]
    refine o_unp (κ1 := [.shr, .shr, .own, .own, .own, .own, .shr, .shr, .shr, .own, .shr, .shr, .shr, .shr]) (ρ' := [some (eLT cs), some (eT row), some (eI ps), some (eI left), some (.lst (rs.map fun r => eI (G r.1))), some (.lst (rs.map fun r => Dat.tup [eI r.2.1, .int r.2.2])), some (.int (bot * at5 (R j) j)), some (eI (G j)), some (.int (j : Nat)), some (eI num), some (.int ((at5 left j).fdiv (at5 (R j) j))), some (.int ((at5 left j).fmod (at5 (R j) j))), none, none]) (d := .tup [.int ((at5 left j).fdiv (at5 (R j) j)), .int ((at5 left j).fmod (at5 (R j) j))]) ?_ rfl rfl rfl ?_
    · simp only [evE_bi, evE_idx, evL_cons, evL_nil, evE_var, getV_zero, getV_succ, Rs.ok_bind]
      rw [at_idx (by omega), at_idx (by omega), lg5]
      simp only [Rs.ok_bind]
      exact bi_divmod pj (div_mid (by omega) b1)
    show Out (exSs _ _ _ _ [.shr, .shr, .own, .own, .own, .own, .shr, .shr, .shr, .own, .shr, .shr, .shr, .shr] _) _
    have fd0 := fdm (at5 left j) (at5 (R j) j)
    have f0 := Int.fmod_nonneg_of_pos (at5 left j) pj
    have f1 := Int.fmod_lt_of_pos (at5 left j) pj
    refine o_if (k := !decide ((at5 left j).fmod (at5 (R j) j) = 0)) (by simp only [evE_cmp, evE_var, evE_cst, getV_zero, getV_succ, Rs.ok_bind, cmp_nei]) (fun q => ?_) fun q => ?_
    · -- told
      have q : (at5 left j).fmod (at5 (R j) j) ≠ 0 := by simpa using q
      let B := bot * at5 (R j) j
      refine o_ret (d := .tup [.str "told", eK (num.map fun v => v.fmod B) B]) rfl ?_ rfl (show 2 ≤ _ ∧ PaperOk R js cs row _ from ⟨of_decide_eq_true rfl, .inr ⟨fun s => ?_, num.map fun v => v.fmod B, B, rfl, by rw [List.length_map]; exact nl, .inr ?_, fun x hx => ?_, fun c' hc' => ?_, ?_⟩⟩)
      · simp only [evE_tup, evE_bi, evE_comp, evS_seq, evL_cons, evL_nil, evE_var, evE_cst, getV_zero, getV_succ, Rs.ok_bind, items_l]
        rw [mapC_ok (h := fun v => .int (v.fmod B))]
        · simp only [Rs.ok_bind, List.length_map]
          rw [size_ok (by omega)]
          simp [eK, B]
        · intro v _
          simp only [bindT, List.set_cons_succ, List.set_cons_zero, Rs.ok_bind, evC_nil, evE_bin, evE_var, getV_zero, getV_succ, if_true]
          rw [bin_mod (by omega)]
          rfl
      · have e := (Sp.head ll stx (spl s)).1
        omega
      · have a1 : 1 * 2 ≤ bot * at5 (R j) j := Int.mul_le_mul (by omega) (by omega) (by decide) (by omega)
        exact a1
      · obtain ⟨v, _, rfl⟩ := List.mem_map.mp hx
        have g0 := Int.fmod_nonneg_of_pos v bp2
        have g1 := Int.fmod_lt_of_pos v bp2
        have h1 : (v.fmod (bot * at5 (R j) j)).natAbs ≤ (bot * at5 (R j) j).natAbs := by omega
        exact pow_up (Nat.le_trans h1 bot3) (by decide)
      · have lc' := (hc.2 c' hc').1
        obtain ⟨cc, y, ly, sy, dy⟩ := dec_of_sp lc' st (sp c' hc') rs (j :: xs) ejs
        have e := (Sp.head ly stx sy).1
        have v := nv c' y cc dy
        unfold valK
        rw [if_neg (show B ≠ 0 from by omega), dot_dt (by rw [List.length_map]; exact nl) lc', dt_ring (show B ≠ 0 from by omega), v, e]
        refine fm_uniq (show B ≠ 0 from by omega) (k := (at5 y j).fdiv (at5 (R j) j)) ?_ (.inl ⟨bp2, by omega, bp2⟩)
        show _ = 0 + _ * (bot * at5 (R j) j)
        grind
      · have v := nv row left c dec
        unfold valK
        rw [if_neg (show B ≠ 0 from by omega), dot_dt (by rw [List.length_map]; exact nl) lr, dt_ring (show B ≠ 0 from by omega), v]
        have e : (bot * at5 left j).fmod B = bot * (at5 left j).fmod (at5 (R j) j) := by
          refine fm_uniq (show B ≠ 0 from by omega) (k := (at5 left j).fdiv (at5 (R j) j)) ?_ (.inl ⟨bp2, Int.mul_nonneg (by omega) f0, Int.mul_lt_mul_of_pos_left f1 bpos⟩)
          show _ = _ + _ * (bot * at5 (R j) j)
          conv => lhs; rw [fd0]
          grind
        rw [e]
        exact Int.mul_ne_zero (by omega) q
    · have q : (at5 left j).fmod (at5 (R j) j) = 0 := by simpa using q
      have qb := fq_p2 (b := at5 (R j) j) (by omega) (bl j)
      generalize hq : (at5 left j).fdiv (at5 (R j) j) = t at *
      have W6 : WB 6 = 39006000 := rfl
      have lc1 := less_call (gl := gl) (n := n + 1) hl (xs := left) (ys := R j) (t := t) (by omega) (fun y hy => by
        obtain ⟨i, rfl⟩ := mem_at hy
        exact mul_ok (a := 100 + rs.length * 5470 + 3) (b := 5460) (lt_p2 qb (by omega)) (lt_p2 (b2 i) (by decide)) (by omega))
      have atd : ∀ i, at5 ((G j).drop 5) i = at5 (G j) (5 + i) := fun i => by
        unfold at5
        rw [List.getD_eq_getElem?_getD, List.getD_eq_getElem?_getD, List.getElem?_drop]
      have ld5 : ((G j).drop 5).length = cs.length := by rw [List.length_drop, gl1]; omega
      have lc2 := less_call (gl := gl) (n := n + 1) hl (xs := ps) (ys := (G j).drop 5) (t := 0 - t) (by omega) (fun y hy => by
        obtain ⟨i, rfl⟩ := mem_at hy
        rw [atd]
        exact mul_ok (a := 100 + rs.length * 5470 + 3) (b := 39006001) (lt_p2 (by rw [Int.zero_sub, Int.natAbs_neg]; exact qb) (by omega)) (lt_p2 (gl5 _) (by rw [W6]; decide)) (by omega))
      refine o_asg (κ1 := [.shr, .shr, .own, .shr, .own, .own, .shr, .shr, .shr, .own, .shr, .shr, .shr, .shr]) (κ' := [.shr, .shr, .own, .own, .own, .own, .shr, .shr, .shr, .own, .shr, .shr, .shr, .shr]) (fl := 3) (d := eI (lessR left (R j) t)) ?_ (by simp only [leak, leak.leakL, hl.rf]; rfl) (by simp only [flE, flL, hl.rf]; rfl) rfl rfl ?_
      · simp only [evE_cal, evE_slc, evL_cons, evL_nil, evE_var, evE_cst, getV_zero, getV_succ, Rs.ok_bind, partD, slc_to, gl2, lc1]
      dsimp only [List.set]
      refine o_asg (κ1 := [.shr, .shr, .shr, .own, .own, .own, .shr, .shr, .shr, .own, .shr, .shr, .shr, .shr]) (κ' := [.shr, .shr, .own, .own, .own, .own, .shr, .shr, .shr, .own, .shr, .shr, .shr, .shr]) (fl := 3) (d := eI (lessR ps ((G j).drop 5) (0 - t))) ?_ (by simp only [leak, leak.leakL, hl.rf]; rfl) (by simp only [flE, flL, hl.rf]; rfl) rfl rfl ?_
      · simp only [evE_cal, evE_slc, evE_bin, evL_cons, evL_nil, evE_var, evE_cst, getV_zero, getV_succ, Rs.ok_bind, partD, slc_from (show 5 ≤ (G j).length by omega), bin_sub, lc2]
      dsimp only [List.set]
      refine o_app (κ1 := [.shr, .shr, .own, .own, .own, .own, .shr, .shr, .shr, .own, .shr, .shr, .shr, .shr]) (d := eI (G j)) (xs := rs.map fun r => eI (G r.1)) rfl rfl rfl rfl (by rw [List.length_map]; exact small1000 (by omega)) ?_
      dsimp only [List.set]
      refine o_app (κ1 := [.shr, .shr, .own, .own, .own, .own, .shr, .shr, .shr, .shr, .shr, .shr, .shr, .shr]) (d := .tup [eI num, .int (bot * at5 (R j) j)]) (xs := rs.map fun r => Dat.tup [eI r.2.1, .int r.2.2]) rfl rfl rfl rfl (by rw [List.length_map]; exact small1000 (by omega)) ?_
      dsimp only [List.set]
      have ll2 := less_len (t := t) ll lrj
      have nbs : nb rs.length ≤ nb (rs.length + 1) := by unfold nb; omega
      refine o_nil ⟨.shr, rs ++ [(j, num, bot * at5 (R j) j)], bot * at5 (R j) j, lessR left (R j) t, lessR ps ((G j).drop 5) (0 - t), fun k => if k = j then t else c k, _, _, _, _, _, .inl rfl, rfl, by rw [← ejs]; simp, Padd, bp2, bprod2, fun r hr i => ?_, ll2, ⟨fun i hi => ?_, fun r hr => ?_⟩, fun i => ?_, fun s => ?_, by rw [less_len (L := cs.length) lps ld5], fun i hi => ?_, fun i => ?_, by simp; exact ⟨rfl, rfl, rfl, rfl, rfl⟩⟩
      · rw [List.length_append, List.length_singleton]
        rcases List.mem_append.mp hr with hr | hr
        · exact pow_up (bn r hr i) nbs
        · rw [List.mem_singleton.mp hr]; exact pb i
      · have sumC : ∀ l : List Rec, (∀ q ∈ l, q.1 ≠ j) → sumD R (fun k => if k = j then t else c k) i l = sumD R c i l := by
          intro l
          induction l with
          | nil => intro _; rfl
          | cons q l ih =>
            intro h
            show (if q.1 = j then t else c q.1) * at5 (R q.1) i + _ = c q.1 * at5 (R q.1) i + _
            rw [if_neg (h q List.mem_cons_self), ih fun z hz => h z (List.mem_cons_of_mem _ hz)]
        rw [sumD_app, sumC rs fun q hq => by have := (inj q hq).2; omega, at_less (by rw [ll, lrj])]
        show _ = _ + (_ + ((if j = j then t else c j) * at5 (R j) i + 0))
        rw [if_pos rfl]
        have := dec.eq i hi
        omega
      · rcases List.mem_append.mp hr with hr | hr
        · rw [at_less (by rw [ll, lrj]), dec.zero r hr, st.zero j jm r.1 (inj r hr).2]
          omega
        · rw [List.mem_singleton.mp hr]
          show at5 (lessR left (R j) t) j = 0
          rw [at_less (by rw [ll, lrj])]
          omega
      · rw [at_less (by rw [ll, lrj]), List.length_append, List.length_singleton]
        exact two_le (bl i) (b2 i) qb (by omega) (by omega)
      · have := (Sp.head ll stx (spl s)).2
        rw [hq] at this
        exact this
      · rw [at_less (by rw [ll, lrj]), sumZ_less _ _ _ (by rw [lps, ld5])]
        have m1 := gl4 i hi
        rw [gl3 i hi] at m1
        rw [← m1]
        have := made i hi
        grind
      · rw [at_less (by rw [lps, ld5]), atd, List.length_append, List.length_singleton]
        refine two_le (bps i) (gl5 _) (by rw [Int.zero_sub, Int.natAbs_neg]; exact qb) (by unfold pw; omega) ?_
        rw [W6]
        unfold pw
        omega
  · rintro κ ρ ⟨k9, rs, bot, left, ps, c, o7, o8, o9, o10, o11, hk9, rfl, ejs, P, bpos, bprod, bn, ll, dec, bl, spl, lps, made, bps, rfl⟩
    have ejs : rs.map (·.1) = js := by simpa using ejs
    have rsl : rs.length ≤ 5 := by
      have := congrArg List.length ejs
      rw [List.length_map] at this
      omega
    have inj : ∀ r ∈ rs, r.1 ∈ js := fun r hr => by rw [← ejs]; exact List.mem_map_of_mem hr
    have bot2 : bot.natAbs ≤ 2 ^ 2728 := by
      have : bot.natAbs * 1 ≤ 2 ^ 2728 := bprod
      omega
    refine forP_nx (κ1 := [.shr, .shr, .own, .own, .own, .own, .shr, .shr, .shr, k9, .shr, .shr, .shr, .shr]) rfl ?_
    refine o_fr (κ1 := [.shr, .shr, .own, .own, .own, .own, .shr, .shr, .shr, k9, .shr, .shr, .shr, .shr]) (ds := (List.range 5).map fun i => Dat.int (i : Nat)) rfl rfl (by simp only [evS_rng, evL_cons, evL_nil, evE_cst, Rs.ok_bind]; exact rng1 (n := 5) (by decide)) ?_
    refine for_inv (fun i : Nat => Dat.int (i : Nat)) (fun xs κ ρ => κ = [.shr, .shr, .own, .own, .own, .own, .shr, .shr, .shr, k9, .shr, .shr, .shr, .shr] ∧ ∃ (q : Nat) (o8 : Option Dat), q + xs.length = 5 ∧ xs = List.range' q xs.length ∧ (∀ i, i < q → at5 left i = 0) ∧ ρ = [some (eLT cs), some (eT row), some (eI ps), some (eI left), some (.lst (rs.map fun r => eI (G r.1))), some (.lst (rs.map fun r => Dat.tup [eI r.2.1, .int r.2.2])), some (.int bot), o7, o8, o9, o10, o11, none, none]) ?_ ?_ (List.range 5) _ _ ⟨rfl, 0, o8, rfl, rfl, fun i hi => by omega, rfl⟩
    · rintro p xs κ ρ ⟨rfl, q, o8, hq, hxs, hz, rfl⟩
      rw [List.length_cons] at hq hxs
      have hxs : p :: xs = q :: List.range' (q + 1) xs.length := hxs
      injection hxs with e1 e2
      subst e1
      have p5 : p < 5 := by omega
      obtain ⟨pb, pc⟩ := partAt_call (gl := gl) (n := n) hp hl (G := G) P bpos bot2 (fun r hr => by
        obtain ⟨a1, _, a3, _⟩ := Gl r.1 (inj r hr)
        exact ⟨by omega, a3⟩) (fun r hr => (bg r.1 (inj r hr)).2) bn rsl p5
      have nl := partAt_len (R := R) (p := p) (bot := bot) (n := unit5 p bot) (by simp [unit5, Z5]) P.len
      have nv : ∀ x y c, Dec R rs x y c → dt (partAt R p bot rs (unit5 p bot)) x = bot * at5 y p := fun x y c d => P.at p5 d
      generalize partAt R p bot rs (unit5 p bot) = num at *
      refine ⟨[some (eLT cs), some (eT row), some (eI ps), some (eI left), some (.lst (rs.map fun r => eI (G r.1))), some (.lst (rs.map fun r => Dat.tup [eI r.2.1, .int r.2.2])), some (.int bot), o7, some (.int (p : Nat)), o9, o10, o11, none, none], rfl, ?_⟩
      refine o_if (k := !decide (at5 left p = 0)) ?_ (fun q => ?_) fun q => ?_
      · simp only [evE_cmp, evE_idx, evE_var, evE_cst, getV_zero, getV_succ, Rs.ok_bind]
        rw [at_idx (by omega)]
        simp only [Rs.ok_bind, cmp_nei]
      · have q : at5 left p ≠ 0 := by simpa using q
        refine o_ret (d := .tup [.str "told", eK num 0]) rfl ?_ rfl (show 2 ≤ _ ∧ PaperOk R js cs row _ from ⟨of_decide_eq_true (by simp only [flE, flL, flL1, hp.rf]; rfl), .inr ⟨fun s => ?_, num, 0, rfl, nl, .inl rfl, fun x hx => ?_, fun c' hc' => ?_, ?_⟩⟩)
        · simp only [evE_tup, evE_bi, evE_cal, evL_cons, evL_nil, evE_var, evE_cst, getV_zero, getV_succ, Rs.ok_bind, pc, bi_tupl]
        · have : left = Z5 := spl s
          rw [this, at_Z5] at q
          exact q rfl
        · obtain ⟨i, rfl⟩ := mem_at hx
          exact pow_up (pb i) (by unfold nb; omega)
        · have lc' := (hc.2 c' hc').1
          obtain ⟨cc, y, ly, sy, dy⟩ := dec_of_sp lc' st (sp c' hc') rs [] (by rw [List.append_nil]; exact ejs)
          have sy : y = Z5 := sy
          have v := nv c' y cc dy
          rw [sy, at_Z5, Int.mul_zero] at v
          unfold valK
          rw [if_pos rfl, dot_dt nl lc', v]
        · have v := nv row left c dec
          unfold valK
          rw [if_pos rfl, dot_dt nl lr, v]
          exact Int.mul_ne_zero (by omega) q
      · have q : at5 left p = 0 := by simpa using q
        refine o_nil ⟨rfl, p + 1, _, by omega, e2, fun i hi => ?_, rfl⟩
        by_cases c : i = p
        · rw [c]; exact q
        · exact hz i (by omega)
    · rintro κ ρ ⟨rfl, q, o8, hq, hxs, hz, rfl⟩
      have hq : q = 5 := by simpa using hq
      subst hq
      have cl : ∀ z ∈ cs.zip ps, z.1.length = 5 := fun z hz => (hc.2 _ (List.of_mem_zip hz).1).1
      refine forP_nx (κ1 := [.shr, .shr, .own, .own, .own, .own, .shr, .shr, .shr, k9, .shr, .shr, .shr, .shr]) rfl ?_
      refine o_ret (d := .tup [.str "made", eI ps]) rfl rfl rfl (q_retE rfl (.inl ⟨ps, rfl, lps, ?_, fun x hx => ?_⟩))
      · refine ext5 (prodR_len rfl cl) lr fun i => ?_
        rw [prodR_at i rfl cl, at_Z5, Int.zero_add]
        by_cases c : i < 5
        · rw [made i c, hz i c]
          omega
        · rw [at_off lr (by omega)]
          have := prodR_at (zs := cs.zip ps) i (made := Z5) rfl cl
          rw [at_off (prodR_len rfl cl) (by omega), at_Z5] at this
          omega
      · obtain ⟨i, rfl⟩ := mem_at hx
        exact pow_up (bps i) (by unfold pw; omega)
end
end PV

/-! PV, part n: texts held against texts, products with big powers -/
namespace PV
open PySem PySem.Spec PyProof.Rows L2
theorem cmp_str {x y : Str} {b : Bool} (hx : SeqAt.shaped (.str x) = true) (hy : SeqAt.shaped (.str y) = true) (hb : PyData.eqv (.str x) (.str y) = b) : cmpop .eq (.str x) (.str y) = .ok (.bl b) := by
  show (eqD (.str x) (.str y)).bind _ = _
  unfold eqD
  show (if _ then _ else _ : Rs Bool).bind _ = _
  rw [hx, hy, hb]
  rfl
theorem sh_m : SeqAt.shaped (.str "made") = true := by decide +kernel
theorem sh_t : SeqAt.shaped (.str "told") = true := by decide +kernel
theorem sh_n : SeqAt.shaped (.str "none") = true := by decide +kernel
theorem cmp_mm : cmpop .eq (.str "made") (.str "made") = .ok (.bl true) := cmp_str sh_m sh_m (by rw [PyData.eqv]; decide +kernel)
theorem cmp_tm : cmpop .eq (.str "told") (.str "made") = .ok (.bl false) := cmp_str sh_t sh_m (by rw [PyData.eqv]; decide +kernel)
theorem cmp_tt : cmpop .eq (.str "told") (.str "told") = .ok (.bl true) := cmp_str sh_t sh_t (by rw [PyData.eqv]; decide +kernel)
theorem cmp_mn : cmpop .eq (.str "made") (.str "none") = .ok (.bl false) := cmp_str sh_m sh_n (by rw [PyData.eqv]; decide +kernel)
theorem cmp_tn : cmpop .eq (.str "told") (.str "none") = .ok (.bl false) := cmp_str sh_t sh_n (by rw [PyData.eqv]; decide +kernel)
section
variable {fns : List FnD} {gl : Nat → Dat} {f fw n : Nat}
theorem prodB_call (h : Has fns f 2 5 (BProdL fw) .pur) (hw : Has fns fw 3 5 BWith .pur) {cs : List (List Int)} {ps : List Int} (hc : ∀ c ∈ cs, c.length = 5 ∧ ∀ x ∈ c, ∀ p ∈ ps, mulOk p x = true) : callF fns gl (n + 2) f [eLT cs, eI ps] = .ok (eT (prodR (cs.zip ps) Z5)) := by
  refine h.pur rfl (pure_eT _) ?_
  show Out (exSs _ _ _ (BProdL fw) [.shr, .shr, .shr, .shr, .shr] [some (eLT cs), some (eI ps), none, none, none]) _
  refine o_asg (κ' := [.shr, .shr, .shr, .shr, .shr]) (d := eT Z5) rfl rfl rfl rfl rfl ?_
  dsimp only [List.set]
  refine o_fr (κ1 := [.shr, .shr, .shr, .shr, .shr]) (ds := (cs.zip ps).map fun z => Dat.tup [eT z.1, .int z.2]) rfl rfl ?_ ?_
  · simp only [evS_zip, evE_var, getV_zero, getV_succ, Rs.ok_bind, zip_ll]
    rw [List.zip_map, List.map_map]
    rfl
  refine for_inv (fun z : List Int × Int => Dat.tup [eT z.1, .int z.2]) (fun xs κ ρ => κ = [.shr, .shr, .shr, .shr, .shr] ∧ (∀ z ∈ xs, z.1.length = 5 ∧ ∀ x ∈ z.1, mulOk z.2 x = true) ∧ ∃ (made : List Int) (o3 o4 : Option Dat), made.length = 5 ∧ prodR xs made = prodR (cs.zip ps) Z5 ∧ ρ = [some (eLT cs), some (eI ps), some (eT made), o3, o4]) ?_ ?_ (cs.zip ps) _ _ ⟨rfl, fun z hz => ⟨(hc _ (List.of_mem_zip hz).1).1, fun x hx => (hc _ (List.of_mem_zip hz).1).2 x hx _ (List.of_mem_zip hz).2⟩, Z5, none, none, rfl, rfl, rfl⟩
  · rintro ⟨c, m⟩ xs κ ρ ⟨rfl, hx, made, o3, o4, lm, e, rfl⟩
    obtain ⟨lc, bc⟩ := hx (c, m) List.mem_cons_self
    have wc := with_callG (gl := gl) (n := n) hw (xs := made) (ys := c) (m := m) (by omega) bc
    refine ⟨[some (eLT cs), some (eI ps), some (eT made), some (eT c), some (.int m)], rfl, ?_⟩
    refine o_asgC (κ' := [.shr, .shr, .shr, .shr, .shr]) (d := eT (withR made c m)) hw.rf (by simp only [evE_cal, evL_cons, evL_nil, evE_var, getV_zero, getV_succ, Rs.ok_bind, wc]) rfl rfl ?_
    dsimp only [List.set]
    exact o_nil ⟨rfl, fun z hz => hx z (List.mem_cons_of_mem _ hz), withR made c m, _, _, by rw [with_less]; exact less_len lm lc, e, rfl⟩
  · rintro κ ρ ⟨rfl, _, made, o3, o4, lm, e, rfl⟩
    have e : made = prodR (cs.zip ps) Z5 := e
    rw [← e]
    exact forP_nx (κ1 := [.shr, .shr, .shr, .shr, .shr]) rfl (o_retv rfl rfl q_ret0)
def BMixed (fc : Nat) : List Sm := [.asg 1 (.lst []),
    .fr (.nm 2) (.rng [.cst (.int 63)]) [.asg 3 (.bin .mod (.cal fc [.var 0, .var 2]) (.cst (.int 2147483647))), .app 1 (.bin .mod (.bin .mul (.bin .mod (.bin .add (.bin .mul (.var 3) (.cst (.int 48271))) (.bin .mul (.cst (.int 7919)) (.bin .add (.var 2) (.cst (.int 1))))) (.cst (.int 2147483647))) (.cst (.int 69621))) (.cst (.int 2147483629)))],
    .ret (.var 1)]
theorem mixed_callG {fc : Nat} (h : Has fns f 1 4 (BMixed fc) .own) (hc : Has fns fc 2 2 BCell .pur) (ns : List Int) : ∃ cells : List Int, cells.length = 63 ∧ callF fns gl (n + 2) f [.rol (ns.map .int)] = .ok (eI cells) := by
  suffices q : Out (exSs (callF fns gl (n + 1)) gl (rfs fns) (BMixed fc) [.shr, .shr, .shr, .shr] [some (.rol (ns.map .int)), none, none, none]) (retE 3 fun d => ∃ cells : List Int, cells.length = 63 ∧ d = eI cells) by
    obtain ⟨d, ⟨cells, q1, rfl⟩, q3⟩ := h.ownE (gl := gl) (n := n + 1) (ds := [.rol (ns.map .int)]) rfl q
    exact ⟨cells, q1, q3⟩
  refine o_asg (κ' := [.shr, .own, .shr, .shr]) (d := .lst []) (by simp) rfl rfl rfl rfl ?_
  dsimp only [List.set]
  refine o_fr (κ1 := [.shr, .own, .shr, .shr]) (ds := (List.range 63).map fun i => Dat.int (i : Nat)) rfl rfl (by simp only [evS_rng, evL_cons, evL_nil, evE_cst, Rs.ok_bind]; exact rng1 (n := 63) (by decide)) ?_
  refine for_inv (fun i : Nat => Dat.int (i : Nat)) (fun xs κ ρ => κ = [.shr, .own, .shr, .shr] ∧ ∃ (cells : List Int) (o2 o3 : Option Dat), cells.length + xs.length = 63 ∧ ρ = [some (.rol (ns.map .int)), some (eI cells), o2, o3]) ?_ ?_ (List.range 63) _ _ ⟨rfl, [], none, none, by decide, rfl⟩
  · rintro j xs κ ρ ⟨rfl, cells, o2, o3, hlen, rfl⟩
    rw [List.length_cons] at hlen
    have cc := cell_call (gl := gl) (n := n) hc ns j
    refine ⟨[some (.rol (ns.map .int)), some (eI cells), some (.int (j : Nat)), o3], rfl, ?_⟩
    refine o_asg (fl := 3) (κ1 := [.shr, .own, .shr, .shr]) (κ' := [.shr, .own, .shr, .shr]) (d := .int ((cell ns j).fmod 2147483647)) ?_ rfl (by simp only [flE, hc.rf]; rfl) rfl rfl ?_
    · simp only [evE_bin, evE_cal, evL_cons, evL_nil, evE_var, evE_cst, getV_zero, getV_succ, Rs.ok_bind, cc]
      exact bin_mod (by decide)
    dsimp only [List.set]
    generalize (cell ns j).fmod 2147483647 = v
    refine o_app (κ1 := [.shr, .own, .shr, .shr]) (d := .int ((((v * 48271 + 7919 * ((j : Int) + 1)).fmod 2147483647) * 69621).fmod 2147483629)) (xs := cells.map Dat.int) rfl rfl rfl ?_ (by rw [List.length_map]; exact small1000 (by omega)) ?_
    · simp only [evE_bin, evE_var, evE_cst, getV_zero, getV_succ, Rs.ok_bind, bin_add]
      rw [bin_mul (mul_small (.inr (by decide))), bin_mul (mul_small (.inl (by decide)))]
      simp only [Rs.ok_bind, bin_add]
      rw [bin_mod (by decide)]
      simp only [Rs.ok_bind]
      rw [bin_mul (mul_small (.inr (by decide)))]
      simp only [Rs.ok_bind]
      exact bin_mod (by decide)
    dsimp only [List.set]
    exact o_nil ⟨rfl, cells ++ [_], _, _, by simp; omega, by simp; exact ⟨rfl, rfl, rfl⟩⟩
  · rintro κ ρ ⟨rfl, cells, o2, o3, hlen, rfl⟩
    exact forP_nx (κ1 := [.shr, .own, .shr, .shr]) rfl (o_retv rfl rfl (q_retE rfl ⟨cells, by simpa using hlen, rfl⟩))
def BIsKey (fr fw : Nat) : List Sm := [.ite (.or (.not (.isi (.var 0) [.tuple])) (.or (.cmp .ne (.bi .len [.var 0]) (.cst (.int 2))) (.not (.cal fr [.idx (.var 0) (.cst (.int 0))])))) [.ret (.cst (.bl false))] [],
    .ret (.and (.cal fw [.idx (.var 0) (.cst (.int 1))]) (.or (.cmp .eq (.idx (.var 0) (.cst (.int 1))) (.cst (.int 0))) (.cmp .ge (.idx (.var 0) (.cst (.int 1))) (.cst (.int 2)))))]
theorem isKey_call {fr : Nat} (h : Has fns f 1 1 (BIsKey fr fw) .pur) (hr : Has fns fr 1 2 (BIsRow2 fw) .pur) (hw : Has fns fw 1 1 BWhole .pur) {k : List Int} {m : Int} (hk : k.length = 5) (hm : m = 0 ∨ 2 ≤ m) : callF fns gl (n + 3) f [eK k m] = .ok (.bl true) := by
  have rc := isRow2_call (gl := gl) (n := n) hr hw hk
  have wc := whole_call (gl := gl) (n := n + 1) hw m
  refine h.pur rfl rfl ?_
  show Out (exSs _ _ _ (BIsKey fr fw) [.shr] [some (eK k m)]) _
  refine o_ifF ?_ ?_
  · simp only [evE_or, evE_not, evE_isi, evE_cmp, evE_bi, evE_cal, evE_idx, evL_cons, evL_nil, evE_var, evE_cst, getV_zero, Rs.ok_bind, ty_tt, truth_bl, bi_lent, tup_0, rc]
    rfl
  refine o_ret (d := .bl true) rfl ?_ rfl q_ret0
  simp only [evE_and, evE_or, evE_cal, evE_cmp, evE_idx, evL_cons, evL_nil, evE_var, evE_cst, getV_zero, Rs.ok_bind, tup_1, wc, truth_bl, if_true, cmp_eqi, cmp_ge]
  rcases hm with rfl | hm
  · rfl
  · rw [decide_eq_false (by omega), decide_eq_true hm]
    rfl
end
end PV

/-! PV, part o: tones of four kinds, towers -/
namespace PV
open PySem PySem.Spec PyProof.Rows L2
section
variable {fns : List FnD} {gl : Nat → Dat} {f fr fs fp fi n : Nat}
def BTone (fr : Nat) : List Sm := [.ite (.cmp .eq (.var 1) (.cst (.int 0))) [.ret (.cal fr [.var 0, .cst (.int 4), .cst (.int 2)])] [],
    .ite (.cmp .eq (.var 1) (.cst (.int 1))) [.ret (.cal fr [.var 0, .cst (.int 40), .cst (.int 6)])] [],
    .ite (.cmp .eq (.var 1) (.cst (.int 2))) [.ret (.cal fr [.var 0, .cst (.int 700), .cst (.int 60)])] [],
    .asg 2 (.cal fr [.var 0, .cst (.int 1), .cst (.int 1)]),
    .ret (.bin .add (.tup [.bin .mul (.cst (.int 700)) (.idx (.var 2) (.cst (.int 0)))]) (.bi .tuple [.comp (.bin .mul (.cst (.int 60)) (.var 3)) (.nm 3) (.seq (.slc (.var 2) [.cst (.int 1)] [])) []]))]
def toneA (c : Int) (k : Int) : List Int := if k = 0 then rowM c 4 2 else if k = 1 then rowM c 40 6 else if k = 2 then rowM c 700 60 else (700 * signN c 0 1) :: (List.range 4).map fun i => 60 * signN c (1 + i) 1
theorem toneA_ok {c k : Int} : RowB 700 60 (toneA c k) := by
  unfold toneA
  have s0 : -1 ≤ signN c 0 1 ∧ signN c 0 1 ≤ 1 := signN_le
  have s1 : -1 ≤ signN c (1 + 0) 1 ∧ signN c (1 + 0) 1 ≤ 1 := signN_le
  have s2 : -1 ≤ signN c (1 + 1) 1 ∧ signN c (1 + 1) 1 ≤ 1 := signN_le
  have s3 : -1 ≤ signN c (1 + 2) 1 ∧ signN c (1 + 2) 1 ≤ 1 := signN_le
  have s4 : -1 ≤ signN c (1 + 3) 1 ∧ signN c (1 + 3) 1 ≤ 1 := signN_le
  split
  · exact rowM_ok.up (by decide) (by decide)
  split
  · exact rowM_ok.up (by decide) (by decide)
  split
  · exact rowM_ok.up (by decide) (by decide)
  · exact ⟨700 * signN c 0 1, 60 * signN c (1 + 0) 1, 60 * signN c (1 + 1) 1, 60 * signN c (1 + 2) 1, 60 * signN c (1 + 3) 1, rfl, by omega, by omega, by omega, by omega, by omega⟩
theorem mul_c {a x : Int} (h : a.natAbs < 2 ^ 64) : binop .mul (.int a) (.int x) = .ok (.int (a * x)) := bin_mul (mul_small (.inl h))
theorem tone_call (h : Has fns f 2 4 (BTone fr) .pur) (hr : Has fns fr 3 5 (BRowM fs) .pur) (hs : Has fns fs 3 3 (BSigned fp) .pur) (hp : Has fns fp 3 4 BPart .pur) (c k : Int) : callF fns gl (n + 4) f [.int c, .int k] = .ok (eT (toneA c k)) := by
  have rc := fun a b => rowM_call (gl := gl) (n := n) hr hs hp c a b
  have r1 : callF fns gl (n + 3) fr [.int c, .int 4, .int 2] = .ok (eT (rowM c 4 2)) := rc 4 2
  have r2 : callF fns gl (n + 3) fr [.int c, .int 40, .int 6] = .ok (eT (rowM c 40 6)) := rc 40 6
  have r3 : callF fns gl (n + 3) fr [.int c, .int 700, .int 60] = .ok (eT (rowM c 700 60)) := rc 700 60
  have r4 : callF fns gl (n + 3) fr [.int c, .int 1, .int 1] = .ok (eT (rowM c 1 1)) := rc 1 1
  refine h.pur rfl (pure_eT _) ?_
  show Out (exSs _ _ _ (BTone fr) [.shr, .shr, .shr, .shr] [some (.int c), some (.int k), none, none]) _
  unfold toneA
  refine o_if (k := decide (k = 0)) (by simp only [evE_cmp, evE_var, evE_cst, getV_zero, getV_succ, Rs.ok_bind]; exact cmp_eq nice_int (by decide) _ _) (fun q => ?_) fun q => ?_
  · rw [if_pos (of_decide_eq_true q)]
    exact o_ret rfl (by simp only [evE_cal, evL_cons, evL_nil, evE_var, evE_cst, getV_zero, getV_succ, Rs.ok_bind, r1]) rfl q_ret0
  rw [if_neg (of_decide_eq_false q)]
  refine o_if (k := decide (k = 1)) (by simp only [evE_cmp, evE_var, evE_cst, getV_zero, getV_succ, Rs.ok_bind]; exact cmp_eq nice_int (by decide) _ _) (fun q => ?_) fun q => ?_
  · rw [if_pos (of_decide_eq_true q)]
    exact o_ret rfl (by simp only [evE_cal, evL_cons, evL_nil, evE_var, evE_cst, getV_zero, getV_succ, Rs.ok_bind, r2]) rfl q_ret0
  rw [if_neg (of_decide_eq_false q)]
  refine o_if (k := decide (k = 2)) (by simp only [evE_cmp, evE_var, evE_cst, getV_zero, getV_succ, Rs.ok_bind]; exact cmp_eq nice_int (by decide) _ _) (fun q => ?_) fun q => ?_
  · rw [if_pos (of_decide_eq_true q)]
    exact o_ret rfl (by simp only [evE_cal, evL_cons, evL_nil, evE_var, evE_cst, getV_zero, getV_succ, Rs.ok_bind, r3]) rfl q_ret0
  rw [if_neg (of_decide_eq_false q)]
  refine o_asgC (κ' := [.shr, .shr, .shr, .shr]) (d := eT (rowM c 1 1)) hr.rf (by simp only [evE_cal, evL_cons, evL_nil, evE_var, evE_cst, getV_zero, getV_succ, Rs.ok_bind, r4]) rfl rfl ?_
  dsimp only [List.set]
  refine o_ret (d := eT ((700 * signN c 0 1) :: (List.range 4).map fun i => 60 * signN c (1 + i) 1)) rfl ?_ rfl q_ret0
  have i0 : idxD (eT (rowM c 1 1)) (.int 0) = .ok (.int (signN c 0 1)) := idx_tup (i := 0) rfl
  have sl : slcD (eT (rowM c 1 1)) (some 1) none = .ok (eT ((List.range 4).map fun i => signN c (1 + i) 1)) := rfl
  simp only [evE_bin, evE_tup, evE_idx, evE_bi, evE_comp, evE_slc, evS_seq, evL_cons, evL_nil, evE_var, evE_cst, getV_zero, getV_succ, Rs.ok_bind, i0, mul_c (a := 700) (by decide), partD, sl, items_t]
  rw [mapC_ok (h := fun x => .int (60 * x))]
  · simp only [Rs.ok_bind, List.length_map, List.length_range]
    rw [size_ok (by decide)]
    simp only [if_true, Rs.ok_bind, bi_tupl]
    rw [add_tt (by simp)]
    simp
  · intro x _
    simp [bindT, evC_nil, mul_c (a := 60) (by decide)]
/-! ### within bounds -/
def BWithin : List Sm := [.ret (.and (.cmp .le (.bi .abs [.idx (.var 0) (.cst (.int 0))]) (.var 1)) (.cmp .le (.bi .maxl [.comp (.bi .abs [.var 3]) (.nm 3) (.seq (.slc (.var 0) [.cst (.int 1)] [])) []]) (.var 2)))]
def absI (i : Int) : Int := if i < 0 then -i else i
theorem bi_maxl4 {a b c d : Int} : doBi .maxl [.lst [.int a, .int b, .int c, .int d]] = .ok (.int (maxI [b, c, d] a)) := by
  show (match intsOf [.int a, .int b, .int c, .int d] with
    | some (n :: ns) => Rs.ok (Dat.int (maxI ns n))
    | _ => .no) = _
  rw [show [Dat.int a, .int b, .int c, .int d] = [a, b, c, d].map Dat.int from rfl, intsOf_map]
theorem maxI_le {k : Int} : ∀ (ns : List Int) (m : Int), maxI ns m ≤ k ↔ m ≤ k ∧ ∀ n ∈ ns, n ≤ k
  | [], m => by simp [maxI]
  | n :: ns, m => by
    unfold maxI
    rw [maxI_le ns, List.forall_mem_cons]
    split
    · exact ⟨fun ⟨a, b⟩ => ⟨by omega, a, b⟩, fun ⟨a, b, c⟩ => ⟨b, c⟩⟩
    · exact ⟨fun ⟨a, b⟩ => ⟨a, by omega, b⟩, fun ⟨a, b, c⟩ => ⟨a, c⟩⟩
theorem fitB5 {a b c d e : Int} : fitB [a, b, c, d, e] = (decide (absI a ≤ 700) && (decide (absI b ≤ 60) && (decide (absI c ≤ 60) && (decide (absI d ≤ 60) && decide (absI e ≤ 60))))) := by
  unfold fitB BD absI
  simp [Bool.and_assoc]
theorem within_call (h : Has fns f 3 4 BWithin .pur) {xs : List Int} (hl : xs.length = 5) : callF fns gl (n + 1) f [eT xs, .int 700, .int 60] = .ok (.bl (fitB xs)) := by
  match xs, hl with
  | [a, b, c, d, e], _ =>
  refine h.pur rfl rfl ?_
  show Out (exSs _ _ _ BWithin [.shr, .shr, .shr, .shr] [some (eT [a, b, c, d, e]), some (.int 700), some (.int 60), none]) _
  refine o_ret (d := .bl (fitB [a, b, c, d, e])) rfl ?_ rfl q_ret0
  have i0 : idxD (eT [a, b, c, d, e]) (.int 0) = .ok (.int a) := idx_tup (i := 0) rfl
  have mc : mapC (fun x => (bindT (.nm 3) x [some (eT [a, b, c, d, e]), some (.int 700), some (.int 60), none]).bind fun ρ' => (evC (callF fns gl n) gl [] ρ').bind fun k => if k then (evE (callF fns gl n) gl (.bi .abs [.var 3]) ρ').bind fun y => .ok (some y) else .ok none) ([b, c, d, e].map Dat.int) = .ok ([b, c, d, e].map fun x => .int (absI x)) := by
    refine mapC_ok fun x _ => ?_
    simp [bindT, evC_nil, absI]
  simp only [evE_and, evE_cmp, evE_bi, evE_idx, evE_comp, evE_slc, evS_seq, evL_cons, evL_nil, evE_var, evE_cst, getV_zero, getV_succ, Rs.ok_bind, i0, bi_abs, cmp_le, truth_bl, partD, slc_1, items_t]
  simp only [evE_bi, evL_cons, evL_nil, evE_var, Rs.ok_bind] at mc
  rw [mc]
  simp only [Rs.ok_bind, List.length_map, List.length_cons, List.length_nil]
  rw [size_ok (by decide)]
  simp only [if_true, Rs.ok_bind, List.map_cons, List.map_nil, bi_maxl4, cmp_le, truth_bl]
  rw [fitB5]
  show (if decide (absI a ≤ 700) = true then _ else _) = _
  by_cases h1 : absI a ≤ 700
  · rw [if_pos (decide_eq_true h1), decide_eq_true h1, Bool.true_and]
    congr 2
    generalize absI b = b', absI c = c', absI d = d', absI e = e'
    rw [Bool.eq_iff_iff]
    simp only [decide_eq_true_eq, Bool.and_eq_true, maxI_le, List.mem_cons, List.not_mem_nil, or_false, forall_eq_or_imp, forall_eq]
  · rw [if_neg (by simpa using h1), decide_eq_false h1, Bool.false_and]
/-! ### towers -/
def towD : List (List Int) → Dat
  | [] => .non
  | x :: r => .tup [eT x, .lst (match r with
    | [] => []
    | _ :: _ => [towD r])]
def upL (r : List (List Int)) : List (List (List Int)) := match r with
  | [] => []
  | _ :: _ => [r]
theorem tow_cons (x : List Int) (r : List (List Int)) : towD (x :: r) = .tup [eT x, .lst ((upL r).map towD)] := by
  cases r <;> rfl
def BTower : List Sm := [.asg 1 (.tup [.idx (.var 0) (.neg (.cst (.int 1))), .lst []]),
    .fr (.nm 2) (.rev (.slc (.var 0) [] [.neg (.cst (.int 1))])) [.asg 1 (.tup [.var 2, .lst [.var 1]])],
    .ret (.var 1)]
theorem sIx_m1 (n : Nat) : HT.sIx n n (some (-1)) = n - 1 := by
  unfold HT.sIx
  simp
  omega
theorem tower_call (h : Has fns f 1 3 BTower .shr) {xs : List (List Int)} (hx : xs ≠ []) : callF fns gl (n + 1) f [eLT xs] = .ok (towD xs) := by
  obtain ⟨ys, z, rfl⟩ : ∃ ys z, xs = ys ++ [z] := ⟨xs.dropLast, xs.getLast hx, (List.dropLast_concat_getLast hx).symm⟩
  refine h.shr rfl ?_
  show Out (exSs _ _ _ BTower [.shr, .shr, .shr] [some (eLT (ys ++ [z])), none, none]) _
  refine o_asg (κ' := [.shr, .shr, .shr]) (d := towD [z]) ?_ rfl rfl rfl rfl ?_
  · simp only [evE_tup, evE_idx, evE_neg, evE_lst, evL_cons, evL_nil, evE_var, evE_cst, getV_zero, getV_succ, Rs.ok_bind, neg_int]
    rw [show eLT (ys ++ [z]) = .lst (ys.map eT ++ [eT z]) by simp, idx_last]
    rfl
  dsimp only [List.set]
  refine o_fr (κ1 := [.shr, .shr, .shr]) (ds := ys.reverse.map eT) rfl rfl ?_ ?_
  · simp only [evS_rev, evE_slc, evE_neg, evL_cons, evL_nil, evE_var, evE_cst, getV_zero, getV_succ, Rs.ok_bind, neg_int, partD, slcD, cutL_map]
    have : cutL (ys ++ [z]) none (some (-1)) = ys := by
      unfold cutL
      rw [sIx_m1, HT.sIx_none, List.drop_zero, Nat.sub_zero, List.length_append]
      simp
    rw [this, List.map_reverse]
    rfl
  refine for_inv eT (fun l κ ρ => κ = [.shr, .shr, .shr] ∧ ∃ (done : List (List Int)) (o2 : Option Dat), done ≠ [] ∧ l.reverse ++ done = ys ++ [z] ∧ ρ = [some (eLT (ys ++ [z])), some (towD done), o2]) ?_ ?_ ys.reverse _ _ ⟨rfl, [z], none, by simp, by simp, rfl⟩
  · rintro y l κ ρ ⟨rfl, done, o2, hd, e1, rfl⟩
    refine ⟨[some (eLT (ys ++ [z])), some (towD done), some (eT y)], rfl, ?_⟩
    refine o_asg (κ' := [.shr, .shr, .shr]) (d := towD (y :: done)) ?_ rfl rfl rfl rfl (o_nil ⟨rfl, y :: done, some (eT y), by simp, by rw [← e1]; simp, rfl⟩)
    simp only [evE_tup, evE_lst, evL_cons, evL_nil, evE_var, getV_zero, getV_succ, Rs.ok_bind]
    match done, hd with
    | a :: r, _ => rfl
  · rintro κ ρ ⟨rfl, done, o2, hd, e1, rfl⟩
    have e1 : done = ys ++ [z] := by simpa using e1
    subst e1
    exact forP_nx (κ1 := [.shr, .shr, .shr]) rfl (o_retv rfl rfl (q_ret rfl))
def addT (x y : List Int) : List Int := x.zipWith (· + ·) y
def tonesR : List Int → List (List Int) → List (List Int)
  | _, [] => []
  | a, x :: r => addT a x :: tonesR (addT a x) r
theorem tonesR_len : ∀ (a : List Int) (r : List (List Int)), (tonesR a r).length = r.length
  | _, [] => rfl
  | a, x :: r => by simp [tonesR, tonesR_len _ r]
theorem tonesR_up (a : List Int) (r : List (List Int)) : ((upL r).map (tonesR a)).flatten = tonesR a r := by
  cases r <;> simp [upL, tonesR]
def BTonesOf (f1 f2 f3 : Nat) : List Sm := [.asg 2 (.cal f1 [.cal f2 [.var 0, .idx (.var 1) (.cst (.int 0))]]),
    .asg 3 (.lst [.var 2]),
    .fr (.nm 4) (.seq (.idx (.var 1) (.cst (.int 1)))) [.xtd 3 (.cal f3 [.var 2, .var 4])],
    .ret (.var 3)]
theorem tonesOf_call {f1 f2 ft k C : Nat} (h : Has fns f 2 5 (BTonesOf f1 f2 f) .own) (h1 : Has fns f1 1 1 (BToneOf ft C) .pur) (h2 : Has fns f2 2 4 (BZip .add) .pur) (ht : Has fns ft 1 3 (BIsTone k) .pur) (hg : gl k = eT BD) :
    ∀ (xs : List (List Int)) (a : List Int), xs ≠ [] → xs.length ≤ 100 → a.length = 5 → (∀ x ∈ xs, x.length = 5) → (∀ t ∈ tonesR a xs, fitB t = true) → callF fns gl (n + 2 + xs.length) f [eT a, towD xs] = .ok (eLT (tonesR a xs))
  | [], _, hx, _, _, _, _ => absurd rfl hx
  | x :: r, a, _, hn, ha, hl, hf => by
    have lx := hl x List.mem_cons_self
    have la : (addT a x).length = 5 := by simp [addT, ha, lx]
    have c2 := zip_call (gl := gl) (n := n + 1 + r.length) (o := .add) (g := (· + ·)) (fun _ _ => rfl) h2 (xs := a) (ys := x) (by omega)
    have c1 := toneOf_ok (gl := gl) (n := n + r.length) h1 ht hg la (hf _ (by simp [tonesR]))
    refine h.own (n := n + 2 + r.length) rfl ?_
    show Out (exSs _ _ _ (BTonesOf f1 f2 f) [.shr, .shr, .shr, .shr, .shr] [some (eT a), some (towD (x :: r)), none, none, none]) _
    rw [tow_cons]
    have i0 : idxD (.tup [eT x, .lst ((upL r).map towD)]) (.int 0) = .ok (eT x) := tup_0
    have i1 : idxD (.tup [eT x, .lst ((upL r).map towD)]) (.int 1) = .ok (.lst ((upL r).map towD)) := tup_1
    refine o_asgC (κ' := [.shr, .shr, .shr, .shr, .shr]) (d := eT (addT a x)) h1.rf ?_ rfl rfl ?_
    · simp only [evE_cal, evE_idx, evL_cons, evL_nil, evE_var, evE_cst, getV_zero, getV_succ, Rs.ok_bind, i0]
      rw [show n + 2 + r.length = n + 1 + r.length + 1 by omega, c2]
      simp only [Rs.ok_bind]
      rw [show n + 1 + r.length + 1 = n + r.length + 2 by omega]
      exact c1
    dsimp only [List.set]
    refine o_asg (κ' := [.shr, .shr, .shr, .own, .shr]) (d := eLT [addT a x]) (by simp) rfl rfl rfl rfl ?_
    dsimp only [List.set]
    refine o_fr (κ1 := [.shr, .shr, .shr, .own, .shr]) (ds := (upL r).map towD) rfl rfl (by simp only [evS_seq, evE_idx, evE_var, evE_cst, getV_zero, getV_succ, Rs.ok_bind, i1, items_l]) ?_
    refine for_inv towD (fun l κ ρ => κ = [.shr, .shr, .shr, .own, .shr] ∧ (l = upL r ∨ l = []) ∧ ∃ (done : List (List Int)) (o4 : Option Dat), done.length ≤ 200 ∧ done ++ (l.map (tonesR (addT a x))).flatten = tonesR a (x :: r) ∧ ρ = [some (eT a), some (.tup [eT x, .lst ((upL r).map towD)]), some (eT (addT a x)), some (eLT done), o4]) ?_ ?_ (upL r) _ _ ⟨rfl, .inl rfl, [addT a x], none, by simp, by rw [tonesR_up]; rfl, rfl⟩
    · rintro y l κ ρ ⟨rfl, hy, done, o4, hd, e1, rfl⟩
      refine ⟨[some (eT a), some (.tup [eT x, .lst ((upL r).map towD)]), some (eT (addT a x)), some (eLT done), some (towD y)], rfl, ?_⟩
      have hy : y :: l = upL r := by simpa using hy
      have hr : r ≠ [] ∧ y = r ∧ l = [] := by
        cases r with
        | nil => cases hy
        | cons b r => 
          have : y :: l = [b :: r] := hy
          simp at this
          exact ⟨by simp, this.1, this.2⟩
      obtain ⟨hr, rfl, rfl⟩ := hr
      have rc := tonesOf_call h h1 h2 ht hg y (addT a x) hr (by simp at hn; omega) la (fun z hz => hl z (List.mem_cons_of_mem _ hz)) (fun t ht => hf t (by simp [tonesR]; exact .inr ht))
      refine o_xtd (κ1 := [.shr, .shr, .shr, .own, .shr]) (xs := done.map eT) (ys := (tonesR (addT a x) y).map eT) (by simp only [leak, h.rf]; rfl) (by simp only [flE, h.rf]; rfl) rfl ?_ ?_ (o_nil ⟨rfl, .inr rfl, done ++ tonesR (addT a x) y, some (towD y), ?_, ?_, ?_⟩)
      · simp only [evE_cal, evL_cons, evL_nil, evE_var, getV_zero, getV_succ, Rs.ok_bind]
        exact rc
      · rw [List.length_map, List.length_map, tonesR_len]
        simp at hn
        omega
      · have := congrArg List.length e1
        simp [tonesR_len] at this
        simp [tonesR_len] at hn ⊢
        omega
      · rw [← e1]
        simp
      · simp
    · rintro κ ρ ⟨rfl, _, done, o4, hd, e1, rfl⟩
      have e1 : done = tonesR a (x :: r) := by simpa using e1
      subst e1
      exact forP_nx (κ1 := [.shr, .shr, .shr, .own, .shr]) rfl (o_retv rfl rfl (q_ret rfl))
end
end PV

/-! PV, part p: chains; words of errors held against words -/
namespace PV
open PySem PySem.Spec PyProof.Rows L2
section
variable {cf : Nat → List Dat → Rs Dat} {gl : Nat → Dat} {rf : Nat → Rf} {ss : List Sm} {κ : Kd} {ρ : Env} {P : End → Prop}
/-- l.append(e), where e raises -/
theorem o_appX {i : Nat} {e : Ex} {z : Dat} {xs : List Dat} {κ1 : Kd} (h1 : frz κ (leak rf e) = κ1) (hf : decide (2 ≤ flE rf e κ1 ∧ isMu (kd κ1 i) = true) = true) (hg : getV ρ i = .ok (.lst xs)) (he : evE cf gl e ρ = .ex z) (h : P (.xc κ1 ρ z)) : Out (exSs cf gl rf (.app i e :: ss) κ ρ) P := by
  have hf := of_decide_eq_true hf
  subst h1
  rw [exSs_cons]
  unfold exS
  rw [if_pos hf, hg]
  simp only [he, onE]
  exact .ok h
end
theorem cmp_pd {a b : Dat} {p q : PyData} {r : Bool} (ha : toPy a = some p) (hb : toPy b = some q) (sa : SeqAt.shaped p = true) (sb : SeqAt.shaped q = true) (h : PyData.eqv p q = r) : cmpop .eq a b = .ok (.bl r) := by
  show (eqD a b).bind _ = _
  unfold eqD
  rw [ha, hb]
  show (if _ then _ else _ : Rs Bool).bind _ = _
  rw [sa, sb, h]
  rfl
theorem far_value : cmpop .eq (.lst [.str "far", .str "value"]) (.lst [.str "far", .str "value"]) = .ok (.bl true) :=
  cmp_pd (p := .list [.str "far", .str "value"]) (q := .list [.str "far", .str "value"]) rfl rfl (by decide +kernel) (by decide +kernel) (by simp [PyData.eqv, PyData.eqvAll])
section
variable {fns : List FnD} {gl : Nat → Dat} {f f1 f2 ft n k C : Nat}
/-- the k-th tone of a chain -/
def chT (a s : List Int) (k : Nat) : List Int := a.zipWith (fun x y => x + (k : Int) * y) s
theorem chT_len {a s : List Int} {k : Nat} (ha : a.length = 5) (hs : s.length = 5) : (chT a s k).length = 5 := by simp [chT, ha, hs]
theorem chT_zero {a s : List Int} (ha : a.length = 5) (hs : s.length = 5) : chT a s 0 = a := by
  match a, ha, s, hs with
  | [a, b, c, d, e], _, [a', b', c', d', e'], _ => simp [chT]
theorem chT_succ {a s : List Int} {k : Nat} (ha : a.length = 5) (hs : s.length = 5) : addT (chT a s k) s = chT a s (k + 1) := by
  match a, ha, s, hs with
  | [a, b, c, d, e], _, [a', b', c', d', e'], _ =>
    simp only [chT, addT, List.zipWith_cons_cons, List.zipWith_nil_right, List.cons.injEq, and_true, Int.natCast_add, Int.add_mul]
    refine ⟨?_, ?_, ?_, ?_, ?_⟩ <;> omega
def chain (a s : List Int) (m : Nat) : List (List Int) := (List.range m).map (chT a s)
def BChain (f1 f2 : Nat) : List Sm := [.asg 3 (.lst []),
    .fr (.nm 4) (.rng [.var 2]) [.ite (.cmp .eq (.var 4) (.cst (.int 0))) [.app 3 (.cal f1 [.var 0])] [.app 3 (.cal f1 [.cal f2 [.idx (.var 3) (.bin .sub (.var 4) (.cst (.int 1))), .var 1]])]],
    .ret (.var 3)]
/-- one more turn: the tone is told, or refused -/
theorem chain_turn (h1 : Has fns f1 1 1 (BToneOf ft C) .pur) (h2 : Has fns f2 2 4 (BZip .add) .pur) (ht : Has fns ft 1 3 (BIsTone k) .pur) (hg : gl k = eT BD) {a s : List Int} (ha : a.length = 5) (hs : s.length = 5) {m i : Nat} (hi : i < m) (hm : m ≤ 500) {P : End → Prop}
    (yes : fitB (chT a s i) = true → P (.nx [.shr, .shr, .shr, .own, .shr] [some (eT a), some (eT s), some (.int (m : Nat)), some (eLT (chain a s (i + 1))), some (.int (i : Nat))]))
    (no : fitB (chT a s i) = false → ∀ κ ρ, P (.xc κ ρ (.exc C []))) :
    Out (exSs (callF fns gl (n + 2)) gl (rfs fns) [.ite (.cmp .eq (.var 4) (.cst (.int 0))) [.app 3 (.cal f1 [.var 0])] [.app 3 (.cal f1 [.cal f2 [.idx (.var 3) (.bin .sub (.var 4) (.cst (.int 1))), .var 1]])]] [.shr, .shr, .shr, .own, .shr] [some (eT a), some (eT s), some (.int (m : Nat)), some (eLT (chain a s i)), some (.int (i : Nat))]) P := by
  have lc := chT_len (k := i) ha hs
  have cl : (chain a s i).length = i := by simp [chain]
  have cs : eLT (chain a s (i + 1)) = .lst ((chain a s i).map eT ++ [eT (chT a s i)]) := by simp [chain, List.range_succ]
  have go : ∀ e : Ex, leak (rfs fns) e = [] → decide (2 ≤ flE (rfs fns) e [.shr, .shr, .shr, .own, .shr]) = true → (∀ r, callF fns gl (n + 2) f1 [eT (chT a s i)] = r → evE (callF fns gl (n + 2)) gl e [some (eT a), some (eT s), some (.int (m : Nat)), some (eLT (chain a s i)), some (.int (i : Nat))] = r) → Out (exSs (callF fns gl (n + 2)) gl (rfs fns) [.app 3 e] [.shr, .shr, .shr, .own, .shr] [some (eT a), some (eT s), some (.int (m : Nat)), some (eLT (chain a s i)), some (.int (i : Nat))]) (thenP (callF fns gl (n + 2)) gl (rfs fns) [] P) := by
    intro e q1 q2 q3
    have q2 := of_decide_eq_true q2
    have fz : frz [.shr, .shr, .shr, .own, .shr] (leak (rfs fns) e) = [.shr, .shr, .shr, .own, .shr] := by rw [q1]; rfl
    cases hf : fitB (chT a s i) with
    | true =>
      have ok := toneOf_ok (gl := gl) (n := n) h1 ht hg lc hf
      refine o_app (κ1 := [.shr, .shr, .shr, .own, .shr]) (xs := (chain a s i).map eT) fz (decide_eq_true ⟨q2, rfl⟩) rfl (q3 _ ok) (by rw [List.length_map, cl]; exact small1000 (by omega)) (o_nil (thenP_nx (o_nil ?_)))
      have := yes hf
      rw [cs] at this
      exact this
    | false =>
      have bad := toneOf_far (gl := gl) (n := n) h1 ht hg lc hf
      refine o_appX (κ1 := [.shr, .shr, .shr, .own, .shr]) (xs := (chain a s i).map eT) fz (decide_eq_true ⟨q2, rfl⟩) rfl (q3 _ bad) ?_
      exact no hf _ _
  refine o_ite (k := decide (i = 0)) ?_ (fun q => ?_) fun q => ?_
  · simp only [evE_cmp, evE_var, evE_cst, getV_zero, getV_succ, Rs.ok_bind]
    have := cmp_eq nice_int (by decide) (i : Int) 0
    rw [this]
    congr 2
    exact decide_eq_decide.mpr (by omega)
  · have q := of_decide_eq_true q
    subst q
    refine go _ (by simp only [leak, h1.rf]) (by simp only [flE, h1.rf]; rfl) fun r hr => ?_
    rw [chT_zero ha hs] at hr
    simp only [evE_cal, evL_cons, evL_nil, evE_var, getV_zero, getV_succ, Rs.ok_bind, hr]
  · have q := of_decide_eq_false q
    obtain ⟨j, rfl⟩ : ∃ j, i = j + 1 := ⟨i - 1, by omega⟩
    refine go _ (by simp only [leak, h1.rf]) (by simp only [flE, h1.rf]; rfl) fun r hr => ?_
    have g : (chain a s (j + 1))[j]? = some (chT a s j) := by simp [chain]
    have lj := chT_len (k := j) ha hs
    have pc := zip_call (gl := gl) (n := n + 1) (o := .add) (g := (· + ·)) (fun _ _ => rfl) h2 (xs := chT a s j) (ys := s) (by omega)
    rw [show (chT a s j).zipWith (· + ·) s = addT (chT a s j) s from rfl, chT_succ ha hs] at pc
    simp only [evE_cal, evE_idx, evE_bin, evL_cons, evL_nil, evE_var, evE_cst, getV_zero, getV_succ, Rs.ok_bind, bin_sub]
    rw [show ((j + 1 : Nat) : Int) - 1 = ((j : Nat) : Int) by omega, eT_get g]
    simp only [Rs.ok_bind, pc, hr]
theorem chain_ok (h : Has fns f 3 5 (BChain f1 f2) .own) (h1 : Has fns f1 1 1 (BToneOf ft C) .pur) (h2 : Has fns f2 2 4 (BZip .add) .pur) (ht : Has fns ft 1 3 (BIsTone k) .pur) (hg : gl k = eT BD) {a s : List Int} (ha : a.length = 5) (hs : s.length = 5) {m : Nat} (hm : m ≤ 500) (hf : ∀ i, i < m → fitB (chT a s i) = true) :
    callF fns gl (n + 3) f [eT a, eT s, .int (m : Nat)] = .ok (eLT (chain a s m)) := by
  refine h.own rfl ?_
  show Out (exSs (callF fns gl (n + 2)) gl (rfs fns) (BChain f1 f2) [.shr, .shr, .shr, .shr, .shr] [some (eT a), some (eT s), some (.int (m : Nat)), none, none]) _
  refine o_asg (κ' := [.shr, .shr, .shr, .own, .shr]) (d := .lst []) (by simp) rfl rfl rfl rfl ?_
  dsimp only [List.set]
  refine o_fr (κ1 := [.shr, .shr, .shr, .own, .shr]) (ds := (List.range' 0 m).map fun i => Dat.int (i : Nat)) rfl rfl ?_ ?_
  · simp only [evS_rng, evL_cons, evL_nil, evE_var, getV_zero, getV_succ, Rs.ok_bind]
    rw [← List.range_eq_range']
    exact rng1 (by omega)
  refine for_inv (fun i : Nat => Dat.int (i : Nat)) (fun is κ ρ => κ = [.shr, .shr, .shr, .own, .shr] ∧ ∃ (i r : Nat) (o4 : Option Dat), is = List.range' i r ∧ i + r = m ∧ ρ = [some (eT a), some (eT s), some (.int (m : Nat)), some (eLT (chain a s i)), o4]) ?_ ?_ (List.range' 0 m) _ _ ⟨rfl, 0, m, none, rfl, by omega, rfl⟩
  · rintro x xs κ ρ ⟨rfl, i, r, o4, e1, e2, rfl⟩
    cases r with
    | zero => cases e1
    | succ r =>
    rw [List.range'_succ] at e1
    obtain ⟨rfl, rfl⟩ := List.cons.inj e1
    refine ⟨[some (eT a), some (eT s), some (.int (m : Nat)), some (eLT (chain a s x)), some (.int (x : Nat))], rfl, ?_⟩
    refine chain_turn h1 h2 ht hg ha hs (i := x) (by omega) hm (fun _ => ⟨rfl, x + 1, r, some (.int (x : Nat)), rfl, by omega, rfl⟩) fun q => ?_
    rw [hf x (by omega)] at q
    cases q
  · rintro κ ρ ⟨rfl, i, r, o4, e1, e2, rfl⟩
    have : r = 0 := by
      cases r with
      | zero => rfl
      | succ r => rw [List.range'_succ] at e1; cases e1
    subst this
    obtain rfl : i = m := by omega
    exact forP_nx (κ1 := [.shr, .shr, .shr, .own, .shr]) rfl (o_retv rfl rfl (q_ret rfl))
theorem chain_far (h : Has fns f 3 5 (BChain f1 f2) .own) (h1 : Has fns f1 1 1 (BToneOf ft C) .pur) (h2 : Has fns f2 2 4 (BZip .add) .pur) (ht : Has fns ft 1 3 (BIsTone k) .pur) (hg : gl k = eT BD) {a s : List Int} (ha : a.length = 5) (hs : s.length = 5) {m : Nat} (hm : m ≤ 500) (hf : ∃ i, i < m ∧ fitB (chT a s i) = false) :
    callF fns gl (n + 3) f [eT a, eT s, .int (m : Nat)] = .ex (.exc C []) := by
  refine h.exc rfl rfl ?_
  show Out (exSs (callF fns gl (n + 2)) gl (rfs fns) (BChain f1 f2) [.shr, .shr, .shr, .shr, .shr] [some (eT a), some (eT s), some (.int (m : Nat)), none, none]) _
  refine o_asg (κ' := [.shr, .shr, .shr, .own, .shr]) (d := .lst []) (by simp) rfl rfl rfl rfl ?_
  dsimp only [List.set]
  refine o_fr (κ1 := [.shr, .shr, .shr, .own, .shr]) (ds := (List.range' 0 m).map fun i => Dat.int (i : Nat)) rfl rfl ?_ ?_
  · simp only [evS_rng, evL_cons, evL_nil, evE_var, getV_zero, getV_succ, Rs.ok_bind]
    rw [← List.range_eq_range']
    exact rng1 (by omega)
  refine for_inv (fun i : Nat => Dat.int (i : Nat)) (fun is κ ρ => κ = [.shr, .shr, .shr, .own, .shr] ∧ ∃ (i r : Nat) (o4 : Option Dat), is = List.range' i r ∧ i + r = m ∧ (∃ j, i ≤ j ∧ j < m ∧ fitB (chT a s j) = false) ∧ ρ = [some (eT a), some (eT s), some (.int (m : Nat)), some (eLT (chain a s i)), o4]) ?_ ?_ (List.range' 0 m) _ _ ⟨rfl, 0, m, none, rfl, by omega, (by obtain ⟨j, h1, h2⟩ := hf; exact ⟨j, by omega, h1, h2⟩), rfl⟩
  · rintro x xs κ ρ ⟨rfl, i, r, o4, e1, e2, ⟨j, j1, j2, j3⟩, rfl⟩
    cases r with
    | zero => cases e1
    | succ r =>
    rw [List.range'_succ] at e1
    obtain ⟨rfl, rfl⟩ := List.cons.inj e1
    refine ⟨[some (eT a), some (eT s), some (.int (m : Nat)), some (eLT (chain a s x)), some (.int (x : Nat))], rfl, ?_⟩
    refine chain_turn h1 h2 ht hg ha hs (i := x) (by omega) hm (fun q => ⟨rfl, x + 1, r, some (.int (x : Nat)), rfl, by omega, ⟨j, ?_, j2, j3⟩, rfl⟩) fun q κ ρ => rfl
    have : j ≠ x := fun z => by rw [z, q] at j3; cases j3
    omega
  · rintro κ ρ ⟨rfl, i, r, o4, e1, e2, ⟨j, j1, j2, j3⟩, rfl⟩
    have : r = 0 := by
      cases r with
      | zero => rfl
      | succ r => rw [List.range'_succ] at e1; cases e1
    omega
end
end PV

/-! PV, part q: lists in order -/
namespace PV
open PySem PySem.Spec PyProof.Rows L2
/-- two lists of the same things, both in order, are the same -/
theorem sorted_eq {α : Type} {le : α → α → Prop} (anti : ∀ a b, le a b → le b a → a = b) : ∀ {l m : List α}, l.Perm m → l.Pairwise le → m.Pairwise le → l = m
  | [], m, p, _, _ => (List.nil_perm.mp p).symm
  | a :: l, [], p, _, _ => absurd (List.perm_nil.mp p) (by simp)
  | a :: l, b :: m, p, hl, hm => by
    obtain ⟨h1, h2⟩ := List.pairwise_cons.mp hl
    obtain ⟨h3, h4⟩ := List.pairwise_cons.mp hm
    have e : a = b := by
      rcases List.mem_cons.mp (p.mem_iff.mp (List.mem_cons_self (a := a) (l := l))) with e | ha
      · exact e
      · rcases List.mem_cons.mp (p.mem_iff.mpr (List.mem_cons_self (a := b) (l := m))) with e | hb
        · exact e.symm
        · exact anti _ _ (h1 b hb) (h3 a ha)
    subst e
    rw [sorted_eq anti (List.perm_cons a |>.mp p) h2 h4]
theorem leR_eq : PySem.W.dataLe false rowE = fun a b : List Int => decide (a ≤ b) := by
  rw [← PySem.W.dataLe_rows (fun x : List Int => x)]
  funext p q
  show (!PySem.W.dataLt (.tuple _) (.tuple _)) = (!PySem.W.dataLt (.list _) (.list _))
  rw [PySem.W.dataLt_tuple, PySem.W.dataLt_list]
/-- rows as sorted lays them -/
def sortR (xs : List (List Int)) : List (List Int) := xs.mergeSort (PySem.W.dataLe false rowE)
theorem sortR_perm {xs ys : List (List Int)} (p : xs.Perm ys) : sortR xs = sortR ys := by
  have tl : PySem.W.TotalLe (PySem.W.dataLe false rowE) := PySem.W.sortLe_total _ _ _
  refine sorted_eq (le := fun a b => PySem.W.dataLe false rowE a b = true) (fun a b h1 h2 => ?_) ((List.mergeSort_perm _ _).trans (p.trans (List.mergeSort_perm _ _).symm)) (PySem.W.sort_pairwise tl _) (PySem.W.sort_pairwise tl _)
  rw [leR_eq] at h1 h2
  exact List.le_antisymm (of_decide_eq_true h1) (of_decide_eq_true h2)
theorem rowsOf_map : ∀ xs : List (List Int), rowsOf (xs.map eT) = some xs
  | [] => rfl
  | x :: xs => by
    show (match intsOf (x.map Dat.int), rowsOf (xs.map eT) with
      | some ns, some rs => some (ns :: rs)
      | _, _ => none) = _
    rw [intsOf_map, rowsOf_map xs]
theorem srt1_rows {xs : List (List Int)} (h5 : ∀ x ∈ xs, x.length = 5) (hn : xs.length ≤ 1000) : srt1D (eLT xs) = .ok (eLT (sortR xs)) := by
  cases xs with
  | nil => simp [srt1D, intsOf, sortR]
  | cons x xs =>
    show (if _ then _ else _) = _
    rw [if_pos (decide_eq_true (by rw [List.length_map]; exact hn))]
    rw [rowsOf_map]
    simp only
    rw [if_pos]
    · rfl
    · refine List.all_eq_true.mpr fun r hr => ?_
      have l1 := h5 r hr
      have l2 := h5 x List.mem_cons_self
      simp [l1, l2]
section
variable {fns : List FnD} {gl : Nat → Dat} {f fm fr n kp kb : Nat}
/-- tones from low to high, stably -/
def riseL (xs : List (List Int)) : List (List Int) := xs.mergeSort fun a b => decide (meas a ≤ meas b)
theorem riseL_perm (xs : List (List Int)) : (riseL xs).Perm xs := List.mergeSort_perm _ _
theorem riseL_up (xs : List (List Int)) : (riseL xs).Pairwise fun a b => meas a ≤ meas b := by
  have := List.pairwise_mergeSort (le := fun a b : List Int => decide (meas a ≤ meas b)) (fun a b c h1 h2 => decide_eq_true (Nat.le_trans (of_decide_eq_true h1) (of_decide_eq_true h2))) (fun a b => by
    rcases Nat.le_total (meas a) (meas b) with h | h <;> simp [h]) xs
  exact this.imp fun h => of_decide_eq_true h
theorem keysD_map {g : List Dat → Rs Dat} {α : Type} {e : α → Dat} {k : α → Int} : ∀ {xs : List α}, (∀ x ∈ xs, g [e x] = .ok (.int (k x))) → keysD g (xs.map e) = .ok (xs.map k)
  | [], _ => rfl
  | x :: xs, h => by
    unfold List.map keysD
    rw [h x List.mem_cons_self, keysD_map fun y hy => h y (List.mem_cons_of_mem _ hy)]
    rfl
theorem sortV_map {α : Type} {e : α → Dat} {k : α → Int} (xs : List α) : sortV (xs.map k) (xs.map e) = (xs.mergeSort fun a b => decide (k a ≤ k b)).map e := by
  unfold sortV
  rw [show (xs.map k).zip (xs.map e) = xs.map fun x => (k x, e x) by rw [List.zip_map']]
  rw [← PySem.W.sort_maps (r := fun a b => decide (k a ≤ k b)) (fun x => (k x, e x)) (fun _ _ _ _ => rfl), List.map_map]
  rfl
def BRising (fm : Nat) : List Sm := [.ret (.srt (.var 0) fm)]
theorem rising_call (h : Has fns f 1 1 (BRising fm) .ownp) (hm : Has fns fm 1 5 (BMeasure kp kb fr) .pur) (hr : Has fns fr 2 3 BRaised .pur) (hg : gl kp = eT [2, 3, 5, 7, 11]) (hg2 : gl kb = eT [700, 60, 60, 60, 60]) {xs : List (List Int)} (hx : ∀ x ∈ xs, InB x) (hn : xs.length ≤ 1000) :
    callF fns gl (n + 3) f [eLT xs] = .ok (eLT (riseL xs)) := by
  have mc := fun x hx' => meas_call (gl := gl) (n := n) hm hr hg hg2 (t := x) (hx x hx')
  refine h.ownp rfl (ownp_eLT _) ?_
  show Out (exSs (callF fns gl (n + 2)) gl (rfs fns) (BRising fm) [.shr] [some (eLT xs)]) _
  refine o_ret (d := eLT (riseL xs)) rfl ?_ rfl (q_ret rfl)
  simp only [evE_srt, evE_var, getV_zero, Rs.ok_bind]
  show (keysD _ (xs.map eT)).bind _ = _
  rw [keysD_map (k := fun x => ((meas x : Nat) : Int)) mc]
  simp only [Rs.ok_bind]
  rw [if_pos (decide_eq_true (by rw [List.length_map]; exact hn)), sortV_map]
  show Rs.ok (eLT (xs.mergeSort fun a b => decide (((meas a : Nat) : Int) ≤ ((meas b : Nat) : Int)))) = _
  unfold riseL
  congr 3
  funext a b
  exact decide_eq_decide.mpr Int.ofNat_le
end
end PV

namespace LK07
open PySem PySem.Spec PyProof.Rows L2 PV
/-! ### the text and its compact form -/
def top (i : Nat) : Stmt := PySem.Challenge.pw_tuningyard_k07_rising.main.body.getD i (.Pass ⟨0, 0, 0, 0⟩)
def B0 : List Sm := [.asg 2 (.cst (.int 1)),
    .whl (.cmp .gt (.var 1) (.cst (.int 0))) [.ite (.cmp .eq (.bin .mod (.var 1) (.cst (.int 2))) (.cst (.int 1))) [.asg 2 (.bin .mul (.var 2) (.var 0))] [], .asg 0 (.bin .mul (.var 0) (.var 0)), .asg 1 (.bin .fdiv (.var 1) (.cst (.int 2)))],
    .ret (.var 2)]
def F0 : FnD := ⟨"raised", top 3, ["base", "n"], ["base", "n", "made"], B0, .pur, []⟩
def B1 : List Sm := [.asg 1 (.cst (.int 1)),
    .fr (.tp [2, 3, 4]) (.zip3 (.glo 0) (.var 0) (.glo 1)) [.asg 1 (.bin .mul (.var 1) (.cal 0 [.var 2, .bin .add (.var 3) (.var 4)]))],
    .ret (.var 1)]
def F1 : FnD := ⟨"measure", top 5, ["tone"], ["tone", "made", "prime", "count", "bound"], B1, .pur, []⟩
def B2 : List Sm := [.ret (.srt (.var 0) 1)]
def F2 : FnD := ⟨"rising", top 6, ["tones"], ["tones"], B2, .ownp, []⟩
def B3 : List Sm := [.ite (.cmp .lt (.var 1) (.bi .len [.var 0])) [.ret (.idx (.var 0) (.var 1))] [],
    .ret (.cst (.int 0))]
def F3 : FnD := ⟨"_law_cell_at", top 8, ["_law_script", "_law_k"], ["_law_script", "_law_k"], B3, .pur, []⟩
def B4 : List Sm := [.ite (.or (.not (.isi (.var 0) [.tuple])) (.cmp .ne (.bi .len [.var 0]) (.cst (.int 5)))) [.ret (.cst (.bl false))] [],
    .fr (.nm 2) (.seq (.var 0)) [.ite (.or (.not (.isi (.var 2) [.int])) (.isi (.var 2) [.bool])) [.ret (.cst (.bl false))] []],
    .ret (.cmp .eq (.var 0) (.var 1))]
def F4 : FnD := ⟨"_law_row_is", top 9, ["_law_found", "_law_due"], ["_law_found", "_law_due", "_law_number"], B4, .pur, []⟩
def B5 : List Sm := [.asg 1 (.cst (.int 1)),
    .asg 2 (.cst (.int 1)),
    .fr (.tp [3, 4]) (.zip (.lst [.cst (.int 2), .cst (.int 3), .cst (.int 5), .cst (.int 7), .cst (.int 11)]) (.var 0)) [.fr (.nm 5) (.rng [.var 4]) [.asg 1 (.bin .mul (.var 1) (.var 3))], .fr (.nm 5) (.rng [.bin .sub (.cst (.int 0)) (.var 4)]) [.asg 2 (.bin .mul (.var 2) (.var 3))]],
    .ret (.bin .sub (.bi .int [.cmp .gt (.var 1) (.var 2)]) (.bi .int [.cmp .lt (.var 1) (.var 2)]))]
def F5 : FnD := ⟨"_law_sign_of", top 10, ["_law_row"], ["_law_row", "_law_above", "_law_below", "_law_prime", "_law_number", "_law_k"], B5, .pur, []⟩
def B6 : List Sm := [.ret (.bin .mod (.bin .add (.bin .mul (.bin .mod (.var 0) (.cst (.int 1000003))) (.cst (.int 48271))) (.bin .mul (.bin .mul (.var 1) (.var 1)) (.cst (.int 7919)))) (.idx (.lst [.cst (.int 10007), .cst (.int 10009), .cst (.int 10037), .cst (.int 10039), .cst (.int 10061)]) (.var 1)))]
def F6 : FnD := ⟨"_law_mixed", top 11, ["_law_cell", "_law_k"], ["_law_cell", "_law_k"], B6, .pur, []⟩
def B7 : List Sm := [.asg 1 (.lst [.bin .sub (.bin .mod (.cal 3 [.var 0, .cst (.int 25)]) (.cst (.int 1201))) (.cst (.int 600))]),
    .fr (.nm 2) (.rng [.cst (.int 4)]) [.app 1 (.bin .sub (.bin .mod (.cal 3 [.var 0, .bin .add (.cst (.int 26)) (.var 2)]) (.cst (.int 101))) (.cst (.int 50)))],
    .asg 3 (.lst []),
    .fr (.nm 4) (.seq (.slc (.var 0) [.cst (.int 1)] [.cst (.int 25)])) [.asg 5 (.lst [.bin .add (.bin .sub (.bin .mod (.cal 6 [.var 4, .cst (.int 0)]) (.cst (.int 41))) (.cst (.int 20))) (.idx (.var 1) (.cst (.int 0)))]), .fr (.nm 2) (.rng [.cst (.int 4)]) [.app 5 (.bin .add (.bin .sub (.bin .mod (.cal 6 [.var 4, .bin .add (.cst (.int 1)) (.var 2)]) (.cst (.int 13))) (.cst (.int 6))) (.idx (.var 1) (.bin .add (.cst (.int 1)) (.var 2))))], .app 3 (.bi .tuple [.var 5])],
    .ite (.cmp .eq (.bin .mod (.cal 3 [.var 0, .cst (.int 0)]) (.cst (.int 3))) (.cst (.int 1))) [.asg 3 (.bin .add (.var 3) (.slc (.var 3) [] [.cst (.int 3)]))] [],
    .ret (.var 3)]
def F7 : FnD := ⟨"_law_tones", top 12, ["_law_script"], ["_law_script", "_law_far", "_law_k", "_law_tones_here", "_law_cell", "_law_tone"], B7, .own, []⟩
def B8 : List Sm := [.asg 1 (.cal 7 [.var 0]),
    .asg 2 (.bi .list [.var 1]),
    .asg 3 (.cal 2 [.var 2]),
    .ite (.or (.not (.isi (.var 3) [.list])) (.or (.cmp .ne (.bi .len [.var 3]) (.bi .len [.var 1])) (.cmp .ne (.var 2) (.var 1)))) [.ret (.cst (.bl false))] [],
    .fr (.nm 4) (.seq (.var 3)) [.ite (.not (.cal 4 [.var 4, .var 4])) [.ret (.cst (.bl false))] []],
    .asg 5 (.bi .list [.var 3]),
    .app 2 (.tup [.cst (.int 0), .cst (.int 0), .cst (.int 0), .cst (.int 0), .cst (.int 0)]),
    .asg 6 (.cal 2 [.var 2]),
    .ite (.or (.not (.isi (.var 6) [.list])) (.or (.cmp .ne (.bi .len [.var 6]) (.bi .len [.var 2])) (.cmp .ne (.var 3) (.var 5)))) [.ret (.cst (.bl false))] [],
    .ite (.or (.cmp .ne (.srt1 (.var 3)) (.srt1 (.var 1))) (.cmp .ne (.srt1 (.var 6)) (.srt1 (.var 2)))) [.ret (.cst (.bl false))] [],
    .fr (.nm 7) (.rng [.bin .sub (.bi .len [.var 3]) (.cst (.int 1))]) [.ite (.cmp .lt (.cal 5 [.comp (.bin .sub (.var 8) (.var 9)) (.tp [8, 9]) (.zip (.idx (.var 3) (.bin .add (.var 7) (.cst (.int 1)))) (.idx (.var 3) (.var 7))) []]) (.cst (.int 0))) [.ret (.cst (.bl false))] []],
    .ret (.cst (.bl true))]
def F8 : FnD := ⟨"law", top 13, ["_law_script"], ["_law_script", "_law_tones_here", "_law_handed", "_law_found", "_law_tone", "_law_kept", "_law_again", "_law_k", "_law_x", "_law_y"], B8, .pur, []⟩
def fns : List FnD := [F0, F1, F2, F3, F4, F5, F6, F7, F8]
def gl (i : Nat) : Dat := [.tup [(.int 2), (.int 3), (.int 5), (.int 7), (.int 11)], .tup [(.int 700), (.int 60), (.int 60), (.int 60), (.int 60)]].getD i .non
def glos : List (Str × Nat) := [("PRIMES", 0), ("BOUNDS", 1)]
def free : List Str := ["zip", "sorted", "len", "isinstance", "tuple", "int", "bool", "range", "list"]
def excs : Exs := ⟨[], [], [], []⟩
theorem S0 : FnScope F0.N F0.ps (defScope F0.st) := ⟨rfl, rfl, rfl, by decide +kernel, rfl, by decide +kernel, by decide +kernel⟩
theorem C0 : cSt (rfs fns) (ctxOf fns glos free F0) excs 1000 (defScope F0.st) (defBody F0.st) = some F0.body := rfl
theorem S1 : FnScope F1.N F1.ps (defScope F1.st) := ⟨rfl, rfl, rfl, by decide +kernel, rfl, by decide +kernel, by decide +kernel⟩
theorem C1 : cSt (rfs fns) (ctxOf fns glos free F1) excs 1000 (defScope F1.st) (defBody F1.st) = some F1.body := rfl
theorem S2 : FnScope F2.N F2.ps (defScope F2.st) := ⟨rfl, rfl, rfl, by decide +kernel, rfl, by decide +kernel, by decide +kernel⟩
theorem C2 : cSt (rfs fns) (ctxOf fns glos free F2) excs 1000 (defScope F2.st) (defBody F2.st) = some F2.body := rfl
theorem S3 : FnScope F3.N F3.ps (defScope F3.st) := ⟨rfl, rfl, rfl, by decide +kernel, rfl, by decide +kernel, by decide +kernel⟩
theorem C3 : cSt (rfs fns) (ctxOf fns glos free F3) excs 1000 (defScope F3.st) (defBody F3.st) = some F3.body := rfl
theorem S4 : FnScope F4.N F4.ps (defScope F4.st) := ⟨rfl, rfl, rfl, by decide +kernel, rfl, by decide +kernel, by decide +kernel⟩
theorem C4 : cSt (rfs fns) (ctxOf fns glos free F4) excs 1000 (defScope F4.st) (defBody F4.st) = some F4.body := rfl
theorem S5 : FnScope F5.N F5.ps (defScope F5.st) := ⟨rfl, rfl, rfl, by decide +kernel, rfl, by decide +kernel, by decide +kernel⟩
theorem C5 : cSt (rfs fns) (ctxOf fns glos free F5) excs 1000 (defScope F5.st) (defBody F5.st) = some F5.body := rfl
theorem S6 : FnScope F6.N F6.ps (defScope F6.st) := ⟨rfl, rfl, rfl, by decide +kernel, rfl, by decide +kernel, by decide +kernel⟩
theorem C6 : cSt (rfs fns) (ctxOf fns glos free F6) excs 1000 (defScope F6.st) (defBody F6.st) = some F6.body := rfl
theorem S7 : FnScope F7.N F7.ps (defScope F7.st) := ⟨rfl, rfl, rfl, by decide +kernel, rfl, by decide +kernel, by decide +kernel⟩
theorem C7 : cSt (rfs fns) (ctxOf fns glos free F7) excs 1000 (defScope F7.st) (defBody F7.st) = some F7.body := rfl
theorem S8 : FnScope F8.N F8.ps (defScope F8.st) := ⟨rfl, rfl, rfl, by decide +kernel, rfl, by decide +kernel, by decide +kernel⟩
theorem C8 : cSt (rfs fns) (ctxOf fns glos free F8) excs 1000 (defScope F8.st) (defBody F8.st) = some F8.body := rfl
theorem hS : ∀ F ∈ fns, FnScope F.N F.ps (defScope F.st) := by
  intro F hF
  simp only [fns, List.mem_cons, List.not_mem_nil, or_false] at hF
  rcases hF with rfl | rfl | rfl | rfl | rfl | rfl | rfl | rfl | rfl
  · exact S0
  · exact S1
  · exact S2
  · exact S3
  · exact S4
  · exact S5
  · exact S6
  · exact S7
  · exact S8
theorem hB : ∀ F ∈ fns, cSt (rfs fns) (ctxOf fns glos free F) excs 1000 (defScope F.st) (defBody F.st) = some F.body := by
  intro F hF
  simp only [fns, List.mem_cons, List.not_mem_nil, or_false] at hF
  rcases hF with rfl | rfl | rfl | rfl | rfl | rfl | rfl | rfl | rfl
  · exact C0
  · exact C1
  · exact C2
  · exact C3
  · exact C4
  · exact C5
  · exact C6
  · exact C7
  · exact C8
theorem all_mk {l : PySem.W.OpenLaw} {w : World} {K : PySem.W.Frag} {h : Heap} {mg : Str → Option Value} {fa : Addr} (X : K.In h) (G : h.Ns mainGlobals mg) (hfa : mg "law" = some (.ref fa))
    {f0 : Addr} {oc0 : Value} {od0 an0 : Option Addr} {sl0 : Array (Option Value)} {kV0 dc0 pm0 cd0 ct0 : Value}
    {f1 : Addr} {oc1 : Value} {od1 an1 : Option Addr} {sl1 : Array (Option Value)} {kV1 dc1 pm1 cd1 ct1 : Value}
    {f2 : Addr} {oc2 : Value} {od2 an2 : Option Addr} {sl2 : Array (Option Value)} {kV2 dc2 pm2 cd2 ct2 : Value}
    {f3 : Addr} {oc3 : Value} {od3 an3 : Option Addr} {sl3 : Array (Option Value)} {kV3 dc3 pm3 cd3 ct3 : Value}
    {f4 : Addr} {oc4 : Value} {od4 an4 : Option Addr} {sl4 : Array (Option Value)} {kV4 dc4 pm4 cd4 ct4 : Value}
    {f5 : Addr} {oc5 : Value} {od5 an5 : Option Addr} {sl5 : Array (Option Value)} {kV5 dc5 pm5 cd5 ct5 : Value}
    {f6 : Addr} {oc6 : Value} {od6 an6 : Option Addr} {sl6 : Array (Option Value)} {kV6 dc6 pm6 cd6 ct6 : Value}
    {f7 : Addr} {oc7 : Value} {od7 an7 : Option Addr} {sl7 : Array (Option Value)} {kV7 dc7 pm7 cd7 ct7 : Value}
    {f8 : Addr} {oc8 : Value} {od8 an8 : Option Addr} {sl8 : Array (Option Value)} {kV8 dc8 pm8 cd8 ct8 : Value}
    {ga0_0 : Addr} {go0_0 : Value} {gd0_0 : Option Addr} {gi0_0 : Array Value} {gn0_0 : Nat} {gs0_0 : Array (Option Value)} {gk0_0_0 gk0_0_1 gk0_0_2 gk0_0_3 gk0_0_4 : _}
    {ga1_0 : Addr} {go1_0 : Value} {gd1_0 : Option Addr} {gi1_0 : Array Value} {gn1_0 : Nat} {gs1_0 : Array (Option Value)} {gk1_0_0 gk1_0_1 gk1_0_2 gk1_0_3 gk1_0_4 : _}
    (a0 : PySem.W.nsIn K mainGlobals "raised" = some (some (.ref f0)))
    (l0 : K.lookup f0 = some ⟨oc0, od0, .func (PySem.W.fnOf "raised" "raised" (defArgs (top 3)) (defBody (top 3)) (defScope (top 3)) .none kV0 dc0 pm0 an0 cd0 ct0), sl0⟩)
    (c0 : PySem.W.codeIn K cd0 "raised" = true)
    (k0 : PySem.W.keepIn K (.ref f0) = true)
    (a1 : PySem.W.nsIn K mainGlobals "measure" = some (some (.ref f1)))
    (l1 : K.lookup f1 = some ⟨oc1, od1, .func (PySem.W.fnOf "measure" "measure" (defArgs (top 5)) (defBody (top 5)) (defScope (top 5)) .none kV1 dc1 pm1 an1 cd1 ct1), sl1⟩)
    (c1 : PySem.W.codeIn K cd1 "measure" = true)
    (k1 : PySem.W.keepIn K (.ref f1) = true)
    (a2 : PySem.W.nsIn K mainGlobals "rising" = some (some (.ref f2)))
    (l2 : K.lookup f2 = some ⟨oc2, od2, .func (PySem.W.fnOf "rising" "rising" (defArgs (top 6)) (defBody (top 6)) (defScope (top 6)) .none kV2 dc2 pm2 an2 cd2 ct2), sl2⟩)
    (c2 : PySem.W.codeIn K cd2 "rising" = true)
    (k2 : PySem.W.keepIn K (.ref f2) = true)
    (a3 : PySem.W.nsIn K mainGlobals "_law_cell_at" = some (some (.ref f3)))
    (l3 : K.lookup f3 = some ⟨oc3, od3, .func (PySem.W.fnOf "_law_cell_at" "_law_cell_at" (defArgs (top 8)) (defBody (top 8)) (defScope (top 8)) .none kV3 dc3 pm3 an3 cd3 ct3), sl3⟩)
    (c3 : PySem.W.codeIn K cd3 "_law_cell_at" = true)
    (k3 : PySem.W.keepIn K (.ref f3) = true)
    (a4 : PySem.W.nsIn K mainGlobals "_law_row_is" = some (some (.ref f4)))
    (l4 : K.lookup f4 = some ⟨oc4, od4, .func (PySem.W.fnOf "_law_row_is" "_law_row_is" (defArgs (top 9)) (defBody (top 9)) (defScope (top 9)) .none kV4 dc4 pm4 an4 cd4 ct4), sl4⟩)
    (c4 : PySem.W.codeIn K cd4 "_law_row_is" = true)
    (k4 : PySem.W.keepIn K (.ref f4) = true)
    (a5 : PySem.W.nsIn K mainGlobals "_law_sign_of" = some (some (.ref f5)))
    (l5 : K.lookup f5 = some ⟨oc5, od5, .func (PySem.W.fnOf "_law_sign_of" "_law_sign_of" (defArgs (top 10)) (defBody (top 10)) (defScope (top 10)) .none kV5 dc5 pm5 an5 cd5 ct5), sl5⟩)
    (c5 : PySem.W.codeIn K cd5 "_law_sign_of" = true)
    (k5 : PySem.W.keepIn K (.ref f5) = true)
    (a6 : PySem.W.nsIn K mainGlobals "_law_mixed" = some (some (.ref f6)))
    (l6 : K.lookup f6 = some ⟨oc6, od6, .func (PySem.W.fnOf "_law_mixed" "_law_mixed" (defArgs (top 11)) (defBody (top 11)) (defScope (top 11)) .none kV6 dc6 pm6 an6 cd6 ct6), sl6⟩)
    (c6 : PySem.W.codeIn K cd6 "_law_mixed" = true)
    (k6 : PySem.W.keepIn K (.ref f6) = true)
    (a7 : PySem.W.nsIn K mainGlobals "_law_tones" = some (some (.ref f7)))
    (l7 : K.lookup f7 = some ⟨oc7, od7, .func (PySem.W.fnOf "_law_tones" "_law_tones" (defArgs (top 12)) (defBody (top 12)) (defScope (top 12)) .none kV7 dc7 pm7 an7 cd7 ct7), sl7⟩)
    (c7 : PySem.W.codeIn K cd7 "_law_tones" = true)
    (k7 : PySem.W.keepIn K (.ref f7) = true)
    (a8 : PySem.W.nsIn K mainGlobals "law" = some (some (.ref f8)))
    (l8 : K.lookup f8 = some ⟨oc8, od8, .func (PySem.W.fnOf "law" "law" (defArgs (top 13)) (defBody (top 13)) (defScope (top 13)) .none kV8 dc8 pm8 an8 cd8 ct8), sl8⟩)
    (c8 : PySem.W.codeIn K cd8 "law" = true)
    (k8 : PySem.W.keepIn K (.ref f8) = true)
    (z0 : PySem.W.nsIn K mainGlobals "zip" = some none)
    (z1 : PySem.W.nsIn K mainGlobals "sorted" = some none)
    (z2 : PySem.W.nsIn K mainGlobals "len" = some none)
    (z3 : PySem.W.nsIn K mainGlobals "isinstance" = some none)
    (z4 : PySem.W.nsIn K mainGlobals "tuple" = some none)
    (z5 : PySem.W.nsIn K mainGlobals "int" = some none)
    (z6 : PySem.W.nsIn K mainGlobals "bool" = some none)
    (z7 : PySem.W.nsIn K mainGlobals "range" = some none)
    (z8 : PySem.W.nsIn K mainGlobals "list" = some none)
    (gn0_n : PySem.W.nsIn K mainGlobals "PRIMES" = some (some (.ref ga0_0)))
    (h0_0 : K.lookup ga0_0 = some ⟨go0_0, gd0_0, .seq gi0_0 gn0_0, gs0_0⟩)
    (t0_0 : go0_0 = .type "tuple")
    (v0_0 : gi0_0.toList = [.int 2 gk0_0_0, .int 3 gk0_0_1, .int 5 gk0_0_2, .int 7 gk0_0_3, .int 11 gk0_0_4])
    (gn1_n : PySem.W.nsIn K mainGlobals "BOUNDS" = some (some (.ref ga1_0)))
    (h1_0 : K.lookup ga1_0 = some ⟨go1_0, gd1_0, .seq gi1_0 gn1_0, gs1_0⟩)
    (t1_0 : go1_0 = .type "tuple")
    (v1_0 : gi1_0.toList = [.int 700 gk1_0_0, .int 60 gk1_0_1, .int 60 gk1_0_2, .int 60 gk1_0_3, .int 60 gk1_0_4])
    (hlaw : ∀ ns : List Int, ns.length ≤ 63 → callF fns gl 64 8 [.rol (ns.map Dat.int)] = .ok (.bl true)) :
    ∃ fd : FuncData, (∀ (s : Shared) (v : Value), BindsTo s fd ⟨[v], []⟩ [("_law_script", v)]) ∧ ∀ base : Heap, K.In base → base.Ns mainGlobals mg → FnOk l.prog w K mg base (L2.CX l.prog w) 128 fa fd ["_law_script"] (PV.spLaw K) := by
  have e := hfa.symm.trans (PySem.W.mg_of X G a8)
  cases e
  have at0 : FnAt K mg F0 := fnAt_mk X G a0 l0 c0 k0 fun _ _ _ _ _ _ us hl => match us, hl with | [_, _], _ => rfl
  have at1 : FnAt K mg F1 := fnAt_mk X G a1 l1 c1 k1 fun _ _ _ _ _ _ us hl => match us, hl with | [_], _ => rfl
  have at2 : FnAt K mg F2 := fnAt_mk X G a2 l2 c2 k2 fun _ _ _ _ _ _ us hl => match us, hl with | [_], _ => rfl
  have at3 : FnAt K mg F3 := fnAt_mk X G a3 l3 c3 k3 fun _ _ _ _ _ _ us hl => match us, hl with | [_, _], _ => rfl
  have at4 : FnAt K mg F4 := fnAt_mk X G a4 l4 c4 k4 fun _ _ _ _ _ _ us hl => match us, hl with | [_, _], _ => rfl
  have at5 : FnAt K mg F5 := fnAt_mk X G a5 l5 c5 k5 fun _ _ _ _ _ _ us hl => match us, hl with | [_], _ => rfl
  have at6 : FnAt K mg F6 := fnAt_mk X G a6 l6 c6 k6 fun _ _ _ _ _ _ us hl => match us, hl with | [_, _], _ => rfl
  have at7 : FnAt K mg F7 := fnAt_mk X G a7 l7 c7 k7 fun _ _ _ _ _ _ us hl => match us, hl with | [_], _ => rfl
  have at8 : FnAt K mg F8 := fnAt_mk X G a8 l8 c8 k8 fun _ _ _ _ _ _ us hl => match us, hl with | [_], _ => rfl
  have hbi : ∀ x ∈ free, mg x = none := by
    intro x hx
    simp only [free, List.mem_cons, List.not_mem_nil, or_false] at hx
    rcases hx with rfl | rfl | rfl | rfl | rfl | rfl | rfl | rfl | rfl
    · exact PySem.W.mg_none_of X G z0
    · exact PySem.W.mg_none_of X G z1
    · exact PySem.W.mg_none_of X G z2
    · exact PySem.W.mg_none_of X G z3
    · exact PySem.W.mg_none_of X G z4
    · exact PySem.W.mg_none_of X G z5
    · exact PySem.W.mg_none_of X G z6
    · exact PySem.W.mg_none_of X G z7
    · exact PySem.W.mg_none_of X G z8
  have hex : ∀ x C, excs.lookup x = some C → ExcAt K mg ((fun i => [].getD i 0) C) x := by
    intro x C hx
    cases hx
  refine ⟨_, fun s v => .of_eq rfl, fun base _ _ => law_of (cadr := (fun i => [].getD i 0)) hlaw ((fns_ok (glos := glos) (free := free) (ex := excs) hS hB hbi ?_ hex ?_ ?_ ?_ 64 8 F8 rfl _ _ (.of (fun_mk l8 c8 k8))).1 rfl)⟩
  · intro x g hx
    have hm := PySem.mem_of_lookup hx
    simp only [glos, List.mem_cons, List.not_mem_nil, or_false, Prod.mk.injEq] at hm
    rcases hm with ⟨rfl, rfl⟩ | ⟨rfl, rfl⟩
    · exact ⟨.ref ga0_0, .ref ga0_0, PySem.W.mg_of X G gn0_n, rfl, fun O H => .tup (PV.sqT_glo h0_0 t0_0 v0_0 (.cons PV.rv_int (.cons PV.rv_int (.cons PV.rv_int (.cons PV.rv_int (.cons PV.rv_int .nil))))) (Nat.le_of_ble_eq_true rfl)) (.cons (.int _) (.cons (.int _) (.cons (.int _) (.cons (.int _) (.cons (.int _) .nil)))))⟩
    · exact ⟨.ref ga1_0, .ref ga1_0, PySem.W.mg_of X G gn1_n, rfl, fun O H => .tup (PV.sqT_glo h1_0 t1_0 v1_0 (.cons PV.rv_int (.cons PV.rv_int (.cons PV.rv_int (.cons PV.rv_int (.cons PV.rv_int .nil))))) (Nat.le_of_ble_eq_true rfl)) (.cons (.int _) (.cons (.int _) (.cons (.int _) (.cons (.int _) (.cons (.int _) .nil)))))⟩
  · intro C c b hl
    cases hl
  · intro x ts hx
    cases hx
  · intro F hF
    simp only [fns, List.mem_cons, List.not_mem_nil, or_false] at hF
    rcases hF with rfl | rfl | rfl | rfl | rfl | rfl | rfl | rfl | rfl
    · exact at0
    · exact at1
    · exact at2
    · exact at3
    · exact at4
    · exact at5
    · exact at6
    · exact at7
    · exact at8
end LK07

namespace LK07
open PySem PySem.Spec PyProof.Rows L2 PV
theorem h0 : Has fns 0 2 3 BRaised .pur := ⟨F0, rfl, rfl, rfl, rfl, rfl⟩
theorem h1 : Has fns 1 1 5 (BMeasure 0 1 0) .pur := ⟨F1, rfl, rfl, rfl, rfl, rfl⟩
theorem h2 : Has fns 2 1 1 (BRising 1) .ownp := ⟨F2, rfl, rfl, rfl, rfl, rfl⟩
theorem h3 : Has fns 3 2 2 BCell .pur := ⟨F3, rfl, rfl, rfl, rfl, rfl⟩
theorem h4 : Has fns 4 2 3 BRowIs .pur := ⟨F4, rfl, rfl, rfl, rfl, rfl⟩
theorem h5 : Has fns 5 1 6 BSign .pur := ⟨F5, rfl, rfl, rfl, rfl, rfl⟩
theorem h6 : Has fns 6 2 2 B6 .pur := ⟨F6, rfl, rfl, rfl, rfl, rfl⟩
theorem h7 : Has fns 7 1 6 B7 .own := ⟨F7, rfl, rfl, rfl, rfl, rfl⟩
theorem h8 : Has fns 8 1 10 B8 .pur := ⟨F8, rfl, rfl, rfl, rfl, rfl⟩
theorem mixed (n : Nat) (c : Int) (k : Nat) (hk : k ≤ 4) : ∃ v : Int, callF fns gl (n + 1) 6 [.int c, .int (k : Nat)] = .ok (.int v) := by
  have hx : ∃ p : Int, idxD (.lst [.int 10007, .int 10009, .int 10037, .int 10039, .int 10061]) (.int (k : Nat)) = .ok (.int p) ∧ p ≠ 0 := by
    have : k = 0 ∨ k = 1 ∨ k = 2 ∨ k = 3 ∨ k = 4 := by omega
    rcases this with rfl | rfl | rfl | rfl | rfl <;> exact ⟨_, idx_lst rfl, by decide⟩
  obtain ⟨p, x1, x2⟩ := hx
  refine ⟨((c.fmod 1000003) * 48271 + (k : Int) * (k : Int) * 7919).fmod p, ?_⟩
  refine h6.pur rfl rfl ?_
  show Out (exSs (callF fns gl n) gl (rfs fns) B6 [.shr, .shr] [some (.int c), some (.int (k : Nat))]) _
  refine o_ret rfl ?_ rfl q_ret0
  simp only [evE_bin, evE_idx, evE_lst, evL_cons, evL_nil, evE_cst, evE_var, getV_zero, getV_succ, Rs.ok_bind]
  rw [bin_mod (by decide)]
  simp only [Rs.ok_bind]
  rw [bin_mul (mul_small (.inr (by decide))), bin_mul (mul_small (.inl (by omega)))]
  simp only [Rs.ok_bind]
  rw [bin_mul (mul_small (.inr (by decide)))]
  simp only [Rs.ok_bind, bin_add, x1]
  exact bin_mod x2
/-- far: a number, four numbers -/
def Far (xs : List Int) : Prop := ∃ a b c d e : Int, xs = [a, b, c, d, e] ∧ (-600 ≤ a ∧ a ≤ 600) ∧ (-50 ≤ b ∧ b ≤ 50) ∧ (-50 ≤ c ∧ c ≤ 50) ∧ (-50 ≤ d ∧ d ≤ 50) ∧ (-50 ≤ e ∧ e ≤ 50)
theorem Far.at {xs : List Int} (h : Far xs) {i : Nat} (hi : i < 4) : ∃ v : Int, idxD (eI xs) (.int (1 + (i : Nat))) = .ok (.int v) ∧ -50 ≤ v ∧ v ≤ 50 := by
  obtain ⟨a, b, c, d, e, rfl, h0, h1, h2, h3, h4⟩ := h
  have : i = 0 ∨ i = 1 ∨ i = 2 ∨ i = 3 := by omega
  rcases this with rfl | rfl | rfl | rfl
  · exact ⟨b, idx_lst (i := 1) rfl, h1⟩
  · exact ⟨c, idx_lst (i := 2) rfl, h2⟩
  · exact ⟨d, idx_lst (i := 3) rfl, h3⟩
  · exact ⟨e, idx_lst (i := 4) rfl, h4⟩
theorem five_cons {t : Int} {ts : List Int} (h : ts.length = 4) : ∃ b c d e, t :: ts = [t, b, c, d, e] ∧ b ∈ ts ∧ c ∈ ts ∧ d ∈ ts ∧ e ∈ ts := by
  match ts, h with
  | [b, c, d, e], _ => exact ⟨b, c, d, e, rfl, by simp, by simp, by simp, by simp⟩
theorem tones_made (ns : List Int) (hn : ns.length ≤ 63) : ∃ rs : List (List Int), rs.length ≤ 60 ∧ (∀ r ∈ rs, InB r) ∧ callF fns gl 63 7 [.rol (ns.map Dat.int)] = .ok (eLT rs) := by
  have cc := fun k => cell_call (gl := gl) (n := 61) h3 ns k
  have c25 : callF fns gl 62 3 [.rol (ns.map Dat.int), .int 25] = _ := cc 25
  have c0 : callF fns gl 62 3 [.rol (ns.map Dat.int), .int 0] = _ := cc 0
  suffices q : Out (exSs (callF fns gl 62) gl (rfs fns) B7 [.shr, .shr, .shr, .shr, .shr, .shr] [some (.rol (ns.map Dat.int)), none, none, none, none, none]) (retE 3 fun d => ∃ rs : List (List Int), rs.length ≤ 60 ∧ (∀ r ∈ rs, InB r) ∧ d = eLT rs) by
    obtain ⟨d, ⟨rs, q1, q2, rfl⟩, q3⟩ := h7.ownE (gl := gl) (n := 62) (ds := [.rol (ns.map Dat.int)]) rfl q
    exact ⟨rs, q1, q2, q3⟩
  have b0 := Int.fmod_nonneg_of_pos (cell ns 25) (b := 1201) (by decide)
  have b1 := Int.fmod_lt_of_pos (cell ns 25) (b := 1201) (by decide)
  refine o_asg (κ' := [.shr, .own, .shr, .shr, .shr, .shr]) (d := eI [(cell ns 25).fmod 1201 - 600]) ?_ rfl rfl rfl rfl ?_
  · simp only [evE_lst, evE_bin, evE_cal, evL_cons, evL_nil, evE_cst, evE_var, getV_zero, getV_succ, Rs.ok_bind, c25]
    rw [bin_mod (by decide)]
    rfl
  dsimp only [List.set]
  generalize (cell ns 25).fmod 1201 = f0 at b0 b1
  refine o_fr (κ1 := [.shr, .own, .shr, .shr, .shr, .shr]) (ds := (List.range' 0 4).map fun i => Dat.int (i : Nat)) rfl rfl (by simp only [evS_rng, evL_cons, evL_nil, evE_cst, Rs.ok_bind]; rw [← List.range_eq_range']; exact rng1 (n := 4) (by decide)) ?_
  refine for_inv (fun i : Nat => Dat.int (i : Nat)) (fun is κ ρ => κ = [.shr, .own, .shr, .shr, .shr, .shr] ∧ ∃ (i r : Nat) (fs : List Int) (o2 : Option Dat), is = List.range' i r ∧ i + r = 4 ∧ fs.length = i ∧ (∀ f ∈ fs, -50 ≤ f ∧ f ≤ 50) ∧ ρ = [some (.rol (ns.map Dat.int)), some (eI ((f0 - 600) :: fs)), o2, none, none, none]) ?_ ?_ (List.range' 0 4) _ _ ⟨rfl, 0, 4, [], none, rfl, rfl, rfl, fun f hf => (by cases hf), rfl⟩
  · rintro x xs κ ρ ⟨rfl, i, r, fs, o2, e1, e2, e3, hf, rfl⟩
    cases r with
    | zero => cases e1
    | succ r =>
    rw [List.range'_succ] at e1
    obtain ⟨rfl, rfl⟩ := List.cons.inj e1
    have d0 := Int.fmod_nonneg_of_pos (cell ns (26 + x)) (b := 101) (by decide)
    have d1 := Int.fmod_lt_of_pos (cell ns (26 + x)) (b := 101) (by decide)
    have c1 : callF fns gl 62 3 [.rol (ns.map Dat.int), .int (26 + (x : Nat))] = _ := cc (26 + x)
    refine ⟨[some (.rol (ns.map Dat.int)), some (eI ((f0 - 600) :: fs)), some (.int (x : Nat)), none, none, none], rfl, ?_⟩
    refine o_app (κ1 := [.shr, .own, .shr, .shr, .shr, .shr]) (d := .int ((cell ns (26 + x)).fmod 101 - 50)) (xs := ((f0 - 600) :: fs).map Dat.int) rfl rfl rfl ?_ (by rw [List.length_map, List.length_cons]; exact small1000 (by omega)) (o_nil ⟨rfl, x + 1, r, fs ++ [(cell ns (26 + x)).fmod 101 - 50], some (.int (x : Nat)), rfl, by omega, by simp [e3], fun f hf' => ?_, by simp⟩)
    · simp only [evE_bin, evE_cal, evL_cons, evL_nil, evE_cst, evE_var, getV_zero, getV_succ, Rs.ok_bind, bin_add, c1]
      rw [bin_mod (by decide)]
      rfl
    · rcases List.mem_append.mp hf' with h | h
      · exact hf f h
      · rw [List.mem_singleton.mp h]
        omega
  rintro κ ρ ⟨rfl, i, r, fs, o2, e1, e2, e3, hf, rfl⟩
  have : r = 0 := by
    cases r with
    | zero => rfl
    | succ r => rw [List.range'_succ] at e1; cases e1
  subst this
  have far : Far ((f0 - 600) :: fs) := by
    obtain ⟨b, c, d, e, e5, m1, m2, m3, m4⟩ := five_cons (t := f0 - 600) (ts := fs) (by omega)
    exact ⟨_, b, c, d, e, e5, by omega, hf _ m1, hf _ m2, hf _ m3, hf _ m4⟩
  refine forP_nx (κ1 := [.shr, .own, .shr, .shr, .shr, .shr]) rfl ?_
  obtain ⟨F, eF⟩ : ∃ F, F = (f0 - 600) :: fs := ⟨_, rfl⟩
  rw [← eF] at far ⊢
  have F0 : ∃ v : Int, idxD (eI F) (.int 0) = .ok (.int v) ∧ -600 ≤ v ∧ v ≤ 600 := by
    obtain ⟨a, b, c, d, e, rfl, h0, _⟩ := far
    exact ⟨a, idx_lst (i := 0) rfl, h0⟩
  obtain ⟨v0, g0, g1, g2⟩ := F0
  refine o_asg (κ' := [.shr, .own, .shr, .own, .shr, .shr]) (d := .lst []) (by simp) rfl rfl rfl rfl ?_
  dsimp only [List.set]
  refine o_fr (κ1 := [.shr, .own, .shr, .own, .shr, .shr]) (ds := (cutL ns (some 1) (some 25)).map Dat.int) rfl rfl ?_ ?_
  · simp only [evS_seq, evE_slc, evL_cons, evL_nil, evE_var, evE_cst, getV_zero, Rs.ok_bind, partD, slcD, cutL_map, items_l]
  have lc := cutL_len ns (some 1) (some 25)
  refine for_inv Dat.int (fun l κ ρ => ∃ (rs : List (List Int)) (o2 o4 o5 : Option Dat) (k5 : SK), κ = [.shr, .own, .shr, .own, .shr, k5] ∧ rs.length + l.length ≤ 24 ∧ (∀ r ∈ rs, InB r) ∧ ρ = [some (.rol (ns.map Dat.int)), some (eI F), o2, some (eLT rs), o4, o5]) ?_ ?_ (cutL ns (some 1) (some 25)) _ _ ⟨[], o2, none, none, .shr, rfl, ?_, fun r hr => (by cases hr), rfl⟩
  · rintro x l κ ρ ⟨rs, o2, o4, o5, k5, rfl, hl, hrs, rfl⟩
    rw [List.length_cons] at hl
    refine ⟨[some (.rol (ns.map Dat.int)), some (eI F), o2, some (eLT rs), some (.int x), o5], rfl, ?_⟩
    obtain ⟨m, hm⟩ := mixed 61 x 0 (by decide)
    have hm : callF fns gl 62 6 [.int x, .int 0] = .ok (.int m) := hm
    have e0 := Int.fmod_nonneg_of_pos m (b := 41) (by decide)
    have e1 := Int.fmod_lt_of_pos m (b := 41) (by decide)
    refine o_asg (κ1 := [.shr, .own, .shr, .own, .shr, k5]) (κ' := [.shr, .own, .shr, .own, .shr, .own]) (fl := 3) (d := eI [m.fmod 41 - 20 + v0]) ?_ rfl rfl rfl rfl ?_
    · simp only [evE_lst, evE_bin, evE_idx, evE_cal, evL_cons, evL_nil, evE_cst, evE_var, getV_zero, getV_succ, Rs.ok_bind, hm]
      rw [bin_mod (by decide)]
      simp only [Rs.ok_bind, bin_sub, g0, bin_add]
      rfl
    dsimp only [List.set]
    generalize m.fmod 41 = t0 at e0 e1
    refine o_fr (κ1 := [.shr, .own, .shr, .own, .shr, .own]) (ds := (List.range' 0 4).map fun i => Dat.int (i : Nat)) rfl rfl (by simp only [evS_rng, evL_cons, evL_nil, evE_cst, Rs.ok_bind]; rw [← List.range_eq_range']; exact rng1 (n := 4) (by decide)) ?_
    refine for_inv (fun i : Nat => Dat.int (i : Nat)) (fun is κ ρ => κ = [.shr, .own, .shr, .own, .shr, .own] ∧ ∃ (i r : Nat) (ts : List Int) (o2 : Option Dat), is = List.range' i r ∧ i + r = 4 ∧ ts.length = i ∧ (∀ t ∈ ts, -60 ≤ t ∧ t ≤ 60) ∧ ρ = [some (.rol (ns.map Dat.int)), some (eI F), o2, some (eLT rs), some (.int x), some (eI ((t0 - 20 + v0) :: ts))]) ?_ ?_ (List.range' 0 4) _ _ ⟨rfl, 0, 4, [], o2, rfl, rfl, rfl, fun f hf => (by cases hf), rfl⟩
    · rintro y ys κ ρ ⟨rfl, i, r, ts, o2, e1, e2, e3, ht, rfl⟩
      cases r with
      | zero => cases e1
      | succ r =>
      rw [List.range'_succ] at e1
      obtain ⟨rfl, rfl⟩ := List.cons.inj e1
      obtain ⟨m1, hm1⟩ := mixed 61 x (1 + y) (by omega)
      have hm1 : callF fns gl 62 6 [.int x, .int (1 + (y : Nat))] = .ok (.int m1) := hm1
      obtain ⟨w, w1, w2⟩ := far.at (i := y) (by omega)
      have q0 := Int.fmod_nonneg_of_pos m1 (b := 13) (by decide)
      have q1 := Int.fmod_lt_of_pos m1 (b := 13) (by decide)
      refine ⟨[some (.rol (ns.map Dat.int)), some (eI F), some (.int (y : Nat)), some (eLT rs), some (.int x), some (eI ((t0 - 20 + v0) :: ts))], rfl, ?_⟩
      refine o_app (κ1 := [.shr, .own, .shr, .own, .shr, .own]) (d := .int (m1.fmod 13 - 6 + w)) (xs := ((t0 - 20 + v0) :: ts).map Dat.int) rfl rfl rfl ?_ (by rw [List.length_map, List.length_cons]; exact small1000 (by omega)) (o_nil ⟨rfl, y + 1, r, ts ++ [m1.fmod 13 - 6 + w], some (.int (y : Nat)), rfl, by omega, by simp [e3], fun f hf' => ?_, by simp⟩)
      · simp only [evE_bin, evE_idx, evE_cal, evL_cons, evL_nil, evE_cst, evE_var, getV_zero, getV_succ, Rs.ok_bind, bin_add, hm1, w1]
        rw [bin_mod (by decide)]
        rfl
      · rcases List.mem_append.mp hf' with h | h
        · exact ht f h
        · rw [List.mem_singleton.mp h]
          omega
    rintro κ ρ ⟨rfl, i, r, ts, o2, e1, e2, e3, ht, rfl⟩
    have : r = 0 := by
      cases r with
      | zero => rfl
      | succ r => rw [List.range'_succ] at e1; cases e1
    subst this
    obtain ⟨b, c, d, e, e5, m1, m2, m3, m4⟩ := five_cons (t := t0 - 20 + v0) (ts := ts) (by omega)
    have ib : InB ((t0 - 20 + v0) :: ts) := ⟨_, b, c, d, e, e5, by omega, ht _ m1, ht _ m2, ht _ m3, ht _ m4⟩
    refine forP_nx (κ1 := [.shr, .own, .shr, .own, .shr, .own]) rfl ?_
    refine o_app (κ1 := [.shr, .own, .shr, .own, .shr, .own]) (d := eT ((t0 - 20 + v0) :: ts)) (xs := rs.map eT) rfl rfl rfl (by simp) (by rw [List.length_map]; exact small1000 (by omega)) (o_nil ⟨rs ++ [(t0 - 20 + v0) :: ts], o2, some (.int x), some (eI ((t0 - 20 + v0) :: ts)), .own, rfl, by simp; omega, fun z hz => ?_, by simp⟩)
    rcases List.mem_append.mp hz with h | h
    · exact hrs z h
    · rw [List.mem_singleton.mp h]
      exact ib
  · rintro κ ρ ⟨rs, o2, o4, o5, k5, rfl, hl, hrs, rfl⟩
    simp only [List.length_nil, Nat.add_zero] at hl
    refine forP_nx (κ1 := [.shr, .own, .shr, .own, .shr, k5]) rfl ?_
    refine o_if (k := decide ((cell ns 0).fmod 3 = 1)) ?_ (fun _ => ?_) fun _ => ?_
    · simp only [evE_cmp, evE_bin, evE_cal, evL_cons, evL_nil, evE_cst, evE_var, getV_zero, getV_succ, Rs.ok_bind, c0]
      rw [bin_mod (by decide)]
      simp only [Rs.ok_bind]
      exact cmp_eq nice_int (by decide) _ _
    · have l3 := cutL_len rs none (some 3)
      refine o_asg (κ1 := [.shr, .own, .shr, .own, .shr, k5]) (κ' := [.shr, .own, .shr, .own, .shr, k5]) (fl := 3) (d := eLT (rs ++ cutL rs none (some 3))) ?_ rfl rfl rfl rfl (o_nil (thenP_nx ?_))
      · simp only [evE_bin, evE_slc, evL_cons, evL_nil, evE_var, evE_cst, getV_zero, getV_succ, Rs.ok_bind, partD, slcD, cutL_map]
        rw [add_ll (by simp only [List.length_map]; omega)]
        simp
      · dsimp only [List.set]
        refine o_retv rfl rfl (q_retE rfl ⟨_, by rw [List.length_append]; omega, fun z hz => ?_, rfl⟩)
        rcases List.mem_append.mp hz with h | h
        · exact hrs z h
        · exact hrs z (cutL_mem h)
    · exact o_retv rfl rfl (q_retE rfl ⟨rs, by omega, hrs, rfl⟩)
  · have : (cutL ns (some 1) (some 25)).length ≤ 24 := by
      unfold cutL
      rw [List.length_take, show (some (25 : Int)) = some ((25 : Nat) : Int) from rfl, show (some (1 : Int)) = some ((1 : Nat) : Int) from rfl, HT.sIx_nat, HT.sIx_nat]
      omega
    simpa using this
theorem holds (ns : List Int) (hn : ns.length ≤ 63) : callF fns gl 64 8 [.rol (ns.map Dat.int)] = .ok (.bl true) := by
  obtain ⟨rs, rl, rb, tc⟩ := tones_made ns hn
  have r5 : ∀ x ∈ rs, x.length = 5 := fun x hx => (rb x hx).len
  have zb : InB [0, 0, 0, 0, 0] := ⟨0, 0, 0, 0, 0, rfl, by omega, by omega, by omega, by omega, by omega⟩
  have rb2 : ∀ x ∈ rs ++ [[0, 0, 0, 0, 0]], InB x := fun x hx => by
    rcases List.mem_append.mp hx with h | h
    · exact rb x h
    · rw [List.mem_singleton.mp h]; exact zb
  have up1 := rising_call (gl := gl) (n := 60) h2 h1 h0 rfl rfl rb (by omega)
  have up2 := rising_call (gl := gl) (n := 60) h2 h1 h0 rfl rfl rb2 (by rw [List.length_append, List.length_singleton]; omega)
  obtain ⟨A, eA⟩ : ∃ A, A = riseL rs := ⟨_, rfl⟩
  obtain ⟨B, eB⟩ : ∃ B, B = riseL (rs ++ [[0, 0, 0, 0, 0]]) := ⟨_, rfl⟩
  have pA : A.Perm rs := by rw [eA]; exact riseL_perm _
  have pB : B.Perm (rs ++ [[0, 0, 0, 0, 0]]) := by rw [eB]; exact riseL_perm _
  have uA : A.Pairwise fun a b => meas a ≤ meas b := by rw [eA]; exact riseL_up _
  rw [← eA] at up1
  rw [← eB] at up2
  clear eA eB
  have lA := pA.length_eq
  have lB := pB.length_eq
  rw [List.length_append, List.length_singleton] at lB
  have A5 : ∀ x ∈ A, InB x := fun x hx => rb x (pA.mem_iff.mp hx)
  have B5 : ∀ x ∈ B, InB x := fun x hx => rb2 x (pB.mem_iff.mp hx)
  refine h8.pur rfl rfl ?_
  show Out (exSs (callF fns gl 63) gl (rfs fns) LK07.B8 [.shr, .shr, .shr, .shr, .shr, .shr, .shr, .shr, .shr, .shr] [some (.rol (ns.map Dat.int)), none, none, none, none, none, none, none, none, none]) _
  refine o_asg (κ' := [.shr, .own, .shr, .shr, .shr, .shr, .shr, .shr, .shr, .shr]) (d := eLT rs) (by simp only [evE_cal, evL_cons, evL_nil, evE_var, getV_zero, Rs.ok_bind, tc]) rfl rfl rfl rfl ?_
  dsimp only [List.set]
  refine o_asg (κ' := [.shr, .own, .own, .shr, .shr, .shr, .shr, .shr, .shr, .shr]) (d := eLT rs) (by simp) rfl rfl rfl rfl ?_
  dsimp only [List.set]
  refine o_asg (κ' := [.shr, .own, .own, .own, .shr, .shr, .shr, .shr, .shr, .shr]) (d := eLT A) (by simp only [evE_cal, evL_cons, evL_nil, evE_var, getV_zero, getV_succ, Rs.ok_bind, up1]) rfl rfl rfl rfl ?_
  dsimp only [List.set]
  refine o_ifF ?_ ?_
  · simp only [evE_or, evE_not, evE_isi, evE_cmp, evE_bi, evL_cons, evL_nil, evE_var, getV_zero, getV_succ, Rs.ok_bind, ty_ll, bi_lenl, truth_bl, List.length_map, lA]
    rw [cmp_ne nice_int (by decide), cmp_ne nice_eLT (by decide)]
    simp
  refine o_fr (κ1 := [.shr, .own, .own, .lent, .shr, .shr, .shr, .shr, .shr, .shr]) (ds := A.map eT) rfl rfl (by simp) ?_
  refine for_inv eT (fun l κ ρ => κ = [.shr, .own, .own, .lent, .shr, .shr, .shr, .shr, .shr, .shr] ∧ (∀ x ∈ l, x.length = 5) ∧ ∃ o4, ρ = [some (.rol (ns.map Dat.int)), some (eLT rs), some (eLT rs), some (eLT A), o4, none, none, none, none, none]) ?_ ?_ A _ _ ⟨rfl, fun x hx => (A5 x hx).len, none, rfl⟩
  · rintro x l κ ρ ⟨rfl, hl, o4, rfl⟩
    have rw1 := rowis_call (gl := gl) (n := 62) h4 (xs := x) (ys := x) (hl x List.mem_cons_self)
    refine ⟨[some (.rol (ns.map Dat.int)), some (eLT rs), some (eLT rs), some (eLT A), some (eT x), none, none, none, none, none], rfl, ?_⟩
    refine o_ifF ?_ (o_nil ⟨rfl, fun z hz => hl z (List.mem_cons_of_mem _ hz), _, rfl⟩)
    simp only [evE_not, evE_cal, evL_cons, evL_nil, evE_var, getV_zero, getV_succ, Rs.ok_bind, rw1, truth_bl]
    simp
  rintro κ ρ ⟨rfl, _, o4, rfl⟩
  refine forP_nx (κ1 := [.shr, .own, .own, .own, .shr, .shr, .shr, .shr, .shr, .shr]) rfl ?_
  refine o_asg (κ' := [.shr, .own, .own, .own, .shr, .own, .shr, .shr, .shr, .shr]) (d := eLT A) (by simp) rfl rfl rfl rfl ?_
  dsimp only [List.set]
  refine o_app (κ1 := [.shr, .own, .own, .own, .shr, .own, .shr, .shr, .shr, .shr]) (d := eT [0, 0, 0, 0, 0]) (xs := rs.map eT) rfl rfl rfl (by simp) (by rw [List.length_map]; exact small1000 (by omega)) ?_
  rw [show Dat.lst (rs.map eT ++ [eT [0, 0, 0, 0, 0]]) = eLT (rs ++ [[0, 0, 0, 0, 0]]) by simp]
  dsimp only [List.set]
  refine o_asg (κ' := [.shr, .own, .own, .own, .shr, .own, .own, .shr, .shr, .shr]) (d := eLT B) (by simp only [evE_cal, evL_cons, evL_nil, evE_var, getV_zero, getV_succ, Rs.ok_bind, up2]) rfl rfl rfl rfl ?_
  dsimp only [List.set]
  refine o_ifF ?_ (o_ifF ?_ ?_)
  · simp only [evE_or, evE_not, evE_isi, evE_cmp, evE_bi, evL_cons, evL_nil, evE_var, getV_zero, getV_succ, Rs.ok_bind, ty_ll, bi_lenl, truth_bl, List.length_map, List.length_append, List.length_cons, List.length_nil, lB]
    rw [cmp_ne nice_int (by decide), cmp_ne nice_eLT (by decide)]
    simp
  · have s1 := srt1_rows (xs := A) (fun x hx => (A5 x hx).len) (by omega)
    have s2 := srt1_rows (xs := rs) r5 (by omega)
    have s3 := srt1_rows (xs := B) (fun x hx => (B5 x hx).len) (by omega)
    have s4 := srt1_rows (xs := rs ++ [[0, 0, 0, 0, 0]]) (fun x hx => (rb2 x hx).len) (by rw [List.length_append, List.length_singleton]; omega)
    simp only [evE_or, evE_cmp, evE_srt1, evE_var, getV_zero, getV_succ, Rs.ok_bind, s1, s2, s3, s4]
    rw [cmp_ne nice_eLT (by decide), cmp_ne nice_eLT (by decide), sortR_perm pA, sortR_perm pB]
    simp
  refine o_fr (κ1 := [.shr, .own, .own, .own, .shr, .own, .own, .shr, .shr, .shr]) (ds := (List.range ((A.length : Int) - 1).toNat).map fun i => Dat.int (0 + (i : Nat))) rfl rfl ?_ ?_
  · simp only [evS_rng, evE_bin, evE_bi, evL_cons, evL_nil, evE_var, evE_cst, getV_zero, getV_succ, Rs.ok_bind, bi_lenl, List.length_map, bin_sub]
    exact rng1I (by omega) (by omega)
  refine for_inv (fun i : Nat => Dat.int (0 + (i : Nat))) (fun is κ ρ => κ = [.shr, .own, .own, .own, .shr, .own, .own, .shr, .shr, .shr] ∧ (∀ i ∈ is, i + 1 < A.length) ∧ ∃ o7, ρ = [some (.rol (ns.map Dat.int)), some (eLT rs), some (eLT (rs ++ [[0, 0, 0, 0, 0]])), some (eLT A), o4, some (eLT A), some (eLT B), o7, none, none]) ?_ ?_ (List.range ((A.length : Int) - 1).toNat) _ _ ⟨rfl, fun i hi => (by have := List.mem_range.mp hi; omega), none, rfl⟩
  · rintro i is κ ρ ⟨rfl, hi, o7, rfl⟩
    have il := hi i List.mem_cons_self
    have gx : A[i]? = some A[i] := List.getElem?_eq_getElem (by omega)
    have gy : A[i + 1]? = some A[i + 1] := List.getElem?_eq_getElem il
    have bx := A5 _ (List.getElem_mem (show i < A.length by omega))
    have by' := A5 _ (List.getElem_mem il)
    have le : meas A[i] ≤ meas A[i + 1] := List.pairwise_iff_getElem.mp uA i (i + 1) (by omega) il (by omega)
    generalize A[i] = x at gx bx le
    generalize A[i + 1] = y at gy by' le
    have lx := bx.len
    have ly := by'.len
    have sg := sign_call (gl := gl) (n := 62) h5 (row := y.zipWith (· - ·) x) (dd := eI (y.zipWith (· - ·) x)) (.inr rfl) (InB.sub_le by' bx)
    rw [← meas_cmp by' bx rfl] at sg
    refine ⟨[some (.rol (ns.map Dat.int)), some (eLT rs), some (eLT (rs ++ [[0, 0, 0, 0, 0]])), some (eLT A), o4, some (eLT A), some (eLT B), some (.int (0 + (i : Nat))), none, none], rfl, ?_⟩
    refine o_ifF ?_ (o_nil ⟨rfl, fun j hj => hi j (List.mem_cons_of_mem _ hj), _, rfl⟩)
    have i1 : idxD (eLT A) (.int (0 + (i : Nat))) = .ok (eT x) := by
      rw [Int.zero_add]
      exact eT_get gx
    have i2 : idxD (eLT A) (.int (0 + (i : Nat) + 1)) = .ok (eT y) := by
      rw [Int.zero_add]
      exact eT_get gy
    have mc : mapC (fun d => (bindT (.tp [8, 9]) d [some (.rol (ns.map Dat.int)), some (eLT rs), some (eLT (rs ++ [[0, 0, 0, 0, 0]])), some (eLT A), o4, some (eLT A), some (eLT B), some (.int (0 + (i : Nat))), none, none]).bind fun ρ' => (evC (callF fns gl 63) gl [] ρ').bind fun k => if k then (evE (callF fns gl 63) gl (.bin .sub (.var 8) (.var 9)) ρ').bind fun y => .ok (some y) else .ok none) ((y.zip x).map fun p => Dat.tup [.int p.1, .int p.2]) = .ok ((y.zip x).map fun p => .int (p.1 - p.2)) := by
      refine mapC_ok fun p _ => ?_
      simp [bindT, evC_nil]
    simp only [evE_cmp, evE_cal, evE_comp, evS_zip, evE_idx, evE_bin, evL_cons, evL_nil, evE_var, evE_cst, getV_zero, getV_succ, Rs.ok_bind, bin_add, i1, i2, zip_tt, zip_ints]
    simp only [evE_bin, evE_var] at mc
    rw [mc]
    simp only [Rs.ok_bind, List.length_map, List.length_zip]
    rw [size_ok (by omega)]
    have ez : Dat.lst ((y.zip x).map fun p => Dat.int (p.1 - p.2)) = eI (y.zipWith (· - ·) x) := by
      simp [List.zip_eq_zipWith, List.map_zipWith]
    simp only [if_true, Rs.ok_bind, ez, sg, cmp_lt]
    congr 2
    refine decide_eq_false ?_
    unfold cmpN
    split
    · omega
    · split <;> omega
  · rintro κ ρ ⟨rfl, _, o7, rfl⟩
    exact forP_nx (κ1 := [.shr, .own, .own, .own, .shr, .own, .own, .shr, .shr, .shr]) rfl (o_ret (d := .bl true) rfl rfl rfl q_ret0)
end LK07

open PySem PySem.W PyProof.Rows in
set_option maxHeartbeats 0 in
theorem PySem.Challenge.cw_tuningyard_k07_rising_holds : PySem.Challenge.rw_tuningyard_k07_rising.Holds := by
  w_on; o_law; k_head; (case hw => w_witness2)
  k_fill
  refine L2.walk_of (l := PySem.Challenge.rw_tuningyard_k07_rising) (n := 63) (k := 128) (x := "_law_script") (CX := fun w => L2.CX PySem.Challenge.pw_tuningyard_k07_rising w) (sp := fun w => PV.spLaw _) rfl (by decide) rfl ⟨rfl, by decide, by decide⟩ (fun w h Y => PySem.W.kIn_of Y) ?F (fun _ H a ns hl ho hS => ⟨a, ns, rfl, ho, hS, hl, fun _ => rfl⟩) (fun _ _ _ _ _ h => PV.cx_none h)
  case F =>
    intro w mg fa h KX G hmg
    refine' LK07.all_mk KX G hmg ?a0 ?l0 ?c0 ?k0 ?a1 ?l1 ?c1 ?k1 ?a2 ?l2 ?c2 ?k2 ?a3 ?l3 ?c3 ?k3 ?a4 ?l4 ?c4 ?k4 ?a5 ?l5 ?c5 ?k5 ?a6 ?l6 ?c6 ?k6 ?a7 ?l7 ?c7 ?k7 ?a8 ?l8 ?c8 ?k8 ?z0 ?z1 ?z2 ?z3 ?z4 ?z5 ?z6 ?z7 ?z8 ?gn0_n ?h0_0 ?t0_0 ?v0_0 ?gn1_n ?h1_0 ?t1_0 ?v1_0 LK07.holds
    (case a0 => k_is)
    (case l0 => k_is)
    (case c0 => k_is)
    (case k0 => k_is)
    (case a1 => k_is)
    (case l1 => k_is)
    (case c1 => k_is)
    (case k1 => k_is)
    (case a2 => k_is)
    (case l2 => k_is)
    (case c2 => k_is)
    (case k2 => k_is)
    (case a3 => k_is)
    (case l3 => k_is)
    (case c3 => k_is)
    (case k3 => k_is)
    (case a4 => k_is)
    (case l4 => k_is)
    (case c4 => k_is)
    (case k4 => k_is)
    (case a5 => k_is)
    (case l5 => k_is)
    (case c5 => k_is)
    (case k5 => k_is)
    (case a6 => k_is)
    (case l6 => k_is)
    (case c6 => k_is)
    (case k6 => k_is)
    (case a7 => k_is)
    (case l7 => k_is)
    (case c7 => k_is)
    (case k7 => k_is)
    (case a8 => k_is)
    (case l8 => k_is)
    (case c8 => k_is)
    (case k8 => k_is)
    (case z0 => k_is)
    (case z1 => k_is)
    (case z2 => k_is)
    (case z3 => k_is)
    (case z4 => k_is)
    (case z5 => k_is)
    (case z6 => k_is)
    (case z7 => k_is)
    (case z8 => k_is)
    (case gn0_n => k_is)
    (case h0_0 => k_is)
    (case t0_0 => rfl)
    (case v0_0 => rfl)
    (case gn1_n => k_is)
    (case h1_0 => k_is)
    (case t1_0 => rfl)
    (case v1_0 => rfl)

