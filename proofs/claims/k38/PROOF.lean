import PyProof.Rows.All
import Wide.All
import OpenK.AllK
import Wide.FinOn
import PySem.Challenge.RW_creditworks_k38_empty_rows
import PyProof.Rows.All
import Wide.All
import OpenK.AllK
import Wide.FinOn
import HandS.Rev
import HandS.RevRange
import HandS.Conv
import HandS.SortRule
import HandS.SortInts
import HandS.WideBits
import PyProof.CollectIter
import KE.KDictList
import HandS.TupSets
import HandS.SetKeys
import PyProof.FactsAll.range_iterator_1
import HandS.ForMost
import HandS.ForExc
import HandS.Wide
import HandS.Exc
import HandS.SetFor
import HandS.IsInst
import HandS.CallSlots
import HandS.Dict
import HandS.More
import HandS.Text
import HandS.Iter
import HandS.Zip
import HandS.Comp
import HandS.WordsExc
import HandS.WordsList
import HandS.TryOnly
import HandS.ExcIs
import HandS.ExcOwn
import HandS.EndBits
set_option Elab.async false
set_option linter.all false
set_option maxRecDepth 100000
set_option maxHeartbeats 0
namespace Fe
open PySem PySem.Spec PyProof.Rows L2
section
variable {prog : Program} {w : World} {A : Around} {E : Value → Shared → Prop} {s : Shared}
theorem hint_rev {I : Addr} {Q : Bool → Shared → Prop} (hT : s.TypeIs (.ref I) "list_reverseiterator") (hq : ∀ tk, Q false { s with toks := tk }) : wpAny (model prog w) A (Builtin.List.listLengthHint (.ref I)) Q E s := by
  unfold Builtin.List.listLengthHint
  refine wpAny_bind (wpAny_specialOf hT RT.nolen_lri ?_)
  show wpAny _ A (specialOf (Value.ref I) (Str.ofString "__length_hint__") >>= _) _ _ _
  refine wpAny_bind (wpAny_specialOf hT RT.hint_lri ?_)
  generalize hid : ("list_reverseiterator.__length_hint__" : String) = id0
  wp_delta
  rw [show splitId id0 = some ("list_reverseiterator", "__length_hint__") from by subst hid; decide +kernel]
  subst hid
  refine wpAny_bind (wpAny_isInstance (b := true) hT (by rw [isSubtype_type]; kernel_rfl) ?_)
  exact wpAny_pure (hq s.toks)
theorem hint_rg {I : Addr} {a c : Int} {n : Nat} {Q : Bool → Shared → Prop} (hT : s.TypeIs (.ref I) "range_iterator") (st : IsRangeIter s.heap I a ((n : Int) - ((0 : Nat) : Int)) c) (hn : n ≤ 16777216) (hq : ∀ tk, Q false { s with toks := tk }) : wpAny (model prog w) A (Builtin.List.listLengthHint (.ref I)) Q E s := by
  unfold Builtin.List.listLengthHint
  refine wpAny_bind (wpAny_specialOf hT F.nolen_ra ?_)
  show wpAny _ A (specialOf (Value.ref I) (Str.ofString "__length_hint__") >>= _) _ _ _
  refine wpAny_bind (wpAny_specialOf hT F.hint_ra ?_)
  generalize hid : ("range_iterator.__length_hint__" : String) = id0
  wp_delta
  rw [show splitId id0 = some ("range_iterator", "__length_hint__") from by subst hid; decide +kernel]
  subst hid
  refine wpAny_bind (wpAny_isInstance (b := true) hT (by rw [isSubtype_type]; kernel_rfl) ?_)
  show wpAny _ A (call (.builtin "range_iterator.__length_hint__") [.ref I] >>= _) _ _ _
  refine wpAny_bind (wpAny_call_entry F.slot_range_iterator_length_hint hT F.entry_range_iterator_length_hint ?_ (F.args_range_iterator_length_hint_1 _))
  unfold Builtin.«range_iterator.__length_hint__»
  refine wpAny_bind (wpAny_of_eq (a := Value.ref I) rfl ?_)
  refine wpAny_bind (wpAny_field st rfl (x := rawInt ((n : Int) - ((0 : Nat) : Int))) rfl ?_)
  show wpAny _ _ (mkInt ((n : Int) - ((0 : Nat) : Int)) >>= fun v => ret v) _ _ _
  refine wpAny_bind (wpAny_mkInt ?_)
  refine wpAny_pure ⟨_, rfl, ?_⟩
  refine wpAny_bind (m := asInt? _) (wpAny_pure ?_)
  dsimp only
  rw [if_neg (by simp [Builtin.List.listTooLong, sizeLine]; omega)]
  exact wpAny_pure (hq _)
/-- list(an iterator) -/
theorem init_walk {R : Result → Shared → Prop} {I S : Addr} {fp wr : List Addr} {n : Nat} {P : Nat → Value → Prop} {St : Nat → Heap → Prop} {T : String}
    (W : Walks prog w A.in1 I fp wr n P St) (hT : s.TypeIs (.ref I) T) (hTT : T = "list_reverseiterator" ∨ T = "range_iterator")
    (hH : ∀ (s' : Shared) (Q : Bool → Shared → Prop) (E : Value → Shared → Prop), s'.TypeIs (.ref I) T → St 0 s'.heap → (∀ tk, Q false { s' with toks := tk }) → wpAny (model prog w) A.in1 (Builtin.List.listLengthHint (.ref I)) Q E s')
    (hn : n ≤ sizeLine) (st : St 0 s.heap) (hSf : S ∉ fp) (hSI : S ≠ I) (hS : s.heap.get? S = some { cls := .type "list", data := .seq #[] })
    (hR : ∀ h' tk acc c', (∀ b o, b ≠ S → b ∉ wr → s.heap.get? b = some o → h'.get? b = some o) → h'.get? S = some { cls := .type "list", dict := none, data := .seq acc c', slots := #[] } →
      ItemsOf P acc n → R (.ok (.ret .none)) { s with heap := h', toks := tk }) :
    wpAny (model prog w) A.in1 (Builtin.«list.__init__» ⟨[.ref S, .ref I], []⟩)
      (fun fin s' => match fin with | .done f => R (.ok f) s' | .again c' => c'.quiet = true ∧ codeAny (model prog w) A c' R s') (fun e s' => R (.error e) s') s := by
  show wpAny _ _ (do let old ← Builtin.List.listItems (.ref S); Builtin.List.listUpdate (.ref S) (fun _ => #[]); letGo old.toList.reverse; Builtin.List.listExtendWith (.ref S) (.ref I) .none) _ _ s
  refine wpAny_bind ?_
  unfold Builtin.List.listItems
  refine wpAny_bind (wpAny_seqItems hS rfl (wpAny_pure ?_))
  show wpAny _ _ (updateSeq S (fun _ => #[]) >>= fun _ => letGo (#[] : Array Value).toList.reverse >>= fun _ => Builtin.List.listExtendWith (.ref S) (.ref I) .none) _ _ s
  refine wpAny_bind (wpAny_updateSeq hS rfl ?_)
  have hS₂ := Heap.get?_update_self (Obj.mapSeq (fun _ => (#[] : Array Value))) hS rfl
  have oth : ∀ b o, b ≠ S → s.heap.get? b = some o → (s.heap.update S (Obj.mapSeq (fun _ => (#[] : Array Value)))).get? b = some o :=
    fun b o hb e => (Heap.get?_update_other _ _ (Ne.symm hb)).trans e
  refine wpAny_bind (wpAny_letGo ?_)
  have hT2 : ({ s with heap := s.heap.update S (Obj.mapSeq (fun _ => (#[] : Array Value))) } : Shared).TypeIs (.ref I) T := by
    obtain ⟨o, ho, hc⟩ := hT
    exact ⟨o, oth I o (Ne.symm hSI) ho, hc⟩
  have st2 : St 0 (s.heap.update S (Obj.mapSeq (fun _ => (#[] : Array Value)))) := W.frame 0 _ _ st fun b hb o e => oth b o (fun z => hSf (z ▸ hb)) e
  unfold Builtin.List.listExtendWith
  refine wpAny_bind (wpAny_typeOf hT2 ?_)
  have h1 : Builtin.List.listSameRef (.ref S) (.ref I) = false := by simp [Builtin.List.listSameRef, hSI]
  rw [if_neg (by rcases hTT with rfl | rfl <;> (rw [h1]; decide))]
  refine wpAny_bind (W.self 0 _ _ _ st2 ?_)
  refine wpAny_bind (wpAny_holding (hH _ _ _ hT2 st2 fun tk1 => ?_))
  rw [if_neg (by rcases hTT with rfl | rfl <;> decide)]
  refine wpAny_pure ⟨plainId_quiet F.plain_extend_loop _, codeAny_extend_loopS W.toS hn _ hSf _ n 0 _ _ _ rfl (Nat.zero_le _) st2 hS₂ (ItemsOf.nil _) fun s' acc' c' hm hS' hacc => ?_⟩
  rw [Moved.eq_with hm]
  refine hR s'.heap s'.toks acc' c' (fun b o hb hw e => hm.heap b o (fun hmem => ?_) (oth b o hb e)) hS' hacc
  rcases List.mem_cons.mp hmem with e' | hmem
  · exact hb e'
  · exact hw hmem
theorem call_list_walk {Q : Value → Shared → Prop} {I : Addr} {fp wr : List Addr} {n : Nat} {P : Nat → Value → Prop} {St : Nat → Heap → Prop} {T : String} (hh : A.handled = none)
    (W : ∀ A' : Around, A'.handled = none → Walks prog w A' I fp wr n P St) (hT : s.TypeIs (.ref I) T) (hTT : T = "list_reverseiterator" ∨ T = "range_iterator")
    (hH : ∀ (A' : Around) (s' : Shared) (Q : Bool → Shared → Prop) (E : Value → Shared → Prop), s'.TypeIs (.ref I) T → St 0 s'.heap → (∀ tk, Q false { s' with toks := tk }) → wpAny (model prog w) A' (Builtin.List.listLengthHint (.ref I)) Q E s')
    (hn : n ≤ sizeLine) (st : St 0 s.heap) (hSf : s.heap.objs.size ∉ fp)
    (hQ : ∀ h' tk acc' c', (∀ b o, b ∉ wr → s.heap.get? b = some o → h'.get? b = some o) →
      h'.get? s.heap.objs.size = some { cls := .type "list", dict := none, data := .seq acc' c', slots := #[] } → ItemsOf P acc' n → Q (.ref s.heap.objs.size) { s with heap := h', toks := tk }) :
    wpAny (model prog w) A (call (.type "list") [.ref I]) Q E s := by
  refine callType_codes (Q₁ := fun obj s₁ => obj = .ref s.heap.objs.size ∧ s₁ = { s with heap := s.heap.push { cls := .type "list", data := .seq #[] } }) F.called_list (F.typeCall_list_1 _) F.entry_list_init
    (code_list_new _ ⟨rfl, rfl⟩) fun obj s₁ h₁ => ?_
  obtain ⟨rfl, rfl⟩ := h₁
  have hS : (s.heap.push { cls := .type "list", data := .seq #[] }).get? s.heap.objs.size = some { cls := .type "list", data := .seq #[] } := Heap.get?_push_size _ rfl
  obtain ⟨oI, hoI, hcI⟩ := hT
  refine ⟨⟨_, hS, rfl⟩, F.args_list_init_2 _ _, init_walk (A := A.in1) (W _ hh) ⟨oI, Heap.get?_push_of_some _ hoI, hcI⟩ hTT (fun s' Q E => hH _ s' Q E) hn ((W _ hh).frame 0 _ _ st fun b _ o e => Heap.get?_push_of_some _ e) hSf (Nat.ne_of_gt (Heap.lt_size hoI)) hS fun h' tk acc' c' hk hS' hacc => ?_⟩
  exact ⟨rfl, hQ h' tk acc' c' (fun b o hw e => hk b o (Nat.ne_of_lt (Heap.lt_size e)) hw (Heap.get?_push_of_some _ e)) hS' hacc⟩
end
section
variable {X : Cx}
def tLRev (K : PySem.W.Frag) (te : TE) : TE := fun σ H Q => te σ H fun v H1 => ∃ (a : Addr) (xs : List V), v = .ref a ∧ SqL K H1 a xs ∧ ∀ q, H1 q = none → Q (.ref q) (upd H1 q (.lst xs.reverse))
theorem pe_lrev {e : Expr} {te : TE} {p p2 pos pos2 : Pos} (hc : X.calm = true) (hg : Gl X "list") (hm : X.mg "list" = none) (hg2 : Gl X "reversed") (hm2 : X.mg "reversed" = none) (he : PE X e te)
    (hs : starEach [e] X.env = (false, eval e X.env) :: starEach [] X.env := by rfl)
    (hs2 : starEach [.Call (.Name "reversed" p2) [e] [] pos2] X.env = (false, eval (.Call (.Name "reversed" p2) [e] [] pos2) X.env) :: starEach [] X.env := by rfl) :
    PE X (.Call (.Name "list" p) [.Call (.Name "reversed" p2) [e] [] pos2] [] pos) (tLRev X.K te) := by
  refine ⟨fun pins s σ H Q I h => ?_⟩
  refine Call_ (ld_blt I hg hm boot_list (PyProof.Rows.callWith_type1 (args_cons (Call_ (ld_blt I hg2 hm2 PyProof.Rows.boot_reversed (PyProof.Rows.callWith_type1 (args_cons (thn (he.run pins s σ H _ I h) fun u s1 ⟨v, H1, I1, r1, q1⟩ => args_nil ?_) hs) hs rfl))) hs2) hs2 rfl))
  obtain ⟨a, xs, ev, hq, q⟩ := q1
  subst ev
  obtain rfl : u = Value.ref a := r1
  obtain ⟨its, rv, p', hz⟩ := I1.list hq
  refine call_reversed_list p'.isList (args_nil ?_)
  have k0 : ∀ b o, s1.heap.get? b = some o → (s1.heap.push (revObj a ((its.toArray.size : Int) - 1))).get? b = some o := fun b o e => Heap.get?_push_of_some _ e
  have I2 : Inv X pins σ H1 { s1 with heap := s1.heap.push (revObj a ((its.toArray.size : Int) - 1)) } := I1.kept (t' := s1.toks) k0
  have hl := p'.isList
  obtain ⟨ol, hol, _⟩ := id hl
  have hne : a ≠ s1.heap.objs.size := Nat.ne_of_lt (Heap.lt_size hol)
  have hn : its.toArray.size ≤ sizeLine := by rw [List.size_toArray, ← rv.length]; exact hz
  have hit : (s1.heap.push (revObj a ((its.toArray.size : Int) - 1))).get? s1.heap.objs.size = some (revObj a ((its.toArray.size : Int) - 1)) := Heap.get?_push_size _ rfl
  have hsz : (s1.heap.push (revObj a ((its.toArray.size : Int) - 1))).objs.size = s1.heap.objs.size + 1 := by simp [Heap.push]
  have hlt : (a : Nat) < s1.heap.objs.size := Heap.lt_size hol
  refine call_list_walk (s := { s1 with heap := s1.heap.push (revObj a ((its.toArray.size : Int) - 1)) }) (T := "list_reverseiterator") (I1.ok.hd hc) (fun A' hA => Walks.listRev hA s1.heap.objs.size a hne its.toArray) ⟨_, hit, rfl⟩ (.inl rfl)
    (fun A' s' Q E hT _ hq => hint_rev hT hq) hn ⟨Nat.zero_le _, ⟨_, hit, rfl, by simp [revObj]⟩, hl.push _⟩ ?_ fun h' tk acc c' hk e' hi => ?_
  · show (s1.heap.push (revObj a ((its.toArray.size : Int) - 1))).objs.size ∉ [s1.heap.objs.size, a]
    rw [hsz]
    intro hm
    rcases List.mem_cons.mp hm with h | h
    · exact absurd h (Nat.succ_ne_self _)
    · rw [List.mem_singleton] at h
      rw [← h] at hlt
      exact absurd hlt (Nat.not_lt.mpr (Nat.le_succ _))
  · have hf : ∀ b ∈ [s1.heap.objs.size], FpOk X pins H1 b := fun b hb => by
      rw [List.mem_singleton.mp hb]; exact I1.fpOk (Nat.le_refl _) (I1.hok.fresh (Nat.le_refl _))
    have hfr := I2.hok.fresh (Nat.le_refl (s1.heap.push (revObj a ((its.toArray.size : Int) - 1))).objs.size)
    refine ⟨.ref (s1.heap.push (revObj a ((its.toArray.size : Int) - 1))).objs.size, upd H1 (s1.heap.push (revObj a ((its.toArray.size : Int) - 1))).objs.size (.lst xs.reverse), I2.turnedNew (t' := tk) (ch := [s1.heap.objs.size]) hk hf (Nat.le_refl _) (show ObjOk X.prog X.w _ _ _ (.lst xs.reverse) from ⟨by rw [List.length_reverse]; exact hz, acc.toList, c', RT.vals_rev rv hi, ?_⟩), rfl, q _ hfr⟩
    rw [Array.toArray_toList]; exact e'
def rgR (j : Int) : List V := (rgV 0 j).reverse
def tLrr (te : L2.St → Hp → (Int → Int → Hp → Prop) → Prop) : TE := fun σ H Q => te σ H fun a b H1 => RgOk a b ∧ ∀ q, H1 q = none → Q (.ref q) (upd H1 q (.lst (rgV a b).reverse))
theorem vals_rgr {a b : Int} {acc : Array Value} (h : ItemsOf (fun i v => ∃ t, v = .int (a + (((b - a).toNat : Nat) : Int) - 1 + i * (-1)) t) acc (b - a).toNat) : Vals (rgV a b).reverse acc.toList := by
  have e : acc.toList.length = (b - a).toNat := by rw [Array.length_toList]; exact h.1
  have e2 : (rgV a b).reverse = (List.range (b - a).toNat).map fun i => V.int (a + (((b - a).toNat : Nat) : Int) - 1 - (i : Nat)) := by
    unfold rgV
    apply List.ext_getElem
    · simp
    · intro i h1 h2
      simp at h1 h2
      simp
      omega
  rw [e2, ← e]
  refine vals_of_get acc.toList _ fun j u hj => ?_
  obtain ⟨t, rfl⟩ := h.2 j u (by rw [← hj, Array.getElem?_toList])
  refine ⟨t, ?_⟩
  rw [e]
  congr 1
  omega
theorem pe_lrr {e : Expr} {te : L2.St → Hp → (Int → Int → Hp → Prop) → Prop} {p p2 pos pos2 : Pos} (hc : X.calm = true) (hg : Gl X "list") (hm : X.mg "list" = none) (hg2 : Gl X "reversed") (hm2 : X.mg "reversed" = none) (he : PRg X e te)
    (hs : starEach [e] X.env = (false, eval e X.env) :: starEach [] X.env := by rfl)
    (hs2 : starEach [.Call (.Name "reversed" p2) [e] [] pos2] X.env = (false, eval (.Call (.Name "reversed" p2) [e] [] pos2) X.env) :: starEach [] X.env := by rfl) :
    PE X (.Call (.Name "list" p) [.Call (.Name "reversed" p2) [e] [] pos2] [] pos) (tLrr te) := by
  refine ⟨fun pins s σ H Q I h => ?_⟩
  refine Call_ (ld_blt I hg hm boot_list (PyProof.Rows.callWith_type1 (args_cons (Call_ (ld_blt I hg2 hm2 PyProof.Rows.boot_reversed (PyProof.Rows.callWith_type1 (args_cons (thn (he pins s σ H _ I h) fun x s1 ⟨r, a, b, t, u, v, H1, ex, hr, I1, ok, q⟩ => args_nil ?_) hs) hs rfl))) hs2) hs2 rfl))
  subst ex
  obtain ⟨b1, b2, b3, b4, b5⟩ := ok
  have hn : Builtin.Range.rangeSize a b 1 = (((b - a).toNat : Nat) : Int) := rangeSize_nat a b
  refine call_reversed_range hr (smallRev_one b1 b2 b3 b4) (args_nil ?_)
  have k0 : ∀ c o, s1.heap.get? c = some o → (s1.heap.push (rngRevObj a b 1)).get? c = some o := fun b o e => Heap.get?_push_of_some _ e
  have I2 : Inv X pins σ H1 { s1 with heap := s1.heap.push (rngRevObj a b 1) } := I1.kept (t' := s1.toks) k0
  have hsz : (s1.heap.push (rngRevObj a b 1)).objs.size = s1.heap.objs.size + 1 := by simp [Heap.push]
  have hit : (s1.heap.push (rngRevObj a b 1)).get? s1.heap.objs.size = some (rngRevObj a b 1) := Heap.get?_push_size _ rfl
  refine call_list_walk (s := { s1 with heap := s1.heap.push (rngRevObj a b 1) }) (T := "range_iterator") (n := (b - a).toNat) (I1.ok.hd hc) (fun A' hA => Walks.range hA s1.heap.objs.size (a + (((b - a).toNat : Nat) : Int) - 1) (-1) (b - a).toNat) ⟨_, hit, rfl⟩ (.inr rfl)
    (fun A' s' Q E hT st hq => hint_rg hT st (by omega) hq) (by rw [sizeLine_eq]; omega) ?_ ?_ fun h' tk acc c' hk e' hi => ?_
  · have e1 : a + (((b - a).toNat : Nat) : Int) - 1 + ((0 : Nat) : Int) * (-1) = a + (Builtin.Range.rangeSize a b 1 - 1) * 1 := by rw [hn]; omega
    have e2 : (((b - a).toNat : Nat) : Int) - ((0 : Nat) : Int) = Builtin.Range.rangeSize a b 1 := by rw [hn]; omega
    show IsRangeIter _ _ (a + (((b - a).toNat : Nat) : Int) - 1 + ((0 : Nat) : Int) * (-1)) ((((b - a).toNat : Nat) : Int) - ((0 : Nat) : Int)) (-1)
    rw [e1, e2]
    exact hit
  · show (s1.heap.push (rngRevObj a b 1)).objs.size ∉ [s1.heap.objs.size]
    rw [hsz]; simp only [List.mem_cons, List.not_mem_nil, or_false]; omega
  · have hf : ∀ b ∈ [s1.heap.objs.size], FpOk X pins H1 b := fun b hb => by
      rw [List.mem_singleton.mp hb]; exact I1.fpOk (Nat.le_refl _) (I1.hok.fresh (Nat.le_refl _))
    have hfr := I2.hok.fresh (Nat.le_refl (s1.heap.push (rngRevObj a b 1)).objs.size)
    refine ⟨.ref (s1.heap.push (rngRevObj a b 1)).objs.size, upd H1 (s1.heap.push (rngRevObj a b 1)).objs.size (.lst (rgV a b).reverse), I2.turnedNew (t' := tk) (ch := [s1.heap.objs.size]) hk hf (Nat.le_refl _) (show ObjOk X.prog X.w _ _ _ (.lst (rgV a b).reverse) from ⟨?_, acc.toList, c', vals_rgr hi, ?_⟩), rfl, q _ hfr⟩
    · rw [List.length_reverse, rgV_length, sizeLine_eq]; omega
    · rw [Array.toArray_toList]; exact e'
/-- the pairs of ints that these are -/
inductive PrV (K : PySem.W.Frag) (H : Hp) : List V → List (Int × Int) → Prop
  | nil : PrV K H [] []
  | cons {t : Addr} {i j : Int} {xs : List V} {ps : List (Int × Int)} : SqT K H t [.int i, .int j] → PrV K H xs ps → PrV K H (.ref t :: xs) ((i, j) :: ps)
def lePr (a b : Int × Int) : Bool := decide (a.1 < b.1 ∨ (a.1 = b.1 ∧ a.2 ≤ b.2))
theorem PrV.mem {K : PySem.W.Frag} {H : Hp} : ∀ {xs : List V} {ps : List (Int × Int)}, PrV K H xs ps → ∀ x ∈ xs, ∃ p : Int × Int, ∃ t, x = V.ref t ∧ SqT K H t [.int p.1, .int p.2]
  | _, _, .nil, _, h => by cases h
  | _, _, .cons h t, x, hx => by
    rcases List.mem_cons.mp hx with rfl | hx
    · exact ⟨(_, _), _, rfl, h⟩
    · exact PrV.mem t x hx
open Classical in
noncomputable def kPr (K : PySem.W.Frag) (H : Hp) (x : V) : Int × Int := if h : ∃ p : Int × Int, ∃ t, x = V.ref t ∧ SqT K H t [.int p.1, .int p.2] then h.choose else (0, 0)
theorem kPr_eq {pins : List (Addr × Obj)} {σ : L2.St} {H : Hp} {s : Shared} (I : Inv X pins σ H s) {t : Addr} {i j : Int} (h : SqT X.K H t [.int i, .int j]) : kPr X.K H (.ref t) = (i, j) := by
  have e : ∃ p : Int × Int, ∃ t', V.ref t = V.ref t' ∧ SqT X.K H t' [.int p.1, .int p.2] := ⟨(i, j), t, rfl, h⟩
  unfold kPr
  rw [dif_pos e]
  obtain ⟨t', e1, e2⟩ := e.choose_spec
  cases e1
  have h3 := I.tuple_inj h e2
  injection h3 with h4 h5
  injection h5 with h5 h6
  injection h4 with h4
  injection h5 with h5
  exact Prod.ext h4.symm h5.symm
theorem kPr_map {pins : List (Addr × Obj)} {σ : L2.St} {H : Hp} {s : Shared} (I : Inv X pins σ H s) : ∀ {xs : List V} {ps : List (Int × Int)}, PrV X.K H xs ps → ps = xs.map (kPr X.K H)
  | _, _, .nil => rfl
  | _, _, .cons h t => by rw [List.map_cons, kPr_eq I h, ← kPr_map I t]
theorem kPr_of {K : PySem.W.Frag} {H : Hp} : ∀ {xs : List V}, (∀ x ∈ xs, ∃ t, x = V.ref t ∧ SqT K H t [.int (kPr K H x).1, .int (kPr K H x).2]) → PrV K H xs (xs.map (kPr K H))
  | [], _ => .nil
  | x :: xs, h => by
    obtain ⟨t, e, q⟩ := h x List.mem_cons_self
    subst e
    exact .cons q (kPr_of fun y hy => h y (List.mem_cons_of_mem _ hy))
/-- sorted of pairs of ints, the pairs any tuples -/
def rSortedPT (K : PySem.W.Frag) : List V → Hp → VK → Prop := fun vs H Q => ∃ (a : Addr) (xs : List V) (ps : List (Int × Int)), vs = [V.ref a] ∧ SqL K H a xs ∧ PrV K H xs ps ∧
  ∀ ys qs p, PrV K H ys qs → qs.Perm ps → qs.Pairwise (fun a b => lePr a b = true) → H p = none → Q (.ref p) (upd H p (.lst ys))
theorem cr_sortedPT : CallR X (.builtin "sorted") (rSortedPT X.K) := by
  intro pins s σ H vs us Q I r h
  obtain ⟨a, xs, ps, rfl, hs, hp, q⟩ := h
  have hx : ∀ x ∈ xs, ∃ t, x = V.ref t ∧ SqT X.K H t [.int (kPr X.K H x).1, .int (kPr X.K H x).2] := fun x m => by
    obtain ⟨p, t, e, h⟩ := hp.mem x m
    subst e
    exact ⟨t, rfl, by rw [kPr_eq I h]; exact h⟩
  obtain ⟨its, rv, hl, hz⟩ := I.list hs
  obtain ⟨u, rfl, ru⟩ := vals1 r
  obtain rfl : u = Value.ref a := ru
  obtain ⟨e1, e2⟩ := refs_back rv fun x m => by
    obtain ⟨t, e, _⟩ := hx x m
    exact ⟨t, e⟩
  refine SrtO.sorted_pairsO (k := fun u => kPr X.K H (backV u)) hl.isList (by rw [← rv.length]; exact hz) (fun v hv => ?_) fun h' d out h1 h2 kp hd hn => ?_
  · obtain ⟨t, rfl⟩ := e2 v hv
    have hm : V.ref t ∈ xs := by rw [e1]; exact List.mem_map.mpr ⟨_, hv, rfl⟩
    obtain ⟨t', e, ht⟩ := hx _ hm
    cases e
    obtain ⟨its2, r2, ⟨o, ho, hc, n, hd⟩, _⟩ := I.tuple ht
    obtain ⟨u1, u2, rfl, ri, rj⟩ := vals2 r2
    obtain ⟨t1, rfl⟩ := ri
    obtain ⟨t2, rfl⟩ := rj
    exact ⟨t, o, t1, t2, n, rfl, ho, hc, hd⟩
  · have h3 : ∀ u ∈ out, ∃ a, u = Value.ref a := fun u hu => e2 u (h2.perm.mem_iff.mp hu)
    obtain ⟨n, hn⟩ := hn
    have hb : SrtO.Stb (ltP (kPr X.K H)) (out.map backV) xs := by
      rw [e1]
      exact SrtO.Stb.map (ltP_swo (kPr X.K H)) backV h2
    have hsrt : SrtO.Srtd (ltP (kPr X.K H)) (out.map backV) := SrtO.srtd_map h1
    refine ⟨.ref d, upd H d (.lst (out.map backV)), I.laid (t' := s.toks) kp hd ⟨?_, out, n, vals_back h3, hn⟩, rfl, q _ _ d (kPr_of fun x m => hx x (hb.perm.mem_iff.mp m)) ?_ ?_ (I.hok.fresh hd)⟩
    · rw [hb.len]
      exact hz
    · rw [kPr_map I hp]; exact hb.perm.map _
    · refine List.pairwise_map.mpr (List.Pairwise.imp (fun {x y} h => ?_) hsrt)
      have := SrtO.lexB_no.mp h
      unfold lePr
      simp only [decide_eq_true_eq]
      omega
def rSortAll (K : PySem.W.Frag) : List V → Hp → VK → Prop := fun vs H Q => rSortedI K vs H Q ∨ rSortedPT K vs H Q
theorem cr_sortAll : CallR X (.builtin "sorted") (rSortAll X.K) := by
  intro pins s σ H vs us Q I r h
  rcases h with h | h
  · exact cr_sortedI pins s σ H vs us Q I r h
  · exact cr_sortedPT pins s σ H vs us Q I r h
/-- two sorted lists of the same things are one -/
theorem srt_uniq {α : Type} {le : α → α → Bool} (as : ∀ a b, le a b = true → le b a = true → a = b) : ∀ {l m : List α}, l.Perm m → l.Pairwise (fun a b => le a b = true) → m.Pairwise (fun a b => le a b = true) → l = m
  | [], m, p, _, _ => (List.Perm.eq_nil p.symm).symm
  | x :: l, [], p, _, _ => absurd p.length_eq (by simp)
  | x :: l, y :: m, p, hl, hm => by
    obtain ⟨hx, hl'⟩ := List.pairwise_cons.mp hl
    obtain ⟨hy, hm'⟩ := List.pairwise_cons.mp hm
    have e : x = y := by
      rcases List.mem_cons.mp (p.mem_iff.mp (List.mem_cons_self (a := x) (l := l))) with e | h1
      · exact e
      · rcases List.mem_cons.mp (p.mem_iff.mpr (List.mem_cons_self (a := y) (l := m))) with e | h2
        · exact e.symm
        · exact as x y (hx y h2) (hy x h1)
    subst e
    rw [srt_uniq as p.cons_inv hl' hm']
def srtI (ns : List Int) : List Int := ns.mergeSort (fun a b => decide (a ≤ b))
def srtP (ps : List (Int × Int)) : List (Int × Int) := ps.mergeSort lePr
theorem srtI_perm (ns : List Int) : (srtI ns).Perm ns := List.mergeSort_perm _ _
theorem srtP_perm (ns : List (Int × Int)) : (srtP ns).Perm ns := List.mergeSort_perm _ _
theorem srtI_srt (ns : List Int) : (srtI ns).Pairwise (fun a b => decide (a ≤ b) = true) := by
  unfold srtI
  exact List.pairwise_mergeSort (le := fun a b => decide (a ≤ b)) (fun a b c => by simp only [decide_eq_true_eq]; omega) (fun a b => by simp only [Bool.or_eq_true, decide_eq_true_eq]; omega) ns
theorem srtP_srt (ns : List (Int × Int)) : (srtP ns).Pairwise (fun a b => lePr a b = true) := by
  unfold srtP
  exact List.pairwise_mergeSort (le := lePr) (fun a b c => by unfold lePr; simp only [decide_eq_true_eq]; omega) (fun a b => by unfold lePr; simp only [Bool.or_eq_true, decide_eq_true_eq]; omega) ns
theorem srtI_uniq {ns ms : List Int} (p : ms.Perm ns) (h : ms.Pairwise (· ≤ ·)) : ms = srtI ns := srt_uniq (le := fun a b => decide (a ≤ b)) (fun a b => by simp only [decide_eq_true_eq]; omega) (p.trans (srtI_perm ns).symm) (h.imp fun q => by simpa using q) (srtI_srt ns)
theorem srtP_uniq {ns ms : List (Int × Int)} (p : ms.Perm ns) (h : ms.Pairwise (fun a b => lePr a b = true)) : ms = srtP ns := srt_uniq (le := lePr) (fun a b => by
    unfold lePr; simp only [decide_eq_true_eq]; intro h1 h2; exact Prod.ext (by omega) (by omega)) (p.trans (srtP_perm ns).symm) h (srtP_srt ns)
end
def ev2 {α : Type} : List α → List α
  | [] => []
  | [x] => [x]
  | x :: _ :: r => x :: ev2 r
theorem ev2_pick {α : Type} (l : List α) : ∀ (m a : Nat), l.length - a ≤ m → (List.range ((l.length - a + 1) / 2)).filterMap (fun k => l[a + 2 * k]?) = ev2 (l.drop a)
  | 0, a, h => by
    rw [show l.length - a = 0 by omega, List.drop_eq_nil_of_le (by omega)]; rfl
  | 1, a, h => by
    by_cases e : l.length - a = 0
    · rw [e, List.drop_eq_nil_of_le (by omega)]; rfl
    · have h1 : l.length - a = 1 := by omega
      have h2 : a < l.length := by omega
      rw [h1, List.drop_eq_getElem_cons h2, List.drop_eq_nil_of_le (by omega)]
      simp [List.range_succ, h2, ev2]
  | m + 2, a, h => by
    by_cases e : l.length - a ≤ 1
    · exact ev2_pick l 1 a e
    · have h2 : a < l.length := by omega
      have h3 : a + 1 < l.length := by omega
      rw [List.drop_eq_getElem_cons h2, List.drop_eq_getElem_cons h3, show a + 1 + 1 = a + 2 from rfl]
      simp only [ev2]
      rw [← ev2_pick l m (a + 2) (by omega), show (l.length - a + 1) / 2 = (l.length - (a + 2) + 1) / 2 + 1 by omega, List.range_succ_eq_map, List.filterMap_cons, List.filterMap_map]
      have e1 : l[a + 2 * 0]? = some l[a] := by simp [h2]
      rw [e1]
      show l[a] :: _ = l[a] :: _
      congr 2
      funext k
      simp only [Function.comp]
      congr 1
      omega
theorem ev2_slice (items : Array Value) (j : Nat) : slicePick items (some (j : Int)) none (some 2) = (ev2 (items.toList.drop j)).toArray := by
  unfold slicePick
  congr 1
  rw [← ev2_pick items.toList items.size j (by simp)]
  have hb : sliceBounds (some (j : Int)) none (some 2) items.size = (((min j items.size : Nat) : Int), (items.size : Int), 2) := by
    have hj : ¬ ((j : Int) < 0) := by omega
    have h2 : (2 : Int) > 0 := by omega
    simp only [sliceBounds, Option.getD_some, hj, h2, if_true, if_false]
    refine Prod.ext ?_ rfl
    show max 0 (min (j : Int) (items.size : Int)) = _
    omega
  rw [hb]
  show (sliceRange ((min j items.size : Nat) : Int) (items.size : Int) 2).filterMap (items[·]?) = _
  unfold sliceRange
  simp only [show (2 : Int) > 0 by omega, if_true]
  rw [List.filterMap_map, Array.length_toList]
  by_cases h : j < items.size
  · rw [Nat.min_eq_left (by omega), if_pos (by omega), show (((items.size : Int) - (j : Int) + 2 - 1) / 2).toNat = (items.size - j + 1) / 2 by omega]
    congr 1
    funext k
    simp only [Function.comp]
    rw [show ((j : Int) + 2 * (k : Int)).toNat = j + 2 * k by omega, Array.getElem?_toList]
  · rw [Nat.min_eq_right (by omega), if_neg (by omega), show (items.size - j + 1) / 2 = 0 by omega]
    rfl
theorem ev2_le {α : Type} : ∀ l : List α, (ev2 l).length ≤ l.length
  | [] => Nat.le_refl _
  | [_] => Nat.le_refl _
  | _ :: _ :: r => by have := ev2_le r; simp only [ev2, List.length_cons]; omega
theorem ev2_vals : ∀ {xs : List V} {us : List Value}, Vals xs us → Vals (ev2 xs) (ev2 us)
  | _, _, .nil => .nil
  | _, _, .cons r .nil => .cons r .nil
  | _, _, .cons r (.cons _ t) => .cons r (ev2_vals t)
def tEv (K : PySem.W.Frag) (j : Nat) (te : TE) : TE := fun σ H Q => te σ H fun x H1 => ∃ a xs, x = .ref a ∧ SqL K H1 a xs ∧ ∀ p, H1 p = none → Q (.ref p) (upd H1 p (.lst (ev2 (xs.drop j))))
section
variable {X : Cx}
theorem pe_ev (j : Nat) {e : Expr} {te : TE} {k1 k2 : Nat} {p1 p2 p3 pos : Pos} (he : PE X e te) : PE X (.Subscript e (.Slice (some (.Constant (.int (j : Int)) k1 p1)) none (some (.Constant (.int 2) k2 p2)) p3) pos) (tEv X.K j te) := by
  refine ⟨fun pins s σ H Q I h => ?_⟩
  refine Subscript_ (thn (he.run pins s σ H _ I h) fun v s1 ⟨x, H1, I1, r1, q1⟩ => ?_)
  obtain ⟨a, xs, ex, hx, q⟩ := q1
  subst ex
  cases r1
  have hlo : PO X (some (.Constant (.int (j : Int)) k1 p1)) (tPart (tC (.int (j : Int)))) := po_some pe_int
  have hst : PO X (some (.Constant (.int 2) k2 p2)) (tPart (tC (.int 2))) := po_some pe_int
  refine wpAny_Slice (thn (hlo.run pins s1 σ H1 (fun o H2 => o = some (j : Int) ∧ H2 = H1) I1 ⟨(j : Int), rfl, rfl, rfl⟩) fun vl s2 ⟨l, H2, I2, pl, el, e2⟩ => ?_)
  subst el e2
  refine thn (po_none.run pins s2 σ H2 (fun o H3 => o = none ∧ H3 = H2) I2 ⟨rfl, rfl⟩) fun vu s3 ⟨u, H3, I3, pu, eu, e3⟩ => ?_
  subst eu e3
  refine thn (hst.run pins s3 σ H3 (fun o H4 => o = some 2 ∧ H4 = H3) I3 ⟨2, rfl, rfl, rfl⟩) fun vs s4 ⟨o, H4, I4, ps, eo, e4⟩ => ?_
  subst eo e4
  have I5 : Inv X pins σ H4 { s4 with heap := s4.heap.push { cls := .type "slice", data := .fields #[vl, vu, vs] } } := I4.kept (t' := s4.toks) fun b ob q => Heap.get?_push_of_some _ q
  obtain ⟨its, r, ht, hz⟩ := I5.list hx
  have hlen := r.length
  show wpAny (model X.prog X.w) X.A (subscriptTail e (.Slice (some (.Constant (.int (j : Int)) k1 p1)) none (some (.Constant (.int 2) k2 p2)) p3) (.ref a) (.ref s4.heap.objs.size)) (EP X pins σ Q) X.xe { s4 with heap := s4.heap.push { cls := .type "slice", data := .fields #[vl, vu, vs] } }
  refine tail_any (ops := [.ref a, .ref s4.heap.objs.size]) ht.isList.typeIs (PySem.slot_list_getitem.lookup) ?_ (by with_unfolding_all rfl)
  refine wpAny_getItem_list_slice ht.isList (Heap.IsSliceOf.new _ vl vu vs) pl pu ps (by decide) ?_ (by rw [List.size_toArray]; omega)
  rw [ev2_slice]
  refine ⟨.ref _, _, I5.laid (t' := s4.toks) (o := .lst (ev2 (xs.drop j))) (fun b ob q => Heap.get?_push_of_some _ q) (Nat.le_refl _) ?_, rfl, q _ (I5.hok.fresh (Nat.le_refl _))⟩
  exact ⟨Nat.le_trans (ev2_le _) (Nat.le_trans (by simp) hz), _, 0, ev2_vals (r.drop j), Heap.get?_push_size _ rfl⟩
end
def tLVals (te : TE) : TE := fun σ H Q => te σ H fun x H1 => ∃ (d : Addr) (kvs : List (Key × V)), x = .ref d ∧ H1 d = some (.dK kvs) ∧ ∀ p, H1 p = none → Q (.ref p) (upd H1 p (.lst (kvs.map (·.2))))
theorem vals_kv : ∀ {kvs : List (Key × V)} {vs : List (Key × Value)}, KV kvs vs → Vals (kvs.map (·.2)) (vs.map (·.2))
  | _, _, .nil => .nil
  | _, _, .cons h t => .cons h.2 (vals_kv t)
/-- d.setdefault(k, v): what stands there, or v laid at the end -/
def rSetd : V → List V → Hp → VK → Prop := fun x vs H Q => ∃ (a : Addr) (kvs : List (Key × V)) (k : Key) (v : V), x = .ref a ∧ vs = [kV k, v] ∧ H a = some (.dK kvs) ∧ kvs.length < sizeLine ∧
  (∀ u, valV kvs k = some u → Q u H) ∧ (valV kvs k = none → Q v (upd H a (.dK (putK kvs k v))))
section
variable {X : Cx} {e : Expr} {te : TE} {p apos cpos pos : Pos}
theorem pe_lvals (hc : X.calm = true) (he : PE X e te) (hg : Gl X "list") (hm : X.mg "list" = none) (hbase : attributeBase e "values" X.env (eval e X.env) = eval e X.env) (hline : (apos.endLine == cpos.line) = true)
    (hs : starEach [.Call (.Attribute e "values" apos) [] [] cpos] X.env = (false, eval (.Call (.Attribute e "values" apos) [] [] cpos) X.env) :: starEach [] X.env := by rfl) :
    PE X (.Call (.Name "list" p) [.Call (.Attribute e "values" apos) [] [] cpos] [] pos) (tLVals te) := by
  refine ⟨fun pins s σ H Q I hq => ?_⟩
  refine wpAny_Call_Name_kw (ld_blt I hg hm boot_list ?_)
  refine PyProof.Rows.callWith_type1 ?_ hs rfl
  rw [hs]
  show wpAny _ _ (spliced ((false, eval (.Call (.Attribute e "values" apos) [] [] cpos) X.env) :: backTo pos (starEach [] X.env))) _ _ s
  refine Calls.spliced_cons ?_
  refine wpAny_Call_method (T := "dict") (id := "dict.values") hbase rfl hline F.plainAttrs_dict F.slot_dict_values F.type_dict_values (thn (he.run pins s σ H _ I hq) fun u s1 ⟨x, H1, I1, rx, d, kvs, ex, hd, q⟩ => ?_)
  subst ex
  obtain rfl : u = Value.ref d := rx
  obtain ⟨hz, hs0, vs, kv, hdo⟩ := I1.hok d _ hd
  obtain ⟨ep, hat⟩ := hdo.dictAt
  have lk : kvs.length = vs.length := Paired.length kv
  have I2 : Inv X pins σ H1 { s1 with heap := s1.heap.push { cls := .type "dict_values", data := .fields #[.ref d] } } := I1.kept (t' := s1.toks) fun b ob q => Heap.get?_push_of_some _ q
  refine ⟨hdo.typeIs, hdo.mapOf.noDict, ?_⟩
  show wpAny _ _ (callWith cpos (.builtin "dict.values") [.ref d] [] []) _ X.xe s1
  refine method_meetsIn F.slot_dict_values F.entry_dict_values rfl (PySem.evalArgs_none ⟨rfl, hdo.typeIs, F.args_dict_values_1 _, _, meets_dict_values (mixKind X.prog X.w) d hs0, ⟨vs, hdo⟩, ?_⟩)
  refine Calls.spliced_nil ?_
  refine PySem.W.kdl_call (PySem.W.kdl_values (knd := mixKind X.prog X.w) (kvs := vs) (ep := ep)) (I1.ok.hd hc) ⟨⟨_, Heap.get?_push_size _ rfl, rfl, rfl⟩, hat.push _⟩ (by omega) fun h' tk acc c hk hS hacc => ?_
  have hfr := I2.hok.fresh (Nat.le_refl (s1.heap.push { cls := .type "dict_values", data := .fields #[.ref d] }).objs.size)
  have ea : acc.toList = vs.map (·.2) := by
    apply List.ext_getElem?
    intro i
    rw [List.getElem?_map]
    cases h : acc.toList[i]? with
    | none =>
      have : vs.length ≤ i := by
        have := List.getElem?_eq_none_iff.mp h
        rw [Array.length_toList, hacc.1] at this
        exact this
      rw [List.getElem?_eq_none this]; rfl
    | some v =>
      obtain ⟨k, hv⟩ := hacc.2 i v (by rw [← Array.getElem?_toList]; exact h)
      rw [hv]; rfl
  refine ⟨.ref _, upd H1 _ (.lst (kvs.map (·.2))), I2.laid (t' := tk) (o := .lst (kvs.map (·.2))) hk (Nat.le_refl _) ⟨by rw [List.length_map]; exact hz, acc.toList, c, by rw [ea]; exact vals_kv kv, by rw [Array.toArray_toList]; exact hS⟩, rfl, q _ hfr⟩
theorem mt_setd : MtR X "dict.setdefault" rSetd := by
  intro pins s σ H x xs v us Q I rx rv h
  obtain ⟨a, kvs, k, w, rfl, rfl, ea, hl, w1, w2⟩ := h
  obtain rfl : v = Value.ref a := rx
  cases rv with
  | cons ry rv =>
    cases rv with
    | cons rd rv =>
      cases rv
      exact d_setd I ea ry rd hl (fun u hu w' s' I' r' => ⟨u, _, I', r', w1 u hu⟩) fun hn w' s' I' r' => ⟨w, _, I', r', w2 hn⟩
end
end Fe
namespace Fe
open PySem PySem.Spec PyProof.Rows L2
/-- an exception object of the class cls, kept as a value -/
def ExK (cls : Value) (a : Addr) : HO := .ext fun h => ∃ (oe : Obj) (vs : Array Value), h.get? a = some oe ∧ Zc cls none oe ∧ oe.data = .fields vs
theorem exK_ok {P : Program} {w : World} {H : Hp} {h : Heap} {a : Addr} {cls : Value} {oe : Obj} {vs : Array Value} (e : h.get? a = some oe) (z : Zc cls none oe) (d : oe.data = .fields vs) : ObjOk P w H h a (ExK cls a) :=
  ⟨⟨oe, vs, e, z, d⟩, ⟨oe, e⟩, fun _ _ ⟨o, v, q, r⟩ k => ⟨o, v, k o q, r⟩⟩
inductive VV where
  | non | bl (b : Bool) | int (i : Int) | str (s : Str) | tup (xs : List VV) | ref (n : Nat)
  deriving Inhabited
inductive VO where
  | lst (xs : List VV)
  | rol (xs : List VV)
  | dct (kvs : List (Key × VV))
  | ins (c : Nat) (fs : List (Str × VV))
  | exo (d : Nat)
  deriving Inhabited
abbrev VH := List VO
abbrev SSt := List (Option VV)
mutual
inductive RV (K : PySem.W.Frag) (μ : List Addr) (H : Hp) : VV → V → Prop
  | non : RV K μ H .non .non
  | bl (b : Bool) : RV K μ H (.bl b) (.bl b)
  | int (i : Int) : RV K μ H (.int i) (.int i)
  | str (x : Str) : RV K μ H (.str x) (.str x)
  | tup {xs : List VV} {vs : List V} {p : Addr} : SqT K H p vs → RVs K μ H xs vs → RV K μ H (.tup xs) (.ref p)
  | ref {n : Nat} {a : Addr} : μ[n]? = some a → RV K μ H (.ref n) (.ref a)
inductive RVs (K : PySem.W.Frag) (μ : List Addr) (H : Hp) : List VV → List V → Prop
  | nil : RVs K μ H [] []
  | cons {x : VV} {v : V} {xs : List VV} {vs : List V} : RV K μ H x v → RVs K μ H xs vs → RVs K μ H (x :: xs) (v :: vs)
end
/-- tuples and what is known stay -/
structure TP (H H' : Hp) : Prop where
  tup : ∀ p xs, H p = some (.tup xs) → H' p = some (.tup xs)
  frz : ∀ p o u, H p = some (.frz o u) → H' p = some (.frz o u)
  ext : ∀ p φ, H p = some (.ext φ) → H' p = some (.ext φ)
theorem TP.refl (H : Hp) : TP H H := ⟨fun _ _ h => h, fun _ _ _ h => h, fun _ _ h => h⟩
theorem TP.trans {H H1 H2 : Hp} (a : TP H H1) (b : TP H1 H2) : TP H H2 := ⟨fun p xs h => b.tup p xs (a.tup p xs h), fun p o u h => b.frz p o u (a.frz p o u h), fun p φ h => b.ext p φ (a.ext p φ h)⟩
structure Ext (μ : List Addr) (H : Hp) (μ' : List Addr) (H' : Hp) : Prop where
  mu : ∃ more, μ' = μ ++ more
  tp : TP H H'
theorem Ext.refl (μ : List Addr) (H : Hp) : Ext μ H μ H := ⟨⟨[], by simp⟩, TP.refl H⟩
theorem Ext.trans {μ μ1 μ2 : List Addr} {H H1 H2 : Hp} (a : Ext μ H μ1 H1) (b : Ext μ1 H1 μ2 H2) : Ext μ H μ2 H2 := by
  obtain ⟨m1, e1⟩ := a.mu
  obtain ⟨m2, e2⟩ := b.mu
  exact ⟨⟨m1 ++ m2, by rw [e2, e1, List.append_assoc]⟩, a.tp.trans b.tp⟩
theorem Ext.get {μ μ' : List Addr} {H H' : Hp} (e : Ext μ H μ' H') {n : Nat} {a : Addr} (h : μ[n]? = some a) : μ'[n]? = some a := by
  obtain ⟨m, rfl⟩ := e.mu
  obtain ⟨hl, _⟩ := List.getElem?_eq_some_iff.mp h
  rw [List.getElem?_append_left hl]; exact h
theorem TP.sqT {K : PySem.W.Frag} {H H' : Hp} (t : TP H H') {a : Addr} {xs : List V} (h : SqT K H a xs) : SqT K H' a xs := by
  rcases h with (h | ⟨o, h⟩) | h
  · exact .inl (.inl (t.tup _ _ h))
  · exact .inl (.inr ⟨o, t.frz _ _ _ h⟩)
  · exact .inr h
section
variable {K : PySem.W.Frag} {μ μ' : List Addr} {H H' : Hp}
mutual
theorem RV.mono (e : Ext μ H μ' H') : ∀ {x : VV} {v : V}, RV K μ H x v → RV K μ' H' x v
  | _, _, .non => .non
  | _, _, .bl b => .bl b
  | _, _, .int i => .int i
  | _, _, .str x => .str x
  | _, _, .tup h r => .tup (e.tp.sqT h) (RVs.mono e r)
  | _, _, .ref h => .ref (e.get h)
theorem RVs.mono (e : Ext μ H μ' H') : ∀ {xs : List VV} {vs : List V}, RVs K μ H xs vs → RVs K μ' H' xs vs
  | _, _, .nil => .nil
  | _, _, .cons r t => .cons (RV.mono e r) (RVs.mono e t)
end
theorem RVs.length : ∀ {xs : List VV} {vs : List V}, RVs K μ H xs vs → xs.length = vs.length
  | _, _, .nil => rfl
  | _, _, .cons _ t => by simp [RVs.length t]
theorem RVs.get : ∀ {xs : List VV} {vs : List V} {i : Nat} {x : VV}, RVs K μ H xs vs → xs[i]? = some x → ∃ v, vs[i]? = some v ∧ RV K μ H x v
  | _, _, _, _, .nil, e => by simp at e
  | _, _, 0, _, .cons r _, e => by simp at e; subst e; exact ⟨_, rfl, r⟩
  | _, _, i + 1, x, .cons _ t, e => by
    obtain ⟨u, h1, h2⟩ := RVs.get (i := i) (x := x) t (by simpa using e)
    exact ⟨u, by simpa using h1, h2⟩
theorem RVs.set {x : VV} {v : V} (r : RV K μ H x v) : ∀ {xs : List VV} {vs : List V} (i : Nat), RVs K μ H xs vs → RVs K μ H (xs.set i x) (vs.set i v)
  | _, _, _, .nil => .nil
  | _, _, 0, .cons _ t => .cons r t
  | _, _, i + 1, .cons q t => .cons q (RVs.set r i t)
theorem RVs.append : ∀ {xs ys : List VV} {vs ws : List V}, RVs K μ H xs vs → RVs K μ H ys ws → RVs K μ H (xs ++ ys) (vs ++ ws)
  | _, _, _, _, .nil, s => s
  | _, _, _, _, .cons r t, s => .cons r (RVs.append t s)
theorem RVs.take : ∀ {xs : List VV} {vs : List V} (n : Nat), RVs K μ H xs vs → RVs K μ H (xs.take n) (vs.take n)
  | _, _, 0, _ => .nil
  | _, _, _ + 1, .nil => .nil
  | _, _, n + 1, .cons r t => .cons r (RVs.take n t)
theorem RVs.drop : ∀ {xs : List VV} {vs : List V} (n : Nat), RVs K μ H xs vs → RVs K μ H (xs.drop n) (vs.drop n)
  | _, _, 0, r => r
  | _, _, _ + 1, .nil => .nil
  | _, _, n + 1, .cons _ t => RVs.drop n t
theorem RVs.reverse : ∀ {xs : List VV} {vs : List V}, RVs K μ H xs vs → RVs K μ H xs.reverse vs.reverse
  | _, _, .nil => .nil
  | _, _, .cons r t => by rw [List.reverse_cons, List.reverse_cons]; exact RVs.append (RVs.reverse t) (.cons r .nil)
theorem RVs.eraseIdx : ∀ {xs : List VV} {vs : List V} (i : Nat), RVs K μ H xs vs → RVs K μ H (xs.eraseIdx i) (vs.eraseIdx i)
  | _, _, _, .nil => .nil
  | _, _, 0, .cons _ t => t
  | _, _, i + 1, .cons q t => .cons q (RVs.eraseIdx i t)
theorem RVs.rep {xs : List VV} {vs : List V} (h : RVs K μ H xs vs) : ∀ k : Nat, RVs K μ H (List.replicate k xs).flatten (List.replicate k vs).flatten
  | 0 => .nil
  | k + 1 => by rw [List.replicate_succ, List.replicate_succ, List.flatten_cons, List.flatten_cons]; exact h.append (RVs.rep h k)
theorem RVs.ints : ∀ {ns : List Int} {vs : List V}, RVs K μ H (ns.map VV.int) vs → vs = ns.map V.int
  | [], _, .nil => rfl
  | _ :: ns, _, .cons r t => by cases r; rw [RVs.ints t]; rfl
theorem RVs.of_ints : ∀ {ns : List Int}, RVs K μ H (ns.map VV.int) (ns.map V.int)
  | [] => .nil
  | _ :: ns => .cons (.int _) RVs.of_ints
end
/-- what lies at an address, by my object -/
def OH (K : PySem.W.Frag) (cls : Nat → Option Addr) (μ : List Addr) (H : Hp) : VO → HO → Prop
  | .lst xs, .lst vs => RVs K μ H xs vs
  | .dct kvs, .dK ws => kvs.map (·.1) = ws.map (·.1) ∧ RVs K μ H (kvs.map (·.2)) (ws.map (·.2))
  | .ins c fs, .ins C _ gs => cls c = some C ∧ fs.map (·.1) = gs.map (·.1) ∧ RVs K μ H (fs.map (·.2)) (gs.map (·.2))
  | _, _ => False
def isRol : VO → Bool
  | .rol _ => true
  | .exo _ => true
  | _ => false
def AtO (K : PySem.W.Frag) (cls : Nat → Option Addr) (μ : List Addr) (H : Hp) (o : VO) (a : Addr) : Prop :=
  match o with
  | .rol xs => ∃ vs, ((∃ ob, H a = some (.frz ob (.lst vs))) ∨ ∃ (o : Obj) (its : Array Value) (n : Nat), K.lookup a = some o ∧ o.cls = .type "list" ∧ o.dict = none ∧ o.data = .seq its n ∧ its.size ≤ sizeLine ∧ Vals vs its.toList) ∧ RVs K μ H xs vs
  | .exo d => ∃ C, cls d = some C ∧ H a = some (ExK (.ref C) a)
  | o => ∃ ho, H a = some ho ∧ OH K cls μ H o ho
structure HR (K : PySem.W.Frag) (cls : Nat → Option Addr) (μ : List Addr) (vh : VH) (H : Hp) : Prop where
  len : μ.length = vh.length
  ob : ∀ (n : Nat) (o : VO), vh[n]? = some o → ∃ a, μ[n]? = some a ∧ AtO K cls μ H o a
  dj : ∀ (m n : Nat) (a : Addr) (o u : VO), vh[m]? = some o → vh[n]? = some u → isRol o = false → isRol u = false → μ[m]? = some a → μ[n]? = some a → m = n
section
variable {K : PySem.W.Frag} {cls : Nat → Option Addr} {μ μ' : List Addr} {H H' : Hp} {vh : VH}
theorem OH.mono (e : Ext μ H μ' H') {o : VO} {ho : HO} (h : OH K cls μ H o ho) : OH K cls μ' H' o ho := by
  unfold OH at h ⊢
  split at h
  · exact RVs.mono e h
  · exact ⟨h.1, RVs.mono e h.2⟩
  · exact ⟨h.1, h.2.1, RVs.mono e h.2.2⟩
  · exact h.elim
theorem AtO.mono (e : Ext μ H μ' H') {o : VO} {a : Addr} (h : AtO K cls μ H o a) (k : isRol o = false → ∀ ho, H a = some ho → H' a = some ho) : AtO K cls μ' H' o a := by
  cases o with
  | rol xs =>
    obtain ⟨vs, h1, h2⟩ := h
    refine ⟨vs, ?_, RVs.mono e h2⟩
    rcases h1 with ⟨ob, h1⟩ | h1
    · exact .inl ⟨ob, e.tp.frz _ _ _ h1⟩
    · exact .inr h1
  | exo d => obtain ⟨C, h1, h2⟩ := h; exact ⟨C, h1, e.tp.ext _ _ h2⟩
  | lst xs => obtain ⟨ho, h1, h2⟩ := h; exact ⟨ho, k rfl ho h1, OH.mono e h2⟩
  | dct xs => obtain ⟨ho, h1, h2⟩ := h; exact ⟨ho, k rfl ho h1, OH.mono e h2⟩
  | ins c fs => obtain ⟨ho, h1, h2⟩ := h; exact ⟨ho, k rfl ho h1, OH.mono e h2⟩
theorem AtO.some {o : VO} {a : Addr} (h : AtO K cls μ H o a) (hr : isRol o = false) : ∃ ho, H a = Option.some ho ∧ OH K cls μ H o ho := by
  cases o with
  | rol xs => cases hr
  | exo d => cases hr
  | lst xs => exact h
  | dct xs => exact h
  | ins c fs => exact h
/-- a new thing that is no object of mine (a tuple, a thing not known) -/
theorem TP.new {p : Addr} {ho : HO} (h : H p = none) : TP H (upd H p ho) :=
  ⟨fun q xs e => by rw [upd_ne (ne_of_none e h)]; exact e, fun q o u e => by rw [upd_ne (ne_of_none e h)]; exact e, fun q φ e => by rw [upd_ne (ne_of_none e h)]; exact e⟩
theorem HR.new (r : HR K cls μ vh H) {p : Addr} {ho : HO} (h : H p = none) : HR K cls μ vh (upd H p ho) := by
  have e : Ext μ H μ (upd H p ho) := ⟨⟨[], by simp⟩, TP.new h⟩
  refine ⟨r.len, fun n o hn => ?_, r.dj⟩
  obtain ⟨a, ha, q⟩ := r.ob n o hn
  exact ⟨a, ha, q.mono e fun _ u hu => by rw [upd_ne (ne_of_none hu h)]; exact hu⟩
/-- a new object of mine -/
theorem HR.alloc (r : HR K cls μ vh H) {p : Addr} {o : VO} {ho : HO} (h : H p = none) (hr : isRol o = false) (ok : OH K cls (μ ++ [p]) (upd H p ho) o ho) : HR K cls (μ ++ [p]) (vh ++ [o]) (upd H p ho) := by
  have e : Ext μ H (μ ++ [p]) (upd H p ho) := ⟨⟨[p], rfl⟩, TP.new h⟩
  have hl := r.len
  refine ⟨by simp [hl], fun n u hn => ?_, fun m n a u w hm hn um wn em en => ?_⟩
  · by_cases hlt : n < vh.length
    · rw [List.getElem?_append_left hlt] at hn
      obtain ⟨a, ha, q⟩ := r.ob n u hn
      exact ⟨a, e.get ha, q.mono e fun _ z hz => by rw [upd_ne (ne_of_none hz h)]; exact hz⟩
    · have hlt' : n < (vh ++ [o]).length := (List.getElem?_eq_some_iff.mp hn).1
      have hn' : n = vh.length := by simp at hlt'; omega
      subst hn'
      rw [List.getElem?_append_right (by omega)] at hn
      simp at hn
      subst hn
      refine ⟨p, by rw [← hl, List.getElem?_append_right (by omega)]; simp, ?_⟩
      cases o with
      | rol xs => cases hr
      | exo d => cases hr
      | lst xs => exact ⟨ho, upd_same, ok⟩
      | dct xs => exact ⟨ho, upd_same, ok⟩
      | ins c fs => exact ⟨ho, upd_same, ok⟩
  · have old : ∀ {i : Nat} {z : VO}, i < vh.length → (vh ++ [o])[i]? = some z → isRol z = false → ∀ b, (μ ++ [p])[i]? = some b → vh[i]? = some z ∧ μ[i]? = some b ∧ b ≠ p := fun {i z} hi hz hzr b hb => by
      rw [List.getElem?_append_left hi] at hz
      rw [List.getElem?_append_left (by omega)] at hb
      obtain ⟨b', hb', q⟩ := r.ob i z hz
      rw [hb] at hb'; cases hb'
      obtain ⟨z', hz', _⟩ := q.some hzr
      exact ⟨hz, hb, ne_of_none hz' h⟩
    have new : ∀ {i : Nat} {z : VO}, ¬ i < vh.length → (vh ++ [o])[i]? = some z → ∀ b, (μ ++ [p])[i]? = some b → i = vh.length ∧ b = p := fun {i z} hi hz b hb => by
      have hlt' : i < (vh ++ [o]).length := (List.getElem?_eq_some_iff.mp hz).1
      have hn' : i = vh.length := by simp at hlt'; omega
      subst hn'
      rw [List.getElem?_append_right (by omega)] at hb
      simp [hl] at hb
      exact ⟨rfl, hb.symm⟩
    by_cases h1 : m < vh.length
    · obtain ⟨g1, g2, g3⟩ := old h1 hm um a em
      by_cases h2 : n < vh.length
      · obtain ⟨k1, k2, _⟩ := old h2 hn wn a en
        exact r.dj m n a u w g1 k1 um wn g2 k2
      · exact absurd (new h2 hn a en).2 g3
    · obtain ⟨g1, g2⟩ := new h1 hm a em
      by_cases h2 : n < vh.length
      · obtain ⟨k1, k2, k3⟩ := old h2 hn wn a en
        exact absurd g2 k3
      · rw [g1, (new h2 hn a en).1]
/-- an exception kept as a value -/
theorem HR.exo (r : HR K cls μ vh H) {p : Addr} {d : Nat} {C : Addr} (hC : cls d = some C) (h : H p = none) : HR K cls (μ ++ [p]) (vh ++ [.exo d]) (upd H p (ExK (.ref C) p)) := by
  have e : Ext μ H (μ ++ [p]) (upd H p (ExK (.ref C) p)) := ⟨⟨[p], rfl⟩, TP.new h⟩
  have hl := r.len
  have lo : ∀ {i : Nat} {z : VO}, (vh ++ [VO.exo d])[i]? = some z → isRol z = false → vh[i]? = some z ∧ i < vh.length := fun {i z} hz hr => by
    by_cases hlt : i < vh.length
    · rw [List.getElem?_append_left hlt] at hz; exact ⟨hz, hlt⟩
    · have hlt' : i < (vh ++ [VO.exo d]).length := (List.getElem?_eq_some_iff.mp hz).1
      have hn' : i = vh.length := by simp at hlt'; omega
      subst hn'
      rw [List.getElem?_append_right (by omega)] at hz
      simp at hz
      subst hz
      cases hr
  refine ⟨by simp [hl], fun n u hn => ?_, fun m n a u w hm hn um wn em en => ?_⟩
  · by_cases hlt : n < vh.length
    · rw [List.getElem?_append_left hlt] at hn
      obtain ⟨a, ha, q⟩ := r.ob n u hn
      exact ⟨a, e.get ha, q.mono e fun _ z hz => by rw [upd_ne (ne_of_none hz h)]; exact hz⟩
    · have hlt' : n < (vh ++ [VO.exo d]).length := (List.getElem?_eq_some_iff.mp hn).1
      have hn' : n = vh.length := by simp at hlt'; omega
      subst hn'
      rw [List.getElem?_append_right (by omega)] at hn
      simp at hn
      subst hn
      exact ⟨p, by rw [← hl, List.getElem?_append_right (by omega)]; simp, C, hC, upd_same⟩
  · obtain ⟨h1, l1⟩ := lo hm um
    obtain ⟨h2, l2⟩ := lo hn wn
    rw [List.getElem?_append_left (by omega)] at em en
    exact r.dj m n a u w h1 h2 um wn em en
def mutO : HO → Bool
  | .lst _ => true
  | .dK _ => true
  | .ins _ _ _ => true
  | _ => false
theorem OH.mut {o : VO} {ho : HO} (h : OH K cls μ H o ho) : mutO ho = true := by
  unfold OH at h
  split at h
  · rfl
  · rfl
  · rfl
  · exact h.elim
theorem TP.set {a : Addr} {ho ho' : HO} (h : H a = some ho) (m : mutO ho = true) : TP H (upd H a ho') := by
  refine ⟨fun q xs e => ?_, fun q o u e => ?_, fun q φ e => ?_⟩
  · rw [upd_ne (ne_of e h (by rintro rfl; cases m))]; exact e
  · rw [upd_ne (ne_of e h (by rintro rfl; cases m))]; exact e
  · rw [upd_ne (ne_of e h (by rintro rfl; cases m))]; exact e
/-- an object of mine is changed -/
theorem HR.set (r : HR K cls μ vh H) {n : Nat} {a : Addr} {o o' : VO} {ho ho' : HO} (hn : vh[n]? = some o) (hr : isRol o = false) (hr' : isRol o' = false) (ha : μ[n]? = some a) (h : H a = some ho) (m : mutO ho = true)
    (ok : OH K cls μ (upd H a ho') o' ho') : HR K cls μ (vh.set n o') (upd H a ho') := by
  have e : Ext μ H μ (upd H a ho') := ⟨⟨[], by simp⟩, TP.set h m⟩
  have hlt : n < vh.length := (List.getElem?_eq_some_iff.mp hn).1
  refine ⟨by simp [r.len], fun k u hk => ?_, fun i j b u w hi hj ui wj ei ej => ?_⟩
  · by_cases e1 : n = k
    · subst e1
      rw [List.getElem?_set_self hlt] at hk
      cases hk
      refine ⟨a, ha, ?_⟩
      cases o' with
      | rol xs => cases hr'
      | exo d => cases hr'
      | lst xs => exact ⟨ho', upd_same, ok⟩
      | dct xs => exact ⟨ho', upd_same, ok⟩
      | ins c fs => exact ⟨ho', upd_same, ok⟩
    · rw [List.getElem?_set_ne e1] at hk
      obtain ⟨b, hb, q⟩ := r.ob k u hk
      refine ⟨b, hb, q.mono e fun hz z hz2 => ?_⟩
      have : b ≠ a := by
        rintro rfl
        exact e1 (r.dj n k b o u hn hk hr hz ha hb)
      rw [upd_ne this]; exact hz2
  · have back : ∀ {k : Nat} {z : VO}, (vh.set n o')[k]? = some z → isRol z = false → ∃ z', vh[k]? = some z' ∧ isRol z' = false := fun {k z} hk hz => by
      by_cases e1 : n = k
      · subst e1; exact ⟨o, hn, hr⟩
      · rw [List.getElem?_set_ne e1] at hk; exact ⟨z, hk, hz⟩
    obtain ⟨u', hu, ru⟩ := back hi ui
    obtain ⟨w', hw, rw'⟩ := back hj wj
    exact r.dj i j b u' w' hu hw ru rw' ei ej
end
end Fe
namespace Fe
open PySem PySem.Spec PyProof.Rows L2
inductive Res (α : Type) where
  | ok (a : α) (vh : VH)
  | exc (c : Nat) (fs : Option (List (Str × VV))) (vh : VH)
  | stuck
def Res.bind {α β : Type} (r : Res α) (f : α → VH → Res β) : Res β :=
  match r with
  | .ok a vh => f a vh
  | .exc c fs vh => .exc c fs vh
  | .stuck => .stuck
@[simp] theorem Res.bind_ok {α β : Type} (a : α) (vh : VH) (f : α → VH → Res β) : (Res.ok a vh).bind f = f a vh := rfl
@[simp] theorem Res.bind_exc {α β : Type} (c : Nat) (fs : Option (List (Str × VV))) (vh : VH) (f : α → VH → Res β) : (Res.exc c fs vh : Res α).bind f = .exc c fs vh := rfl
@[simp] theorem Res.bind_stuck {α β : Type} (f : α → VH → Res β) : (Res.stuck : Res α).bind f = .stuck := rfl
/-- an exception here is not followed -/
def Res.noexc {α : Type} (r : Res α) : Res α :=
  match r with
  | .ok a vh => .ok a vh
  | _ => .stuck
@[simp] theorem Res.noexc_ok {α : Type} (a : α) (vh : VH) : (Res.ok a vh).noexc = .ok a vh := rfl
inductive RS where
  | nx (σ : SSt) (vh : VH)
  | rt (v : VV) (σ : SSt) (vh : VH)
  | bk (σ : SSt) (vh : VH)
  | ct (σ : SSt) (vh : VH)
  | exc (c : Nat) (fs : Option (List (Str × VV))) (σ : SSt) (vh : VH)
  | stuck
/-- what a statement does with an expression's result -/
def Res.go {α : Type} (r : Res α) (σ : SSt) (f : α → VH → RS) : RS :=
  match r with
  | .ok a vh => f a vh
  | .exc c fs vh => .exc c fs σ vh
  | .stuck => .stuck
@[simp] theorem Res.go_ok {α : Type} (a : α) (vh : VH) (σ : SSt) (f : α → VH → RS) : (Res.ok a vh).go σ f = f a vh := rfl
@[simp] theorem Res.go_exc {α : Type} (c : Nat) (fs : Option (List (Str × VV))) (vh : VH) (σ : SSt) (f : α → VH → RS) : (Res.exc c fs vh : Res α).go σ f = .exc c fs σ vh := rfl
@[simp] theorem Res.go_stuck {α : Type} (σ : SSt) (f : α → VH → RS) : (Res.stuck : Res α).go σ f = .stuck := rfl
def RS.seq (r : RS) (f : SSt → VH → RS) : RS :=
  match r with
  | .nx σ vh => f σ vh
  | r => r
@[simp] theorem RS.seq_nx (σ : SSt) (vh : VH) (f : SSt → VH → RS) : (RS.nx σ vh).seq f = f σ vh := rfl
@[simp] theorem RS.seq_rt (v : VV) (σ : SSt) (vh : VH) (f : SSt → VH → RS) : (RS.rt v σ vh).seq f = .rt v σ vh := rfl
@[simp] theorem RS.seq_bk (σ : SSt) (vh : VH) (f : SSt → VH → RS) : (RS.bk σ vh).seq f = .bk σ vh := rfl
@[simp] theorem RS.seq_ct (σ : SSt) (vh : VH) (f : SSt → VH → RS) : (RS.ct σ vh).seq f = .ct σ vh := rfl
@[simp] theorem RS.seq_exc (c : Nat) (fs : Option (List (Str × VV))) (σ : SSt) (vh : VH) (f : SSt → VH → RS) : (RS.exc c fs σ vh).seq f = .exc c fs σ vh := rfl
@[simp] theorem RS.seq_stuck (f : SSt → VH → RS) : (RS.stuck).seq f = .stuck := rfl
inductive Cn where
  | non | bl (b : Bool) | int (i : Int) | str (s : Str)
  deriving DecidableEq
@[simp] def Cn.vv : Cn → VV
  | .non => .non
  | .bl b => .bl b
  | .int i => .int i
  | .str s => .str s
/-- binary operators -/
inductive BO where
  | add | sub | mul | fdiv | mod | pow | shl | shr | band
  deriving DecidableEq
inductive CO where
  | eq | ne | lt | le | gt | ge | isn | notn | isin | notin
  deriving DecidableEq
/-- built-in functions of values -/
inductive BI where
  | len | abs | min2 | max2 | int | list | tuple | sum | all | any | sorted
  deriving DecidableEq
/-- forms with one operand: list(reversed(x)), list(range(n)), list(reversed(range(n))), n.bit_length() -/
inductive O1 where
  | lrev | lrg | lrr | bits | ev0 | ev1 | lval | nset
  deriving DecidableEq
/-- methods of built-in types -/
inductive ME where
  | append | pop | popAt | insert | reverse | clear | extend | count | join | setdef
  deriving DecidableEq
mutual
inductive E where
  | nm (i : Nat)
  | gl (j : Nat)
  | cn (c : Cn)
  | bin (o : BO) (a b : E)
  | neg (a : E)
  | cmp (o : CO) (a b : E)
  | chain (o1 o2 : CO) (a b c : E)
  | one (a : E)
  | and (a b : E)
  | or (a b : E)
  | not (b : E)
  | ife (t : B) (a b : E)
  | tup (es : Es)
  | lst (es : Es)
  | dnew
  | ix (a b : E)
  | slc (a : E) (lo hi : Oe)
  | call (f : Nat) (es : Es)
  | bi (f : BI) (es : Es)
  | me (m : ME) (o : E) (es : Es)
  | isi (a : E) (t : String)
  | o1 (k : O1) (a : E)
  | lc (elt : E) (t : T) (it : I) (ifs : Bs) (own : List Nat)
  | isx (cs : List Nat)
  | isv (a : E) (cs : List Nat)
inductive Es where
  | nil
  | cons (e : E) (es : Es)
inductive Oe where
  | none
  | some (e : E)
inductive B where
  | cmp (o : CO) (a b : E)
  | chain (o1 o2 : CO) (a b c : E)
  | one (a : B)
  | and (a b : B)
  | or (a b : B)
  | not (a : B)
  | tr (e : E)
inductive Bs where
  | nil
  | one (b : B)
inductive T where
  | nm (i : Nat)
  | tup (ts : Ts)
  | sub (o i : E)
inductive Ts where
  | nil
  | cons (t : T) (ts : Ts)
inductive I where
  | sq (e : E)
  | rng1 (a : E)
  | rng2 (a b : E)
  | rev (e : E)
  | zip (a b : E)
  | enum (a : E)
end
mutual
def T.slots : T → List Nat
  | .nm i => [i]
  | .tup ts => Ts.slots ts
  | .sub _ _ => []
def Ts.slots : Ts → List Nat
  | .nil => []
  | .cons t ts => T.slots t ++ Ts.slots ts
end
@[simp] def Ts.len : Ts → Nat
  | .nil => 0
  | .cons _ ts => Ts.len ts + 1
mutual
inductive S where
  | expr (e : E)
  | asg (t : T) (e : E)
  | set (i : Nat) (e : E)
  | setLc (i : Nat) (elt : E) (t : T) (it : I) (ifs : Bs) (own : List Nat)
  | par (i j : Nat) (a b : E)
  | aug (i : Nat) (o : BO) (e : E)
  | ret (e : E)
  | ret0
  | ife (t : B) (a b : Ss)
  | whl (t : B) (b : Ss)
  | fr (t : T) (it : I) (b : Ss)
  | augS (a : E) (o : BO) (j e : E)
  | any
  | pass | brk | cont
  | raise (d : Nat)
  | tryc (i : Option Nat) (e : Nat) (b h : Ss)
  | tryk (i e : Nat) (b : Ss) (j : Nat)
  | fx (s : S)
inductive Ss where
  | nil
  | cons (s : S) (r : Ss)
end
@[simp] def allInts : List VV → Option (List Int)
  | [] => some []
  | .int i :: r => (allInts r).map (i :: ·)
  | _ :: _ => none
@[simp] def allBls : List VV → Option (List Bool)
  | [] => some []
  | .bl b :: r => (allBls r).map (b :: ·)
  | _ :: _ => none
@[simp] def allStrs : List VV → Option (List Str)
  | [] => some []
  | .str s :: r => (allStrs r).map (s :: ·)
  | _ :: _ => none
@[simp] def allPrs : List VV → Option (List (Int × Int))
  | [] => some []
  | .tup [.int i, .int j] :: r => (allPrs r).map ((i, j) :: ·)
  | _ :: _ => none
/-- a list that is read -/
@[simp] def seqL (vh : VH) (n : Nat) : Option (List VV) :=
  match vh[n]? with
  | some (.lst xs) => some xs
  | some (.rol xs) => some xs
  | _ => none
/-- the items of a list or a tuple -/
@[simp] def seqV (vh : VH) : VV → Option (List VV)
  | .tup xs => some xs
  | .ref n => seqL vh n
  | _ => none
def lineZ : Nat := 16777216
instance decMulOk (i j : Int) : Decidable (IntMulOk i j) := inferInstanceAs (Decidable (¬ _))
@[simp] def sBin : BO → VV → VV → VH → Res VV
  | .add, .int i, .int j, vh => .ok (.int (i + j)) vh
  | .add, .str i, .str j, vh => if i.length + j.length ≤ lineZ then .ok (.str (i ++ j)) vh else .stuck
  | .add, .ref m, .ref n, vh => match vh[m]?, vh[n]? with
    | some (.lst xs), some (.lst ys) => if xs.length + ys.length ≤ lineZ then .ok (.ref vh.length) (vh ++ [.lst (xs ++ ys)]) else .stuck
    | _, _ => .stuck
  | .add, .tup xs, .tup ys, vh => if xs.length + ys.length ≤ lineZ ∧ xs.isEmpty = false ∧ ys.isEmpty = false then .ok (.tup (xs ++ ys)) vh else .stuck
  | .sub, .int i, .int j, vh => .ok (.int (i - j)) vh
  | .mul, .int i, .int j, vh => if IntMulOk i j then .ok (.int (i * j)) vh else .stuck
  | .mul, .ref n, .int k, vh => match vh[n]? with
    | some (.lst xs) => if k.natAbs ≤ 9223372036854775807 ∧ xs.length * k.toNat ≤ lineZ then .ok (.ref vh.length) (vh ++ [.lst (List.replicate k.toNat xs).flatten]) else .stuck
    | _ => .stuck
  | .fdiv, .int i, .int j, vh => if 0 < j ∧ (j.natAbs ≤ 18446744073709551615 ∨ j.natAbs.log2 < 9000) then .ok (.int (i / j)) vh else .stuck
  | .mod, .int i, .int j, vh => if 0 < j then .ok (.int (i % j)) vh else .stuck
  | .pow, .int i, .int j, vh => if 0 ≤ j ∧ j.natAbs ≤ 1000000 ∧ i.natAbs ≤ 18446744073709551615 then .ok (.int (i ^ j.toNat)) vh else .stuck
  | .shl, .int i, .int j, vh => if 0 ≤ j ∧ j.natAbs ≤ 1000000 ∧ i.natAbs ≤ 18446744073709551615 then .ok (.int (i * 2 ^ j.toNat)) vh else .stuck
  | .shr, .int i, .int j, vh => if 0 ≤ j then .ok (.int (i / 2 ^ j.toNat)) vh else .stuck
  | .band, .int i, .int j, vh => .ok (.int (Builtin.bitAnd i j)) vh
  | _, _, _, _ => .stuck
/-- x op= y of ints and texts: a new value (of lists it would change the elder one: not here) -/
@[simp] def sAug : BO → VV → VV → VH → Res VV
  | .add, .int i, .int j, vh => .ok (.int (i + j)) vh
  | .add, .str i, .str j, vh => if i.length + j.length ≤ lineZ then .ok (.str (i ++ j)) vh else .stuck
  | .sub, .int i, .int j, vh => .ok (.int (i - j)) vh
  | .fdiv, .int i, .int j, vh => if 0 < j ∧ j.natAbs ≤ 1073741823 then .ok (.int (i / j)) vh else .stuck
  | _, _, _, _ => .stuck
/-- the scalars that == tells apart by their form -/
@[simp] def scalV : VV → VV → Bool
  | .non, .non => true | .non, .int _ => true | .int _, .non => true | .non, .bl _ => true | .bl _, .non => true | .non, .str _ => true | .str _, .non => true
  | .int _, .int _ => true | .bl _, .bl _ => true | .str _, .str _ => true
  | .int _, .str _ => true | .str _, .int _ => true | .bl _, .str _ => true | .str _, .bl _ => true
  | _, _ => false
@[simp] def eqS : VV → VV → Bool
  | .non, .non => true
  | .int i, .int j => decide (i = j)
  | .bl i, .bl j => decide (i = j)
  | .str i, .str j => decide (i = j)
  | _, _ => false
mutual
def dat (vh : VH) : Nat → VV → Option PyData
  | 0, _ => none
  | _ + 1, .non => some .none
  | _ + 1, .bl b => some (.bool b)
  | _ + 1, .int i => some (.int i)
  | _ + 1, .str s => some (.str s)
  | k + 1, .tup xs => (dats vh k xs).map .tuple
  | k + 1, .ref n => match seqL vh n with
    | some xs => (dats vh k xs).map .list
    | none => none
def dats (vh : VH) : Nat → List VV → Option (List PyData)
  | _, [] => some []
  | k, x :: xs => match dat vh k x, dats vh k xs with
    | some d, some ds => some (d :: ds)
    | _, _ => none
end
@[simp] def eqD (vh : VH) (x y : VV) : Option Bool :=
  if scalV x y = true then some (eqS x y) else
  match dat vh 66 x, dat vh 66 y with
  | some d, some e => if SeqAt.shaped d = true ∧ SeqAt.shaped e = true then some (PyData.eqv d e) else none
  | _, _ => none
@[simp] def flatVV : VV → Bool
  | .non => true
  | .bl _ => true
  | .int _ => true
  | .str _ => true
  | _ => false
@[simp] def eqVV : VV → VV → Bool
  | .non, .non => true
  | .bl a, .bl b => a == b
  | .bl a, .int b => (if a then 1 else 0) == b
  | .int a, .bl b => a == (if b then 1 else 0)
  | .int a, .int b => a == b
  | .str a, .str b => a == b
  | _, _ => false
@[simp] def inVV (x : VV) (xs : List VV) : Bool := xs.any fun y => eqVV y x
@[simp] def keyOf : VV → Option Key
  | .int i => some (.inl i)
  | .str s => some (.inr s)
  | _ => none
@[simp] def isNon : VV → Bool
  | .non => true
  | _ => false
def lookK {β : Type} (kvs : List (Key × β)) (k : Key) : Option β := (kvs.find? fun kv => decide (kv.1 = k)).map (·.2)
def putKK {β : Type} (kvs : List (Key × β)) (k : Key) (v : β) : List (Key × β) :=
  if kvs.any (fun kv => decide (kv.1 = k)) then kvs.map fun kv => if kv.1 = k then (kv.1, v) else kv else kvs ++ [(k, v)]
def dropKK {β : Type} (kvs : List (Key × β)) (k : Key) : List (Key × β) := kvs.filter fun kv => decide (kv.1 ≠ k)
/-- x in y -/
@[simp] def inB (vh : VH) (x y : VV) : Option Bool :=
  match y with
  | .tup ys => if flatVV x = true ∧ ys.all flatVV = true then some (inVV x ys) else none
  | .str t => match x with
    | .str s => some (!(Builtin.Str.occurrences t s 0 t.length 1).isEmpty)
    | _ => none
  | .ref n => match vh[n]? with
    | some (.lst ys) => if flatVV x = true ∧ ys.all flatVV = true then some (inVV x ys) else none
    | some (.rol ys) => if flatVV x = true ∧ ys.all flatVV = true then some (inVV x ys) else none
    | some (.dct kvs) => match keyOf x with
      | some k => some (lookK kvs k).isSome
      | none => none
    | _ => none
  | _ => none
@[simp] def okB (r : Option Bool) (vh : VH) : Res VV := match r with
  | some b => .ok (.bl b) vh
  | none => .stuck
@[simp] def sCmp : CO → VV → VV → VH → Res VV
  | .eq, x, y, vh => okB (eqD vh x y) vh
  | .ne, x, y, vh => okB ((eqD vh x y).map (!·)) vh
  | .lt, .int i, .int j, vh => .ok (.bl (decide (i < j))) vh
  | .le, .int i, .int j, vh => .ok (.bl (decide (i ≤ j))) vh
  | .gt, .int i, .int j, vh => .ok (.bl (decide (j < i))) vh
  | .ge, .int i, .int j, vh => .ok (.bl (decide (j ≤ i))) vh
  | .lt, .str i, .str j, vh => .ok (.bl (decide (i.cps.toList < j.cps.toList))) vh
  | .isn, x, .non, vh => .ok (.bl (isNon x)) vh
  | .notn, x, .non, vh => .ok (.bl (!isNon x)) vh
  | .isin, x, y, vh => okB (inB vh x y) vh
  | .notin, x, y, vh => okB ((inB vh x y).map (!·)) vh
  | _, _, _, _ => .stuck
def cutL {α : Type} (xs : List α) (lo hi : Option Int) : List α := (xs.drop (HT.sIx xs.length 0 lo)).take (HT.sIx xs.length xs.length hi - HT.sIx xs.length 0 lo)
@[simp] def sSlc (x : VV) (lo hi : Option Int) (vh : VH) : Res VV :=
  match x with
  | .ref n => match seqL vh n with
    | some xs => .ok (.ref vh.length) (vh ++ [.lst (cutL xs lo hi)])
    | none => .stuck
  | .tup xs => if HT.sIx xs.length 0 lo = 0 ∧ HT.sIx xs.length xs.length hi = xs.length then .stuck else .ok (.tup (cutL xs lo hi)) vh
  | _ => .stuck
@[simp] def okO (r : Option VV) (vh : VH) : Res VV := match r with
  | some v => .ok v vh
  | none => .stuck
/-- the item at a place -/
@[simp] def ixI {α : Type} (xs : List α) : VV → Option α
  | .int i => atI xs i
  | _ => none
@[simp] def sIx (x i : VV) (vh : VH) : Res VV :=
  match x with
  | .tup xs => okO (ixI xs i) vh
  | .str z => if z.length ≤ lineZ then okO ((ixI z.cps.toList i).map fun c => .str ⟨#[c]⟩) vh else .stuck
  | .ref n => match vh[n]? with
    | some (.lst xs) => okO (ixI xs i) vh
    | some (.rol xs) => okO (ixI xs i) vh
    | some (.dct kvs) => okO ((keyOf i).bind fun k => lookK kvs k) vh
    | _ => .stuck
  | _ => .stuck
/-- a value's truth -/
@[simp] def truV (x : VV) (vh : VH) : Option Bool :=
  match x with
  | .non => some false
  | .bl b => some b
  | .int i => some (i != 0)
  | .str s => if s.length ≤ lineZ then some (s.length != 0) else none
  | .tup xs => some (!xs.isEmpty)
  | .ref n => match vh[n]? with
    | some (.lst xs) => some (!xs.isEmpty)
    | some (.rol xs) => some (!xs.isEmpty)
    | some (.dct kvs) => some (!kvs.isEmpty)
    | _ => none
@[simp] def sBI : BI → List VV → VH → Res VV
  | .len, [.str s], vh => if s.length ≤ lineZ then .ok (.int s.length) vh else .stuck
  | .len, [.tup xs], vh => .ok (.int xs.length) vh
  | .len, [.ref n], vh => match vh[n]? with
    | some (.lst xs) => .ok (.int xs.length) vh
    | some (.rol xs) => .ok (.int xs.length) vh
    | some (.dct xs) => .ok (.int xs.length) vh
    | _ => .stuck
  | .abs, [.int i], vh => .ok (.int (if i < 0 then -i else i)) vh
  | .min2, [.int i, .int j], vh => .ok (.int (if j < i then j else i)) vh
  | .max2, [.int i, .int j], vh => .ok (.int (if j > i then j else i)) vh
  | .int, [.int i], vh => .ok (.int i) vh
  | .int, [.bl b], vh => .ok (.int (if b then 1 else 0)) vh
  | .list, [x], vh => match seqV vh x with
    | some xs => .ok (.ref vh.length) (vh ++ [.lst xs])
    | none => .stuck
  | .tuple, [x], vh => match seqV vh x with
    | some xs => .ok (.tup xs) vh
    | none => .stuck
  | .sum, [.ref n], vh => match seqL vh n with
    | some xs => match allInts xs with
      | some ns => .ok (.int ns.sum) vh
      | none => .stuck
    | none => .stuck
  | .all, [.ref n], vh => match seqL vh n with
    | some xs => match allBls xs with
      | some bs => .ok (.bl (bs.all id)) vh
      | none => .stuck
    | none => .stuck
  | .any, [.ref n], vh => match seqL vh n with
    | some xs => match allBls xs with
      | some bs => .ok (.bl (bs.any id)) vh
      | none => .stuck
    | none => .stuck
  | .sorted, [.ref n], vh => match seqL vh n with
    | some xs => match allInts xs with
      | some ns => .ok (.ref vh.length) (vh ++ [.lst ((srtI ns).map .int)])
      | none => match allPrs xs with
        | some ps => .ok (.ref vh.length) (vh ++ [.lst ((srtP ps).map fun p => .tup [.int p.1, .int p.2])])
        | none => .stuck
    | none => .stuck
  | _, _, _ => .stuck
@[simp] def isLst (x : VV) (vh : VH) : Bool := match x with
  | .ref n => (seqL vh n).isSome
  | _ => false
/-- the type that a method of a built-in type is of -/
def ME.ty : ME → String
  | .join => "str"
  | .setdef => "dict"
  | _ => "list"
@[simp] def isStrV : VV → Bool
  | .str _ => true
  | _ => false
@[simp] def isDct (x : VV) (vh : VH) : Bool := match x with
  | .ref n => match vh[n]? with
    | some (.dct _) => true
    | _ => false
  | _ => false
@[simp] def tyOk (m : ME) (x : VV) (vh : VH) : Bool := match m with
  | .join => isStrV x
  | .setdef => isDct x vh
  | _ => isLst x vh
/-- the name of a value's type -/
@[simp] def tyN (x : VV) (vh : VH) : Option String := match x with
  | .non => some "NoneType"
  | .bl _ => some "bool"
  | .int _ => some "int"
  | .str _ => some "str"
  | .tup _ => some "tuple"
  | .ref n => match vh[n]? with
    | some (.lst _) => some "list"
    | some (.rol _) => some "list"
    | some (.dct _) => some "dict"
    | _ => none
/-- isinstance, of the built-in types named here -/
@[simp] def subTy (a b : String) : Bool := a == b || (a == "bool" && b == "int")
def tyNames : List String := ["bool", "int", "str", "tuple", "list", "dict"]
@[simp] def sME : ME → VV → List VV → VH → Res VV
  | .append, .ref n, [y], vh => match vh[n]? with
    | some (.lst xs) => if xs.length < lineZ then .ok .non (vh.set n (.lst (xs ++ [y]))) else .stuck
    | _ => .stuck
  | .pop, .ref n, [], vh => match vh[n]? with
    | some (.lst xs) => match xs[xs.length - 1]? with
      | some y => .ok y (vh.set n (.lst xs.dropLast))
      | none => .stuck
    | _ => .stuck
  | .popAt, .ref n, [.int i], vh => match vh[n]? with
    | some (.lst xs) => match seqIndex? i xs.length with
      | some k => match xs[k]? with
        | some y => if i.natAbs ≤ 9223372036854775807 then .ok y (vh.set n (.lst (xs.eraseIdx k))) else .stuck
        | none => .stuck
      | none => .stuck
    | _ => .stuck
  | .insert, .ref n, [.int i, y], vh => match vh[n]? with
    | some (.lst xs) => if xs.length < lineZ ∧ 0 ≤ i ∧ i.natAbs ≤ 9223372036854775807 then .ok .non (vh.set n (.lst (xs.take i.toNat ++ [y] ++ xs.drop i.toNat))) else .stuck
    | _ => .stuck
  | .reverse, .ref n, [], vh => match vh[n]? with
    | some (.lst xs) => .ok .non (vh.set n (.lst xs.reverse))
    | _ => .stuck
  | .clear, .ref n, [], vh => match vh[n]? with
    | some (.lst xs) => .ok .non (vh.set n (.lst []))
    | _ => .stuck
  | .extend, .ref n, [.ref m], vh => match vh[n]?, vh[m]? with
    | some (.lst xs), some (.lst ys) => if xs.length + ys.length ≤ lineZ then .ok .non (vh.set n (.lst (xs ++ ys))) else .stuck
    | _, _ => .stuck
  | .count, .ref n, [.int k], vh => match seqL vh n with
    | some xs => match allInts xs with
      | some ns => .ok (.int (ns.count k : Nat)) vh
      | none => .stuck
    | none => .stuck
  | .setdef, .ref n, [k, v], vh => match vh[n]? with
    | some (.dct kvs) => match keyOf k with
      | some key => if kvs.length < lineZ then match lookK kvs key with
          | some u => .ok u vh
          | none => .ok v (vh.set n (.dct (putKK kvs key v)))
        else .stuck
      | none => .stuck
    | _ => .stuck
  | .join, .str a, [.ref n], vh => match seqL vh n with
    | some xs => match allStrs xs with
      | some ys => if (ys.map (·.length)).sum + ys.length * a.length ≤ 16777216 then .ok (.str (Txt.join a ys)) vh else .stuck
      | none => .stuck
    | none => .stuck
  | _, _, _, _ => .stuck
/-- x[i] = v -/
@[simp] def ixP (n : Nat) : VV → Option Nat
  | .int k => ixN n k
  | _ => none
@[simp] def sSet (o i v : VV) (vh : VH) : Res Unit :=
  match o with
  | .ref n => match vh[n]? with
    | some (.lst xs) => match ixP xs.length i with
      | some j => .ok () (vh.set n (.lst (xs.set j v)))
      | none => .stuck
    | some (.dct kvs) => match keyOf i with
      | some k => if kvs.length < lineZ then .ok () (vh.set n (.dct (putKK kvs k v))) else .stuck
      | none => .stuck
    | _ => .stuck
  | _ => .stuck
inductive Ito where
  | lst (n : Nat)
  | tup (xs : List VV)
  | rng (lo : Int) (n : Nat)
  | revL (n : Nat) (k : Nat)
  | zipL (m n : Nat)
  | zipT (xs ys : List VV)
  | enumL (n : Nat)
/-- turn i: none is stuck, some none is the end -/
def Ito.nx (it : Ito) (i : Nat) (vh : VH) : Option (Option VV) :=
  match it with
  | .lst n => (seqL vh n).map fun xs => xs[i]?
  | .tup xs => some xs[i]?
  | .rng lo n => some (if i < n then some (.int (lo + i)) else none)
  | .revL n k => (seqL vh n).bind fun xs => if xs.length = k then some (xs.reverse[i]?) else none
  | .zipT xs ys => some (match xs[i]?, ys[i]? with
    | some x, some y => some (.tup [x, y])
    | _, _ => none)
  | .zipL m n => match seqL vh m, seqL vh n with
    | some xs, some ys => some (match xs[i]?, ys[i]? with
      | some x, some y => some (.tup [x, y])
      | _, _ => none)
    | _, _ => none
  | .enumL n => (seqL vh n).map fun xs => (xs[i]?).map fun x => .tup [.int i, x]
def small62 (j : Int) : Prop := j.natAbs ≤ 4611686018427387903
instance (j : Int) : Decidable (small62 j) := inferInstanceAs (Decidable (_ ≤ _))
def rngVV (n : Nat) : List VV := (List.range n).map fun k => .int ((0 : Int) + (k : Nat))
@[simp] def sO1 : O1 → VV → VH → Res VV
  | .lrev, .ref n, vh => match seqL vh n with
    | some xs => .ok (.ref vh.length) (vh ++ [.lst xs.reverse])
    | none => .stuck
  | .lrg, .int j, vh => if small62 j ∧ j.toNat ≤ lineZ then .ok (.ref vh.length) (vh ++ [.lst (rngVV j.toNat)]) else .stuck
  | .lrr, .int j, vh => if small62 j ∧ j.toNat ≤ lineZ then .ok (.ref vh.length) (vh ++ [.lst (rngVV j.toNat).reverse]) else .stuck
  | .bits, .int i, vh => .ok (.int (Builtin.Int.intBits i : Nat)) vh
  | .lval, .ref n, vh => match vh[n]? with
    | some (.dct kvs) => .ok (.ref vh.length) (vh ++ [.lst (kvs.map (·.2))])
    | _ => .stuck
  | .nset, .ref n, vh => match seqL vh n with
    | some xs => match allInts xs with
      | some ns => if ns.length < 64 ∧ ns.Nodup then .ok (.int ns.length) vh else .stuck
      | none => .stuck
    | none => .stuck
  | .ev0, .ref n, vh => match seqL vh n with
    | some xs => .ok (.ref vh.length) (vh ++ [.lst (ev2 (xs.drop 0))])
    | none => .stuck
  | .ev1, .ref n, vh => match seqL vh n with
    | some xs => .ok (.ref vh.length) (vh ++ [.lst (ev2 (xs.drop 1))])
    | none => .stuck
  | _, _, _ => .stuck
/-- x[i], of a list or dict that may be changed -/
@[simp] def sGet (x i : VV) (vh : VH) : Res VV :=
  match x with
  | .ref n => match vh[n]? with
    | some (.lst xs) => okO (ixI xs i) vh
    | some (.dct kvs) => okO ((keyOf i).bind fun k => lookK kvs k) vh
    | _ => .stuck
  | _ => .stuck
@[simp] def wipeS (σ : SSt) : List Nat → SSt
  | [] => σ
  | v :: vs => (wipeS σ vs).set v none
/-- a for statement's turn -/
def frB (a : VV → SSt → VH → RS) (b : SSt → VH → RS) : VV → SSt → VH → RS := fun x σ vh => (a x σ vh).seq b
/-- a loop's turns: fuel, turn -/
def forF (it : Ito) (body : VV → SSt → VH → RS) : Nat → Nat → SSt → VH → RS
  | 0, _, _, _ => .stuck
  | f + 1, i, σ, vh => match it.nx i vh with
    | none => .stuck
    | some none => .nx σ vh
    | some (some x) => match body x σ vh with
      | .nx σ vh => forF it body f (i + 1) σ vh
      | .ct σ vh => forF it body f (i + 1) σ vh
      | .bk σ vh => .nx σ vh
      | r => r
def whlF (test : SSt → VH → Res Bool) (body : SSt → VH → RS) : Nat → SSt → VH → RS
  | 0, _, _ => .stuck
  | f + 1, σ, vh => (test σ vh).go σ fun b vh => if b = true then match body σ vh with
      | .nx σ vh => whlF test body f σ vh
      | .ct σ vh => whlF test body f σ vh
      | .bk σ vh => .nx σ vh
      | r => r
    else .nx σ vh
/-- a comprehension's turns: the list grows at D -/
def lcF (it : Ito) (own : List Nat) (D : Nat) (asg : VV → SSt → VH → RS) (ifs : SSt → VH → Res Bool) (elt : SSt → VH → Res VV) (σ : SSt) : Nat → Nat → VH → Res VV
  | 0, _, _ => .stuck
  | f + 1, i, vh => match it.nx i vh with
    | none => .stuck
    | some none => .ok (.ref D) vh
    | some (some x) => match asg x (wipeS σ own) vh with
      | .nx σ2 vh => (ifs σ2 vh).noexc.bind fun b vh => if b = true then (elt σ2 vh).noexc.bind fun y vh => match vh[D]? with
          | some (.lst acc) => if acc.length < lineZ then lcF it own D asg ifs elt σ f (i + 1) (vh.set D (.lst (acc ++ [y]))) else .stuck
          | _ => .stuck
        else lcF it own D asg ifs elt σ f (i + 1) vh
      | _ => .stuck
/-- the program's own ones, and ValueError, by number -/
def clsNm : Nat → Option Str
  | 0 => some "CreditError" | 1 => some "NoNumber" | 2 => some "Overdrawn" | 3 => some "Empty" | 4 => some "NoThing" | 5 => some "Lacking" | 6 => some "AtTop"
  | 7 => some "NoPlace" | 8 => some "Mixed" | 9 => some "NoName" | 10 => some "Twice" | 11 => some "NotLess" | 12 => some "NoRow" | 13 => some "ValueError"
  | _ => none
/-- d is e or below it -/
def subX (d e : Nat) : Bool := d == e || e == 13 || e == 0
/-- the number by which a suite asks for the class that it holds -/
def hotF : Nat := 1000000000
def killS (i : Option Nat) (σ : SSt) : SSt := match i with
  | some i => σ.set i none
  | none => σ
/-- behind an except suite -/
def finR (i : Option Nat) : RS → RS
  | .nx σ vh => .nx (killS i σ) vh
  | .rt v σ vh => .rt v σ vh
  | .bk σ vh => .bk (killS i σ) vh
  | .ct σ vh => .ct (killS i σ) vh
  | _ => .stuck
structure Gam where
  fn : Nat → List VV → VH → Res VV
  gl : Nat → Option VV
  N : Nat
/-- in a suite that holds an exception of class d -/
@[simp] def Gam.heat (G : Gam) (d : Nat) : Gam := ⟨fun f xs vh => if f = hotF then .ok (.int d) vh else G.fn f xs vh, G.gl, G.N⟩
mutual
@[simp] def ev (G : Gam) : E → SSt → VH → Res VV
  | .nm i, σ, vh => match σ[i]? with
    | some (some v) => .ok v vh
    | _ => .stuck
  | .gl j, _, vh => match G.gl j with
    | some v => .ok v vh
    | none => .stuck
  | .cn c, _, vh => .ok c.vv vh
  | .bin o a b, σ, vh => (ev G a σ vh).bind fun x vh => (ev G b σ vh).bind fun y vh => sBin o x y vh
  | .neg a, σ, vh => (ev G a σ vh).bind fun x vh => match x with
    | .int i => .ok (.int (-i)) vh
    | _ => .stuck
  | .cmp o a b, σ, vh => (ev G a σ vh).bind fun x vh => (ev G b σ vh).bind fun y vh => sCmp o x y vh
  | .chain o1 o2 a b c, σ, vh => (ev G a σ vh).bind fun x vh => (ev G b σ vh).bind fun y vh => (sCmp o1 x y vh).bind fun z vh => match z with
    | .bl true => (ev G c σ vh).bind fun w vh => sCmp o2 y w vh
    | .bl false => .ok (.bl false) vh
    | _ => .stuck
  | .one a, σ, vh => ev G a σ vh
  | .and a b, σ, vh => (ev G a σ vh).bind fun x vh => match x with
    | .bl true => ev G b σ vh
    | .bl false => .ok (.bl false) vh
    | _ => .stuck
  | .or a b, σ, vh => (ev G a σ vh).bind fun x vh => match x with
    | .bl true => .ok (.bl true) vh
    | .bl false => ev G b σ vh
    | _ => .stuck
  | .not a, σ, vh => (ev G a σ vh).bind fun x vh => match x with
    | .bl b => .ok (.bl (!b)) vh
    | _ => .stuck
  | .ife t a b, σ, vh => (tst G t σ vh).bind fun c vh => if c = true then ev G a σ vh else ev G b σ vh
  | .tup es, σ, vh => (evs G es σ vh).bind fun xs vh => if xs.length ≤ lineZ then .ok (.tup xs) vh else .stuck
  | .lst es, σ, vh => (evs G es σ vh).bind fun xs vh => if xs.length ≤ lineZ then .ok (.ref vh.length) (vh ++ [.lst xs]) else .stuck
  | .dnew, _, vh => .ok (.ref vh.length) (vh ++ [.dct []])
  | .ix a b, σ, vh => (ev G a σ vh).bind fun x vh => (ev G b σ vh).bind fun y vh => sIx x y vh
  | .slc a lo hi, σ, vh => (ev G a σ vh).bind fun x vh => (evo G lo σ vh).bind fun l vh => (evo G hi σ vh).bind fun h vh => sSlc x l h vh
  | .call f es, σ, vh => (evs G es σ vh).bind fun xs vh => G.fn f xs vh
  | .bi f es, σ, vh => (evs G es σ vh).bind fun xs vh => sBI f xs vh
  | .me m o es, σ, vh => (ev G o σ vh).bind fun x vh => if tyOk m x vh = true then (evs G es σ vh).bind fun xs vh => sME m x xs vh else .stuck
  | .o1 k a, σ, vh => (ev G a σ vh).bind fun x vh => sO1 k x vh
  | .isi a t, σ, vh => (ev G a σ vh).bind fun x vh => match tyN x vh with
    | some n => .ok (.bl (subTy n t)) vh
    | none => .stuck
  | .lc elt t it ifs own, σ, vh => (evI G it σ vh).bind fun J vh => lcF J own vh.length (asgT G t) (tsts G ifs) (ev G elt) σ G.N 0 (vh ++ [.lst []])
  | .isx cs, _, vh => match G.fn hotF [] vh with
    | .ok (.int d) _ => .ok (.bl (cs.any fun e => subX d.toNat e)) vh
    | _ => .stuck
  | .isv a cs, σ, vh => (ev G a σ vh).bind fun x vh => match x with
    | .ref n => match vh[n]? with
      | some (.exo d) => .ok (.bl (cs.any fun e => subX d e)) vh
      | _ => .stuck
    | _ => .stuck
@[simp] def evs (G : Gam) : Es → SSt → VH → Res (List VV)
  | .nil, _, vh => .ok [] vh
  | .cons e es, σ, vh => (ev G e σ vh).bind fun x vh => (evs G es σ vh).bind fun xs vh => .ok (x :: xs) vh
@[simp] def evo (G : Gam) : Oe → SSt → VH → Res (Option Int)
  | .none, _, vh => .ok none vh
  | .some e, σ, vh => (ev G e σ vh).bind fun x vh => match x with
    | .int i => .ok (some i) vh
    | _ => .stuck
@[simp] def tst (G : Gam) : B → SSt → VH → Res Bool
  | .cmp o a b, σ, vh => (ev G a σ vh).bind fun x vh => (ev G b σ vh).bind fun y vh => (sCmp o x y vh).bind fun z vh => match z with
    | .bl k => .ok k vh
    | _ => .stuck
  | .chain o1 o2 a b c, σ, vh => (ev G a σ vh).bind fun x vh => (ev G b σ vh).bind fun y vh => (sCmp o1 x y vh).bind fun z vh => match z with
    | .bl true => (ev G c σ vh).bind fun w vh => (sCmp o2 y w vh).bind fun z vh => match z with
      | .bl k => .ok k vh
      | _ => .stuck
    | .bl false => .ok false vh
    | _ => .stuck
  | .one a, σ, vh => tst G a σ vh
  | .and a b, σ, vh => (tst G a σ vh).bind fun c vh => if c = true then tst G b σ vh else .ok false vh
  | .or a b, σ, vh => (tst G a σ vh).bind fun c vh => if c = true then .ok true vh else tst G b σ vh
  | .not a, σ, vh => (tst G a σ vh).bind fun c vh => .ok (!c) vh
  | .tr e, σ, vh => (ev G e σ vh).bind fun x vh => match truV x vh with
    | some k => .ok k vh
    | none => .stuck
@[simp] def tsts (G : Gam) : Bs → SSt → VH → Res Bool
  | .nil, _, vh => .ok true vh
  | .one b, σ, vh => tst G b σ vh
@[simp] def asgT (G : Gam) : T → VV → SSt → VH → RS
  | .nm i, v, σ, vh => .nx (σ.set i (some v)) vh
  | .tup ts, v, σ, vh => match seqV vh v with
    | some xs => if xs.length = Ts.len ts then asgTs G ts xs σ vh else .stuck
    | none => .stuck
  | .sub o i, v, σ, vh => (ev G o σ vh).go σ fun x vh => (ev G i σ vh).go σ fun y vh => (sSet x y v vh).go σ fun _ vh => .nx σ vh
@[simp] def asgTs (G : Gam) : Ts → List VV → SSt → VH → RS
  | .nil, [], σ, vh => .nx σ vh
  | .cons t ts, x :: xs, σ, vh => (asgT G t x σ vh).seq fun σ vh => asgTs G ts xs σ vh
  | _, _, _, _ => .stuck
@[simp] def evI (G : Gam) : I → SSt → VH → Res Ito
  | .sq e, σ, vh => (ev G e σ vh).bind fun x vh => match x with
    | .tup xs => .ok (.tup xs) vh
    | .ref n => if (seqL vh n).isSome then .ok (.lst n) vh else .stuck
    | _ => .stuck
  | .rng1 a, σ, vh => (ev G a σ vh).bind fun x vh => match x with
    | .int j => if small62 j then .ok (.rng 0 j.toNat) vh else .stuck
    | _ => .stuck
  | .rng2 a b, σ, vh => (ev G a σ vh).bind fun x vh => (ev G b σ vh).bind fun y vh => match x, y with
    | .int i, .int j => if small62 i ∧ small62 j then .ok (.rng i (j - i).toNat) vh else .stuck
    | _, _ => .stuck
  | .rev e, σ, vh => (ev G e σ vh).bind fun x vh => match x with
    | .ref n => match seqL vh n with
      | some xs => .ok (.revL n xs.length) vh
      | none => .stuck
    | _ => .stuck
  | .zip a b, σ, vh => (ev G a σ vh).bind fun x vh => (ev G b σ vh).bind fun y vh => match x, y with
    | .ref m, .ref n => if (seqL vh m).isSome ∧ (seqL vh n).isSome then .ok (.zipL m n) vh else .stuck
    | .tup xs, .tup ys => .ok (.zipT xs ys) vh
    | _, _ => .stuck
  | .enum a, σ, vh => (ev G a σ vh).bind fun x vh => match x with
    | .ref n => if (seqL vh n).isSome then .ok (.enumL n) vh else .stuck
    | _ => .stuck
end
mutual
@[simp] def exec (G : Gam) : S → SSt → VH → RS
  | .expr e, σ, vh => (ev G e σ vh).go σ fun _ vh => .nx σ vh
  | .asg t e, σ, vh => (ev G e σ vh).go σ fun x vh => asgT G t x σ vh
  | .set i e, σ, vh => (ev G e σ vh).go σ fun x vh => .nx (σ.set i (some x)) vh
  | .setLc i elt t it ifs own, σ, vh => ((evI G it σ vh).bind fun J vh => lcF J own vh.length (asgT G t) (tsts G ifs) (ev G elt) σ G.N 0 (vh ++ [.lst []])).go σ fun x vh => .nx (σ.set i (some x)) vh
  | .par i j a b, σ, vh => (ev G a σ vh).go σ fun x vh => (ev G b σ vh).go σ fun y vh => .nx ((σ.set i (some x)).set j (some y)) vh
  | .aug i o e, σ, vh => match σ[i]? with
    | some (some x) => (ev G e σ vh).go σ fun y vh => (sAug o x y vh).go σ fun z vh => .nx (σ.set i (some z)) vh
    | _ => .stuck
  | .ret e, σ, vh => (ev G e σ vh).go σ fun x vh => .rt x σ vh
  | .ret0, σ, vh => .rt .non σ vh
  | .ife t a b, σ, vh => (tst G t σ vh).go σ fun c vh => if c = true then execs G a σ vh else execs G b σ vh
  | .whl t b, σ, vh => whlF (tst G t) (execs G b) G.N σ vh
  | .fr t it b, σ, vh => (evI G it σ vh).go σ fun J vh => forF J (frB (asgT G t) (execs G b)) G.N 0 σ vh
  | .augS a o j e, σ, vh => (ev G a σ vh).go σ fun x vh => (ev G j σ vh).go σ fun k vh => (sGet x k vh).go σ fun y vh => (ev G e σ vh).go σ fun z vh => (sAug o y z vh).go σ fun u vh => (sSet x k u vh).go σ fun _ vh => .nx σ vh
  | .any, _, _ => .stuck
  | .pass, σ, vh => .nx σ vh
  | .brk, σ, vh => .bk σ vh
  | .cont, σ, vh => .ct σ vh
  | .raise d, σ, vh => .exc d none σ vh
  | .tryc i e b h, σ, vh => match execs G b σ vh with
    | .exc d none σ' vh' => if subX d e = true then finR i (execs (G.heat d) h (killS i σ') vh') else .exc d none σ' vh'
    | .exc _ (some _) _ _ => .stuck
    | r => r
  | .tryk i e b j, σ, vh => match execs G b σ vh with
    | .exc d none σ' vh' => if subX d e = true then .nx ((σ'.set j (some (.ref vh'.length))).set i none) (vh' ++ [.exo d]) else .exc d none σ' vh'
    | .exc _ (some _) _ _ => .stuck
    | r => r
  | .fx s, σ, vh => exec G s σ vh
@[simp] def execs (G : Gam) : Ss → SSt → VH → RS
  | .nil, σ, vh => .nx σ vh
  | .cons s r, σ, vh => (exec G s σ vh).seq fun σ vh => execs G r σ vh
end
/-- a def's body, run -/
@[simp] def runB (r : RS) : Res VV :=
  match r with
  | .nx _ vh => .ok .non vh
  | .rt v _ vh => .ok v vh
  | .exc c fs _ vh => .exc c fs vh
  | _ => .stuck
structure Df where
  np : Nat
  nl : Nat
  body : Ss
  io : List Nat := []
structure Pg where
  fn : Nat → Option Df
  gl : Nat → Option VV
  N : Nat
/-- a call, so many levels deep -/
def callF (P : Pg) : Nat → Nat → List VV → VH → Res VV
  | 0, _, _, _ => .stuck
  | k + 1, f, xs, vh => match P.fn f with
    | some d => if xs.length = d.np then runB (execs ⟨callF P k, P.gl, P.N⟩ d.body (xs.map some ++ List.replicate (d.nl - d.np) none) vh) else .stuck
    | none => .stuck
end Fe
namespace Fe
open PySem PySem.Spec PyProof.Rows L2
/-- an exception's own dict -/
def XD (K : PySem.W.Frag) (μ : List Addr) (H : Hp) : Option (List (Str × VV)) → Option Addr → Prop
  | none, none => True
  | some fs, some d => ∃ gs, H d = some (.xd gs) ∧ fs.map (·.1) = gs.map (·.1) ∧ RVs K μ H (fs.map (·.2)) (gs.map (·.2))
  | _, _ => False
section
variable (K : PySem.W.Frag) (cls : Nat → Option Addr)
/-- what is wanted of a result -/
def out (We : Value → Option Addr → Hp → Prop) (μ : List Addr) (H : Hp) {α β : Type} (rel : List Addr → Hp → α → β → Prop) (Q : β → Hp → Prop) : Res α → Prop
  | .ok a vh' => ∀ b μ' H', Ext μ H μ' H' → HR K cls μ' vh' H' → rel μ' H' a b → Q b H'
  | .exc c fs vh' => ∀ C d μ' H', cls c = some C → Ext μ H μ' H' → HR K cls μ' vh' H' → XD K μ' H' fs d → We (.ref C) d H'
  | .stuck => False
inductive SR (μ : List Addr) (H : Hp) : SSt → L2.St → Prop
  | nil : SR μ H [] []
  | nn {x : Option V} {σ : SSt} {τ : L2.St} : SR μ H σ τ → SR μ H (none :: σ) (x :: τ)
  | sm {v : VV} {x : V} {σ : SSt} {τ : L2.St} : RV K μ H v x → SR μ H σ τ → SR μ H (some v :: σ) (some x :: τ)
def outS (W : WX) (D : Ends) (μ : List Addr) (H : Hp) : RS → Prop
  | .nx σ vh' => ∀ τ μ' H', Ext μ H μ' H' → HR K cls μ' vh' H' → SR K μ' H' σ τ → D.nx τ H'
  | .rt v _ vh' => ∀ x μ' H', Ext μ H μ' H' → HR K cls μ' vh' H' → RV K μ' H' v x → D.rt x H'
  | .bk σ vh' => ∀ τ μ' H', Ext μ H μ' H' → HR K cls μ' vh' H' → SR K μ' H' σ τ → D.bk τ H'
  | .ct σ vh' => ∀ τ μ' H', Ext μ H μ' H' → HR K cls μ' vh' H' → SR K μ' H' σ τ → D.ct τ H'
  | .exc c fs σ vh' => ∀ C d τ μ' H', cls c = some C → Ext μ H μ' H' → HR K cls μ' vh' H' → SR K μ' H' σ τ → XD K μ' H' fs d → W (.ref C) d τ H'
  | .stuck => False
/-- readings -/
def tE (W : WX) (m : SSt → VH → Res VV) : TE := fun τ H Q => ∃ μ σ vh, SR K μ H σ τ ∧ HR K cls μ vh H ∧ out K cls (fun c d H' => W c d τ H') μ H (RV K) Q (m σ vh)
def tA (W : WX) (m : SSt → VH → Res (List VV)) : TA := fun τ H Q => ∃ μ σ vh, SR K μ H σ τ ∧ HR K cls μ vh H ∧ out K cls (fun c d H' => W c d τ H') μ H (RVs K) Q (m σ vh)
def tB (W : WX) (m : SSt → VH → Res Bool) : TT := fun τ H Q => ∃ μ σ vh, SR K μ H σ τ ∧ HR K cls μ vh H ∧ out K cls (fun c d H' => W c d τ H') μ H (fun _ _ a b => a = b) Q (m σ vh)
def tO (W : WX) (m : SSt → VH → Res (Option Int)) : TO := fun τ H Q => ∃ μ σ vh, SR K μ H σ τ ∧ HR K cls μ vh H ∧ out K cls (fun c d H' => W c d τ H') μ H (fun _ _ a b => a = b) Q (m σ vh)
def tSt (W : WX) (m : SSt → VH → RS) : TS := fun D τ H => ∃ μ σ vh, SR K μ H σ τ ∧ HR K cls μ vh H ∧ outS K cls W D μ H (m σ vh)
end
section
variable {K : PySem.W.Frag} {cls : Nat → Option Addr} {We : Value → Option Addr → Hp → Prop} {W : WX} {μ μ' : List Addr} {H H' : Hp}
theorem SR.mono (e : Ext μ H μ' H') : ∀ {σ : SSt} {τ : L2.St}, SR K μ H σ τ → SR K μ' H' σ τ
  | _, _, .nil => .nil
  | _, _, .nn t => .nn (SR.mono e t)
  | _, _, .sm r t => .sm (r.mono e) (SR.mono e t)
theorem SR.get : ∀ {σ : SSt} {τ : L2.St} {i : Nat} {v : VV}, SR K μ H σ τ → σ[i]? = some (some v) → ∃ x, τ[i]? = some (some x) ∧ RV K μ H v x
  | _, _, _, _, .nil, h => by simp at h
  | _, _, 0, _, .nn t, h => by simp at h
  | _, _, i + 1, _, .nn t, h => by
    obtain ⟨x, h1, h2⟩ := SR.get (i := i) t (by simpa using h)
    exact ⟨x, by simpa using h1, h2⟩
  | _, _, 0, _, .sm r t, h => by simp at h; subst h; exact ⟨_, rfl, r⟩
  | _, _, i + 1, _, .sm r t, h => by
    obtain ⟨x, h1, h2⟩ := SR.get (i := i) t (by simpa using h)
    exact ⟨x, by simpa using h1, h2⟩
theorem SR.set {v : VV} {x : V} (r : RV K μ H v x) : ∀ {σ : SSt} {τ : L2.St} (i : Nat), SR K μ H σ τ → SR K μ H (σ.set i (some v)) (τ.set i (some x))
  | _, _, _, .nil => .nil
  | _, _, 0, .nn t => .sm r t
  | _, _, i + 1, .nn t => .nn (SR.set r i t)
  | _, _, 0, .sm _ t => .sm r t
  | _, _, i + 1, .sm q t => .sm q (SR.set r i t)
theorem SR.unset : ∀ {σ : SSt} {τ : L2.St} (i : Nat), SR K μ H σ τ → SR K μ H (σ.set i none) (τ.set i none)
  | _, _, _, .nil => .nil
  | _, _, 0, .nn t => .nn t
  | _, _, i + 1, .nn t => .nn (SR.unset i t)
  | _, _, 0, .sm _ t => .nn t
  | _, _, i + 1, .sm q t => .sm q (SR.unset i t)
theorem SR.wipe {σ : SSt} {τ : L2.St} (h : SR K μ H σ τ) : ∀ vs : List Nat, SR K μ H (wipeS σ vs) (L2.wipe τ vs)
  | [] => h
  | v :: vs => SR.unset v (SR.wipe h vs)
theorem SR.start : ∀ {xs : List VV} {vs : List V} (n : Nat), RVs K μ H xs vs → SR K μ H (xs.map some ++ List.replicate n none) (vs.map some ++ List.replicate n none)
  | _, _, 0, .nil => .nil
  | _, _, n + 1, .nil => .nn (SR.start (xs := []) (vs := []) n .nil)
  | _, _, n, .cons r t => .sm r (SR.start n t)
section
variable {α β α' β' : Type} {rel : List Addr → Hp → α → β → Prop} {rel' : List Addr → Hp → α' → β' → Prop} {Q Q' : β → Hp → Prop}
theorem out.ext (e : Ext μ H μ' H') {r : Res α} (h : out K cls We μ H rel Q r) : out K cls We μ' H' rel Q r := by
  cases r with
  | ok a vh => exact fun b μ2 H2 e2 hr q => h b μ2 H2 (e.trans e2) hr q
  | exc c fs vh => exact fun C d μ2 H2 hc e2 hr q => h C d μ2 H2 hc (e.trans e2) hr q
  | stuck => exact h
theorem out.imp {r : Res α} (h : out K cls We μ H rel Q r) (k : ∀ b H', Q b H' → Q' b H') : out K cls We μ H rel Q' r := by
  cases r with
  | ok a vh => exact fun b μ2 H2 e2 hr q => k _ _ (h b μ2 H2 e2 hr q)
  | exc c fs vh => exact h
  | stuck => exact h
/-- a result first, then what is done with it -/
theorem out.bind {Q : β' → Hp → Prop} {m : Res α} {f : α → VH → Res α'} (h : out K cls We μ H rel' Q (m.bind f)) :
    out K cls We μ H rel (fun b H1 => ∃ μ1 vh1 a1, Ext μ H μ1 H1 ∧ HR K cls μ1 vh1 H1 ∧ rel μ1 H1 a1 b ∧ out K cls We μ1 H1 rel' Q (f a1 vh1)) m := by
  cases m with
  | ok a vh => exact fun b μ2 H2 e2 hr q => ⟨μ2, vh, a, e2, hr, q, out.ext e2 h⟩
  | exc c fs vh => exact h
  | stuck => exact h
end
theorem outS.ext {D : Ends} (e : Ext μ H μ' H') {r : RS} (h : outS K cls W D μ H r) : outS K cls W D μ' H' r := by
  cases r with
  | nx σ vh => exact fun b μ2 H2 e2 hr q => h b μ2 H2 (e.trans e2) hr q
  | rt v σ vh => exact fun b μ2 H2 e2 hr q => h b μ2 H2 (e.trans e2) hr q
  | bk σ vh => exact fun b μ2 H2 e2 hr q => h b μ2 H2 (e.trans e2) hr q
  | ct σ vh => exact fun b μ2 H2 e2 hr q => h b μ2 H2 (e.trans e2) hr q
  | exc c fs σ vh => exact fun C d τ μ2 H2 hc e2 hr q => h C d τ μ2 H2 hc (e.trans e2) hr q
  | stuck => exact h
/-- an expression's result, then a statement -/
theorem out.go {α β : Type} {rel : List Addr → Hp → α → β → Prop} {D : Ends} {m : Res α} {σ : SSt} {τ : L2.St} {f : α → VH → RS} (hs : SR K μ H σ τ) (h : outS K cls W D μ H (m.go σ f)) :
    out K cls (fun c d H' => W c d τ H') μ H rel (fun b H1 => ∃ μ1 vh1 a1, Ext μ H μ1 H1 ∧ HR K cls μ1 vh1 H1 ∧ rel μ1 H1 a1 b ∧ outS K cls W D μ1 H1 (f a1 vh1)) m := by
  cases m with
  | ok a vh => exact fun b μ2 H2 e2 hr q => ⟨μ2, vh, a, e2, hr, q, outS.ext e2 h⟩
  | exc c fs vh => exact fun C d μ2 H2 hc e2 hr q => h C d τ μ2 H2 hc e2 hr (hs.mono e2) q
  | stuck => exact h
end
theorem _root_.L2.PE.imp {X : Cx} {e : Expr} {t t' : TE} (h : PE X e t) (k : ∀ σ H Q, t' σ H Q → t σ H Q) : PE X e t' := ⟨fun pins s σ H Q I hw => h.run pins s σ H Q I (k _ _ _ hw)⟩
theorem _root_.L2.PT.imp {X : Cx} {e : Expr} {t t' : TT} (h : PT X e t) (k : ∀ σ H Q, t' σ H Q → t σ H Q) : PT X e t' := ⟨fun pins s σ H Q I hw => h.run pins s σ H Q I (k _ _ _ hw)⟩
theorem _root_.L2.PW.imp {X : Cx} {e : Expr} {t t' : TT} (h : PW X e t) (k : ∀ σ H Q, t' σ H Q → t σ H Q) : PW X e t' := ⟨fun wh pins s σ H Q I hw => h.run wh pins s σ H Q I (k _ _ _ hw)⟩
theorem _root_.L2.PA.imp {X : Cx} {es : List Expr} {t t' : TA} (h : PA X es t) (k : ∀ σ H Q, t' σ H Q → t σ H Q) : PA X es t' := ⟨fun pos pins s σ H Q I hw => h.run pos pins s σ H Q I (k _ _ _ hw)⟩
theorem _root_.L2.PO.imp {X : Cx} {e : Option Expr} {t t' : TO} (h : PO X e t) (k : ∀ σ H Q, t' σ H Q → t σ H Q) : PO X e t' := ⟨fun pins s σ H Q I hw => h.run pins s σ H Q I (k _ _ _ hw)⟩
theorem _root_.L2.PS.imp {X : Cx} {st : Stmt} {t t' : TS} (h : PS X st t) (k : ∀ D σ H, t' D σ H → t D σ H) : PS X st t' := ⟨fun pins s σ H D I hw => h.run pins s σ H D I (k _ _ _ hw)⟩
theorem _root_.L2.PSs.imp {X : Cx} {st : List Stmt} {t t' : TS} (h : PSs X st t) (k : ∀ D σ H, t' D σ H → t D σ H) : PSs X st t' := ⟨fun pins s σ H D I hw => h.run pins s σ H D I (k _ _ _ hw)⟩
section
variable {K : PySem.W.Frag} {cls : Nat → Option Addr} {W : WX}
/-- two values, then an operation -/
theorem tE_op {ma mb : SSt → VH → Res VV} {f : VV → VV → VH → Res VV} {r : R2}
    (hf : ∀ We μ vh H x y v u Q, HR K cls μ vh H → RV K μ H x v → RV K μ H y u → out K cls We μ H (RV K) Q (f x y vh) → r v u H Q) (τ : L2.St) (H : Hp) (Q : VK)
    (h : tE K cls W (fun σ vh => (ma σ vh).bind fun x vh => (mb σ vh).bind fun y vh => f x y vh) τ H Q) : tOp r (tE K cls W ma) (tE K cls W mb) τ H Q := by
  obtain ⟨μ, σ, vh, hs, hr, h⟩ := h
  refine ⟨μ, σ, vh, hs, hr, (out.bind h).imp fun x H1 h1 => ?_⟩
  obtain ⟨μ1, vh1, a1, e1, hr1, r1, h1⟩ := h1
  refine ⟨μ1, σ, vh1, hs.mono e1, hr1, (out.bind h1).imp fun y H2 h2 => ?_⟩
  obtain ⟨μ2, vh2, a2, e2, hr2, r2, h2⟩ := h2
  exact hf _ μ2 vh2 H2 a1 a2 x y Q hr2 (r1.mono e2) r2 h2
end
end Fe
namespace Fe
open PySem PySem.Spec PyProof.Rows L2
theorem lineZ_eq : sizeLine = lineZ := sizeLine_eq
section
variable {K : PySem.W.Frag} {cls : Nat → Option Addr} {We : Value → Option Addr → Hp → Prop} {μ : List Addr} {vh : VH} {H : Hp}
theorem HR.getL (hr : HR K cls μ vh H) {n : Nat} {v : V} {xs : List VV} (r : RV K μ H (.ref n) v) (h : vh[n]? = some (.lst xs)) : ∃ a vs, v = .ref a ∧ μ[n]? = some a ∧ H a = some (.lst vs) ∧ RVs K μ H xs vs := by
  cases r with
  | ref e =>
    obtain ⟨a, ha, q⟩ := hr.ob n _ h
    rw [e] at ha; cases ha
    obtain ⟨ho, h1, h2⟩ := q
    cases ho with
    | lst vs => exact ⟨_, vs, rfl, e, h1, h2⟩
    | _ => exact (show False from h2).elim
theorem HR.getD (hr : HR K cls μ vh H) {n : Nat} {v : V} {kvs : List (Key × VV)} (r : RV K μ H (.ref n) v) (h : vh[n]? = some (.dct kvs)) : ∃ a ws, v = .ref a ∧ μ[n]? = some a ∧ H a = some (.dK ws) ∧ kvs.map (·.1) = ws.map (·.1) ∧ RVs K μ H (kvs.map (·.2)) (ws.map (·.2)) := by
  cases r with
  | ref e =>
    obtain ⟨a, ha, q⟩ := hr.ob n _ h
    rw [e] at ha; cases ha
    obtain ⟨ho, h1, h2⟩ := q
    cases ho with
    | dK vs => exact ⟨_, vs, rfl, e, h1, h2.1, h2.2⟩
    | _ => exact (show False from h2).elim
theorem HR.seq (hr : HR K cls μ vh H) {n : Nat} {v : V} {xs : List VV} (r : RV K μ H (.ref n) v) (h : seqL vh n = some xs) : ∃ a vs, v = .ref a ∧ μ[n]? = some a ∧ SqL K H a vs ∧ RVs K μ H xs vs := by
  unfold seqL at h
  split at h
  · rename_i ys e
    cases h
    obtain ⟨a, vs, e1, e2, e3, e4⟩ := hr.getL r e
    exact ⟨a, vs, e1, e2, SqL.of e3, e4⟩
  · rename_i ys e
    cases h
    cases r with
    | ref e1 =>
      obtain ⟨a, ha, q⟩ := hr.ob n _ e
      rw [e1] at ha; cases ha
      obtain ⟨vs, q1, q2⟩ := q
      refine ⟨_, vs, rfl, e1, ?_, q2⟩
      rcases q1 with ⟨ob, q1⟩ | q1
      · exact .inl (.inr ⟨ob, q1⟩)
      · exact .inr q1
  · cases h
theorem RV.tupI {xs : List VV} {v : V} (r : RV K μ H (.tup xs) v) : ∃ p vs, v = .ref p ∧ SqT K H p vs ∧ RVs K μ H xs vs := by
  cases r with
  | tup h1 h2 => exact ⟨_, _, rfl, h1, h2⟩
theorem RV.intI {i : Int} {v : V} (r : RV K μ H (.int i) v) : v = .int i := by cases r; rfl
theorem RV.blI {i : Bool} {v : V} (r : RV K μ H (.bl i) v) : v = .bl i := by cases r; rfl
theorem RV.strI {i : Str} {v : V} (r : RV K μ H (.str i) v) : v = .str i := by cases r; rfl
theorem RV.nonI {v : V} (r : RV K μ H .non v) : v = .non := by cases r; rfl
theorem out_here {α β : Type} {rel : List Addr → Hp → α → β → Prop} {Q : β → Hp → Prop} {a : α} {b : β} (hr : HR K cls μ vh H) (h : out K cls We μ H rel Q (.ok a vh)) (r : rel μ H a b) : Q b H := h b μ H (Ext.refl μ H) hr r
theorem out_alloc {Q : VK} {o : VO} {ho : HO} (hr : HR K cls μ vh H) (h : out K cls We μ H (RV K) Q (.ok (.ref vh.length) (vh ++ [o]))) (h0 : isRol o = false) (ok : OH K cls μ H o ho) (p : Addr) (np : H p = none) : Q (.ref p) (upd H p ho) := by
  have e : Ext μ H (μ ++ [p]) (upd H p ho) := ⟨⟨[p], rfl⟩, TP.new np⟩
  exact h (.ref p) (μ ++ [p]) (upd H p ho) e (hr.alloc np h0 (ok.mono e)) (.ref (by simp [← hr.len]))
theorem out_tup {Q : VK} {xs : List VV} {vs : List V} (hr : HR K cls μ vh H) (h : out K cls We μ H (RV K) Q (.ok (.tup xs) vh)) (r : RVs K μ H xs vs) (p : Addr) (np : H p = none) : Q (.ref p) (upd H p (.tup vs)) := by
  have e : Ext μ H μ (upd H p (.tup vs)) := ⟨⟨[], by simp⟩, TP.new np⟩
  exact h (.ref p) μ (upd H p (.tup vs)) e (hr.new np) (.tup (SqT.of upd_same) (r.mono e))
theorem out_set {α β : Type} {rel : List Addr → Hp → α → β → Prop} {Q : β → Hp → Prop} {n : Nat} {a : Addr} {o o' : VO} {ho ho' : HO} {z : α} {b : β} (hr : HR K cls μ vh H) (h : out K cls We μ H rel Q (.ok z (vh.set n o'))) (hn : vh[n]? = some o) (h0 : isRol o = false) (h1 : isRol o' = false)
    (ha : μ[n]? = some a) (hH : H a = some ho) (m : mutO ho = true) (ok : OH K cls μ H o' ho') (rl : ∀ H', Ext μ H μ H' → rel μ H' z b) : Q b (upd H a ho') := by
  have e : Ext μ H μ (upd H a ho') := ⟨⟨[], by simp⟩, TP.set hH m⟩
  exact h b μ (upd H a ho') e (hr.set hn h0 h1 ha hH m (ok.mono e)) (rl _ e)
end
section
variable {X : Cx} {cls : Nat → Option Addr}
/-- an operation and its meaning -/
def OpM (K : PySem.W.Frag) (cls : Nat → Option Addr) (r : R2) (f : VV → VV → VH → Res VV) : Prop :=
  ∀ We μ vh H x y v u Q, HR K cls μ vh H → RV K μ H x v → RV K μ H y u → out K cls We μ H (RV K) Q (f x y vh) → r v u H Q
def R2.or (r r' : R2) : R2 := fun x y H Q => r x y H Q ∨ r' x y H Q
def rAddStr : R2 := fun x y H Q => ∃ i j, x = .str i ∧ y = .str j ∧ i.length + j.length ≤ sizeLine ∧ Q (.str (i ++ j)) H
def rAddI : R2 := rI0 fun i j => .int (i + j)
def rAddAll (K : PySem.W.Frag) : R2 := R2.or rAddI (R2.or rAddStr (R2.or rCat (rCatT K)))
theorem op_addAll : OpR X (binaryOp .Add) (rAddAll X.K) := op_add.or (op_add_str.or (op_cat.or op_catT))
theorem opm_add {K : PySem.W.Frag} : OpM K cls (rAddAll K) (sBin .add) := by
  intro We μ vh H x y v u Q hr rx ry h
  cases x with
  | int i =>
    cases y with
    | int j => exact .inl ⟨i, j, rx.intI, ry.intI, out_here hr h (.int _)⟩
    | _ => exact (show False from h).elim
  | str i =>
    cases y with
    | str j =>
      simp only [sBin] at h
      split at h
      · rename_i hz
        exact .inr (.inl ⟨i, j, rx.strI, ry.strI, by rw [lineZ_eq]; exact hz, out_here hr h (.str _)⟩)
      · exact h.elim
    | _ => exact (show False from h).elim
  | ref m =>
    cases y with
    | ref n =>
      simp only [sBin] at h
      split at h
      · rename_i xs ys e1 e2
        split at h
        · rename_i hz
          obtain ⟨a, vs, rfl, a1, a2, a3⟩ := hr.getL rx e1
          obtain ⟨b, ws, rfl, b1, b2, b3⟩ := hr.getL ry e2
          refine .inr (.inr (.inl ⟨a, b, vs, ws, rfl, rfl, a2, b2, ?_, out_alloc hr h rfl (a3.append b3)⟩))
          rw [← a3.length, ← b3.length, lineZ_eq]; exact hz
        · exact h.elim
      · exact h.elim
    | _ => exact (show False from h).elim
  | tup xs =>
    cases y with
    | tup ys =>
      simp only [sBin] at h
      split at h
      · rename_i hz
        obtain ⟨a, vs, rfl, a2, a3⟩ := rx.tupI
        obtain ⟨b, ws, rfl, b2, b3⟩ := ry.tupI
        have n1 : vs ≠ [] := by rintro rfl; cases a3; simp at hz
        have n2 : ws ≠ [] := by rintro rfl; cases b3; simp at hz
        refine .inr (.inr (.inr ⟨a, b, vs, ws, rfl, rfl, a2, b2, n1, ?_, fun z => absurd z n2, fun _ => out_tup hr h (a3.append b3)⟩))
        rw [← a3.length, ← b3.length, lineZ_eq]; exact hz.1
      · exact h.elim
    | _ => exact (show False from h).elim
  | _ => exact (show False from h).elim
theorem opm_sub {K : PySem.W.Frag} : OpM K cls (rI0 fun i j => .int (i - j)) (sBin .sub) := by
  intro We μ vh H x y v u Q hr rx ry h
  cases x with
  | int i =>
    cases y with
    | int j => exact ⟨i, j, rx.intI, ry.intI, out_here hr h (.int _)⟩
    | _ => exact (show False from h).elim
  | _ => exact (show False from h).elim
theorem op_mulM : OpR X (binaryOp .Mult) (rI IntMulOk fun i j => .int (i * j)) := opI fun _ _ _ _ _ _ _ hc q => mul_int q hc
theorem op_mulAll : OpR X (binaryOp .Mult) (R2.or (rI IntMulOk fun i j => .int (i * j)) rRep) := op_mulM.or op_rep
theorem opm_mul {K : PySem.W.Frag} : OpM K cls (R2.or (rI IntMulOk fun i j => .int (i * j)) rRep) (sBin .mul) := by
  intro We μ vh H x y v u Q hr rx ry h
  cases x with
  | int i =>
    cases y with
    | int j =>
      simp only [sBin] at h
      split at h
      · rename_i hz
        exact .inl ⟨i, j, rx.intI, ry.intI, hz, out_here hr h (.int _)⟩
      · exact h.elim
    | _ => exact (show False from h).elim
  | ref m =>
    cases y with
    | int k =>
      simp only [sBin] at h
      split at h
      · rename_i xs e1
        split at h
        · rename_i hz
          obtain ⟨a, vs, rfl, a1, a2, a3⟩ := hr.getL rx e1
          refine .inr ⟨a, k, vs, rfl, ry.intI, a2, by omega, by omega, ?_, out_alloc hr h rfl (a3.rep _)⟩
          rw [← a3.length, lineZ_eq]; exact hz.2
        · exact h.elim
      · exact h.elim
    | _ => exact (show False from h).elim
  | _ => exact (show False from h).elim
theorem opm_I {K : PySem.W.Frag} {C : Int → Int → Prop} {g : Int → Int → Int} {f : VV → VV → VH → Res VV} (hf : ∀ x y vh, (∃ i j, x = .int i ∧ y = .int j ∧ ((C i j ∧ f x y vh = .ok (.int (g i j)) vh) ∨ f x y vh = .stuck)) ∨ f x y vh = .stuck) :
    OpM K cls (rI C fun i j => .int (g i j)) f := by
  intro We μ vh H x y v u Q hr rx ry h
  rcases hf x y vh with ⟨i, j, rfl, rfl, ⟨hc, e⟩ | e⟩ | e
  · rw [e] at h
    exact ⟨i, j, rx.intI, ry.intI, hc, out_here hr h (.int _)⟩
  · rw [e] at h; exact h.elim
  · rw [e] at h; exact h.elim
theorem opm_fdiv {K : PySem.W.Frag} : OpM K cls (rI CDivW fun i j => .int (i / j)) (sBin .fdiv) := opm_I fun x y vh => by
  cases x with
  | int i =>
    cases y with
    | int j =>
      refine .inl ⟨i, j, rfl, rfl, ?_⟩
      simp only [sBin]
      split
      · rename_i hz
        refine .inl ⟨⟨hz.1, ?_⟩, rfl⟩
        rcases hz.2 with h | h
        · have h1 : j.natAbs < 2 ^ 64 := by omega
          exact Nat.lt_of_lt_of_le ((Nat.log2_lt (by omega)).mpr h1) (by decide)
        · exact h
      · exact .inr rfl
    | _ => exact .inr rfl
  | _ => exact .inr rfl
theorem opm_mod {K : PySem.W.Frag} : OpM K cls (rI (fun _ j => 0 < j) fun i j => .int (i % j)) (sBin .mod) := opm_I fun x y vh => by
  cases x with
  | int i =>
    cases y with
    | int j =>
      refine .inl ⟨i, j, rfl, rfl, ?_⟩
      simp only [sBin]
      split
      · rename_i hz; exact .inl ⟨hz, rfl⟩
      · exact .inr rfl
    | _ => exact .inr rfl
  | _ => exact .inr rfl
theorem opm_pow {K : PySem.W.Frag} : OpM K cls (rI CPow fun i j => .int (i ^ j.toNat)) (sBin .pow) := opm_I fun x y vh => by
  cases x with
  | int i =>
    cases y with
    | int j =>
      refine .inl ⟨i, j, rfl, rfl, ?_⟩
      simp only [sBin]
      split
      · rename_i hz; exact .inl ⟨⟨hz.1, by omega, by omega⟩, rfl⟩
      · exact .inr rfl
    | _ => exact .inr rfl
  | _ => exact .inr rfl
theorem opm_shl {K : PySem.W.Frag} : OpM K cls (rI CPow fun i j => .int (i * 2 ^ j.toNat)) (sBin .shl) := opm_I fun x y vh => by
  cases x with
  | int i =>
    cases y with
    | int j =>
      refine .inl ⟨i, j, rfl, rfl, ?_⟩
      simp only [sBin]
      split
      · rename_i hz; exact .inl ⟨⟨hz.1, by omega, by omega⟩, rfl⟩
      · exact .inr rfl
    | _ => exact .inr rfl
  | _ => exact .inr rfl
theorem opm_shr {K : PySem.W.Frag} : OpM K cls (rI (fun _ j => 0 ≤ j) fun i j => .int (i / 2 ^ j.toNat)) (sBin .shr) := opm_I fun x y vh => by
  cases x with
  | int i =>
    cases y with
    | int j =>
      refine .inl ⟨i, j, rfl, rfl, ?_⟩
      simp only [sBin]
      split
      · rename_i hz; exact .inl ⟨hz, rfl⟩
      · exact .inr rfl
    | _ => exact .inr rfl
  | _ => exact .inr rfl
theorem opm_band {K : PySem.W.Frag} : OpM K cls (rI0 fun i j => .int (Builtin.bitAnd i j)) (sBin .band) := by
  intro We μ vh H x y v u Q hr rx ry h
  cases x with
  | int i =>
    cases y with
    | int j => exact ⟨i, j, rx.intI, ry.intI, out_here hr h (.int _)⟩
    | _ => exact (show False from h).elim
  | _ => exact (show False from h).elim
def BO.op : BO → Operator
  | .add => .Add
  | .sub => .Sub
  | .mul => .Mult
  | .fdiv => .FloorDiv
  | .mod => .Mod
  | .pow => .Pow
  | .shl => .LShift
  | .shr => .RShift
  | .band => .BitAnd
def BO.r (K : PySem.W.Frag) : BO → R2
  | .add => rAddAll K
  | .sub => rI0 fun i j => .int (i - j)
  | .mul => R2.or (rI IntMulOk fun i j => .int (i * j)) rRep
  | .fdiv => rI CDivW fun i j => .int (i / j)
  | .mod => rI (fun _ j => 0 < j) fun i j => .int (i % j)
  | .pow => rI CPow fun i j => .int (i ^ j.toNat)
  | .shl => rI CPow fun i j => .int (i * 2 ^ j.toNat)
  | .shr => rI (fun _ j => 0 ≤ j) fun i j => .int (i / 2 ^ j.toNat)
  | .band => rI0 fun i j => .int (Builtin.bitAnd i j)
theorem BO.ok (o : BO) : OpR X (binaryOp o.op) (o.r X.K) := by
  cases o with
  | add => exact op_addAll
  | sub => exact op_sub
  | mul => exact op_mulAll
  | fdiv => exact op_fdivW
  | mod => exact op_mod
  | pow => exact op_pow
  | shl => exact op_shl
  | shr => exact op_shr
  | band => exact op_and
theorem BO.m {K : PySem.W.Frag} (o : BO) : OpM K cls (o.r K) (sBin o) := by
  cases o with
  | add => exact opm_add
  | sub => exact opm_sub
  | mul => exact opm_mul
  | fdiv => exact opm_fdiv
  | mod => exact opm_mod
  | pow => exact opm_pow
  | shl => exact opm_shl
  | shr => exact opm_shr
  | band => exact opm_band
end
end Fe
namespace Fe
open PySem PySem.Spec PyProof.Rows L2
section
variable {K : PySem.W.Frag} {cls : Nat → Option Addr} {We : Value → Option Addr → Hp → Prop} {μ : List Addr} {vh : VH} {H : Hp}
mutual
theorem dat_dp (hr : HR K cls μ vh H) : ∀ (k : Nat) (x : VV) (v : V) (d : PyData), RV K μ H x v → dat vh k x = some d → Dp K H v d
  | 0, _, _, _, _, h => by simp [dat] at h
  | k + 1, .non, _, _, r, h => by cases r; simp [dat] at h; subst h; exact .non
  | k + 1, .bl b, _, _, r, h => by cases r; simp [dat] at h; subst h; exact .bl b
  | k + 1, .int b, _, _, r, h => by cases r; simp [dat] at h; subst h; exact .int b
  | k + 1, .str b, _, _, r, h => by cases r; simp [dat] at h; subst h; exact .str b
  | k + 1, .tup xs, _, _, r, h => by
    obtain ⟨p, vs, rfl, h1, h2⟩ := r.tupI
    simp only [dat, Option.map_eq_some_iff] at h
    obtain ⟨ds, e, rfl⟩ := h
    exact .tup h1 (dats_dp hr k xs vs ds h2 e)
  | k + 1, .ref n, _, _, r, h => by
    simp only [dat] at h
    split at h
    · rename_i xs e
      obtain ⟨a, vs, rfl, _, h1, h2⟩ := hr.seq r e
      simp only [Option.map_eq_some_iff] at h
      obtain ⟨ds, e, rfl⟩ := h
      exact .lst h1 (dats_dp hr k xs vs ds h2 e)
    · cases h
theorem dats_dp (hr : HR K cls μ vh H) : ∀ (k : Nat) (xs : List VV) (vs : List V) (ds : List PyData), RVs K μ H xs vs → dats vh k xs = some ds → DpAll K H vs ds
  | k, [], _, _, r, h => by cases r; simp [dats] at h; subst h; exact .nil
  | k, x :: xs, _, _, r, h => by
    cases r with
    | cons r1 r2 =>
      simp only [dats] at h
      split at h
      · rename_i d ds e1 e2
        cases h
        exact .cons (dat_dp hr k x _ d r1 e1) (dats_dp hr k xs _ ds r2 e2)
      · cases h
end
theorem scal_eq {x y : VV} {v u : V} (rx : RV K μ H x v) (ry : RV K μ H y u) (h : scalV x y = true) : scal v u = true ∧ decide (v = u) = eqS x y := by
  cases x with
  | non => cases rx; cases y with
    | non => cases ry; exact ⟨rfl, rfl⟩
    | bl _ => cases ry; exact ⟨rfl, rfl⟩
    | int _ => cases ry; exact ⟨rfl, rfl⟩
    | str _ => cases ry; exact ⟨rfl, rfl⟩
    | _ => cases h
  | bl a => cases rx; cases y with
    | non => cases ry; exact ⟨rfl, rfl⟩
    | bl b => cases ry; exact ⟨rfl, by simp [eqS]⟩
    | str _ => cases ry; exact ⟨rfl, rfl⟩
    | _ => cases h
  | int a => cases rx; cases y with
    | non => cases ry; exact ⟨rfl, rfl⟩
    | int b => cases ry; exact ⟨rfl, by simp [eqS]⟩
    | str _ => cases ry; exact ⟨rfl, rfl⟩
    | _ => cases h
  | str a => cases rx; cases y with
    | non => cases ry; exact ⟨rfl, rfl⟩
    | bl _ => cases ry; exact ⟨rfl, rfl⟩
    | int _ => cases ry; exact ⟨rfl, rfl⟩
    | str b => cases ry; exact ⟨rfl, by simp [eqS]⟩
    | _ => cases h
  | _ => cases h
theorem flat_of {x : VV} {v : V} (r : RV K μ H x v) (h : flatVV x = true) : flatV v = true := by
  cases r <;> first | rfl | cases h
theorem flats_of : ∀ {xs : List VV} {vs : List V}, RVs K μ H xs vs → xs.all flatVV = true → vs.all flatV = true
  | _, _, .nil, _ => rfl
  | _, _, .cons r t, h => by
    rw [List.all_cons, Bool.and_eq_true] at h
    rw [List.all_cons, Bool.and_eq_true]
    exact ⟨flat_of r h.1, flats_of t h.2⟩
theorem eqV_of {x y : VV} {v u : V} (rx : RV K μ H x v) (ry : RV K μ H y u) (fx : flatVV x = true) (fy : flatVV y = true) : eqV v u = eqVV x y := by
  cases rx <;> first | (cases fx; done) | (cases ry <;> first | (cases fy; done) | rfl)
theorem inV_of {x : VV} {v : V} (r : RV K μ H x v) (f : flatVV x = true) : ∀ {xs : List VV} {vs : List V}, RVs K μ H xs vs → xs.all flatVV = true → inV v vs = inVV x xs
  | _, _, .nil, _ => rfl
  | _, _, .cons r1 t, h => by
    rw [List.all_cons, Bool.and_eq_true] at h
    show (eqV _ _ || inV _ _) = (eqVV _ _ || inVV _ _)
    rw [eqV_of r1 r h.1 f, inV_of r f t h.2]
theorem key_rel {x : VV} {v : V} {k : Key} (r : RV K μ H x v) (h : keyOf x = some k) : v = kV k := by
  cases r <;> first | (cases h; done) | (cases h; rfl)
theorem look_rel {k : Key} : ∀ {kvs : List (Key × VV)} {ws : List (Key × V)}, kvs.map (·.1) = ws.map (·.1) → RVs K μ H (kvs.map (·.2)) (ws.map (·.2)) →
    (lookK kvs k = none ∧ valV ws k = none) ∨ ∃ x v, lookK kvs k = some x ∧ valV ws k = some v ∧ RV K μ H x v
  | [], [], _, _ => .inl ⟨rfl, rfl⟩
  | [], _ :: _, h, _ => by cases h
  | _ :: _, [], h, _ => by cases h
  | (a, x) :: kvs, (b, v) :: ws, h, r => by
    simp only [List.map_cons, List.cons.injEq] at h
    obtain ⟨h1, h2⟩ := h
    have h1' : a = b := h1
    subst h1'
    cases r with
    | cons r1 r2 =>
      by_cases e : a = k
      · refine .inr ⟨x, v, ?_, ?_, r1⟩
        · unfold lookK; rw [List.find?_cons_of_pos (by simpa using e)]; rfl
        · unfold valV; rw [List.find?_cons_of_pos (by simpa using e)]; rfl
      · have := look_rel (k := k) h2 r2
        unfold lookK valV at this ⊢
        rw [List.find?_cons_of_neg (by simpa using e), List.find?_cons_of_neg (by simpa using e)]
        exact this
end
section
variable {X : Cx} {cls : Nat → Option Addr}
def rInS (neg : Bool) : R2 := fun x y H Q => ∃ i j, x = .str i ∧ y = .str j ∧ Q (.bl (if neg then !(!(Builtin.Str.occurrences j i 0 j.length 1).isEmpty) else (!(Builtin.Str.occurrences j i 0 j.length 1).isEmpty))) H
def rInD (neg : Bool) : R2 := fun y x H Q => ∃ a o, x = .ref a ∧ DGet H a y o ∧ Q (.bl (if neg then !o.isSome else o.isSome)) H
theorem op_inD (hu : X.A.units + 1 < cLine) : OpR X (compareOp .In) (rInD false) := by
  intro pins s σ H x y v u Q I rx ry h
  obtain ⟨a, o, rfl, g, q⟩ := h
  cases ry
  exact d_in hu I g rx fun s' I' => ⟨.bl _, H, I', rfl, q⟩
theorem op_notinD (hu : X.A.units + 1 < cLine) : OpR X (compareOp .NotIn) (rInD true) := by
  intro pins s σ H x y v u Q I rx ry h
  obtain ⟨a, o, rfl, g, q⟩ := h
  cases ry
  exact d_notIn hu I g rx fun s' I' => ⟨.bl _, H, I', rfl, q⟩
def rLtAll : R2 := R2.or (rI0 fun i j => .bl (decide (i < j))) (fun x y H Q => ∃ i j, x = .str i ∧ y = .str j ∧ Q (.bl (decide (i.cps.toList < j.cps.toList))) H)
def rIsN : R2 := fun x y H Q => y = .non ∧ Q (.bl (decide (x = .non))) H
def rNotN : R2 := fun x y H Q => y = .non ∧ Q (.bl (!decide (x = .non))) H
def CO.op : CO → CmpOp
  | .eq => .Eq
  | .ne => .NotEq
  | .lt => .Lt
  | .le => .LtE
  | .gt => .Gt
  | .ge => .GtE
  | .isn => .Is
  | .notn => .IsNot
  | .isin => .In
  | .notin => .NotIn
def CO.r (K : PySem.W.Frag) : CO → R2
  | .eq => R2.or rEq (rEqD K)
  | .ne => R2.or rNe (rNeD K)
  | .lt => rLtAll
  | .le => rI0 fun i j => .bl (decide (i ≤ j))
  | .gt => rI0 fun i j => .bl (decide (j < i))
  | .ge => rI0 fun i j => .bl (decide (j ≤ i))
  | .isn => rIsN
  | .notn => rNotN
  | .isin => R2.or (rIn K false) (R2.or (rInS false) (rInD false))
  | .notin => R2.or (rIn K true) (R2.or (rInS true) (rInD true))
theorem CO.ok (hu : X.A.units + 64 < cLine) (o : CO) : OpR X (compareOp o.op) (o.r X.K) := by
  have hu1 : X.A.units + 1 < cLine := by omega
  cases o with
  | eq => exact op_eq.or (op_eqD hu)
  | ne => exact op_ne.or (op_neD hu)
  | lt => exact op_lt.or op_lt_str
  | le => exact op_le
  | gt => exact op_gt
  | ge => exact op_ge
  | isn => exact op_isN
  | notn => exact op_notN
  | isin => exact op_in_seq.or (op_in_str.or (op_inD hu1))
  | notin => exact op_notIn_seq.or (op_notin_str.or (op_notinD hu1))
theorem opm_eq {K : PySem.W.Frag} {We : Value → Option Addr → Hp → Prop} {μ : List Addr} {vh : VH} {H : Hp} {x y : VV} {v u : V} {b : Bool} (hr : HR K cls μ vh H) (rx : RV K μ H x v) (ry : RV K μ H y u) (h : eqD vh x y = some b) :
    (scal v u = true ∧ decide (v = u) = b) ∨ ∃ d e, Dp K H v d ∧ Dp K H u e ∧ SeqAt.shaped d = true ∧ SeqAt.shaped e = true ∧ PyData.eqv d e = b := by
  unfold eqD at h
  split at h
  · rename_i hs
    obtain ⟨h1, h2⟩ := scal_eq rx ry hs
    exact .inl ⟨h1, by rw [h2]; exact Option.some.inj h⟩
  · split at h
    · rename_i d e e1 e2
      split at h
      · rename_i hz
        exact .inr ⟨d, e, dat_dp hr _ _ _ _ rx e1, dat_dp hr _ _ _ _ ry e2, hz.1, hz.2, Option.some.inj h⟩
      · cases h
    · cases h
theorem isNon_rel {K : PySem.W.Frag} {μ : List Addr} {H : Hp} {x : VV} {v : V} (r : RV K μ H x v) : decide (v = V.non) = isNon x := by
  cases r <;> rfl
theorem opm_in {K : PySem.W.Frag} {μ : List Addr} {vh : VH} {H : Hp} {x y : VV} {v u : V} {b : Bool} {Q : VK} (neg : Bool) (hr : HR K cls μ vh H) (rx : RV K μ H x v) (ry : RV K μ H y u) (h : inB vh x y = some b) (q : Q (.bl (if neg then !b else b)) H) :
    R2.or (rIn K neg) (R2.or (rInS neg) (rInD neg)) v u H Q := by
  unfold inB at h
  split at h
  · rename_i ys
    split at h
    · rename_i hf
      obtain ⟨p, vs, rfl, h1, h2⟩ := ry.tupI
      refine .inl ⟨p, vs, rfl, .inr h1, flat_of rx hf.1, flats_of h2 hf.2, ?_⟩
      rw [inV_of rx hf.1 h2 hf.2, Option.some.inj h]
      exact q
    · cases h
  · rename_i t
    split at h
    · rename_i s
      cases h
      exact .inr (.inl ⟨s, t, rx.strI, ry.strI, q⟩)
    · cases h
  · rename_i n
    have seqc : ∀ ys, seqL vh n = some ys → (if flatVV x = true ∧ ys.all flatVV = true then some (inVV x ys) else none) = some b → R2.or (rIn K neg) (R2.or (rInS neg) (rInD neg)) v u H Q := fun ys e h => by
      split at h
      · rename_i hf
        obtain ⟨a, vs, rfl, _, h1, h2⟩ := hr.seq ry e
        refine .inl ⟨a, vs, rfl, .inl h1, flat_of rx hf.1, flats_of h2 hf.2, ?_⟩
        rw [inV_of rx hf.1 h2 hf.2, Option.some.inj h]
        exact q
      · cases h
    split at h
    · rename_i ys e
      exact seqc ys (by unfold seqL; rw [e]) h
    · rename_i ys e
      exact seqc ys (by unfold seqL; rw [e]) h
    · rename_i kvs e
      split at h
      · rename_i k ek
        obtain ⟨a, ws, rfl, _, h1, h2, h3⟩ := hr.getD ry e
        refine .inr (.inr ⟨a, valV ws k, rfl, by rw [key_rel rx ek]; exact DGet.k h1, ?_⟩)
        have e2 : (valV ws k).isSome = b := by
          rw [← Option.some.inj h]
          rcases look_rel (k := k) h2 h3 with ⟨z1, z2⟩ | ⟨x1, v1, z1, z2, _⟩
          · rw [z1, z2]; rfl
          · rw [z1, z2]; rfl
        rw [e2]
        exact q
      · cases h
    · cases h
  · cases h
theorem okB_some {α : Type} {We : Value → Option Addr → Hp → Prop} {K : PySem.W.Frag} {μ : List Addr} {H : Hp} {Q : VK} {r : Option Bool} {vh : VH} (h : out K cls We μ H (RV K) Q (okB r vh)) : ∃ b, r = some b ∧ out K cls We μ H (RV K) Q (.ok (.bl b) vh) := by
  cases r with
  | none => exact (show False from h).elim
  | some b => exact ⟨b, rfl, h⟩
theorem CO.m {K : PySem.W.Frag} (o : CO) : OpM K cls (o.r K) (sCmp o) := by
  intro We μ vh H x y v u Q hr rx ry h
  have ii : ∀ {P : VV → VV → VH → Res VV} {g : Int → Int → Bool}, P x y vh = (match x, y with | .int i, .int j => .ok (.bl (g i j)) vh | _, _ => .stuck) → out K cls We μ H (RV K) Q (P x y vh) → rI0 (fun i j => .bl (g i j)) v u H Q := by
    intro P g e h
    rw [e] at h
    cases x with
    | int i =>
      cases y with
      | int j => exact ⟨i, j, rx.intI, ry.intI, out_here hr h (.bl _)⟩
      | _ => exact (show False from h).elim
    | _ => exact (show False from h).elim
  cases o with
  | eq =>
    obtain ⟨b, e, h⟩ := okB_some (α := Unit) h
    rcases opm_eq (We := We) hr rx ry e with ⟨h1, h2⟩ | ⟨d, e', h1, h2, h3, h4, h5⟩
    · exact .inl ⟨h1, by rw [h2]; exact out_here hr h (.bl _)⟩
    · exact .inr ⟨d, e', h1, h2, h3, h4, by rw [h5]; exact out_here hr h (.bl _)⟩
  | ne =>
    obtain ⟨b, e, h⟩ := okB_some (α := Unit) h
    rw [Option.map_eq_some_iff] at e
    obtain ⟨b', e, rfl⟩ := e
    rcases opm_eq (We := We) hr rx ry e with ⟨h1, h2⟩ | ⟨d, e', h1, h2, h3, h4, h5⟩
    · exact .inl ⟨h1, by rw [h2]; exact out_here hr h (.bl _)⟩
    · exact .inr ⟨d, e', h1, h2, h3, h4, by rw [h5]; exact out_here hr h (.bl _)⟩
  | lt =>
    cases x with
    | int i =>
      cases y with
      | int j => exact .inl ⟨_, _, rx.intI, ry.intI, out_here hr h (.bl _)⟩
      | _ => exact (show False from h).elim
    | str i =>
      cases y with
      | str j => exact .inr ⟨_, _, rx.strI, ry.strI, out_here hr h (.bl _)⟩
      | _ => exact (show False from h).elim
    | _ => exact (show False from h).elim
  | le => exact ii (P := sCmp .le) (by cases x <;> cases y <;> rfl) h
  | gt => exact ii (P := sCmp .gt) (by cases x <;> cases y <;> rfl) h
  | ge => exact ii (P := sCmp .ge) (by cases x <;> cases y <;> rfl) h
  | isn =>
    cases y with
    | non => exact ⟨ry.nonI, by rw [isNon_rel rx]; exact out_here hr h (.bl _)⟩
    | _ => cases x <;> exact (show False from h).elim
  | notn =>
    cases y with
    | non => exact ⟨ry.nonI, by rw [isNon_rel rx]; exact out_here hr h (.bl _)⟩
    | _ => cases x <;> exact (show False from h).elim
  | isin =>
    obtain ⟨b, e, h⟩ := okB_some (α := Unit) h
    exact opm_in false hr rx ry e (out_here hr h (.bl _))
  | notin =>
    obtain ⟨b, e, h⟩ := okB_some (α := Unit) h
    rw [Option.map_eq_some_iff] at e
    obtain ⟨b', e, rfl⟩ := e
    exact opm_in true hr rx ry e (out_here hr h (.bl _))
end
end Fe
namespace Fe
open PySem PySem.Spec PyProof.Rows L2
section
variable {K : PySem.W.Frag} {cls : Nat → Option Addr} {We : Value → Option Addr → Hp → Prop} {μ : List Addr} {vh : VH} {H : Hp}
theorem okO_some {Q : VK} {r : Option VV} (h : out K cls We μ H (RV K) Q (okO r vh)) : ∃ b, r = some b ∧ out K cls We μ H (RV K) Q (.ok b vh) := by
  cases r with
  | none => exact (show False from h).elim
  | some b => exact ⟨b, rfl, h⟩
theorem atI_rel {xs : List VV} {vs : List V} {i : Int} {x : VV} (r : RVs K μ H xs vs) (h : atI xs i = some x) : ∃ v, atI vs i = some v ∧ RV K μ H x v := by
  unfold atI at h ⊢
  rw [← r.length]
  cases e : ixN xs.length i with
  | none => rw [e] at h; cases h
  | some j =>
    rw [e] at h
    exact r.get h
theorem seqL_lst {n : Nat} {xs : List VV} (e : vh[n]? = some (.lst xs)) : seqL vh n = some xs := by unfold seqL; rw [e]
theorem seqL_rol {n : Nat} {xs : List VV} (e : vh[n]? = some (.rol xs)) : seqL vh n = some xs := by unfold seqL; rw [e]
theorem HR.seqV (hr : HR K cls μ vh H) {x : VV} {v : V} {xs : List VV} (r : RV K μ H x v) (h : seqV vh x = some xs) : ∃ a vs, v = .ref a ∧ (SqL K H a vs ∨ SqT K H a vs) ∧ RVs K μ H xs vs := by
  cases x with
  | tup ys =>
    cases h
    obtain ⟨p, vs, rfl, h1, h2⟩ := r.tupI
    exact ⟨p, vs, rfl, .inr h1, h2⟩
  | ref n =>
    obtain ⟨a, vs, rfl, _, h1, h2⟩ := hr.seq r h
    exact ⟨a, vs, rfl, .inl h1, h2⟩
  | _ => cases h
def rIxD : R2 := fun x y H Q => ∃ a v, x = .ref a ∧ DGet H a y (some v) ∧ Q v H
theorem ix_dict {X : Cx} (hu : X.A.units + 1 < cLine) : IxR X rIxD := by
  intro value slice pins s σ H x y v u Q I rx ry h hs
  obtain ⟨a, w, rfl, g, q⟩ := h
  obtain rfl : v = Value.ref a := rx
  exact tail_any (dict_typeIs I g) PySem.F.slot_dict_getitem.lookup (d_getItem hu I g ry fun w' s3 I3 rw' => ⟨w, H, I3, rw', q⟩) hs
def rIxAll (K : PySem.W.Frag) : R2 := R2.or (rIx K) rIxD
theorem ix_all {X : Cx} (hu : X.A.units + 1 < cLine) : IxR X (rIxAll X.K) := ix_seq.or (ix_dict hu)
theorem ixI_some {α : Type} {xs : List α} {y : VV} {b : α} (h : ixI xs y = some b) : ∃ i, y = .int i ∧ atI xs i = some b := by
  cases y with
  | int i => exact ⟨i, rfl, h⟩
  | _ => cases h
theorem ixm : OpM K cls (rIxAll K) sIx := by
  intro We μ vh H x y v u Q hr rx ry h
  cases x with
  | tup xs =>
    obtain ⟨b, e, h'⟩ := okO_some h
    obtain ⟨i, rfl, e⟩ := ixI_some e
    obtain ⟨p, vs, rfl, h1, h2⟩ := rx.tupI
    obtain ⟨w, e1, e2⟩ := atI_rel h2 e
    exact .inl (.inr (.inl ⟨p, vs, i, w, rfl, ry.intI, h1, e1, out_here hr h' e2⟩))
  | str z =>
    simp only [sIx] at h
    split at h
    · rename_i hz
      obtain ⟨b, e, h'⟩ := okO_some h
      rw [Option.map_eq_some_iff] at e
      obtain ⟨c, e, rfl⟩ := e
      obtain ⟨i, rfl, e⟩ := ixI_some e
      exact .inl (.inr (.inr ⟨z, i, c, rx.strI, ry.intI, by rw [lineZ_eq]; exact hz, e, out_here hr h' (.str _)⟩))
    · exact h.elim
  | ref n =>
    have seqc : ∀ xs, seqL vh n = some xs → out K cls We μ H (RV K) Q (okO (ixI xs y) vh) → rIxAll K v u H Q := fun xs e h => by
      obtain ⟨b, e1, h'⟩ := okO_some h
      obtain ⟨i, rfl, e1⟩ := ixI_some e1
      obtain ⟨a, vs, rfl, _, h1, h2⟩ := hr.seq rx e
      obtain ⟨w, e2, e3⟩ := atI_rel h2 e1
      exact .inl (.inl ⟨a, vs, i, w, rfl, ry.intI, h1, e2, out_here hr h' e3⟩)
    simp only [sIx] at h
    split at h
    · rename_i xs e
      exact seqc xs (seqL_lst e) h
    · rename_i xs e
      exact seqc xs (seqL_rol e) h
    · rename_i kvs e
      obtain ⟨b, e1, h'⟩ := okO_some h
      rw [Option.bind_eq_some_iff] at e1
      obtain ⟨k, e2, e3⟩ := e1
      obtain ⟨a, ws, rfl, _, h1, h2, h3⟩ := hr.getD rx e
      rcases look_rel (k := k) h2 h3 with ⟨z1, z2⟩ | ⟨x1, v1, z1, z2, z3⟩
      · rw [z1] at e3; cases e3
      · rw [z1] at e3; cases e3
        refine .inr ⟨a, v1, rfl, ?_, out_here hr h' z3⟩
        rw [key_rel ry e2, ← z2]
        exact DGet.k h1
    · exact h.elim
  | _ => exact (show False from h).elim
theorem RVs.cut {xs : List VV} {vs : List V} (r : RVs K μ H xs vs) (lo hi : Option Int) : RVs K μ H (cutL xs lo hi) (cutV vs lo hi) := by
  unfold cutL cutV
  rw [← r.length]
  exact (r.drop _).take _
def rSlAll (K : PySem.W.Frag) : V → Option Int → Option Int → Hp → VK → Prop := fun x lo hi H Q => rSlL K x lo hi H Q ∨ rSlT K x lo hi H Q
theorem sl_all {X : Cx} : SlR X (rSlAll X.K) := sl_list.or sl_tup
theorem slm {Q : VK} {x : VV} {v : V} {lo hi : Option Int} (hr : HR K cls μ vh H) (rx : RV K μ H x v) (h : out K cls We μ H (RV K) Q (sSlc x lo hi vh)) : rSlAll K v lo hi H Q := by
  cases x with
  | ref n =>
    simp only [sSlc] at h
    split at h
    · rename_i xs e
      obtain ⟨a, vs, rfl, _, h1, h2⟩ := hr.seq rx e
      exact .inl ⟨a, vs, rfl, h1, out_alloc hr h rfl (h2.cut lo hi)⟩
    · exact h.elim
  | tup xs =>
    simp only [sSlc] at h
    split at h
    · exact h.elim
    · rename_i hz
      obtain ⟨p, vs, rfl, h1, h2⟩ := rx.tupI
      refine .inr ⟨p, vs, rfl, h1, ?_, out_tup hr h (h2.cut lo hi)⟩
      rw [← h2.length]; exact hz
  | _ => exact (show False from h).elim
theorem RVs.isEmpty {xs : List VV} {vs : List V} (r : RVs K μ H xs vs) : xs.isEmpty = vs.isEmpty := by cases r <;> rfl
theorem kv_isEmpty {kvs : List (Key × VV)} {ws : List (Key × V)} (h : kvs.map (·.1) = ws.map (·.1)) : kvs.isEmpty = ws.isEmpty := by
  cases kvs <;> cases ws <;> first | rfl | cases h
theorem trm {x : VV} {v : V} {k : Bool} (hr : HR K cls μ vh H) (rx : RV K μ H x v) (h : truV x vh = some k) : TruV K v H k := by
  cases x with
  | non => cases rx; cases h; exact rfl
  | bl b => cases rx; cases h; exact rfl
  | int b => cases rx; cases h; exact rfl
  | str s =>
    cases rx
    simp only [truV] at h
    split at h
    · rename_i hz
      cases h
      refine ⟨by rw [lineZ_eq]; exact hz, ?_⟩
      rw [Bool.eq_iff_iff]; simp
    · cases h
  | tup xs =>
    cases h
    obtain ⟨p, vs, rfl, h1, h2⟩ := rx.tupI
    exact .inr (.inl ⟨vs, h1, by rw [h2.isEmpty]⟩)
  | ref n =>
    have seqc : ∀ xs, seqL vh n = some xs → k = !xs.isEmpty → TruV K v H k := fun xs e ek => by
      obtain ⟨a, vs, rfl, _, h1, h2⟩ := hr.seq rx e
      exact .inl ⟨vs, h1, by rw [ek, h2.isEmpty]⟩
    simp only [truV] at h
    split at h
    · rename_i xs e; cases h; exact seqc xs (seqL_lst e) rfl
    · rename_i xs e; cases h; exact seqc xs (seqL_rol e) rfl
    · rename_i kvs e
      cases h
      obtain ⟨a, ws, rfl, _, h1, h2, h3⟩ := hr.getD rx e
      exact .inr (.inr ⟨ws, h1, by rw [kv_isEmpty h2]⟩)
    · cases h
theorem tyX_of {x : VV} {v : V} {n : String} (hr : HR K cls μ vh H) (rx : RV K μ H x v) (h : tyN x vh = some n) : TyX K H v (.type n) ∧ n ∈ ["NoneType", "bool", "int", "str", "tuple", "list", "dict"] := by
  have seqc : ∀ n' xs, seqL vh n' = some xs → RV K μ H (.ref n') v → TyX K H v (.type "list") := fun n' xs e rx => by
    obtain ⟨a, vs, rfl, _, h1, h2⟩ := hr.seq rx e
    rcases h1 with (h1 | ⟨o, h1⟩) | ⟨o, its, m, h1, h2, _⟩
    · exact .base (.lst h1)
    · exact .base (.frz h1)
    · exact .kList h1 h2
  cases x with
  | non => cases rx; cases h; exact ⟨.base .non, by simp⟩
  | bl b => cases rx; cases h; exact ⟨.base (.bl _), by simp⟩
  | int b => cases rx; cases h; exact ⟨.base (.int _), by simp⟩
  | str b => cases rx; cases h; exact ⟨.base (.str _), by simp⟩
  | tup xs =>
    cases h
    obtain ⟨p, vs, rfl, h1, h2⟩ := rx.tupI
    refine ⟨?_, by simp⟩
    rcases h1 with (h1 | ⟨o, h1⟩) | ⟨o, its, m, h1, h2, _⟩
    · exact .base (.tup h1)
    · exact .fTuple h1
    · exact .kTuple h1 h2
  | ref m =>
    simp only [tyN] at h
    split at h
    · rename_i xs e; cases h; exact ⟨seqc m xs (seqL_lst e) rx, by simp⟩
    · rename_i xs e; cases h; exact ⟨seqc m xs (seqL_rol e) rx, by simp⟩
    · rename_i kvs e
      cases h
      obtain ⟨a, ws, rfl, _, h1, h2, h3⟩ := hr.getD rx e
      exact ⟨.base (.dK h1), by simp⟩
    · cases h
theorem kit_all : ∀ n ∈ ["NoneType", "bool", "int", "str", "tuple", "list", "dict"], ∀ t ∈ tyNames, kitB n t = some (subTy n t) := by decide +kernel
end
section
variable {X : Cx} {cls : Nat → Option Addr}
def CallM (K : PySem.W.Frag) (cls : Nat → Option Addr) (r : List V → Hp → VK → Prop) (f : List VV → VH → Res VV) : Prop :=
  ∀ We μ vh H xs vs Q, HR K cls μ vh H → RVs K μ H xs vs → out K cls We μ H (RV K) Q (f xs vh) → r vs H Q
theorem RVs.oneI {K : PySem.W.Frag} {μ : List Addr} {H : Hp} {x : VV} {vs : List V} (r : RVs K μ H [x] vs) : ∃ v, vs = [v] ∧ RV K μ H x v := by
  cases r with
  | cons r t => cases t; exact ⟨_, rfl, r⟩
theorem RVs.twoI {K : PySem.W.Frag} {μ : List Addr} {H : Hp} {x y : VV} {vs : List V} (r : RVs K μ H [x, y] vs) : ∃ v w, vs = [v, w] ∧ RV K μ H x v ∧ RV K μ H y w := by
  cases r with
  | cons r t => cases t with | cons r' t => cases t; exact ⟨_, _, rfl, r, r'⟩
theorem RVs.nilI {K : PySem.W.Frag} {μ : List Addr} {H : Hp} {vs : List V} (r : RVs K μ H [] vs) : vs = [] := by cases r; rfl
def rLenAll (K : PySem.W.Frag) : List V → Hp → VK → Prop := fun xs H Q => (∃ x n, xs = [x] ∧ LenV K x H n ∧ Q (.int n) H) ∨ ∃ a kvs, xs = [.ref a] ∧ H a = some (.dK kvs) ∧ Q (.int kvs.length) H
theorem call_lenAll : CallR X (.builtin "len") (rLenAll X.K) := by
  intro pins s σ H xs us Q I r h
  rcases h with h | ⟨a, kvs, rfl, h1, q⟩
  · exact call_len pins s σ H xs us Q I r h
  · rw [Vals.ref1 r]
    exact d_len I (.inl h1) fun t s' I' => ⟨.int kvs.length, H, I', ⟨_, rfl⟩, q⟩
theorem kv_length {kvs : List (Key × VV)} {ws : List (Key × V)} (h : kvs.map (·.1) = ws.map (·.1)) : kvs.length = ws.length := by
  have := congrArg List.length h
  simpa using this
theorem cm_len {K : PySem.W.Frag} : CallM K cls (rLenAll K) (sBI .len) := by
  intro We μ vh H xs vs Q hr r h
  match xs, r, h with
  | [.str s], r, h =>
    obtain ⟨v, rfl, rv⟩ := r.oneI
    simp only [sBI] at h
    split at h
    · rename_i hz
      exact .inl ⟨_, s.length, rfl, by rw [rv.strI]; exact ⟨by rw [lineZ_eq]; exact hz, rfl⟩, out_here hr h (.int _)⟩
    · exact h.elim
  | [.tup ys], r, h =>
    obtain ⟨v, rfl, rv⟩ := r.oneI
    obtain ⟨p, vs, rfl, h1, h2⟩ := rv.tupI
    exact .inl ⟨_, ys.length, rfl, .inr ⟨vs, h1, h2.length⟩, out_here hr h (.int _)⟩
  | [.ref n], r, h =>
    obtain ⟨v, rfl, rv⟩ := r.oneI
    have seqc : ∀ ys, seqL vh n = some ys → out K cls We μ H (RV K) Q (.ok (.int ys.length) vh) → rLenAll K [v] H Q := fun ys e h => by
      obtain ⟨a, vs, rfl, _, h1, h2⟩ := hr.seq rv e
      exact .inl ⟨_, ys.length, rfl, .inl ⟨vs, h1, h2.length⟩, out_here hr h (.int _)⟩
    simp only [sBI] at h
    split at h
    · rename_i ys e; exact seqc ys (seqL_lst e) h
    · rename_i ys e; exact seqc ys (seqL_rol e) h
    · rename_i kvs e
      obtain ⟨a, ws, rfl, _, h1, h2, h3⟩ := hr.getD rv e
      exact .inr ⟨a, ws, rfl, h1, by rw [← kv_length h2]; exact out_here hr h (.int _)⟩
    · exact h.elim
  | [], _, h => exact (show False from h).elim
  | [.non], _, h => exact (show False from h).elim
  | [.bl _], _, h => exact (show False from h).elim
  | [.int _], _, h => exact (show False from h).elim
  | .str _ :: _ :: _, _, h => exact (show False from h).elim
  | .tup _ :: _ :: _, _, h => exact (show False from h).elim
  | .ref _ :: _ :: _, _, h => exact (show False from h).elim
  | .non :: _ :: _, _, h => exact (show False from h).elim
  | .bl _ :: _ :: _, _, h => exact (show False from h).elim
  | .int _ :: _ :: _, _, h => exact (show False from h).elim
theorem allInts_rel {K : PySem.W.Frag} {μ : List Addr} {H : Hp} : ∀ {xs : List VV} {ns : List Int}, allInts xs = some ns → xs = ns.map VV.int
  | [], ns, h => by cases h; rfl
  | x :: xs, ns, h => by
    cases x with
    | int i =>
      simp only [allInts, Option.map_eq_some_iff] at h
      obtain ⟨ms, e, rfl⟩ := h
      rw [allInts_rel (K := K) (μ := μ) (H := H) e]; rfl
    | _ => cases h
theorem allBls_rel : ∀ {xs : List VV} {ns : List Bool}, allBls xs = some ns → xs = ns.map VV.bl
  | [], ns, h => by cases h; rfl
  | x :: xs, ns, h => by
    cases x with
    | bl i =>
      simp only [allBls, Option.map_eq_some_iff] at h
      obtain ⟨ms, e, rfl⟩ := h
      rw [allBls_rel e]; rfl
    | _ => cases h
theorem allStrs_rel : ∀ {xs : List VV} {ns : List Str}, allStrs xs = some ns → xs = ns.map VV.str
  | [], ns, h => by cases h; rfl
  | x :: xs, ns, h => by
    cases x with
    | str i =>
      simp only [allStrs, Option.map_eq_some_iff] at h
      obtain ⟨ms, e, rfl⟩ := h
      rw [allStrs_rel e]; rfl
    | _ => cases h
theorem RVs.bls {K : PySem.W.Frag} {μ : List Addr} {H : Hp} : ∀ {ns : List Bool} {vs : List V}, RVs K μ H (ns.map VV.bl) vs → vs = ns.map V.bl
  | [], _, .nil => rfl
  | _ :: ns, _, .cons r t => by cases r; rw [RVs.bls t]; rfl
theorem RVs.strs {K : PySem.W.Frag} {μ : List Addr} {H : Hp} : ∀ {ns : List Str} {vs : List V}, RVs K μ H (ns.map VV.str) vs → vs = ns.map V.str
  | [], _, .nil => rfl
  | _ :: ns, _, .cons r t => by cases r; rw [RVs.strs t]; rfl
def rListOf (K : PySem.W.Frag) : List V → Hp → VK → Prop := fun xs H Q => ∃ p ys, xs = [.ref p] ∧ (SqL K H p ys ∨ SqT K H p ys) ∧ ∀ l, H l = none → Q (.ref l) (upd H l (.lst ys))
def rTupleOf (K : PySem.W.Frag) : List V → Hp → VK → Prop := fun xs H Q => ∃ p ys, xs = [.ref p] ∧ ((SqL K H p ys ∧ ∀ l, H l = none → Q (.ref l) (upd H l (.tup ys))) ∨ (SqT K H p ys ∧ Q (.ref p) H))
def rInt1 : List V → Hp → VK → Prop := fun xs H Q => (∃ i, xs = [.int i] ∧ Q (.int i) H) ∨ ∃ k, xs = [.bl k] ∧ Q (.int (if k then 1 else 0)) H
def rAbs : List V → Hp → VK → Prop := fun xs H Q => ∃ i, xs = [.int i] ∧ Q (.int (if i < 0 then -i else i)) H
def rMin2 : List V → Hp → VK → Prop := fun xs H Q => ∃ i j, xs = [.int i, .int j] ∧ Q (.int (if j < i then j else i)) H
def rMax2 : List V → Hp → VK → Prop := fun xs H Q => ∃ i j, xs = [.int i, .int j] ∧ Q (.int (if j > i then j else i)) H
def BI.r (K : PySem.W.Frag) : BI → List V → Hp → VK → Prop
  | .len => rLenAll K
  | .abs => rAbs
  | .min2 => rMin2
  | .max2 => rMax2
  | .int => rInt1
  | .list => rListOf K
  | .tuple => rTupleOf K
  | .sum => rSum K
  | .all => rAll K
  | .any => rAny K
  | .sorted => rSortAll K
def BI.nm : BI → Str
  | .len => "len"
  | .abs => "abs"
  | .min2 => "min"
  | .max2 => "max"
  | .int => "int"
  | .list => "list"
  | .tuple => "tuple"
  | .sum => "sum"
  | .all => "all"
  | .any => "any"
  | .sorted => "sorted"
/-- the built-in class, or none where it is a function -/
def BI.isTy : BI → Bool
  | .int => true
  | .list => true
  | .tuple => true
  | _ => false
def BI.id : BI → String
  | .len => "len"
  | .abs => "abs"
  | .min2 => "min"
  | .max2 => "max"
  | .int => "int"
  | .list => "list"
  | .tuple => "tuple"
  | .sum => "sum"
  | .all => "all"
  | .any => "any"
  | .sorted => "sorted"
def BI.val (b : BI) : Value := if b.isTy then .type b.id else .builtin b.id
theorem BI.boot (b : BI) : bootBuiltins b.nm = some b.val := by cases b <;> decide +kernel
theorem BI.ok (hc : X.calm = true) (b : BI) : CallR X b.val (b.r X.K) := by
  cases b with
  | len => exact call_lenAll
  | abs => exact call_abs
  | min2 => exact call_min2 hc
  | max2 => exact call_max2 hc
  | int => exact call_int1
  | list => exact call_list_of
  | tuple => exact call_tuple_of
  | sum => exact cr_sum hc
  | all => exact cr_all hc
  | any => exact cr_any hc
  | sorted => exact cr_sortAll
theorem allPrs_rel : ∀ {xs : List VV} {ps : List (Int × Int)}, allPrs xs = some ps → xs = ps.map fun p => VV.tup [.int p.1, .int p.2]
  | [], ps, h => by cases h; rfl
  | x :: xs, ps, h => by
    unfold allPrs at h
    split at h
    · rename_i e; cases e
    · rename_i e
      cases e
      rw [Option.map_eq_some_iff] at h
      obtain ⟨ms, e, rfl⟩ := h
      rw [allPrs_rel e]; rfl
    · cases h
theorem RVs.prs {K : PySem.W.Frag} {μ : List Addr} {H : Hp} : ∀ {ps : List (Int × Int)} {vs : List V}, RVs K μ H (ps.map fun p => VV.tup [.int p.1, .int p.2]) vs → PrV K H vs ps
  | [], _, .nil => .nil
  | _ :: ps, _, .cons r t => by
    obtain ⟨p, vs, rfl, h1, h2⟩ := r.tupI
    obtain ⟨v, w, rfl, rv, rw'⟩ := h2.twoI
    rw [rv.intI, rw'.intI] at h1
    exact .cons h1 (RVs.prs t)
theorem PrV.rvs {K : PySem.W.Frag} {μ : List Addr} {H : Hp} : ∀ {ps : List (Int × Int)} {vs : List V}, PrV K H vs ps → RVs K μ H (ps.map fun p => VV.tup [.int p.1, .int p.2]) vs
  | _, _, .nil => .nil
  | _, _, .cons h t => .cons (.tup h (.cons (.int _) (.cons (.int _) .nil))) (PrV.rvs t)
theorem cm_sorted {K : PySem.W.Frag} : CallM K cls (rSortAll K) (sBI .sorted) := by
  intro We μ vh H xs vs Q hr r h
  unfold sBI at h
  split at h <;> first | (rename_i e; cases e; done) | skip
  all_goals first
    | exact h.elim
    | skip
  split at h
  · rename_i ys e
    obtain ⟨v, rfl, rv⟩ := r.oneI
    obtain ⟨a, ws, rfl, _, h1, h2⟩ := hr.seq rv e
    split at h
    · rename_i ns e2
      have e3 := allInts_rel (K := K) (μ := μ) (H := H) e2
      subst e3
      rw [h2.ints] at h1
      refine .inl ⟨a, ns, rfl, h1, fun ns' p hp hs hf => ?_⟩
      rw [srtI_uniq hp hs]
      exact out_alloc (ho := .lst ((srtI ns).map V.int)) hr h rfl RVs.of_ints p hf
    · split at h
      · rename_i ps e2
        have e3 := allPrs_rel e2
        subst e3
        refine .inr ⟨a, ws, ps, rfl, h1, h2.prs, fun zs qs p hz hp hs hf => ?_⟩
        have e4 := srtP_uniq hp hs
        subst e4
        exact out_alloc (ho := .lst zs) hr h rfl hz.rvs p hf
      · exact h.elim
  · exact h.elim
theorem BI.m {K : PySem.W.Frag} (b : BI) : CallM K cls (b.r K) (sBI b) := by
  cases b with
  | len => exact cm_len
  | abs =>
    intro We μ vh H xs vs Q hr r h
    unfold sBI at h
    split at h <;> first | (rename_i e; cases e; done) | skip
    all_goals first
      | (obtain ⟨v, rfl, rv⟩ := r.oneI
         exact ⟨_, by rw [rv.intI], out_here hr h (.int _)⟩)
      | exact h.elim
  | min2 =>
    intro We μ vh H xs vs Q hr r h
    unfold sBI at h
    split at h <;> first | (rename_i e; cases e; done) | skip
    all_goals first
      | (obtain ⟨v, w, rfl, rv, rw'⟩ := r.twoI
         exact ⟨_, _, by rw [rv.intI, rw'.intI], out_here hr h (.int _)⟩)
      | exact h.elim
  | max2 =>
    intro We μ vh H xs vs Q hr r h
    unfold sBI at h
    split at h <;> first | (rename_i e; cases e; done) | skip
    all_goals first
      | (obtain ⟨v, w, rfl, rv, rw'⟩ := r.twoI
         exact ⟨_, _, by rw [rv.intI, rw'.intI], out_here hr h (.int _)⟩)
      | exact h.elim
  | int =>
    intro We μ vh H xs vs Q hr r h
    unfold sBI at h
    split at h <;> first | (rename_i e; cases e; done) | skip
    all_goals first
      | (obtain ⟨v, rfl, rv⟩ := r.oneI
         exact .inl ⟨_, by rw [rv.intI], out_here hr h (.int _)⟩)
      | (obtain ⟨v, rfl, rv⟩ := r.oneI
         exact .inr ⟨_, by rw [rv.blI], out_here hr h (.int _)⟩)
      | exact h.elim
  | list =>
    intro We μ vh H xs vs Q hr r h
    unfold sBI at h
    split at h <;> first | (rename_i e; cases e; done) | skip
    all_goals first
      | (split at h
         · rename_i ys e
           obtain ⟨v, rfl, rv⟩ := r.oneI
           obtain ⟨a, ws, rfl, h1, h2⟩ := hr.seqV rv e
           exact ⟨a, ws, rfl, h1, out_alloc hr h rfl h2⟩
         · exact h.elim)
      | exact h.elim
  | tuple =>
    intro We μ vh H xs vs Q hr r h
    unfold sBI at h
    split at h <;> first | (rename_i e; cases e; done) | skip
    all_goals first
      | (split at h
         · rename_i ys e
           obtain ⟨v, rfl, rv⟩ := r.oneI
           obtain ⟨a, ws, rfl, h1, h2⟩ := hr.seqV rv e
           refine ⟨a, ws, rfl, ?_⟩
           rcases h1 with h1 | h1
           · exact .inl ⟨h1, out_tup hr h h2⟩
           · exact .inr ⟨h1, out_here hr h (.tup h1 h2)⟩
         · exact h.elim)
      | exact h.elim
  | sum =>
    intro We μ vh H xs vs Q hr r h
    unfold sBI at h
    split at h <;> first | (rename_i e; cases e; done) | skip
    all_goals first
      | (split at h
         · rename_i ys e
           split at h
           · rename_i ns e2
             obtain ⟨v, rfl, rv⟩ := r.oneI
             obtain ⟨a, ws, rfl, _, h1, h2⟩ := hr.seq rv e
             have e3 := allInts_rel (K := K) (μ := μ) (H := H) e2
             subst e3
             rw [h2.ints] at h1
             exact ⟨a, ns, rfl, h1, out_here hr h (.int _)⟩
           · exact h.elim
         · exact h.elim)
      | exact h.elim
  | all =>
    intro We μ vh H xs vs Q hr r h
    unfold sBI at h
    split at h <;> first | (rename_i e; cases e; done) | skip
    all_goals first
      | (split at h
         · rename_i ys e
           split at h
           · rename_i ns e2
             obtain ⟨v, rfl, rv⟩ := r.oneI
             obtain ⟨a, ws, rfl, _, h1, h2⟩ := hr.seq rv e
             have e3 := allBls_rel e2
             subst e3
             rw [h2.bls] at h1
             exact ⟨a, ns, rfl, h1, out_here hr h (.bl _)⟩
           · exact h.elim
         · exact h.elim)
      | exact h.elim
  | any =>
    intro We μ vh H xs vs Q hr r h
    unfold sBI at h
    split at h <;> first | (rename_i e; cases e; done) | skip
    all_goals first
      | (split at h
         · rename_i ys e
           split at h
           · rename_i ns e2
             obtain ⟨v, rfl, rv⟩ := r.oneI
             obtain ⟨a, ws, rfl, _, h1, h2⟩ := hr.seq rv e
             have e3 := allBls_rel e2
             subst e3
             rw [h2.bls] at h1
             exact ⟨a, ns, rfl, h1, out_here hr h (.bl _)⟩
           · exact h.elim
         · exact h.elim)
      | exact h.elim
  | sorted => exact cm_sorted
end
end Fe
namespace Fe
open PySem PySem.Spec PyProof.Rows L2
section
variable {K : PySem.W.Frag} {cls : Nat → Option Addr} {We : Value → Option Addr → Hp → Prop} {μ : List Addr} {vh : VH} {H : Hp}
theorem any_key {k : Key} : ∀ {kvs : List (Key × VV)} {ws : List (Key × V)}, kvs.map (·.1) = ws.map (·.1) → (kvs.any fun kv => decide (kv.1 = k)) = ws.any fun kv => decide (kv.1 = k)
  | [], [], _ => rfl
  | [], _ :: _, h => by cases h
  | _ :: _, [], h => by cases h
  | (a, x) :: kvs, (b, v) :: ws, h => by
    simp only [List.map_cons, List.cons.injEq] at h
    simp only [List.any_cons]
    rw [h.1, any_key h.2]
theorem repl_rel {k : Key} {y : VV} {v : V} (r : RV K μ H y v) : ∀ {kvs : List (Key × VV)} {ws : List (Key × V)}, kvs.map (·.1) = ws.map (·.1) → RVs K μ H (kvs.map (·.2)) (ws.map (·.2)) →
    (kvs.map fun kv => if kv.1 = k then (kv.1, y) else kv).map (·.1) = (ws.map fun kv => if kv.1 = k then (kv.1, v) else kv).map (·.1) ∧
    RVs K μ H ((kvs.map fun kv => if kv.1 = k then (kv.1, y) else kv).map (·.2)) ((ws.map fun kv => if kv.1 = k then (kv.1, v) else kv).map (·.2))
  | [], [], _, _ => ⟨rfl, .nil⟩
  | [], _ :: _, h, _ => by cases h
  | _ :: _, [], h, _ => by cases h
  | (a, x) :: kvs, (b, w) :: ws, h, q => by
    simp only [List.map_cons, List.cons.injEq] at h
    obtain ⟨h1, h2⟩ := h
    have h1' : a = b := h1
    subst h1'
    cases q with
    | cons q1 q2 =>
      obtain ⟨r1, r2⟩ := repl_rel (k := k) r h2 q2
      by_cases e : a = k
      · simp only [List.map_cons, if_pos e]
        exact ⟨by rw [r1], .cons r r2⟩
      · simp only [List.map_cons, if_neg e]
        exact ⟨by rw [r1], .cons q1 r2⟩
theorem put_rel {k : Key} {y : VV} {v : V} (r : RV K μ H y v) {kvs : List (Key × VV)} {ws : List (Key × V)} (h : kvs.map (·.1) = ws.map (·.1)) (q : RVs K μ H (kvs.map (·.2)) (ws.map (·.2))) :
    (putKK kvs k y).map (·.1) = (putK ws k v).map (·.1) ∧ RVs K μ H ((putKK kvs k y).map (·.2)) ((putK ws k v).map (·.2)) := by
  unfold putKK putK
  rw [any_key (k := k) h]
  by_cases e : (ws.any fun kv => decide (kv.1 = k)) = true
  · rw [if_pos e, if_pos e]
    exact repl_rel r h q
  · rw [if_neg e, if_neg e]
    simp only [List.map_append, List.map_cons, List.map_nil]
    exact ⟨by rw [h], q.append (.cons r .nil)⟩
end
section
variable {X : Cx} {cls : Nat → Option Addr}
def ME.nm : ME → Str
  | .append => "append"
  | .pop => "pop"
  | .popAt => "pop"
  | .insert => "insert"
  | .reverse => "reverse"
  | .clear => "clear"
  | .extend => "extend"
  | .count => "count"
  | .join => "join"
  | .setdef => "setdefault"
def ME.id : ME → String
  | .append => "list.append"
  | .pop => "list.pop"
  | .popAt => "list.pop"
  | .insert => "list.insert"
  | .reverse => "list.reverse"
  | .clear => "list.clear"
  | .extend => "list.extend"
  | .count => "list.count"
  | .join => "str.join"
  | .setdef => "dict.setdefault"
theorem ME.pa (m : ME) : PlainAttrs m.ty := by cases m <;> first | exact PySem.F.plainAttrs_list | exact PySem.F.plainAttrs_str | exact PySem.F.plainAttrs_dict
theorem ME.slot (m : ME) : Slot m.ty m.nm m.id := by
  cases m
  · exact PySem.F.slot_list_append
  · exact PySem.F.slot_list_pop
  · exact PySem.F.slot_list_pop
  · exact PySem.F.slot_list_insert
  · exact PySem.F.slot_list_reverse
  · exact PySem.F.slot_list_clear
  · exact PySem.F.slot_list_extend
  · exact PySem.F.slot_list_count
  · exact PySem.F.slot_str_join
  · exact PySem.F.slot_dict_setdefault
theorem ME.tyd (m : ME) : typeOf (.builtin m.id) = pure (.type "method_descriptor") := by
  cases m
  · exact PySem.F.type_list_append
  · exact PySem.F.type_list_pop
  · exact PySem.F.type_list_pop
  · exact PySem.F.type_list_insert
  · exact PySem.F.type_list_reverse
  · exact PySem.F.type_list_clear
  · exact PySem.F.type_list_extend
  · exact PySem.F.type_list_count
  · exact PySem.F.type_str_join
  · exact PySem.F.type_dict_setdefault
def rInsert : V → List V → Hp → VK → Prop := fun x vs H Q => ∃ (l : Addr) (xs : List V) (i : Int) (y : V), x = .ref l ∧ vs = [.int i, y] ∧ H l = some (.lst xs) ∧ xs.length < sizeLine ∧ 0 ≤ i ∧ i < 2 ^ 63 ∧
    Q .non (upd H l (.lst (xs.take i.toNat ++ [y] ++ xs.drop i.toNat)))
def rJoin (K : PySem.W.Frag) : V → List V → Hp → VK → Prop := fun x xs H Q => ∃ a p, ∃ ys : List Str, x = .str a ∧ xs = [.ref p] ∧ (SqL K H p (ys.map V.str) ∨ SqT K H p (ys.map V.str)) ∧
    (ys.map (·.length)).sum + ys.length * a.length ≤ 16777216 ∧ Q (.str (Txt.join a ys)) H
def ME.r (K : PySem.W.Frag) : ME → V → List V → Hp → VK → Prop
  | .append => rAppend
  | .pop => rPop
  | .popAt => rPopAt
  | .insert => rInsert
  | .reverse => rReverse
  | .clear => rClear
  | .extend => rExtend
  | .count => rCntI K
  | .join => rJoin K
  | .setdef => rSetd
theorem ME.ok (m : ME) : MtR X m.id (m.r X.K) := by
  cases m
  · exact mt_append
  · exact mt_pop
  · exact mt_popAt
  · exact mt_insert
  · exact mt_reverse
  · exact mt_clear
  · exact mt_extend
  · exact mt_lcount
  · exact mt_join
  · exact mt_setd
def MethM (K : PySem.W.Frag) (cls : Nat → Option Addr) (r : V → List V → Hp → VK → Prop) (f : VV → List VV → VH → Res VV) : Prop :=
  ∀ We μ vh H x v xs vs Q, HR K cls μ vh H → RV K μ H x v → RVs K μ H xs vs → out K cls We μ H (RV K) Q (f x xs vh) → r v vs H Q
theorem ME.m {K : PySem.W.Frag} (m : ME) : MethM K cls (m.r K) (sME m) := by
  intro We μ vh H x v xs vs Q hr rx r h
  cases m with
  | append =>
    unfold sME at h
    split at h <;> first | (rename_i e; cases e; done) | skip
    all_goals first
      | (split at h
         · rename_i xs e
           split at h
           · rename_i hz
             obtain ⟨w, rfl, rw'⟩ := r.oneI
             obtain ⟨a, ws, rfl, a1, a2, a3⟩ := hr.getL rx e
             exact ⟨a, ws, w, rfl, rfl, a2, by rw [← a3.length, lineZ_eq]; exact hz, out_set hr h e rfl rfl a1 a2 rfl (a3.append (.cons rw' .nil)) fun _ _ => .non⟩
           · exact h.elim
         · exact h.elim)
      | exact h.elim
  | pop =>
    unfold sME at h
    split at h <;> first | (rename_i e; cases e; done) | skip
    all_goals first
      | (split at h
         · rename_i xs e
           split at h
           · rename_i y e2
             obtain rfl := r.nilI
             obtain ⟨a, ws, rfl, a1, a2, a3⟩ := hr.getL rx e
             obtain ⟨w, e3, e4⟩ := a3.get e2
             rw [a3.length] at e3
             refine ⟨a, ws, w, rfl, rfl, a2, e3, out_set hr h e rfl rfl a1 a2 rfl ?_ fun _ e => e4.mono e⟩
             show RVs K μ H _ _
             rw [List.dropLast_eq_take, List.dropLast_eq_take, a3.length]
             exact a3.take _
           · exact h.elim
         · exact h.elim)
      | exact h.elim
  | popAt =>
    unfold sME at h
    split at h <;> first | (rename_i e; cases e; done) | skip
    all_goals first
      | (split at h
         · rename_i xs e
           split at h
           · rename_i k ek
             split at h
             · rename_i y e2
               split at h
               · rename_i hz
                 obtain ⟨w, rfl, rw'⟩ := r.oneI
                 obtain ⟨a, ws, rfl, a1, a2, a3⟩ := hr.getL rx e
                 obtain ⟨w', e3, e4⟩ := a3.get e2
                 exact ⟨a, ws, _, k, w', rfl, by rw [rw'.intI], a2, by omega, by omega, by rw [← a3.length]; exact ek, e3, out_set hr h e rfl rfl a1 a2 rfl (a3.eraseIdx k) fun _ e => e4.mono e⟩
               · exact h.elim
             · exact h.elim
           · exact h.elim
         · exact h.elim)
      | exact h.elim
  | insert =>
    unfold sME at h
    split at h <;> first | (rename_i e; cases e; done) | skip
    all_goals first
      | (split at h
         · rename_i xs e
           split at h
           · rename_i hz
             obtain ⟨w, w', rfl, rw1, rw2⟩ := r.twoI
             obtain ⟨a, ws, rfl, a1, a2, a3⟩ := hr.getL rx e
             exact ⟨a, ws, _, w', rfl, by rw [rw1.intI], a2, by rw [← a3.length, lineZ_eq]; exact hz.1, hz.2.1, by omega, out_set hr h e rfl rfl a1 a2 rfl (((a3.take _).append (.cons rw2 .nil)).append (a3.drop _)) fun _ _ => .non⟩
           · exact h.elim
         · exact h.elim)
      | exact h.elim
  | reverse =>
    unfold sME at h
    split at h <;> first | (rename_i e; cases e; done) | skip
    all_goals first
      | (split at h
         · rename_i xs e
           obtain rfl := r.nilI
           obtain ⟨a, ws, rfl, a1, a2, a3⟩ := hr.getL rx e
           exact ⟨a, ws, rfl, rfl, a2, out_set hr h e rfl rfl a1 a2 rfl a3.reverse fun _ _ => .non⟩
         · exact h.elim)
      | exact h.elim
  | clear =>
    unfold sME at h
    split at h <;> first | (rename_i e; cases e; done) | skip
    all_goals first
      | (split at h
         · rename_i xs e
           obtain rfl := r.nilI
           obtain ⟨a, ws, rfl, a1, a2, a3⟩ := hr.getL rx e
           exact ⟨a, ws, rfl, rfl, a2, out_set hr h e rfl rfl a1 a2 rfl .nil fun _ _ => .non⟩
         · exact h.elim)
      | exact h.elim
  | extend =>
    unfold sME at h
    split at h <;> first | (rename_i e; cases e; done) | skip
    all_goals first
      | (split at h
         · rename_i xs ys e e2
           split at h
           · rename_i hz
             obtain ⟨w, rfl, rw'⟩ := r.oneI
             obtain ⟨a, ws, rfl, a1, a2, a3⟩ := hr.getL rx e
             obtain ⟨b, zs, rfl, b1, b2, b3⟩ := hr.getL rw' e2
             exact ⟨a, b, ws, zs, rfl, rfl, a2, b2, by rw [← a3.length, ← b3.length, lineZ_eq]; exact hz, out_set hr h e rfl rfl a1 a2 rfl (a3.append b3) fun _ _ => .non⟩
           · exact h.elim
         · exact h.elim)
      | exact h.elim
  | count =>
    unfold sME at h
    split at h <;> first | (rename_i e; cases e; done) | skip
    all_goals first
      | (split at h
         · rename_i xs e
           split at h
           · rename_i ns e2
             obtain ⟨w, rfl, rw'⟩ := r.oneI
             obtain ⟨a, ws, rfl, a1, a2, a3⟩ := hr.seq rx e
             have e3 := allInts_rel (K := K) (μ := μ) (H := H) e2
             subst e3
             rw [a3.ints] at a2
             exact ⟨a, ns, _, rfl, by rw [rw'.intI], a2, out_here hr h (.int _)⟩
           · exact h.elim
         · exact h.elim)
      | exact h.elim
  | join =>
    unfold sME at h
    split at h <;> first | (rename_i e; cases e; done) | skip
    all_goals first
      | (split at h
         · rename_i xs e
           split at h
           · rename_i ns e2
             split at h
             · rename_i hz
               obtain ⟨w, rfl, rw'⟩ := r.oneI
               obtain ⟨a, ws, rfl, a1, a2, a3⟩ := hr.seq rw' e
               have e3 := allStrs_rel e2
               subst e3
               rw [a3.strs] at a2
               exact ⟨_, a, ns, rx.strI, rfl, .inl a2, hz, out_here hr h (.str _)⟩
             · exact h.elim
           · exact h.elim
         · exact h.elim)
      | exact h.elim
  | setdef =>
    unfold sME at h
    split at h <;> first | (rename_i e; cases e; done) | skip
    all_goals first
      | (split at h
         · rename_i kvs e
           split at h
           · rename_i key ek
             split at h
             · rename_i hz
               obtain ⟨w1, w2, rfl, rk, rw'⟩ := r.twoI
               obtain ⟨a, ws, rfl, a1, a2, a3, a4⟩ := hr.getD rx e
               refine ⟨a, ws, key, w2, rfl, by rw [key_rel rk ek], a2, ?_, fun u hu => ?_, fun hn => ?_⟩
               · have := congrArg List.length a3
                 simp only [List.length_map] at this
                 rw [← this, lineZ_eq]; exact hz
               · rcases look_rel (k := key) a3 a4 with ⟨_, z⟩ | ⟨x, v, z1, z2, z3⟩
                 · rw [hu] at z; cases z
                 · rw [hu] at z2
                   cases z2
                   rw [z1] at h
                   exact out_here hr h z3
               · rcases look_rel (k := key) a3 a4 with ⟨z, _⟩ | ⟨x, v, z1, z2, z3⟩
                 · rw [z] at h
                   exact out_set (ho' := .dK (putK ws key w2)) hr h e rfl rfl a1 a2 rfl (put_rel rw' a3 a4) fun _ e => rw'.mono e
                 · rw [hn] at z2; cases z2
             · exact h.elim
           · exact h.elim
         · exact h.elim)
      | exact h.elim
theorem tyOk_rel {K : PySem.W.Frag} {μ : List Addr} {vh : VH} {H : Hp} {m : ME} {x : VV} {v : V} (hr : HR K cls μ vh H) (rx : RV K μ H x v) (h : tyOk m x vh = true) : tyV K m.ty v H := by
  have lst : isLst x vh = true → tyV K "list" v H := fun h => by
    cases x with
    | ref n =>
      cases e : seqL vh n with
      | none => unfold isLst at h; simp only [e] at h; cases h
      | some xs =>
        obtain ⟨a, vs, rfl, _, h1, h2⟩ := hr.seq rx e
        exact .inl ⟨rfl, vs, h1⟩
    | _ => cases h
  cases m with
  | join =>
    cases x with
    | str s => rw [rx.strI]; exact rfl
    | _ => cases h
  | setdef =>
    cases x with
    | ref n =>
      cases e : vh[n]? with
      | none => unfold tyOk isDct at h; simp only [e] at h; cases h
      | some o =>
        cases o with
        | dct kvs =>
          obtain ⟨a, ws, rfl, _, h1, _⟩ := hr.getD rx e
          exact .inr (.inr (.inl ⟨rfl, .inl ⟨ws, h1⟩⟩))
        | _ => unfold tyOk isDct at h; simp only [e] at h; cases h
    | _ => cases h
  | _ => exact lst h
def rSetD : V → V → V → Hp → (Hp → Prop) → Prop := fun o i v H Q => ∃ a H', o = .ref a ∧ DPut H a i v H' ∧ Q H'
theorem set_dict (hu : X.A.units + 1 < cLine) : PSet X rSetD := by
  intro pins s σ H o i v ov iv u Q I ro ri rv h
  obtain ⟨a, H', rfl, g, q⟩ := h
  cases ro
  exact d_setItem hu I g ri rv fun s' I' => ⟨H', I', q⟩
def rSetAll : V → V → V → Hp → (Hp → Prop) → Prop := fun o i v H Q => rSetL o i v H Q ∨ rSetD o i v H Q
theorem set_all (hu : X.A.units + 1 < cLine) : PSet X rSetAll := by
  intro pins s σ H o i v ov iv u Q I ro ri rv h
  rcases h with h | h
  · exact set_list pins s σ H o i v ov iv u Q I ro ri rv h
  · exact set_dict hu pins s σ H o i v ov iv u Q I ro ri rv h
end
end Fe
namespace Fe
open PySem PySem.Spec PyProof.Rows L2
section
variable {K : PySem.W.Frag} {cls : Nat → Option Addr} {We : Value → Option Addr → Hp → Prop} {μ : List Addr} {vh : VH} {H : Hp}
theorem setm {o i v : VV} {ov iv vv : V} {Q : Hp → Prop} (hr : HR K cls μ vh H) (ro : RV K μ H o ov) (ri : RV K μ H i iv) (rv : RV K μ H v vv) (h : out K cls We μ H (fun _ _ _ (_ : Unit) => True) (fun _ H' => Q H') (sSet o i v vh)) : rSetAll ov iv vv H Q := by
  cases o with
  | ref n =>
    simp only [sSet] at h
    split at h
    · rename_i xs e
      split at h
      · rename_i j ej
        obtain ⟨a, vs, rfl, a1, a2, a3⟩ := hr.getL ro e
        cases i with
        | int k =>
          exact .inl ⟨a, vs, k, j, rfl, ri.intI, a2, by rw [← a3.length]; exact ej, out_set (b := ()) hr h e rfl rfl a1 a2 rfl (a3.set rv j) fun _ _ => trivial⟩
        | _ => cases ej
      · exact h.elim
    · rename_i kvs e
      split at h
      · rename_i k ek
        split at h
        · rename_i hz
          obtain ⟨a, ws, rfl, a1, a2, a3, a4⟩ := hr.getD ro e
          refine .inr ⟨a, upd H a (.dK (putK ws k vv)), rfl, by rw [key_rel ri ek]; exact DPut.k a2 (by rw [← kv_length a3, lineZ_eq]; exact hz), out_set (b := ()) (ho' := .dK (putK ws k vv)) hr h e rfl rfl a1 a2 rfl (put_rel rv a3 a4) fun _ _ => trivial⟩
        · exact h.elim
      · exact h.elim
    · exact h.elim
  | _ => exact (show False from h).elim
end
section
variable {K : PySem.W.Frag} {cls : Nat → Option Addr} {We : Value → Option Addr → Hp → Prop} {μ : List Addr} {vh : VH} {H : Hp}
def rGetAll (K : PySem.W.Frag) : V → V → Hp → VK → Prop := fun o i H Q => rIxL K o i H Q ∨ rIxD o i H Q
theorem get_all {X : Cx} (hu : X.A.units + 1 < cLine) : PGet X (rGetAll X.K) := by
  intro pins s σ H o i ov iv Q I ro ri h
  rcases h with h | h
  · obtain ⟨p, xs, i, z, rfl, rfl, hq, he, q⟩ := h
    cases ro
    obtain ⟨t, rfl⟩ := ri
    obtain ⟨its, r, pl, hz⟩ := I.list hq
    obtain ⟨j, h1, h2, h3, h4, h5⟩ := atI_get he
    obtain ⟨w, ew, rw'⟩ := r.get h2
    have hl := r.length
    have hn := line63
    have fin : EP X pins σ Q w s := ⟨z, H, I, rw', q⟩
    by_cases h0 : 0 ≤ i
    · have hj : i.toNat = j := by
        rw [seqIndex_of h0 h5] at h1
        exact Option.some.inj h1
      exact wpAny_getItem_list pl.isList h0 (by omega) (by rw [hj]; simpa using ew) fin
    · have hj : (i + (its.toArray.size : Int)).toNat = j := by
        rw [seqIndex_neg (by omega) h4] at h1
        rw [List.size_toArray, ← hl]
        exact Option.some.inj h1
      exact wpAny_getItem_list_neg pl.isList (by omega) (by rw [List.size_toArray] <;> omega) (by omega) (by rw [hj]; simpa using ew) fin
  · obtain ⟨a, w, rfl, g, q⟩ := h
    cases ro
    exact d_getItem hu I g ri fun w' s3 I3 rw' => ⟨w, H, I3, rw', q⟩
theorem getm {o i : VV} {ov iv : V} {Q : VK} (hr : HR K cls μ vh H) (ro : RV K μ H o ov) (ri : RV K μ H i iv) (h : out K cls We μ H (RV K) Q (sGet o i vh)) : rGetAll K ov iv H Q := by
  cases o with
  | ref n =>
    simp only [sGet] at h
    split at h
    · rename_i xs e
      obtain ⟨b, e1, h'⟩ := okO_some h
      obtain ⟨j, rfl, e1⟩ := ixI_some e1
      obtain ⟨a, vs, rfl, a1, a2, a3⟩ := hr.getL ro e
      obtain ⟨w, e2, e3⟩ := atI_rel a3 e1
      exact .inl ⟨a, vs, j, w, rfl, ri.intI, SqL.of a2, e2, out_here hr h' e3⟩
    · rename_i kvs e
      obtain ⟨b, e1, h'⟩ := okO_some h
      rw [Option.bind_eq_some_iff] at e1
      obtain ⟨k, e2, e3⟩ := e1
      obtain ⟨a, ws, rfl, _, h1, h2, h3⟩ := hr.getD ro e
      rcases look_rel (k := k) h2 h3 with ⟨z1, z2⟩ | ⟨x1, v1, z1, z2, z3⟩
      · rw [z1] at e3; cases e3
      · rw [z1] at e3; cases e3
        refine .inr ⟨a, v1, rfl, ?_, out_here hr h' z3⟩
        rw [key_rel ri e2, ← z2]
        exact DGet.k h1
    · exact h.elim
  | _ => exact (show False from h).elim
end
section
variable (K : PySem.W.Frag) (cls : Nat → Option Addr)
def ItOk (it : Ito) (μ0 : List Addr) (H0 : Hp) (J : It) : Prop := ∀ (μ : List Addr) (H : Hp) (vh : VH) (i : Nat), Ext μ0 H0 μ H → HR K cls μ vh H →
  (it.nx i vh = some none → J.stop i H) ∧ ∀ x, it.nx i vh = some (some x) → J.go i H ∧ ∀ v H', J.yld i H v H' → Ext μ H μ H' ∧ HR K cls μ vh H' ∧ RV K μ H' x v
def tI (W : WX) (m : SSt → VH → Res Ito) : TI := fun τ H R => ∃ μ σ vh, SR K μ H σ τ ∧ HR K cls μ vh H ∧ out K cls (fun c d H' => W c d τ H') μ H (fun μ' H' it J => ItOk K cls it μ' H' J) R (m σ vh)
end
theorem _root_.L2.PI.imp {X : Cx} {tg it : Expr} {t t' : TI} (h : PI X tg it t) (k : ∀ σ H R, t' σ H R → t σ H R) : PI X tg it t' := ⟨fun pins s σ H R I hw => h.run pins s σ H R I (k _ _ _ hw)⟩
section
variable {K : PySem.W.Frag} {cls : Nat → Option Addr} {We : Value → Option Addr → Hp → Prop} {μ : List Addr} {vh : VH} {H : Hp}
theorem HR.seqAt (hr : HR K cls μ vh H) {n : Nat} {a : Addr} {xs : List VV} (ha : μ[n]? = some a) (h : seqL vh n = some xs) : ∃ vs, SqL K H a vs ∧ RVs K μ H xs vs := by
  obtain ⟨b, vs, e, e2, h1, h2⟩ := hr.seq (.ref ha) h
  cases e
  exact ⟨vs, h1, h2⟩
theorem itok_lst {n : Nat} {a : Addr} (ha : μ[n]? = some a) : ItOk K cls (.lst n) μ H (Itl K a) := by
  intro μ' H' vh i e hr
  have ha' := e.get ha
  refine ⟨fun h => ?_, fun x h => ?_⟩
  · simp only [Ito.nx, Option.map_eq_some_iff] at h
    obtain ⟨xs, h1, h2⟩ := h
    obtain ⟨vs, h3, h4⟩ := hr.seqAt ha' h1
    exact ⟨vs, h3, by rw [← h4.length]; exact List.getElem?_eq_none_iff.mp h2⟩
  · simp only [Ito.nx, Option.map_eq_some_iff] at h
    obtain ⟨xs, h1, h2⟩ := h
    obtain ⟨vs, h3, h4⟩ := hr.seqAt ha' h1
    obtain ⟨v, h5, h6⟩ := h4.get h2
    refine ⟨⟨vs, v, h3, h5⟩, fun w H2 hy => ?_⟩
    obtain ⟨rfl, hy⟩ := hy
    have : v = w := Option.some.inj (h5.symm.trans (hy vs h3))
    subst this
    exact ⟨Ext.refl _ _, hr, h6⟩
theorem itok_tup {p : Addr} {xs : List VV} {vs : List V} (h1 : SqT K H p vs) (h2 : RVs K μ H xs vs) : ItOk K cls (.tup xs) μ H (Itt K p) := by
  intro μ' H' vh i e hr
  have h1' := e.tp.sqT h1
  have h2' := h2.mono e
  refine ⟨fun h => ?_, fun x h => ?_⟩
  · simp only [Ito.nx, Option.some.injEq] at h
    exact ⟨vs, h1', by rw [← h2'.length]; exact List.getElem?_eq_none_iff.mp h⟩
  · simp only [Ito.nx, Option.some.injEq] at h
    obtain ⟨v, h5, h6⟩ := h2'.get h
    refine ⟨⟨vs, v, h1', h5⟩, fun w H2 hy => ?_⟩
    obtain ⟨rfl, hy⟩ := hy
    have : v = w := Option.some.inj (h5.symm.trans (hy vs h1'))
    subst this
    exact ⟨Ext.refl _ _, hr, h6⟩
theorem itok_rng {lo : Int} {n : Nat} : ItOk K cls (.rng lo n) μ H (Itr lo n) := by
  intro μ' H' vh i e hr
  refine ⟨fun h => ?_, fun x h => ?_⟩
  · simp only [Ito.nx, Option.some.injEq] at h
    split at h
    · cases h
    · rename_i hz; exact Nat.le_of_not_lt hz
  · simp only [Ito.nx, Option.some.injEq] at h
    split at h
    · rename_i hz
      cases h
      refine ⟨hz, fun w H2 hy => ?_⟩
      obtain ⟨rfl, rfl⟩ := hy
      exact ⟨Ext.refl _ _, hr, .int _⟩
    · cases h
theorem itok_rev {n k : Nat} {a : Addr} (ha : μ[n]? = some a) : ItOk K cls (.revL n k) μ H (Itv K a k) := by
  intro μ' H' vh i e hr
  have ha' := e.get ha
  refine ⟨fun h => ?_, fun x h => ?_⟩
  · simp only [Ito.nx, Option.bind_eq_some_iff] at h
    obtain ⟨xs, h1, h2⟩ := h
    split at h2
    · rename_i hz
      have h3 : xs.reverse[i]? = none := Option.some.inj h2
      have := List.getElem?_eq_none_iff.mp h3
      rw [List.length_reverse] at this
      show k ≤ i
      omega
    · cases h2
  · simp only [Ito.nx, Option.bind_eq_some_iff] at h
    obtain ⟨xs, h1, h2⟩ := h
    split at h2
    · rename_i hz
      have h3 : xs.reverse[i]? = some x := Option.some.inj h2
      have hlt : i < xs.length := by
        have := (List.getElem?_eq_some_iff.mp h3).1
        simpa using this
      rw [List.getElem?_reverse hlt, hz] at h3
      obtain ⟨vs, h4, h5⟩ := hr.seqAt ha' h1
      obtain ⟨v, h6, h7⟩ := h5.get h3
      refine ⟨⟨by omega, vs, v, h4, h6⟩, fun w H2 hy => ?_⟩
      obtain ⟨rfl, hy⟩ := hy
      have : v = w := Option.some.inj (h6.symm.trans (hy vs h4))
      subst this
      exact ⟨Ext.refl _ _, hr, h7⟩
    · cases h2
theorem itok_zipT {p q : Addr} {xs ys : List VV} {vs ws : List V} (h1 : SqT K H p vs) (h2 : RVs K μ H xs vs) (k1 : SqT K H q ws) (k2 : RVs K μ H ys ws) : ItOk K cls (.zipT xs ys) μ H (RZ.ItzT K p q) := by
  intro μ' H' vh i e hr
  have h1' := e.tp.sqT h1
  have h2' := h2.mono e
  have k1' := e.tp.sqT k1
  have k2' := k2.mono e
  refine ⟨fun h => ?_, fun x h => ?_⟩
  · simp only [Ito.nx, Option.some.injEq] at h
    refine ⟨vs, ws, h1', k1', ?_⟩
    rw [← h2'.length, ← k2'.length]
    split at h
    · cases h
    · rename_i hn
      by_cases hx : i < xs.length
      · by_cases hy : i < ys.length
        · exact absurd (List.getElem?_eq_getElem hy) (hn _ _ (List.getElem?_eq_getElem hx))
        · exact .inr (Nat.le_of_not_lt hy)
      · exact .inl (Nat.le_of_not_lt hx)
  · simp only [Ito.nx, Option.some.injEq] at h
    split at h
    · rename_i x1 y1 ex ey
      cases h
      obtain ⟨v, f1, f2⟩ := h2'.get ex
      obtain ⟨w, g1, g2⟩ := k2'.get ey
      refine ⟨⟨vs, ws, v, w, h1', k1', f1, g1⟩, fun z H2 hy => ?_⟩
      obtain ⟨T, v', w', rfl, nT, rfl, j1, j2⟩ := hy
      have e3 : v = v' := Option.some.inj (f1.symm.trans (j1 vs h1'))
      have e4 : w = w' := Option.some.inj (g1.symm.trans (j2 ws k1'))
      subst e3; subst e4
      have e5 : Ext μ' H' μ' (upd H' T (.tup [v, w])) := ⟨⟨[], by simp⟩, TP.new nT⟩
      exact ⟨e5, hr.new nT, .tup (SqT.of upd_same) (.cons (f2.mono e5) (.cons (g2.mono e5) .nil))⟩
    · cases h
theorem itok_zip {m n : Nat} {a b : Addr} (ha : μ[m]? = some a) (hb : μ[n]? = some b) : ItOk K cls (.zipL m n) μ H (Itz K a b) := by
  intro μ' H' vh i e hr
  have ha' := e.get ha
  have hb' := e.get hb
  refine ⟨fun h => ?_, fun x h => ?_⟩
  · simp only [Ito.nx] at h
    split at h
    · rename_i xs ys e1 e2
      obtain ⟨vs, h3, h4⟩ := hr.seqAt ha' e1
      obtain ⟨ws, h5, h6⟩ := hr.seqAt hb' e2
      refine ⟨vs, ws, h3, h5, ?_⟩
      rw [← h4.length, ← h6.length]
      simp only [Option.some.injEq] at h
      split at h
      · cases h
      · rename_i hn
        by_cases hx : i < xs.length
        · by_cases hy : i < ys.length
          · exact absurd (List.getElem?_eq_getElem hy) (hn _ _ (List.getElem?_eq_getElem hx))
          · exact .inr (Nat.le_of_not_lt hy)
        · exact .inl (Nat.le_of_not_lt hx)
    · cases h
  · simp only [Ito.nx] at h
    split at h
    · rename_i xs ys e1 e2
      simp only [Option.some.injEq] at h
      split at h
      · rename_i x1 y1 ex ey
        cases h
        obtain ⟨vs, h3, h4⟩ := hr.seqAt ha' e1
        obtain ⟨ws, h5, h6⟩ := hr.seqAt hb' e2
        obtain ⟨v, f1, f2⟩ := h4.get ex
        obtain ⟨w, g1, g2⟩ := h6.get ey
        refine ⟨⟨vs, ws, v, w, h3, h5, f1, g1⟩, fun z H2 hy => ?_⟩
        obtain ⟨T, v', w', rfl, nT, rfl, k1, k2⟩ := hy
        have e3 : v = v' := Option.some.inj (f1.symm.trans (k1 vs h3))
        have e4 : w = w' := Option.some.inj (g1.symm.trans (k2 ws h5))
        subst e3 e4
        have e5 : Ext μ' H' μ' (upd H' T (.tup [v, w])) := ⟨⟨[], by simp⟩, TP.new nT⟩
        exact ⟨e5, hr.new nT, .tup (SqT.of upd_same) (.cons (f2.mono e5) (.cons (g2.mono e5) .nil))⟩
      · cases h
    · cases h
theorem itok_enum {n : Nat} {a : Addr} (ha : μ[n]? = some a) : ItOk K cls (.enumL n) μ H (Ite K a) := by
  intro μ' H' vh i e hr
  have ha' := e.get ha
  refine ⟨fun h => ?_, fun x h => ?_⟩
  · simp only [Ito.nx, Option.map_eq_some_iff] at h
    obtain ⟨xs, h1, h2⟩ := h
    obtain ⟨vs, h3, h4⟩ := hr.seqAt ha' h1
    rw [Option.map_eq_none_iff] at h2
    exact ⟨vs, h3, by rw [← h4.length]; exact List.getElem?_eq_none_iff.mp h2⟩
  · simp only [Ito.nx, Option.map_eq_some_iff] at h
    obtain ⟨xs, h1, x1, h2, rfl⟩ := h
    obtain ⟨vs, h3, h4⟩ := hr.seqAt ha' h1
    obtain ⟨v, h5, h6⟩ := h4.get h2
    refine ⟨⟨vs, v, h3, h5⟩, fun z H2 hy => ?_⟩
    obtain ⟨T, v', rfl, nT, rfl, k1⟩ := hy
    have e3 : v = v' := Option.some.inj (h5.symm.trans (k1 vs h3))
    subst e3
    have e5 : Ext μ' H' μ' (upd H' T (.tup [.int (i : Nat), v])) := ⟨⟨[], by simp⟩, TP.new nT⟩
    exact ⟨e5, hr.new nT, .tup (SqT.of upd_same) (.cons (.int _) (.cons (h6.mono e5) .nil))⟩
end
/-- a list or a tuple, walked -/
def iSeq (K : PySem.W.Frag) (tl : TE) : TI := fun σ H R => tl σ H fun x H1 => (∃ a, x = .ref a ∧ (∃ xs, SqL K H1 a xs) ∧ R (Itl K a) H1) ∨ ∃ a, x = .ref a ∧ (∃ xs, SqT K H1 a xs) ∧ R (Itt K a) H1
theorem pi_seq {X : Cx} {tg l : Expr} {tl : TE} (hl : PE X l tl) : PI X tg l (iSeq X.K tl) := by
  refine ⟨fun pins s σ H R I h => ?_⟩
  refine thn (hl.run pins s σ H _ I h) fun v s1 ⟨x, H1, I1, r1, q1⟩ => ?_
  rcases q1 with ⟨a, e, ⟨xs, hq⟩, q⟩ | ⟨a, e, ⟨xs, hq⟩, q⟩
  · subst e
    cases r1
    obtain ⟨its, rv, p, hz⟩ := I1.list hq
    exact wpAny_pyIter_list p.isList (pi_one (tk := s1.toks) I1 _ (turn_list a _) ⟨_, Heap.get?_push_size _ rfl, rfl, rfl⟩ q)
  · subst e
    cases r1
    obtain ⟨its, rv, p, hz⟩ := I1.tuple hq
    exact wpAny_pyIter_tuple (show s1.heap.IsTuple a its.toArray from p) (pi_one (tk := s1.toks) I1 _ (turn_tuple a _) ⟨_, Heap.get?_push_size _ rfl, rfl, rfl⟩ q)
end Fe
namespace Fe
open PySem PySem.Spec PyProof.Rows L2
structure Ck where
  N : List Str
  fnm : Nat → Option Str
  gnm : Nat → Option Str
  bf : Str → Bool
  rs : Nat → Bool := fun _ => false
  ct : Nat → Bool := fun _ => false
def okName (x : Str) : Bool := !(x == ("__debug__" : Str)) && !(x == ("__classdict__" : Str))
def visB (sc : Scope) (x : Str) : Bool := match sc.names.lookup x with
  | some .local => true
  | some .cell => true
  | some .free => true
  | _ => false
def locB (sc : Scope) (blk : Bool) (x : Str) : Bool := match sc.names.lookup x with
  | some .local => true
  | some .cell => !blk
  | _ => false
def glB (sc : Scope) (x : Str) : Bool := match sc.names.lookup x with
  | some .globalImplicit => true
  | _ => false
def bltB (c : Ck) (sc : Scope) (x : Str) : Bool := glB sc x && c.bf x && !(x == ("__debug__" : Str))
def plainE : Expr → Bool
  | .Starred _ _ => false
  | .Slice _ _ _ _ => false
  | .Set _ _ _ => false
  | _ => true
def plainTest : Expr → Bool
  | .UnaryOp _ _ _ => false
  | .BoolOp _ _ _ => false
  | .IfExp _ _ _ _ => false
  | .Compare _ _ _ _ => false
  | _ => true
def plainBase : Expr → Bool
  | .Call _ [] _ _ => false
  | _ => true
def notComp : Expr → Bool
  | .ListComp _ _ _ _ => false
  | .SetComp _ _ _ _ => false
  | .DictComp _ _ _ _ _ => false
  | _ => true
def notTup : Expr → Bool
  | .Tuple _ _ _ => false
  | _ => true
/-- no names are swapped where these are stored -/
def swT : Expr → Expr → Bool
  | .Subscript _ _ _, _ => true
  | .Tuple [.Subscript _ _ _, .Subscript _ _ _] _ _, _ => true
  | _, a => notTup a
theorem starEach_cons {e : Expr} {es : List Expr} {env : Env} (h : plainE e = true) : starEach (e :: es) env = (false, eval e env) :: starEach es env := by
  cases e <;> first | rfl | cases h
theorem star_any {pos : Pos} {env : Env} : ∀ {es : List Expr}, es.all plainE = true → (backTo pos (starEach es env)).any (·.1) = false
  | [], _ => by simp [starEach, backTo]
  | e :: es, h => by
    rw [List.all_cons, Bool.and_eq_true] at h
    have := star_any (pos := pos) (env := env) h.2
    rw [starEach_cons h.1]
    unfold backTo at this ⊢
    simpa using this
theorem plainIx {b : Expr} (h : plainE b = true) : PlainIx b := by cases b <;> first | (cases h; done) | (intro _ _; rfl)
theorem plain_true {e : Expr} {env : Env} {whole : Sem Value} (h : plainTest e = true) : isTrue e env whole = (do let v ← whole; standAt e.pos; holding [v] (truthy v)) := by cases e <;> first | rfl | cases h
theorem plain_base {o : Expr} {n : Str} {env : Env} {whole : Sem Value} (h : plainBase o = true) : attributeBase o n env whole = whole := by
  cases o <;> first | rfl | skip
  rename_i f as ks p
  cases as with
  | nil => cases h
  | cons a as => cases f <;> rfl
theorem plain_marks {o : CmpOp} {b : Expr} (h : plainE b = true) : behindInMarks o b = false := by cases b <;> first | rfl | cases h
theorem notComp_sw {v t : Expr} {l : Nat} {env : Env} (h : notComp v = true) : swapsWith v t l env = pure false := by cases v <;> first | rfl | cases h
def cellB (sc : Scope) (y : Str) : Bool := match sc.names.lookup y with
  | some .cell => true
  | _ => false
theorem cell_sw {v : Expr} {y : Str} {py : Pos} {l : Nat} {env : Env} (h : cellB env.scope y = true) : swapsWith v (some (.Name y py)) l env = pure false := by
  have hk : (env.kindOf y == some .local) = false := by
    unfold cellB at h
    show (env.scope.names.lookup y == some .local) = false
    split at h
    · rename_i e; rw [e]; rfl
    · cases h
  cases v <;> first | rfl | (unfold swapsWith; simp only [hk, Bool.and_false, Bool.false_and])
theorem set_sw {v : Expr} {y : Str} {py : Pos} {l : Nat} {env : Env} (h : (notComp v || cellB env.scope y) = true) : swapsWith v (some (.Name y py)) l env = pure false := by
  rcases Bool.or_eq_true_iff.mp h with h | h
  · exact notComp_sw h
  · exact cell_sw h
theorem plain_folded {e : Expr} {env : Env} {x : Value} (h : plainE e = true) : foldedSetIterable e env x = pure x := by cases e <;> first | rfl | cases h
def litB : Cn → Const → Bool
  | .non, .none => true
  | .bl a, .bool b => a == b
  | .int a, .int b => decide (a = b)
  | .str a, .str b => decide (a = b)
  | _, _ => false
def slotB (c : Ck) (i : Nat) (x : Str) : Bool := decide (c.N[i]? = some x)
/-- a class asked for -/
def clsB (c : Ck) (sc : Scope) (d : Nat) (z : Str) : Bool := decide (clsNm d = some z) && c.ct d && glB sc z && okName z
mutual
def chkE (c : Ck) (sc : Scope) (blk : Bool) : E → Expr → Bool
  | .nm i, xx => match xx with
    | .Name x _ => slotB c i x && visB sc x && okName x
    | _ => false
  | .gl j, xx => match xx with
    | .Name x _ => decide (c.gnm j = some x) && glB sc x && okName x
    | _ => false
  | .cn k, xx => match xx with
    | .Constant v _ _ => litB k v
    | _ => false
  | .bin o a b, xx => match xx with
    | .BinOp x op y _ => decide (op = o.op) && chkE c sc blk a x && chkE c sc blk b y
    | _ => false
  | .neg a, xx => match xx with
    | .UnaryOp op x _ => decide (op = .USub) && chkE c sc blk a x
    | _ => false
  | .cmp o a b, xx => match xx with
    | .Compare x [op] [y] _ => decide (op = o.op) && plainE y && chkE c sc blk a x && chkE c sc blk b y
    | _ => false
  | .chain o1 o2 a b d, xx => match xx with
    | .Compare x [p1, p2] [y, z] _ => decide (p1 = o1.op) && decide (p2 = o2.op) && plainE z && chkE c sc blk a x && chkE c sc blk b y && chkE c sc blk d z
    | _ => false
  | .one a, xx => match xx with
    | .BoolOp _ [x] _ => chkE c sc blk a x
    | _ => false
  | .and a b, xx => match xx with
    | .BoolOp op (x :: y :: r) pos => decide (op = .And) && chkE c sc blk a x && chkE c sc blk b (.BoolOp .And (y :: r) pos)
    | _ => false
  | .or a b, xx => match xx with
    | .BoolOp op (x :: y :: r) pos => decide (op = .Or) && chkE c sc blk a x && chkE c sc blk b (.BoolOp .Or (y :: r) pos)
    | _ => false
  | .not a, xx => match xx with
    | .UnaryOp op x _ => decide (op = .Not) && chkE c sc blk a x
    | _ => false
  | .ife t a b, xx => match xx with
    | .IfExp z x y _ => chkB c sc blk t z && chkE c sc blk a x && chkE c sc blk b y
    | _ => false
  | .tup es, xx => match xx with
    | .Tuple xs _ _ => chkEs c sc blk es xs
    | _ => false
  | .lst es, xx => match xx with
    | .List xs _ => chkEs c sc blk es xs
    | _ => false
  | .dnew, xx => match xx with
    | .Dict [] [] _ => true
    | _ => false
  | .ix a b, xx => match xx with
    | .Subscript x y _ => plainE y && chkE c sc blk a x && chkE c sc blk b y
    | _ => false
  | .slc a lo hi, xx => match xx with
    | .Subscript x (.Slice l h none _) _ => chkE c sc blk a x && chkO c sc blk lo l && chkO c sc blk hi h
    | _ => false
  | .call f es, xx => match xx with
    | .Call (.Name x _) xs [] _ => decide (c.fnm f = some x) && glB sc x && !(x == ("__debug__" : Str)) && chkEs c sc blk es xs
    | _ => false
  | .bi f es, xx => match xx with
    | .Call (.Name x _) (y :: xs) [] _ => decide (x = f.nm) && bltB c sc x && chkEs c sc blk es (y :: xs)
    | _ => false
  | .isi a t, xx => match xx with
    | .Call (.Name x _) [y, .Name z _] [] _ => decide (x = "isinstance") && bltB c sc x && plainE y && bltB c sc z && !(z == ("__classdict__" : Str)) && decide (z = Str.ofString t) && tyNames.contains t && chkE c sc blk a y
    | _ => false
  | .o1 k a, xx => match k with
    | .lrev => match xx with
      | .Call (.Name x _) [.Call (.Name y _) [z] [] _] [] _ => decide (x = "list") && bltB c sc x && decide (y = "reversed") && bltB c sc y && plainE z && chkE c sc blk a z
      | _ => false
    | .lrg => match xx with
      | .Call (.Name x _) [.Call (.Name y _) [z] [] _] [] _ => decide (x = "list") && bltB c sc x && decide (y = "range") && bltB c sc y && plainE z && chkE c sc blk a z
      | _ => false
    | .lrr => match xx with
      | .Call (.Name x _) [.Call (.Name y _) [.Call (.Name u _) [z] [] _] [] _] [] _ => decide (x = "list") && bltB c sc x && decide (y = "reversed") && bltB c sc y && decide (u = "range") && bltB c sc u && plainE z && chkE c sc blk a z
      | _ => false
    | .lval => match xx with
      | .Call (.Name x _) [.Call (.Attribute z n ap) [] [] cp] [] _ => decide (x = "list") && bltB c sc x && decide (n = "values") && plainBase z && (ap.endLine == cp.line) && chkE c sc blk a z
      | _ => false
    | .nset => match xx with
      | .Call (.Name x _) [.Call (.Name y _) [z] [] _] [] _ => decide (x = "len") && bltB c sc x && decide (y = "set") && bltB c sc y && plainE z && chkE c sc blk a z
      | _ => false
    | .ev0 => match xx with
      | .Subscript x (.Slice (some (.Constant (.int i) _ _)) none (some (.Constant (.int t) _ _)) _) _ => decide (i = 0) && decide (t = 2) && chkE c sc blk a x
      | _ => false
    | .ev1 => match xx with
      | .Subscript x (.Slice (some (.Constant (.int i) _ _)) none (some (.Constant (.int t) _ _)) _) _ => decide (i = 1) && decide (t = 2) && chkE c sc blk a x
      | _ => false
    | .bits => match xx with
      | .Call (.Attribute x n ap) [] [] cp => decide (n = "bit_length") && plainBase x && (ap.endLine == cp.line) && chkE c sc blk a x
      | _ => false
  | .me m o es, xx => match xx with
    | .Call (.Attribute x n ap) xs [] cp => decide (n = m.nm) && plainBase x && (ap.endLine == cp.line) && decide (xs.length < 29) && chkE c sc blk o x && chkEs c sc blk es xs
    | _ => false
  | .lc elt t it ifs own, xx => match xx with
    | .ListComp e [⟨tg, ie, is, 0⟩] scope _ => blkC c.N sc scope (own.map fun i => (c.N.getD i "", i)) && plainE ie && chkI c sc blk it tg ie
        && chkT c (relS scope sc) true t tg && (T.slots t).all (fun i => own.contains i) && chkBs c (relS scope sc) true ifs is && chkE c (relS scope sc) true elt e
    | _ => false
  | .isx _, _ => false
  | .isv a cs, xx => match xx with
    | .Call (.Name f _) [y, .Name z _] [] _ => decide (f = "isinstance") && bltB c sc f && plainE y && (match cs with | [d] => clsB c sc d z | _ => false) && chkE c sc blk a y
    | _ => false
def chkEs (c : Ck) (sc : Scope) (blk : Bool) : Es → List Expr → Bool
  | .nil, [] => true
  | .cons e es, x :: xs => plainE x && chkE c sc blk e x && chkEs c sc blk es xs
  | _, _ => false
def chkO (c : Ck) (sc : Scope) (blk : Bool) : Oe → Option Expr → Bool
  | .none, none => true
  | .some e, some x => chkE c sc blk e x
  | _, _ => false
def chkB (c : Ck) (sc : Scope) (blk : Bool) : B → Expr → Bool
  | .cmp o a b, xx => match xx with
    | .Compare x [op] [y] _ => decide (op = o.op) && plainE y && chkE c sc blk a x && chkE c sc blk b y
    | _ => false
  | .chain o1 o2 a b d, xx => match xx with
    | .Compare x [p1, p2] [y, z] _ => decide (p1 = o1.op) && decide (p2 = o2.op) && plainE z && chkE c sc blk a x && chkE c sc blk b y && chkE c sc blk d z
    | _ => false
  | .one a, xx => match xx with
    | .BoolOp op [x] _ => chkB c sc blk a x
    | _ => false
  | .and a b, xx => match xx with
    | .BoolOp op (x :: y :: r) pos => decide (op = .And) && chkB c sc blk a x && chkB c sc blk b (.BoolOp .And (y :: r) pos)
    | _ => false
  | .or a b, xx => match xx with
    | .BoolOp op (x :: y :: r) pos => decide (op = .Or) && chkB c sc blk a x && chkB c sc blk b (.BoolOp .Or (y :: r) pos)
    | _ => false
  | .not a, xx => match xx with
    | .UnaryOp op x _ => decide (op = .Not) && chkB c sc blk a x
    | _ => false
  | .tr e, x => plainTest x && chkE c sc blk e x
def chkBs (c : Ck) (sc : Scope) (blk : Bool) : Bs → List Expr → Bool
  | .nil, [] => true
  | .one b, [x] => chkB c sc blk b x
  | _, _ => false
def chkT (c : Ck) (sc : Scope) (blk : Bool) : T → Expr → Bool
  | .nm i, xx => match xx with
    | .Name x _ => slotB c i x && locB sc blk x
    | _ => false
  | .tup ts, xx => match xx with
    | .Tuple xs _ _ => chkTs c sc blk ts xs
    | _ => false
  | .sub o i, xx => match xx with
    | .Subscript x y _ => plainE y && chkE c sc blk o x && chkE c sc blk i y
    | _ => false
def chkTs (c : Ck) (sc : Scope) (blk : Bool) : Ts → List Expr → Bool
  | .nil, [] => true
  | .cons t ts, x :: xs => plainE x && chkT c sc blk t x && chkTs c sc blk ts xs
  | _, _ => false
def chkI (c : Ck) (sc : Scope) (blk : Bool) : I → Expr → Expr → Bool
  | .sq e, _, x => chkE c sc blk e x
  | .rng1 a, _, xx => match xx with
    | .Call (.Name f _) [x] [] _ => decide (f = "range") && bltB c sc f && plainE x && chkE c sc blk a x
    | _ => false
  | .rng2 a b, _, xx => match xx with
    | .Call (.Name f _) [x, y] [] _ => decide (f = "range") && bltB c sc f && plainE x && plainE y && chkE c sc blk a x && chkE c sc blk b y
    | _ => false
  | .rev a, _, xx => match xx with
    | .Call (.Name f _) [x] [] _ => decide (f = "reversed") && bltB c sc f && plainE x && chkE c sc blk a x
    | _ => false
  | .zip a b, tt, xx => (match tt with | .Tuple _ _ _ => true | _ => false) && match xx with
    | .Call (.Name f _) [x, y] [] _ => decide (f = "zip") && bltB c sc f && plainE x && plainE y && chkE c sc blk a x && chkE c sc blk b y
    | _ => false
  | .enum a, tt, xx => (match tt with | .Tuple _ _ _ => true | _ => false) && match xx with
    | .Call (.Name f _) [x] [] _ => decide (f = "enumerate") && bltB c sc f && plainE x && chkE c sc blk a x
    | _ => false
end
def clsBs (c : Ck) (sc : Scope) : List Nat → List Expr → Bool
  | [], [] => true
  | d :: ds, .Name z _ :: zs => clsB c sc d z && clsBs c sc ds zs
  | _, _ => false
mutual
def chkX (c : Ck) (sc : Scope) (i : Option Nat) : E → Expr → Bool
  | .isx cs, xx => match xx with
    | .Call (.Name f _) [.Name n _, y] [] _ => decide (f = "isinstance") && bltB c sc f && visB sc n && okName n && (match i with | some j => slotB c j n | none => false) &&
      (match y with
      | .Name z _ => (match cs with | [d] => clsB c sc d z | _ => false)
      | .Tuple zs _ _ => clsBs c sc cs zs && decide (cs.length < 100)
      | _ => false)
    | _ => false
  | .nm j, xx => match xx with
    | .Name x _ => slotB c j x && visB sc x && okName x
    | _ => false
  | .cn k, xx => match xx with
    | .Constant v _ _ => litB k v
    | _ => false
  | .bin o a b, xx => match xx with
    | .BinOp x op y _ => decide (op = o.op) && chkX c sc i a x && chkX c sc i b y
    | _ => false
  | .one a, xx => match xx with
    | .BoolOp _ [x] _ => chkX c sc i a x
    | _ => false
  | .or a b, xx => match xx with
    | .BoolOp op (x :: y :: r) pos => decide (op = .Or) && chkX c sc i a x && chkX c sc i b (.BoolOp .Or (y :: r) pos)
    | _ => false
  | .lst es, xx => match xx with
    | .List xs _ => chkXs c sc i es xs
    | _ => false
  | _, _ => false
def chkXs (c : Ck) (sc : Scope) (i : Option Nat) : Es → List Expr → Bool
  | .nil, [] => true
  | .cons e es, x :: xs => plainE x && chkX c sc i e x && chkXs c sc i es xs
  | _, _ => false
end
def chkH1 (c : Ck) (sc : Scope) (i : Option Nat) : S → Stmt → Bool
  | .set j e, xx => match xx with
    | .Assign [.Name y _] x _ => slotB c j y && locB sc false y && (notComp x || cellB sc y) && !(i == some j) && chkX c sc i e x
    | _ => false
  | .expr (.me .append (.nm j) (.cons e .nil)), xx => match xx with
    | .Expr (.Call (.Attribute (.Name y _) n ap) [x] [] cp) _ => decide (n = "append") && slotB c j y && visB sc y && okName y && (ap.endLine == cp.line) && plainE x && chkX c sc i e x
    | _ => false
  | .pass, xx => match xx with
    | .Pass _ => true
    | _ => false
  | _, _ => false
def chkH (c : Ck) (sc : Scope) (i : Option Nat) : Ss → List Stmt → Bool
  | .nil, [] => true
  | .cons s r, x :: xs => chkH1 c sc i s x && chkH c sc i r xs
  | _, _ => false
mutual
def chkS (c : Ck) (sc : Scope) : S → Stmt → Bool
  | .expr e, xx => match xx with
    | .Expr x _ => notComp x && chkE c sc false e x
    | _ => false
  | .asg t e, xx => match xx with
    | .Assign [tg] x _ => notComp x && swT tg x && plainE tg && chkT c sc false t tg && chkE c sc false e x
    | _ => false
  | .set i e, xx => match xx with
    | .Assign [.Name y py] x sp => slotB c i y && locB sc false y && (notComp x || cellB sc y) && chkE c sc false e x
    | _ => false
  | .setLc i elt t it ifs own, xx => match xx with
    | .Assign [.Name y py] (.ListComp e [⟨tg, ie, is, 0⟩] scope pos) sp => slotB c i y && decide (sc.names.lookup y = some .local) && (py.line == pos.line) && !(scope.names.any fun (n, k) => n == y && (k == .local || k == .cell))
        && blkC c.N sc scope (own.map fun i => (c.N.getD i "", i)) && plainE ie && chkI c sc false it tg ie
        && chkT c (relS scope sc) true t tg && (T.slots t).all (fun i => own.contains i) && chkBs c (relS scope sc) true ifs is && chkE c (relS scope sc) true elt e
    | _ => false
  | .par i j a b, xx => match xx with
    | .Assign [.Tuple [.Name x px, .Name y py] _ _] (.Tuple [u, v] k2 p2) pos => slotB c i x && slotB c j y && decide (i ≠ j) && decide (sc.names.lookup x = some .local) && decide (sc.names.lookup y = some .local)
        && (px.line == py.line) && plainE u && plainE v && !((foldedForSure 8 u) && (foldedForSure 8 v)) && !((constantsAlone 8 u) && (constantsAlone 8 v)) && chkE c sc false a u && chkE c sc false b v
    | _ => false
  | .aug i o e, xx => match xx with
    | .AugAssign (.Name x _) op y _ => slotB c i x && locB sc false x && decide (op = o.op) && chkE c sc false e y
    | _ => false
  | .ret e, xx => match xx with
    | .Return (some x) _ => chkE c sc false e x
    | _ => false
  | .ret0, xx => match xx with
    | .Return none _ => true
    | _ => false
  | .ife t a b, xx => match xx with
    | .If x y z _ => chkB c sc false t x && chkSs c sc a y && chkSs c sc b z
    | _ => false
  | .whl t b, xx => match xx with
    | .While x y [] _ => chkB c sc false t x && chkSs c sc b y
    | _ => false
  | .fr t it b, xx => match xx with
    | .For tg x y [] _ => plainE x && chkI c sc false it tg x && chkT c sc false t tg && chkSs c sc b y
    | _ => false
  | .augS a o j e, xx => match xx with
    | .AugAssign (.Subscript x y _) op z _ => plainE y && decide (op = o.op) && chkE c sc false a x && chkE c sc false j y && chkE c sc false e z
    | _ => false
  | .any, _ => true
  | .pass, xx => match xx with
    | .Pass _ => true
    | _ => false
  | .brk, xx => match xx with
    | .Break _ => true
    | _ => false
  | .cont, xx => match xx with
    | .Continue _ => true
    | _ => false
  | .raise d, xx => match xx with
    | .Raise (some (.Call (.Name z _) [.Constant (.str _) _ _] [] _)) none _ => decide (clsNm d = some z) && c.rs d && glB sc z && !(z == ("__debug__" : Str))
    | _ => false
  | .tryc i e b h, xx => match xx with
    | .Try body [.ExceptHandler (some (.Name z _)) nn suite _] [] [] _ => clsB c sc e z && chkSs c sc b body && chkH c sc i h suite && !suite.isEmpty &&
      (match i, nn with
      | some i, some n => slotB c i n && decide (sc.names.lookup n = some .local)
      | none, none => true
      | _, _ => false)
    | _ => false
  | .tryk i e b j, xx => match xx with
    | .Try body [.ExceptHandler (some (.Name z _)) (some n) [.Assign [.Name y _] (.Name n2 _) _] _] [] [] _ => clsB c sc e z && chkSs c sc b body && slotB c i n && decide (sc.names.lookup n = some .local) && decide (n2 = n) && okName n && slotB c j y && decide (sc.names.lookup y = some .local) && !(i == j)
    | _ => false
  | .fx s, xx => chkS c sc s xx
def chkSs (c : Ck) (sc : Scope) : Ss → List Stmt → Bool
  | .nil, [] => true
  | .cons s r, x :: xs => chkS c sc s x && chkSs c sc r xs
  | _, _ => false
end
def spF (K : PySem.W.Frag) (cls : Nat → Option Addr) (n : Nat) (F : List VV → VH → Res VV) : Sp := fun vs H Q E => vs.length = n ∧ ∃ μ xs vh, HR K cls μ vh H ∧ RVs K μ H xs vs ∧ out K cls E μ H (RV K) Q (F xs vh)
/-- a class as a value -/
def clsV (e : Nat) (E : Addr) : V := if e = 13 then .ty "ValueError" else .ref E
def clsU (e : Nat) (E : Addr) : Value := if e = 13 then .type "ValueError" else .ref E
/-- what the top has written of the classes: those raised, those asked for -/
structure ClsOk (K : PySem.W.Frag) (mg : Str → Option Value) (cls ctb : Nat → Option Addr) (rs ct : Nat → Bool) : Prop where
  rs : ∀ d, rs d = true → ∃ C, cls d = some C
  nm : ∀ d C, cls d = some C → ∃ nm, clsNm d = some nm ∧ mg nm = some (.ref C)
  md : ∀ d C, cls d = some C → PySem.W.excIn K C [.type "ValueError", .type "Exception", .type "BaseException", .type "object"] "ValueError.__new__" = true ∧ PySem.W.keepIn K (.ref C) = true ∧ PySem.W.subIn K (.ref C) (.type "BaseException") = some true ∧ PySem.W.typeIn K (.ref C) = some (.type "type") ∧ ExcC K C
  ct : ∀ e, ct e = true → ∃ E, ctb e = some E
  cn : ∀ e E, ctb e = some E → e ≠ 13 → ∃ nm, clsNm e = some nm ∧ mg nm = some (.ref E)
  ve : ∀ E, ctb 13 = some E → mg "ValueError" = none
  sub : ∀ d C e E, cls d = some C → ctb e = some E → PySem.W.exmOne K (.ref C) (clsU e E) = some (subX d e) ∧ PySem.W.kitOne K (.ref C) (clsU e E) = some (subX d e)
structure XOk (c : Ck) (cls : Nat → Option Addr) (G : Gam) (k : Nat) (sc : Scope) (blk : Bool) (X : Cx) (W : WX) : Prop where
  hN : X.N = c.N
  nd : c.N.Nodup
  hsc : X.env.scope = sc
  calm : X.calm = true
  room : Room k X.A
  fn : blk = false → ∀ x, X.fn x = true
  bf : ∀ x, c.bf x = true → X.mg x = none
  gl : ∀ j nm v, c.gnm j = some nm → G.gl j = some v → ∃ u x, X.mg nm = some u ∧ RelV x u ∧ ∀ μ H, RV X.K μ H v x
  fs : ∀ f nm, c.fnm f = some nm → ∃ fa fd ps, X.mg nm = some (.ref fa) ∧ PySem.W.keepIn X.K (.ref fa) = true ∧ Binds X.K fd ps [] ∧ FnOk X.prog X.w X.K X.mg X.base (L2.CX X.prog X.w) k fa fd ps (spF X.K cls ps.length (G.fn f)) ∧ ∀ xs vh, xs.length ≠ ps.length → G.fn f xs vh = .stuck
  bk : blk = false → X.env.blockKind = .function
  stk : blk = false → X.stack = X.env :: X.outer
  frm : blk = false → X.env.frame = some X.env.locals
  ex : blk = false → X.ex = []
  co : ∃ ctb, ClsOk X.K X.mg cls ctb c.rs c.ct
  tk : Takes X W
  own : PassesOwn (model X.prog X.w) X.A X.env X.xe
end Fe
namespace Fe
open PySem PySem.Spec PyProof.Rows L2
section
variable {X : Cx} {cls : Nat → Option Addr} {W : WX} {ma mb mc : SSt → VH → Res VV} {a b c : Expr} {pos : Pos}
theorem f_var {i : Nat} {x : Str} (hN : X.N[i]? = some x) (hv : Vis X.env.scope x) (hd : (x == ("__debug__" : Str)) = false) (hcd : (x == ("__classdict__" : Str)) = false) :
    PE X (.Name x pos) (tE X.K cls W fun σ vh => match σ[i]? with | some (some v) => .ok v vh | _ => .stuck) := (pe_var hN hv hd hcd).imp fun τ H Q h => by
  obtain ⟨μ, σ, vh, hs, hr, h⟩ := h
  simp only at h
  split at h
  · rename_i v e
    obtain ⟨y, h1, h2⟩ := hs.get e
    exact ⟨y, h1, out_here hr h h2⟩
  · exact h.elim
theorem f_cn {k : Cn} {v : Const} {j : Nat} (h0 : litB k v = true) : PE X (.Constant v j pos) (tE X.K cls W fun σ vh => .ok k.vv vh) := by
  cases k <;> cases v <;> first | (cases h0; done) | skip
  · exact pe_non.imp fun τ H Q ⟨μ, σ, vh, hs, hr, h⟩ => out_here hr h .non
  · have e := eq_of_beq h0
    subst e
    exact pe_bl.imp fun τ H Q ⟨μ, σ, vh, hs, hr, h⟩ => out_here hr h (.bl _)
  · have e := of_decide_eq_true h0
    subst e
    exact pe_int.imp fun τ H Q ⟨μ, σ, vh, hs, hr, h⟩ => out_here hr h (.int _)
  · have e := of_decide_eq_true h0
    subst e
    exact pe_str.imp fun τ H Q ⟨μ, σ, vh, hs, hr, h⟩ => out_here hr h (.str _)
theorem f_bin (o : BO) (ha : PE X a (tE X.K cls W ma)) (hb : PE X b (tE X.K cls W mb)) :
    PE X (.BinOp a o.op b pos) (tE X.K cls W fun σ vh => (ma σ vh).bind fun x vh => (mb σ vh).bind fun y vh => sBin o x y vh) := (pe_op o.ok ha hb).imp fun τ H Q h => tE_op o.m τ H Q h
theorem f_cmp (hu : X.A.units + 64 < cLine) (o : CO) (ha : PE X a (tE X.K cls W ma)) (hb : PE X b (tE X.K cls W mb)) (pb : plainE b = true) :
    PE X (.Compare a [o.op] [b] pos) (tE X.K cls W fun σ vh => (ma σ vh).bind fun x vh => (mb σ vh).bind fun y vh => sCmp o x y vh) := (pe_cmpR (CO.ok hu o) ha hb (plain_marks pb)).imp fun τ H Q h => tE_op o.m τ H Q h
theorem f_ix (hu : X.A.units + 64 < cLine) (ha : PE X a (tE X.K cls W ma)) (hb : PE X b (tE X.K cls W mb)) (pb : plainE b = true) :
    PE X (.Subscript a b pos) (tE X.K cls W fun σ vh => (ma σ vh).bind fun x vh => (mb σ vh).bind fun y vh => sIx x y vh) := (pe_ix (ix_all (by omega)) ha hb (plainIx pb)).imp fun τ H Q h => tE_op ixm τ H Q h
theorem f_neg (ha : PE X a (tE X.K cls W ma)) :
    PE X (.UnaryOp .USub a pos) (tE X.K cls W fun σ vh => (ma σ vh).bind fun x vh => match x with | .int i => .ok (.int (-i)) vh | _ => .stuck) := (pe_un un_neg ha).imp fun τ H Q h => by
  obtain ⟨μ, σ, vh, hs, hr, h⟩ := h
  refine ⟨μ, σ, vh, hs, hr, (out.bind h).imp fun x H1 h1 => ?_⟩
  obtain ⟨μ1, vh1, a1, e1, hr1, r1, h1⟩ := h1
  cases a1 with
  | int i => exact ⟨i, r1.intI, out_here hr1 h1 (.int _)⟩
  | _ => exact (show False from h1).elim
theorem f_not (ha : PE X a (tE X.K cls W ma)) :
    PE X (.UnaryOp .Not a pos) (tE X.K cls W fun σ vh => (ma σ vh).bind fun x vh => match x with | .bl b => .ok (.bl (!b)) vh | _ => .stuck) := (pe_not ha).imp fun τ H Q h => by
  obtain ⟨μ, σ, vh, hs, hr, h⟩ := h
  refine ⟨μ, σ, vh, hs, hr, (out.bind h).imp fun x H1 h1 => ?_⟩
  obtain ⟨μ1, vh1, a1, e1, hr1, r1, h1⟩ := h1
  cases a1 with
  | bl i => exact ⟨i, r1.blI, out_here hr1 h1 (.bl _)⟩
  | _ => exact (show False from h1).elim
theorem f_and {rest : List Expr} (ha : PE X a (tE X.K cls W ma)) (hb : PE X (.BoolOp .And (b :: rest) pos) (tE X.K cls W mb)) :
    PE X (.BoolOp .And (a :: b :: rest) pos) (tE X.K cls W fun σ vh => (ma σ vh).bind fun x vh => match x with | .bl true => mb σ vh | .bl false => .ok (.bl false) vh | _ => .stuck) := (pe_and ha hb).imp fun τ H Q h => by
  obtain ⟨μ, σ, vh, hs, hr, h⟩ := h
  refine ⟨μ, σ, vh, hs, hr, (out.bind h).imp fun x H1 h1 => ?_⟩
  obtain ⟨μ1, vh1, a1, e1, hr1, r1, h1⟩ := h1
  cases a1 with
  | bl i =>
    refine ⟨i, r1.blI, ?_⟩
    cases i with
    | true => exact ⟨μ1, σ, vh1, hs.mono e1, hr1, h1⟩
    | false => exact out_here hr1 h1 (.bl _)
  | _ => exact (show False from h1).elim
theorem f_or {rest : List Expr} (ha : PE X a (tE X.K cls W ma)) (hb : PE X (.BoolOp .Or (b :: rest) pos) (tE X.K cls W mb)) :
    PE X (.BoolOp .Or (a :: b :: rest) pos) (tE X.K cls W fun σ vh => (ma σ vh).bind fun x vh => match x with | .bl true => .ok (.bl true) vh | .bl false => mb σ vh | _ => .stuck) := (pe_or ha hb).imp fun τ H Q h => by
  obtain ⟨μ, σ, vh, hs, hr, h⟩ := h
  refine ⟨μ, σ, vh, hs, hr, (out.bind h).imp fun x H1 h1 => ?_⟩
  obtain ⟨μ1, vh1, a1, e1, hr1, r1, h1⟩ := h1
  cases a1 with
  | bl i =>
    refine ⟨i, r1.blI, ?_⟩
    cases i with
    | false => exact ⟨μ1, σ, vh1, hs.mono e1, hr1, h1⟩
    | true => exact out_here hr1 h1 (.bl _)
  | _ => exact (show False from h1).elim
theorem f_ife {mt : SSt → VH → Res Bool} (hc : PT X c (tB X.K cls W mt)) (ha : PE X a (tE X.K cls W ma)) (hb : PE X b (tE X.K cls W mb)) :
    PE X (.IfExp c a b pos) (tE X.K cls W fun σ vh => (mt σ vh).bind fun k vh => if k = true then ma σ vh else mb σ vh) := (pe_ifExp hc ha hb).imp fun τ H Q h => by
  obtain ⟨μ, σ, vh, hs, hr, h⟩ := h
  refine ⟨μ, σ, vh, hs, hr, (out.bind h).imp fun x H1 h1 => ?_⟩
  obtain ⟨μ1, vh1, a1, e1, hr1, r1, h1⟩ := h1
  cases r1
  cases x with
  | true => exact ⟨μ1, σ, vh1, hs.mono e1, hr1, h1⟩
  | false => exact ⟨μ1, σ, vh1, hs.mono e1, hr1, h1⟩
def mChain (o1 o2 : CO) (ma mb mc : SSt → VH → Res VV) : SSt → VH → Res VV := fun σ vh => (ma σ vh).bind fun x vh => (mb σ vh).bind fun y vh => (sCmp o1 x y vh).bind fun z vh => match z with
    | .bl true => (mc σ vh).bind fun w vh => sCmp o2 y w vh
    | .bl false => .ok (.bl false) vh
    | _ => .stuck
theorem r_chain {K : PySem.W.Frag} (o1 o2 : CO) (τ : L2.St) (H : Hp) (Q : VK) (h : tE K cls W (mChain o1 o2 ma mb mc) τ H Q) : tChain (o1.r K) (o2.r K) (tE K cls W ma) (tE K cls W mb) (tE K cls W mc) τ H Q := by
  obtain ⟨μ, σ, vh, hs, hr, h⟩ := h
  refine ⟨μ, σ, vh, hs, hr, (out.bind h).imp fun x H1 h1 => ?_⟩
  obtain ⟨μ1, vh1, a1, e1, hr1, r1, h1⟩ := h1
  refine ⟨μ1, σ, vh1, hs.mono e1, hr1, (out.bind h1).imp fun y H2 h2 => ?_⟩
  obtain ⟨μ2, vh2, a2, e2, hr2, r2, h2⟩ := h2
  refine o1.m _ μ2 vh2 H2 a1 a2 x y _ hr2 (r1.mono e2) r2 ((out.bind h2).imp fun z H3 h3 => ?_)
  obtain ⟨μ3, vh3, a3, e3, hr3, r3, h3⟩ := h3
  cases a3 with
  | bl k =>
    refine ⟨k, r3.blI, ?_⟩
    cases k with
    | true =>
      refine ⟨μ3, σ, vh3, ((hs.mono e1).mono e2).mono e3, hr3, (out.bind h3).imp fun w H4 h4 => ?_⟩
      obtain ⟨μ4, vh4, a4, e4, hr4, r4, h4⟩ := h4
      exact o2.m _ μ4 vh4 H4 a2 a4 y w _ hr4 ((r2.mono e3).mono e4) r4 h4
    | false => exact out_here hr3 h3 (.bl _)
  | _ => exact (show False from h3).elim
theorem marks_two {o1 o2 : CO} (pc : plainE c = true) : lastMarks [o1.op, o2.op] [b, c] = false := plain_marks pc
theorem f_chain (hu : X.A.units + 64 < cLine) (o1 o2 : CO) (ha : PE X a (tE X.K cls W ma)) (hb : PE X b (tE X.K cls W mb)) (hc : PE X c (tE X.K cls W mc)) (pc : plainE c = true) :
    PE X (.Compare a [o1.op, o2.op] [b, c] pos) (tE X.K cls W (mChain o1 o2 ma mb mc)) := (pe_chain (CO.ok hu o1) (CO.ok hu o2) ha hb hc (marks_two pc)).imp fun τ H Q h => r_chain o1 o2 τ H Q h
variable {es : List Expr} {ms : SSt → VH → Res (List VV)}
theorem f_nil : PA X [] (tA X.K cls W fun _ vh => .ok [] vh) := pa_nil.imp fun τ H Q ⟨μ, σ, vh, hs, hr, h⟩ => out_here hr h .nil
theorem f_cons (ha : PE X a (tE X.K cls W ma)) (hr : PA X es (tA X.K cls W ms)) (pa : plainE a = true) :
    PA X (a :: es) (tA X.K cls W fun σ vh => (ma σ vh).bind fun x vh => (ms σ vh).bind fun xs vh => .ok (x :: xs) vh) := (pa_cons ha hr (starEach_cons pa)).imp fun τ H Q h => by
  obtain ⟨μ, σ, vh, hs, hr, h⟩ := h
  refine ⟨μ, σ, vh, hs, hr, (out.bind h).imp fun x H1 h1 => ?_⟩
  obtain ⟨μ1, vh1, a1, e1, hr1, r1, h1⟩ := h1
  refine ⟨μ1, σ, vh1, hs.mono e1, hr1, (out.bind h1).imp fun y H2 h2 => ?_⟩
  obtain ⟨μ2, vh2, a2, e2, hr2, r2, h2⟩ := h2
  exact out_here hr2 h2 (.cons (r1.mono e2) r2)
theorem f_tup {k : Nat} (h0 : PA X es (tA X.K cls W ms)) :
    PE X (.Tuple es k pos) (tE X.K cls W fun σ vh => (ms σ vh).bind fun xs vh => if xs.length ≤ lineZ then .ok (.tup xs) vh else .stuck) := (pe_tup h0).imp fun τ H Q h => by
  obtain ⟨μ, σ, vh, hs, hr, h⟩ := h
  refine ⟨μ, σ, vh, hs, hr, (out.bind h).imp fun x H1 h1 => ?_⟩
  obtain ⟨μ1, vh1, a1, e1, hr1, r1, h1⟩ := h1
  split at h1
  · rename_i hz
    exact ⟨by rw [← r1.length, lineZ_eq]; exact hz, out_tup hr1 h1 r1⟩
  · exact h1.elim
theorem f_lst (h0 : PA X es (tA X.K cls W ms)) :
    PE X (.List es pos) (tE X.K cls W fun σ vh => (ms σ vh).bind fun xs vh => if xs.length ≤ lineZ then .ok (.ref vh.length) (vh ++ [.lst xs]) else .stuck) := (pe_lst h0).imp fun τ H Q h => by
  obtain ⟨μ, σ, vh, hs, hr, h⟩ := h
  refine ⟨μ, σ, vh, hs, hr, (out.bind h).imp fun x H1 h1 => ?_⟩
  obtain ⟨μ1, vh1, a1, e1, hr1, r1, h1⟩ := h1
  split at h1
  · rename_i hz
    exact ⟨by rw [← r1.length, lineZ_eq]; exact hz, out_alloc hr1 h1 rfl r1⟩
  · exact h1.elim
theorem f_dnew : PE X (.Dict [] [] pos) (tE X.K cls W fun _ vh => .ok (.ref vh.length) (vh ++ [.dct []])) := pe_dnewK.imp fun τ H Q h => by
  obtain ⟨μ, σ, vh, hs, hr, h⟩ := h
  exact out_alloc hr h rfl ⟨rfl, .nil⟩
theorem r_all {K : PySem.W.Frag} {r : List V → Hp → VK → Prop} {f : List VV → VH → Res VV} (hm : CallM K cls r f) (τ : L2.St) (H : Hp) (Q : VK) (h : tE K cls W (fun σ vh => (ms σ vh).bind fun xs vh => f xs vh) τ H Q) :
    tA K cls W ms τ H (fun xs H1 => r xs H1 Q) := by
  obtain ⟨μ, σ, vh, hs, hr, h⟩ := h
  refine ⟨μ, σ, vh, hs, hr, (out.bind h).imp fun x H1 h1 => ?_⟩
  obtain ⟨μ1, vh1, a1, e1, hr1, r1, h1⟩ := h1
  exact hm _ μ1 vh1 H1 a1 x Q hr1 r1 h1
end
end Fe
namespace Fe
open PySem PySem.Spec PyProof.Rows L2
section
variable {X : Cx} {cls : Nat → Option Addr} {W : WX} {ma mb mc : SSt → VH → Res VV} {a b c : Expr} {pos p : Pos} {es : List Expr} {ms : SSt → VH → Res (List VV)}
theorem f_bi (hc : X.calm = true) (f : BI) (hg : Gl X f.nm) (hm : X.mg f.nm = none) (h0 : PA X (a :: es) (tA X.K cls W ms)) (pa : plainE a = true) (ps : es.all plainE = true) :
    PE X (.Call (.Name f.nm p) (a :: es) [] pos) (tE X.K cls W fun σ vh => (ms σ vh).bind fun xs vh => sBI f xs vh) := by
  have key : ∀ τ H Q, tE X.K cls W (fun σ vh => (ms σ vh).bind fun xs vh => sBI f xs vh) τ H Q → tCB (f.r X.K) (tA X.K cls W ms) τ H Q := fun τ H Q h => r_all f.m τ H Q h
  have hb := f.boot
  have ho := f.ok hc (X := X)
  have n1 : f.nm ≠ "__name__" := by cases f <;> decide
  have n2 : (f.nm == ("__debug__" : Str)) = false := by cases f <;> decide
  cases e : f.isTy with
  | true =>
    have ev : f.val = .type f.id := by unfold BI.val; rw [if_pos e]
    rw [ev] at hb ho
    exact (pe_callTy ho hg hm hb h0 n1 n2 (starEach_cons pa) (star_any ps)).imp key
  | false =>
    have ev : f.val = .builtin f.id := by unfold BI.val; rw [if_neg (by rw [e]; exact Bool.false_ne_true)]
    rw [ev] at hb ho
    exact (pe_callB ho hg hm hb h0 n1 n2 (starEach_cons pa) (star_any ps)).imp key
theorem ty_boot : ∀ t ∈ tyNames, bootBuiltins (Str.ofString t) = some (.type t) ∧ Str.ofString t ≠ "__name__" ∧ (Str.ofString t == ("__debug__" : Str)) = false := by decide +kernel
theorem f_isi {t : String} {pt : Pos} (ht : t ∈ tyNames) (hg : Gl X "isinstance") (hm : X.mg "isinstance" = none) (hg2 : Gl X (Str.ofString t)) (hm2 : X.mg (Str.ofString t) = none) (ha : PE X a (tE X.K cls W ma)) (pa : plainE a = true) :
    PE X (.Call (.Name "isinstance" p) [a, .Name (Str.ofString t) pt] [] pos) (tE X.K cls W fun σ vh => (ma σ vh).bind fun x vh => match tyN x vh with | some n => .ok (.bl (subTy n t)) vh | none => .stuck) := by
  obtain ⟨b1, b2, b3⟩ := ty_boot t ht
  refine (pe_callB call_isi hg hm (by decide +kernel) (pa_cons ha (pa_cons (pe_bltn hg2 hm2 b1 (v := .ty t) rfl b2 b3) pa_nil (starEach_cons rfl)) (starEach_cons pa)) (by decide) (by decide) (starEach_cons pa) (star_any (es := [_]) rfl)).imp fun τ H Q h => ?_
  obtain ⟨μ, σ, vh, hs, hr, h⟩ := h
  refine ⟨μ, σ, vh, hs, hr, (out.bind h).imp fun x H1 h1 => ?_⟩
  obtain ⟨μ1, vh1, a1, e1, hr1, r1, h1⟩ := h1
  show rIsi X.K [x, .ty t] H1 Q
  split at h1
  · rename_i n e
    obtain ⟨ty, hn⟩ := tyX_of hr1 r1 e
    exact ⟨x, .ty t, .type n, .type t, subTy n t, rfl, .ty t, ty, kit_all n hn t ht, out_here hr1 h1 (.bl _)⟩
  · exact h1.elim
theorem few_args {cp : Pos} {env : Env} : ∀ {es : List Expr}, es.all plainE = true → es.length < 30 → ((backTo cp (starEach es env)).all (fun x => !x.1) && (backToKw cp (keywordEach [] env)).all (fun x => x.1.isSome)
      && decide (es.length + ([] : List Keyword).length + (if ([] : List Keyword).isEmpty then 0 else 1) < 30)) = true := by
  intro es h hl
  have h1 : (backTo cp (starEach es env)).all (fun x => !x.1) = true := by
    have := star_any (pos := cp) (env := env) h
    rw [List.all_eq_not_any_not]
    simpa using this
  rw [h1]
  simpa [backToKw, keywordEach] using hl
theorem f_me {ap cp : Pos} (m : ME) (pb : plainBase a = true) (hl : (ap.endLine == cp.line) = true) (ho : PE X a (tE X.K cls W ma)) (h0 : PA X (b :: es) (tA X.K cls W ms)) (pa : plainE b = true) (ps : es.all plainE = true) (hn : (b :: es).length < 30) :
    PE X (.Call (.Attribute a m.nm ap) (b :: es) [] cp) (tE X.K cls W fun σ vh => (ma σ vh).bind fun x vh => if tyOk m x vh = true then (ms σ vh).bind fun xs vh => sME m x xs vh else .stuck) :=
  (pe_bm m.pa m.slot m.tyd m.ok ho h0 (plain_base pb) (few_args (by simp [pa, ps]) hn) hl (starEach_cons pa) (star_any ps)).imp fun τ H Q h => by
    obtain ⟨μ, σ, vh, hs, hr, h⟩ := h
    refine ⟨μ, σ, vh, hs, hr, (out.bind h).imp fun x H1 h1 => ?_⟩
    obtain ⟨μ1, vh1, a1, e1, hr1, r1, h1⟩ := h1
    split at h1
    · rename_i ht
      refine ⟨tyOk_rel hr1 r1 ht, μ1, σ, vh1, hs.mono e1, hr1, (out.bind h1).imp fun y H2 h2 => ?_⟩
      obtain ⟨μ2, vh2, a2, e2, hr2, r2, h2⟩ := h2
      exact m.m _ μ2 vh2 H2 a1 x a2 y Q hr2 (r1.mono e2) r2 h2
    · exact h1.elim
theorem f_me0 {ap cp : Pos} (m : ME) (pb : plainBase a = true) (hl : (ap.endLine == cp.line) = true) (ho : PE X a (tE X.K cls W ma)) :
    PE X (.Call (.Attribute a m.nm ap) [] [] cp) (tE X.K cls W fun σ vh => (ma σ vh).bind fun x vh => if tyOk m x vh = true then sME m x [] vh else .stuck) :=
  (pe_bm0 m.pa m.slot m.tyd m.ok ho (plain_base pb) hl).imp fun τ H Q h => by
    obtain ⟨μ, σ, vh, hs, hr, h⟩ := h
    refine ⟨μ, σ, vh, hs, hr, (out.bind h).imp fun x H1 h1 => ?_⟩
    obtain ⟨μ1, vh1, a1, e1, hr1, r1, h1⟩ := h1
    split at h1
    · rename_i ht
      exact ⟨tyOk_rel hr1 r1 ht, m.m _ μ1 vh1 H1 a1 x [] [] Q hr1 r1 .nil h1⟩
    · exact h1.elim
theorem few_off (c : Ck) (sc : Scope) (blk : Bool) : ∀ {es' : Es} {es : List Expr}, chkEs c sc blk es' es = true → es.all plainE = true
  | .nil, [], _ => rfl
  | .nil, _ :: _, h => by simp [chkEs] at h
  | .cons _ _, [], h => by simp [chkEs] at h
  | .cons e r, x :: xs, h => by
    simp only [chkEs, Bool.and_eq_true] at h
    rw [List.all_cons, Bool.and_eq_true]
    exact ⟨h.1.1, few_off c sc blk h.2⟩
/-- a call of a def -/
theorem f_call {k : Nat} {x : Str} {fa : Addr} {fd : FuncData} {ps : List Str} {F : List VV → VH → Res VV} (Fk : FnOk X.prog X.w X.K X.mg X.base (L2.CX X.prog X.w) k fa fd ps (spF X.K cls ps.length F)) (hr : Room k X.A) (hg : Gl X x) (hm : X.mg x = some (.ref fa))
    (hk : PySem.W.keepIn X.K (.ref fa) = true) (hb : Binds X.K fd ps []) (tk : Takes X W) (hdb : (x == ("__debug__" : Str)) = false)
    (h0 : PA X (a :: es) (tA X.K cls W ms)) (pa : plainE a = true) (pl : es.all plainE = true) (hF : ∀ xs vh, xs.length ≠ ps.length → F xs vh = .stuck) :
    PE X (.Call (.Name x p) (a :: es) [] pos) (tE X.K cls W fun σ vh => (ms σ vh).bind fun xs vh => F xs vh) :=
  (pe_callS (E := WE W) Fk hr hg hm hk hb (fun σ => passAt tk σ) h0 hdb (starEach_cons pa) (star_any pl)).imp fun τ H Q h => by
    obtain ⟨μ, σ, vh, hs, hr, h⟩ := h
    refine ⟨μ, σ, vh, hs, hr, (out.bind h).imp fun x H1 h1 => ?_⟩
    obtain ⟨μ1, vh1, a1, e1, hr1, r1, h1⟩ := h1
    by_cases hl : a1.length = ps.length
    · exact ⟨by rw [← r1.length]; exact hl, μ1, a1, vh1, hr1, r1, h1⟩
    · rw [hF _ _ hl] at h1; exact h1.elim
theorem f_call0 {k : Nat} {x : Str} {fa : Addr} {fd : FuncData} {ps : List Str} {F : List VV → VH → Res VV} (Fk : FnOk X.prog X.w X.K X.mg X.base (L2.CX X.prog X.w) k fa fd ps (spF X.K cls ps.length F)) (hr : Room k X.A) (hg : Gl X x) (hm : X.mg x = some (.ref fa))
    (hk : PySem.W.keepIn X.K (.ref fa) = true) (hb : Binds X.K fd ps []) (tk : Takes X W) (hdb : (x == ("__debug__" : Str)) = false) (hF : ∀ xs vh, xs.length ≠ ps.length → F xs vh = .stuck) :
    PE X (.Call (.Name x p) [] [] pos) (tE X.K cls W fun σ vh => F [] vh) := by
  refine ⟨fun pins s τ H Q I h => ?_⟩
  obtain ⟨μ, σ, vh, hs, hr2, h⟩ := h
  have h1 : spF X.K cls ps.length F [] H Q (WE W τ) := by
    by_cases hl : ([] : List VV).length = ps.length
    · exact ⟨hl, μ, [], vh, hr2, .nil, h⟩
    · simp only at h; rw [hF _ _ hl] at h; exact h.elim
  refine wpAny_Call_Name_kw (ld_glob I hg hm ?_ hdb)
  exact PySem.W.callWith_K0 I.kIn hk (run_fnS (us := []) Fk hr hb (passAt tk τ) I .nil h1)
variable {lo hi : Option Expr} {ml mh : SSt → VH → Res (Option Int)}
theorem f_onone : PO X none (tO X.K cls W fun _ vh => .ok none vh) := po_none.imp fun τ H Q ⟨μ, σ, vh, hs, hr, h⟩ => out_here hr h rfl
theorem f_osome (ha : PE X a (tE X.K cls W ma)) : PO X (some a) (tO X.K cls W fun σ vh => (ma σ vh).bind fun x vh => match x with | .int i => .ok (some i) vh | _ => .stuck) := (po_some ha).imp fun τ H Q h => by
  obtain ⟨μ, σ, vh, hs, hr, h⟩ := h
  refine ⟨μ, σ, vh, hs, hr, (out.bind h).imp fun x H1 h1 => ?_⟩
  obtain ⟨μ1, vh1, a1, e1, hr1, r1, h1⟩ := h1
  cases a1 with
  | int i => exact ⟨i, r1.intI, out_here hr1 h1 rfl⟩
  | _ => exact (show False from h1).elim
theorem f_slc {p2 : Pos} (ha : PE X a (tE X.K cls W ma)) (hl : PO X lo (tO X.K cls W ml)) (hh : PO X hi (tO X.K cls W mh)) :
    PE X (.Subscript a (.Slice lo hi none p2) pos) (tE X.K cls W fun σ vh => (ma σ vh).bind fun x vh => (ml σ vh).bind fun l vh => (mh σ vh).bind fun h vh => sSlc x l h vh) := (pe_slice sl_all ha hl hh).imp fun τ H Q h => by
  obtain ⟨μ, σ, vh, hs, hr, h⟩ := h
  refine ⟨μ, σ, vh, hs, hr, (out.bind h).imp fun x H1 h1 => ?_⟩
  obtain ⟨μ1, vh1, a1, e1, hr1, r1, h1⟩ := h1
  refine ⟨μ1, σ, vh1, hs.mono e1, hr1, (out.bind h1).imp fun y H2 h2 => ?_⟩
  obtain ⟨μ2, vh2, a2, e2, hr2, r2, h2⟩ := h2
  cases r2
  refine ⟨μ2, σ, vh2, (hs.mono e1).mono e2, hr2, (out.bind h2).imp fun z H3 h3 => ?_⟩
  obtain ⟨μ3, vh3, a3, e3, hr3, r3, h3⟩ := h3
  cases r3
  exact slm hr3 ((r1.mono e2).mono e3) h3
end
end Fe
namespace Fe
open PySem PySem.Spec PyProof.Rows L2
section
variable {X : Cx} {cls : Nat → Option Addr} {W : WX} {ma mb mc : SSt → VH → Res VV} {a b c : Expr} {pos p : Pos} {m1 m2 : SSt → VH → Res Bool}
theorem r_test {K : PySem.W.Frag} {t : TE} {m : SSt → VH → Res VV} (ht : ∀ τ H Q, tE K cls W m τ H Q → t τ H Q) (τ : L2.St) (H : Hp) (Q : Bool → Hp → Prop)
    (h : tB K cls W (fun σ vh => (m σ vh).bind fun z vh => match z with | .bl k => .ok k vh | _ => .stuck) τ H Q) : tTest t τ H Q := by
  obtain ⟨μ, σ, vh, hs, hr, h⟩ := h
  refine ht τ H _ ⟨μ, σ, vh, hs, hr, (out.bind h).imp fun x H1 h1 => ?_⟩
  obtain ⟨μ1, vh1, a1, e1, hr1, r1, h1⟩ := h1
  cases a1 with
  | bl k => exact ⟨k, r1.blI, out_here hr1 h1 rfl⟩
  | _ => exact (show False from h1).elim
theorem Res.bind_assoc {α β γ : Type} (r : Res α) (f : α → VH → Res β) (g : β → VH → Res γ) : (r.bind f).bind g = r.bind fun a vh => (f a vh).bind g := by cases r <;> rfl
theorem f_tcmp (hu : X.A.units + 64 < cLine) (o : CO) (ha : PE X a (tE X.K cls W ma)) (hb : PE X b (tE X.K cls W mb)) (pb : plainE b = true) :
    PT X (.Compare a [o.op] [b] pos) (tB X.K cls W fun σ vh => (ma σ vh).bind fun x vh => (mb σ vh).bind fun y vh => (sCmp o x y vh).bind fun z vh => match z with | .bl k => .ok k vh | _ => .stuck) :=
  (pt_cmpR (CO.ok hu o) ha hb (plain_marks pb)).imp fun τ H Q h => by
    refine r_test (m := fun σ vh => (ma σ vh).bind fun x vh => (mb σ vh).bind fun y vh => sCmp o x y vh) (fun τ H Q h => tE_op o.m τ H Q h) τ H Q ?_
    simpa only [Res.bind_assoc] using h
def mChainT (o1 o2 : CO) (ma mb mc : SSt → VH → Res VV) : SSt → VH → Res Bool := fun σ vh => (ma σ vh).bind fun x vh => (mb σ vh).bind fun y vh => (sCmp o1 x y vh).bind fun z vh => match z with
    | .bl true => (mc σ vh).bind fun w vh => (sCmp o2 y w vh).bind fun z vh => match z with
      | .bl k => .ok k vh
      | _ => .stuck
    | .bl false => .ok false vh
    | _ => .stuck
theorem mChainT_eq (o1 o2 : CO) (ma mb mc : SSt → VH → Res VV) : (fun σ vh => (mChain o1 o2 ma mb mc σ vh).bind fun z vh => match z with | .bl k => Res.ok k vh | _ => .stuck) = mChainT o1 o2 ma mb mc := by
  funext σ vh
  unfold mChain mChainT
  simp only [Res.bind_assoc]
  congr 1; funext x vh; congr 1; funext y vh; congr 1; funext z vh
  cases z with
  | bl k => cases k <;> first | rfl | (simp only [Res.bind_assoc])
  | _ => rfl
theorem f_tchain (hu : X.A.units + 64 < cLine) (o1 o2 : CO) (ha : PE X a (tE X.K cls W ma)) (hb : PE X b (tE X.K cls W mb)) (hc : PE X c (tE X.K cls W mc)) (pc : plainE c = true) :
    PT X (.Compare a [o1.op, o2.op] [b, c] pos) (tB X.K cls W (mChainT o1 o2 ma mb mc)) :=
  (pt_chain (CO.ok hu o1) (CO.ok hu o2) ha hb hc (marks_two pc)).imp fun τ H Q h => r_test (m := mChain o1 o2 ma mb mc) (fun τ H Q h => r_chain o1 o2 τ H Q h) τ H Q (by rw [mChainT_eq]; exact h)
theorem f_tnot (ha : PT X a (tB X.K cls W m1)) : PT X (.UnaryOp .Not a pos) (tB X.K cls W fun σ vh => (m1 σ vh).bind fun c vh => .ok (!c) vh) := (pt_not ha).imp fun τ H Q h => by
  obtain ⟨μ, σ, vh, hs, hr, h⟩ := h
  refine ⟨μ, σ, vh, hs, hr, (out.bind h).imp fun x H1 h1 => ?_⟩
  obtain ⟨μ1, vh1, a1, e1, hr1, r1, h1⟩ := h1
  cases r1
  exact out_here hr1 h1 rfl
theorem f_tone {op : BoolOp} (ha : PT X a (tB X.K cls W m1)) : PW X (.BoolOp op [a] pos) (tB X.K cls W m1) := by
  cases op with
  | And => exact pw_and1 ha
  | Or => exact pw_or1 ha
theorem f_tand {rest : List Expr} (ha : PT X a (tB X.K cls W m1)) (hb : PW X (.BoolOp .And (b :: rest) pos) (tB X.K cls W m2)) :
    PW X (.BoolOp .And (a :: b :: rest) pos) (tB X.K cls W fun σ vh => (m1 σ vh).bind fun c vh => if c = true then m2 σ vh else .ok false vh) := (pw_and ha hb).imp fun τ H Q h => by
  obtain ⟨μ, σ, vh, hs, hr, h⟩ := h
  refine ⟨μ, σ, vh, hs, hr, (out.bind h).imp fun x H1 h1 => ?_⟩
  obtain ⟨μ1, vh1, a1, e1, hr1, r1, h1⟩ := h1
  cases r1
  cases x with
  | true => exact ⟨μ1, σ, vh1, hs.mono e1, hr1, h1⟩
  | false => exact out_here hr1 h1 rfl
theorem f_tor {rest : List Expr} (ha : PT X a (tB X.K cls W m1)) (hb : PW X (.BoolOp .Or (b :: rest) pos) (tB X.K cls W m2)) :
    PW X (.BoolOp .Or (a :: b :: rest) pos) (tB X.K cls W fun σ vh => (m1 σ vh).bind fun c vh => if c = true then .ok true vh else m2 σ vh) := (pw_or ha hb).imp fun τ H Q h => by
  obtain ⟨μ, σ, vh, hs, hr, h⟩ := h
  refine ⟨μ, σ, vh, hs, hr, (out.bind h).imp fun x H1 h1 => ?_⟩
  obtain ⟨μ1, vh1, a1, e1, hr1, r1, h1⟩ := h1
  cases r1
  cases x with
  | false => exact ⟨μ1, σ, vh1, hs.mono e1, hr1, h1⟩
  | true => exact out_here hr1 h1 rfl
theorem f_ttr (ha : PE X a (tE X.K cls W ma)) (pa : plainTest a = true) : PT X a (tB X.K cls W fun σ vh => (ma σ vh).bind fun x vh => match truV x vh with | some k => .ok k vh | none => .stuck) :=
  (pt_truth ha fun _ => plain_true pa).imp fun τ H Q h => by
    obtain ⟨μ, σ, vh, hs, hr, h⟩ := h
    refine ⟨μ, σ, vh, hs, hr, (out.bind h).imp fun x H1 h1 => ?_⟩
    obtain ⟨μ1, vh1, a1, e1, hr1, r1, h1⟩ := h1
    split at h1
    · rename_i k e
      exact ⟨k, trm hr1 r1 e, out_here hr1 h1 rfl⟩
    · exact h1.elim
end
theorem wipe_set_set (τ : L2.St) (i : Nat) (x y : Option V) : ∀ vs : List Nat, (L2.wipe (τ.set i x) vs).set i y = (L2.wipe τ vs).set i y
  | [] => by simp [L2.wipe]
  | w :: ws => by
    show ((L2.wipe (τ.set i x) ws).set w none).set i y = ((L2.wipe τ ws).set w none).set i y
    by_cases e : w = i
    · subst e
      rw [List.set_set, List.set_set]; exact wipe_set_set τ w x y ws
    · rw [List.set_comm _ _ e, List.set_comm _ _ e, wipe_set_set τ i x y ws]
theorem wipe_set {τ : L2.St} {i : Nat} {x : Option V} : ∀ {vs : List Nat}, i ∈ vs → L2.wipe (τ.set i x) vs = L2.wipe τ vs
  | [], h => by cases h
  | w :: ws, h => by
    show (L2.wipe (τ.set i x) ws).set w none = (L2.wipe τ ws).set w none
    by_cases e : i = w
    · subst e; exact wipe_set_set τ i x none ws
    · have : i ∈ ws := by
        cases h with
        | head => exact absurd rfl e
        | tail _ h => exact h
      rw [wipe_set this]
theorem wipe_wipe (τ : L2.St) (vs : List Nat) : ∀ ws : List Nat, (∀ i ∈ ws, i ∈ vs) → L2.wipe (L2.wipe τ ws) vs = L2.wipe τ vs
  | [], _ => rfl
  | w :: ws, h => by
    show L2.wipe ((L2.wipe τ ws).set w none) vs = _
    rw [wipe_set (h w (List.mem_cons_self)), wipe_wipe τ vs ws fun i hi => h i (List.mem_cons_of_mem _ hi)]
def keepS (S : List Nat) (τ τ' : L2.St) : Prop := ∀ vs : List Nat, (∀ i ∈ S, i ∈ vs) → L2.wipe τ' vs = L2.wipe τ vs
section
variable (K : PySem.W.Frag) (cls : Nat → Option Addr)
def outG (W : WX) (μ : List Addr) (H : Hp) (Q : L2.St → Hp → Prop) : RS → Prop
  | .nx σ vh' => ∀ τ μ' H', Ext μ H μ' H' → HR K cls μ' vh' H' → SR K μ' H' σ τ → Q τ H'
  | .exc c fs σ vh' => ∀ C d τ μ' H', cls c = some C → Ext μ H μ' H' → HR K cls μ' vh' H' → SR K μ' H' σ τ → XD K μ' H' fs d → W (.ref C) d τ H'
  | _ => False
/-- a target's reading: only slots of S change -/
def tG (W : WX) (S : List Nat) (m : VV → SSt → VH → RS) : TG := fun x τ H Q => ∃ μ σ vh v, SR K μ H σ τ ∧ HR K cls μ vh H ∧ RV K μ H v x ∧ outG K cls W μ H (fun τ' H' => keepS S τ τ' → Q τ' H') (m v σ vh)
def tGs (W : WX) (S : List Nat) (m : List VV → SSt → VH → RS) : TGs := fun xs τ H Q => ∃ μ σ vh vs, SR K μ H σ τ ∧ HR K cls μ vh H ∧ RVs K μ H vs xs ∧ outG K cls W μ H (fun τ' H' => keepS S τ τ' → Q τ' H') (m vs σ vh)
end
section
variable {K : PySem.W.Frag} {cls : Nat → Option Addr} {W : WX} {μ μ' : List Addr} {H H' : Hp} {Q Q' : L2.St → Hp → Prop}
theorem outG.ext (e : Ext μ H μ' H') {r : RS} (h : outG K cls W μ H Q r) : outG K cls W μ' H' Q r := by
  cases r with
  | nx σ vh => exact fun b μ2 H2 e2 hr q => h b μ2 H2 (e.trans e2) hr q
  | exc c fs σ vh => exact fun C d τ μ2 H2 hc e2 hr q => h C d τ μ2 H2 hc (e.trans e2) hr q
  | _ => exact h
theorem outG.imp {r : RS} (h : outG K cls W μ H Q r) (k : ∀ b H', Q b H' → Q' b H') : outG K cls W μ H Q' r := by
  cases r with
  | nx σ vh => exact fun b μ2 H2 e2 hr q => k _ _ (h b μ2 H2 e2 hr q)
  | exc c fs σ vh => exact h
  | _ => exact h
theorem outG.seq {r : RS} {f : SSt → VH → RS} (h : outG K cls W μ H Q (r.seq f)) :
    outG K cls W μ H (fun τ H1 => ∃ μ1 σ1 vh1, Ext μ H μ1 H1 ∧ HR K cls μ1 vh1 H1 ∧ SR K μ1 H1 σ1 τ ∧ outG K cls W μ1 H1 Q (f σ1 vh1)) r := by
  cases r with
  | nx σ vh => exact fun τ μ2 H2 e2 hr q => ⟨μ2, σ, vh, e2, hr, q, outG.ext e2 h⟩
  | exc c fs σ vh => exact h
  | _ => exact h
def RS.flat : RS → Prop
  | .nx _ _ => True
  | .exc _ _ _ _ => True
  | .stuck => True
  | _ => False
theorem Res.go_flat {α : Type} {r : Res α} {σ : SSt} {f : α → VH → RS} (h : ∀ a vh, RS.flat (f a vh)) : RS.flat (r.go σ f) := by
  cases r with
  | ok a vh => exact h a vh
  | _ => trivial
theorem RS.seq_flat {r : RS} {f : SSt → VH → RS} (h0 : RS.flat r) (h : ∀ a vh, RS.flat (f a vh)) : RS.flat (r.seq f) := by
  cases r with
  | nx a vh => exact h a vh
  | exc _ _ _ _ => trivial
  | stuck => trivial
  | _ => exact h0.elim
theorem outS.seqG {D : Ends} {r : RS} {f : SSt → VH → RS} (fl : RS.flat r) (h : outS K cls W D μ H (r.seq f)) :
    outG K cls W μ H (fun τ H1 => ∃ μ1 σ1 vh1, Ext μ H μ1 H1 ∧ HR K cls μ1 vh1 H1 ∧ SR K μ1 H1 σ1 τ ∧ outS K cls W D μ1 H1 (f σ1 vh1)) r := by
  cases r with
  | nx σ vh => exact fun τ μ2 H2 e2 hr q => ⟨μ2, σ, vh, e2, hr, q, outS.ext e2 h⟩
  | exc c fs σ vh => exact h
  | stuck => exact h
  | _ => exact fl.elim
theorem outS.toG {D : Ends} {r : RS} (fl : RS.flat r) (h : outS K cls W D μ H r) : outG K cls W μ H D.nx r := by
  cases r with
  | nx σ vh => exact h
  | exc c fs σ vh => exact h
  | stuck => exact h
  | _ => exact fl.elim
theorem out.goG {α β : Type} {rel : List Addr → Hp → α → β → Prop} {m : Res α} {σ : SSt} {τ : L2.St} {f : α → VH → RS} (hs : SR K μ H σ τ) (h : outG K cls W μ H Q (m.go σ f)) :
    out K cls (fun c d H' => W c d τ H') μ H rel (fun b H1 => ∃ μ1 vh1 a1, Ext μ H μ1 H1 ∧ HR K cls μ1 vh1 H1 ∧ rel μ1 H1 a1 b ∧ outG K cls W μ1 H1 Q (f a1 vh1)) m := by
  cases m with
  | ok a vh => exact fun b μ2 H2 e2 hr q => ⟨μ2, vh, a, e2, hr, q, outG.ext e2 h⟩
  | exc c fs vh => exact fun C d μ2 H2 hc e2 hr q => h C d τ μ2 H2 hc e2 hr (hs.mono e2) q
  | stuck => exact h
theorem outG_here {σ : SSt} {τ : L2.St} {vh : VH} (hr : HR K cls μ vh H) (hs : SR K μ H σ τ) (h : outG K cls W μ H Q (.nx σ vh)) : Q τ H := h τ μ H (Ext.refl _ _) hr hs
end
mutual
theorem asgT_flat (G : Gam) : ∀ (t : T) (v : VV) (σ : SSt) (vh : VH), RS.flat (asgT G t v σ vh)
  | .nm i, v, σ, vh => trivial
  | .tup ts, v, σ, vh => by
    simp only [asgT]
    split
    · split
      · exact asgTs_flat G ts _ σ vh
      · trivial
    · trivial
  | .sub o i, v, σ, vh => by
    simp only [asgT]
    exact Res.go_flat fun _ _ => Res.go_flat fun _ _ => Res.go_flat fun _ _ => trivial
theorem asgTs_flat (G : Gam) : ∀ (t : Ts) (v : List VV) (σ : SSt) (vh : VH), RS.flat (asgTs G t v σ vh)
  | .nil, [], σ, vh => trivial
  | .nil, _ :: _, σ, vh => trivial
  | .cons _ _, [], σ, vh => trivial
  | .cons t ts, x :: xs, σ, vh => by
    simp only [asgTs]
    exact RS.seq_flat (asgT_flat G t x σ vh) fun _ _ => asgTs_flat G ts xs _ _
end
theorem assign_cons {e : Expr} {es : List Expr} {env : Env} (h : plainE e = true) : assignEach (e :: es) env = (false, assign e env) :: assignEach es env := by
  cases e <;> first | rfl | cases h
theorem assign_len {env : Env} : ∀ {es : List Expr}, es.all plainE = true → (assignEach es env).length = es.length ∧ (assignEach es env).findIdx? (·.1) = none
  | [], _ => ⟨rfl, rfl⟩
  | e :: es, h => by
    rw [List.all_cons, Bool.and_eq_true] at h
    obtain ⟨h1, h2⟩ := assign_len (env := env) h.2
    rw [assign_cons h.1]
    exact ⟨by simp [h1], by simp [List.findIdx?_cons, h2]⟩
theorem _root_.L2.PG.imp {X : Cx} {e : Expr} {t t' : TG} (h : PG X e t) (k : ∀ v σ H Q, t' v σ H Q → t v σ H Q) : PG X e t' := ⟨fun pins s σ H v u Q I r hw => h.run pins s σ H v u Q I r (k _ _ _ _ hw)⟩
theorem _root_.L2.PGs.imp {X : Cx} {e : List Expr} {t t' : TGs} (h : PGs X e t) (k : ∀ v σ H Q, t' v σ H Q → t v σ H Q) : PGs X e t' := ⟨fun pins s σ H v u Q I r hw => h.run pins s σ H v u Q I r (k _ _ _ _ hw)⟩
section
variable {X : Cx} {cls : Nat → Option Addr} {W : WX} {S S' : List Nat} {a b : Expr} {es : List Expr} {pos : Pos} {ma mb : SSt → VH → Res VV} {mt : VV → SSt → VH → RS} {ms : List VV → SSt → VH → RS}
theorem g_nm {i : Nat} {x : Str} (hN : X.N.Nodup) (hi : X.N[i]? = some x) (hx : Loc X.env.scope x) (hf : X.fn x = true ∨ X.env.scope.names.lookup x = some .local) : PG X (.Name x pos) (tG X.K cls W [i] fun v σ vh => .nx (σ.set i (some v)) vh) :=
  (pg_name hN hi hx hf).imp fun x τ H Q h => by
    obtain ⟨μ, σ', vh, v', hs, hr, r, h⟩ := h
    exact outG_here hr (SR.set r i hs) h fun vs hv => wipe_set (hv i (by simp))
theorem g_sub (hu : X.A.units + 64 < cLine) (ha : PE X a (tE X.K cls W ma)) (hb : PE X b (tE X.K cls W mb)) (hs : ∀ v, assign (.Subscript a b pos) X.env v = (do
      let ov ← holding [v] (eval a X.env)
      let iv ← holding [v, ov] (eval b X.env)
      standAt pos
      holding [v, ov, iv] (setItem ov iv v)
      release [v, ov, iv] [])) :
    PG X (.Subscript a b pos) (tG X.K cls W S fun v σ vh => (ma σ vh).go σ fun x vh => (mb σ vh).go σ fun y vh => (sSet x y v vh).go σ fun _ vh => .nx σ vh) := (pg_sub ha hb (set_all (by omega)) hs).imp fun x τ H Q h => by
  obtain ⟨μ, σ, vh, v, hs, hr, r, h⟩ := h
  refine ⟨μ, σ, vh, hs, hr, (out.goG hs h).imp fun y H1 h1 => ?_⟩
  obtain ⟨μ1, vh1, a1, e1, hr1, r1, h1⟩ := h1
  refine ⟨μ1, σ, vh1, hs.mono e1, hr1, (out.goG (hs.mono e1) h1).imp fun z H2 h2 => ?_⟩
  obtain ⟨μ2, vh2, a2, e2, hr2, r2, h2⟩ := h2
  have h3 := out.goG (K := X.K) (cls := cls) (W := W) (rel := fun _ _ _ (_ : Unit) => True) ((hs.mono e1).mono e2) h2
  refine setm (We := fun c d H' => W c d τ H') hr2 (r1.mono e2) r2 ((r.mono e1).mono e2) (h3.imp fun _ H3 h4 => ?_)
  obtain ⟨μ3, vh3, a3, e3, hr3, _, h4⟩ := h4
  exact outG_here hr3 (((hs.mono e1).mono e2).mono e3) h4 fun vs _ => rfl
theorem gs_nil : PGs X [] (tGs X.K cls W S fun vs σ vh => match vs with | [] => .nx σ vh | _ :: _ => .stuck) := pgs_nil.imp fun x τ H Q h => by
  obtain ⟨μ, σ, vh, v, hs, hr, r, h⟩ := h
  cases r with
  | nil => exact ⟨rfl, outG_here hr hs h fun _ _ => rfl⟩
  | cons r t => exact h.elim
theorem gs_cons (h1 : PG X a (tG X.K cls W S mt)) (h2 : PGs X es (tGs X.K cls W S' ms)) (pa : plainE a = true) :
    PGs X (a :: es) (tGs X.K cls W (S ++ S') fun vs σ vh => match vs with | [] => .stuck | x :: xs => (mt x σ vh).seq fun σ vh => ms xs σ vh) :=
  (pgs_cons h1 h2 (by rw [assign_cons pa]; rfl)).imp fun x τ H Q h => by
    obtain ⟨μ, σ, vh, v, hs, hr, r, h⟩ := h
    cases r with
    | nil => exact h.elim
    | cons r t =>
      refine ⟨_, _, rfl, μ, σ, vh, _, hs, hr, r, (outG.seq h).imp fun τ1 H1 q k1 => ?_⟩
      obtain ⟨μ1, σ1, vh1, e1, hr1, hs1, q⟩ := q
      refine ⟨μ1, σ1, vh1, _, hs1, hr1, t.mono e1, q.imp fun τ2 H2 q2 k2 => q2 fun vs hv => ?_⟩
      rw [k2 vs fun i hi => hv i (List.mem_append_right _ hi), k1 vs fun i hi => hv i (List.mem_append_left _ hi)]
theorem pg_any {k n : Nat} {t : TGs} (hc : X.calm = true) (h0 : PGs X es t) (pe : es.all plainE = true) (hn : es.length = n) :
    PG X (.Tuple es k pos) (fun v σ H Q => gTup X.K n t v σ H Q ∨ gLst X.K n t v σ H Q) := ⟨fun pins s σ H v u Q I r h => by
  rcases h with h | h
  · exact (pg_tup hc h0 ((assign_len pe).1.trans hn) (assign_len pe).2).run pins s σ H v u Q I r h
  · exact (pg_lst hc h0 ((assign_len pe).1.trans hn) (assign_len pe).2).run pins s σ H v u Q I r h⟩
theorem g_tup {k n : Nat} (hc : X.calm = true) (h0 : PGs X es (tGs X.K cls W S ms)) (pe : es.all plainE = true) (hn : es.length = n) :
    PG X (.Tuple es k pos) (tG X.K cls W S fun v σ vh => match seqV vh v with | some xs => if xs.length = n then ms xs σ vh else .stuck | none => .stuck) :=
  (pg_any hc h0 pe hn).imp fun x τ H Q h => by
    obtain ⟨μ, σ, vh, v, hs, hr, r, h⟩ := h
    simp only at h
    split at h
    · rename_i xs e
      split at h
      · rename_i hz
        obtain ⟨p, vs, rfl, h1, h2⟩ := hr.seqV r e
        rcases h1 with h1 | h1
        · exact .inr ⟨p, vs, rfl, h1, by rw [← h2.length]; exact hz, μ, σ, vh, xs, hs, hr, h2, h⟩
        · exact .inl ⟨p, vs, rfl, h1, by rw [← h2.length]; exact hz, μ, σ, vh, xs, hs, hr, h2, h⟩
      · exact h.elim
    · exact h.elim
end
end Fe
namespace Fe
open PySem PySem.Spec PyProof.Rows L2
section
variable {X : Cx} {cls : Nat → Option Addr} {W : WX} {ma mb : SSt → VH → Res VV} {a b tg : Expr} {pos p : Pos}
theorem i_sq (ha : PE X a (tE X.K cls W ma)) : PI X tg a (tI X.K cls W fun σ vh => (ma σ vh).bind fun x vh => match x with | .tup xs => .ok (.tup xs) vh | .ref n => if (seqL vh n).isSome then .ok (.lst n) vh else .stuck | _ => .stuck) := (pi_seq ha).imp fun τ H Q h => by
  obtain ⟨μ, σ, vh, hs, hr, h⟩ := h
  refine ⟨μ, σ, vh, hs, hr, (out.bind h).imp fun x H1 h1 => ?_⟩
  obtain ⟨μ1, vh1, a1, e1, hr1, r1, h1⟩ := h1
  cases a1 with
  | tup xs =>
    obtain ⟨p, vs, rfl, g1, g2⟩ := r1.tupI
    exact .inr ⟨p, rfl, ⟨vs, g1⟩, out_here hr1 h1 (itok_tup g1 g2)⟩
  | ref n =>
    simp only at h1
    split at h1
    · rename_i hz
      obtain ⟨xs, e⟩ := Option.isSome_iff_exists.mp hz
      obtain ⟨a, vs, rfl, g0, g1, g2⟩ := hr1.seq r1 e
      exact .inl ⟨a, rfl, ⟨vs, g1⟩, out_here hr1 h1 (itok_lst g0)⟩
    · exact h1.elim
  | _ => exact (show False from h1).elim
theorem r_one {K : PySem.W.Frag} {rel : List Addr → Hp → Ito → It → Prop} {f : VV → VH → Res Ito} {τ : L2.St} {H : Hp} {R : It → Hp → Prop} {C : List V → Hp → Prop}
    (k : ∀ μ1 vh1 H1 x v, HR K cls μ1 vh1 H1 → RV K μ1 H1 x v → out K cls (fun c d H' => W c d τ H') μ1 H1 rel R (f x vh1) → C [v] H1)
    (h : ∃ μ σ vh, SR K μ H σ τ ∧ HR K cls μ vh H ∧ out K cls (fun c d H' => W c d τ H') μ H rel R ((ma σ vh).bind f)) :
    tA K cls W (fun σ vh => (ma σ vh).bind fun x vh => (Res.ok [] vh).bind fun xs vh => .ok (x :: xs) vh) τ H C := by
  obtain ⟨μ, σ, vh, hs, hr, h⟩ := h
  refine ⟨μ, σ, vh, hs, hr, ?_⟩
  show out K cls _ μ H (RVs K) C ((ma σ vh).bind _)
  cases e : ma σ vh with
  | ok x vh1 =>
    rw [e] at h
    show out K cls _ μ H (RVs K) C (.ok [x] vh1)
    intro vs μ1 H1 e1 hr1 r1
    obtain ⟨v, rfl, rv⟩ := r1.oneI
    exact k μ1 vh1 H1 x v hr1 rv (h.ext e1)
  | exc c fs vh1 => rw [e] at h; exact h
  | stuck => rw [e] at h; exact h
theorem r_two {K : PySem.W.Frag} {rel : List Addr → Hp → Ito → It → Prop} {f : VV → VV → VH → Res Ito} {τ : L2.St} {H : Hp} {R : It → Hp → Prop} {C : List V → Hp → Prop}
    (k : ∀ μ1 vh1 H1 x y v w, HR K cls μ1 vh1 H1 → RV K μ1 H1 x v → RV K μ1 H1 y w → out K cls (fun c d H' => W c d τ H') μ1 H1 rel R (f x y vh1) → C [v, w] H1)
    (h : ∃ μ σ vh, SR K μ H σ τ ∧ HR K cls μ vh H ∧ out K cls (fun c d H' => W c d τ H') μ H rel R ((ma σ vh).bind fun x vh => (mb σ vh).bind fun y vh => f x y vh)) :
    tA K cls W (fun σ vh => (ma σ vh).bind fun x vh => ((mb σ vh).bind fun x vh => (Res.ok [] vh).bind fun xs vh => .ok (x :: xs) vh).bind fun xs vh => .ok (x :: xs) vh) τ H C := by
  obtain ⟨μ, σ, vh, hs, hr, h⟩ := h
  refine ⟨μ, σ, vh, hs, hr, ?_⟩
  show out K cls _ μ H (RVs K) C ((ma σ vh).bind _)
  cases e : ma σ vh with
  | ok x vh1 =>
    rw [e] at h
    show out K cls _ μ H (RVs K) C (((mb σ vh1).bind _).bind _)
    replace h : out K cls _ μ H rel R ((mb σ vh1).bind _) := h
    cases e' : mb σ vh1 with
    | ok y vh2 =>
      rw [e'] at h
      show out K cls _ μ H (RVs K) C (.ok [x, y] vh2)
      intro vs μ1 H1 e1 hr1 r1
      obtain ⟨v, w, rfl, rv, rw'⟩ := r1.twoI
      exact k μ1 vh2 H1 x y v w hr1 rv rw' (h.ext e1)
    | exc c fs vh1 => rw [e'] at h; exact h
    | stuck => rw [e'] at h; exact h
  | exc c fs vh1 => rw [e] at h; exact h
  | stuck => rw [e] at h; exact h
theorem i_rng1 (hg : Gl X "range") (hm : X.mg "range" = none) (ha : PE X a (tE X.K cls W ma)) (pa : plainE a = true) :
    PI X tg (.Call (.Name "range" p) [a] [] pos) (tI X.K cls W fun σ vh => (ma σ vh).bind fun x vh => match x with | .int j => if small62 j then .ok (.rng 0 j.toNat) vh else .stuck | _ => .stuck) :=
  (pi_range1 hg hm (f_cons ha f_nil pa) (starEach_cons pa)).imp fun τ H R h => r_one (fun μ1 vh1 H1 x v hr1 rv h1 => by
    cases x with
    | int j =>
      simp only at h1
      split at h1
      · rename_i hz
        unfold small62 at hz
        exact ⟨j, by rw [rv.intI], by omega, by omega, out_here hr1 h1 itok_rng⟩
      · exact h1.elim
    | _ => exact (show False from h1).elim) h
theorem i_rng2 (hg : Gl X "range") (hm : X.mg "range" = none) (ha : PE X a (tE X.K cls W ma)) (hb : PE X b (tE X.K cls W mb)) (pa : plainE a = true) (pb : plainE b = true) :
    PI X tg (.Call (.Name "range" p) [a, b] [] pos) (tI X.K cls W fun σ vh => (ma σ vh).bind fun x vh => (mb σ vh).bind fun y vh => match x, y with | .int i, .int j => if small62 i ∧ small62 j then .ok (.rng i (j - i).toNat) vh else .stuck | _, _ => .stuck) :=
  (pi_range2 hg hm (f_cons ha (f_cons hb f_nil pb) pa) ((starEach_cons pa).trans (by rw [starEach_cons pb]; rfl)) (starEach_cons pb)).imp fun τ H R h => r_two (fun μ1 vh1 H1 x y v w hr1 rv rw' h1 => by
    cases x with
    | int i =>
      cases y with
      | int j =>
        simp only at h1
        split at h1
        · rename_i hz
          unfold small62 at hz
          exact ⟨i, j, by rw [rv.intI, rw'.intI], ⟨by omega, by omega, by omega, by omega⟩, out_here hr1 h1 itok_rng⟩
        · exact h1.elim
      | _ => exact (show False from h1).elim
    | _ => exact (show False from h1).elim) h
theorem i_rev (hg : Gl X "reversed") (hm : X.mg "reversed" = none) (ha : PE X a (tE X.K cls W ma)) (pa : plainE a = true) :
    PI X tg (.Call (.Name "reversed" p) [a] [] pos) (tI X.K cls W fun σ vh => (ma σ vh).bind fun x vh => match x with | .ref n => (match seqL vh n with | some xs => .ok (.revL n xs.length) vh | none => .stuck) | _ => .stuck) :=
  (RT.pi_revA hg hm ha (starEach_cons pa)).imp fun τ H R h => by
    obtain ⟨μ, σ, vh, hs, hr, h⟩ := h
    refine ⟨μ, σ, vh, hs, hr, (out.bind h).imp fun x H1 h1 => ?_⟩
    obtain ⟨μ1, vh1, a1, e1, hr1, r1, h1⟩ := h1
    cases a1 with
    | ref n =>
      simp only at h1
      split at h1
      · rename_i xs e
        obtain ⟨a, vs, rfl, g0, g1, g2⟩ := hr1.seq r1 e
        exact ⟨a, vs, rfl, .inl ⟨g1, by rw [← g2.length]; exact out_here hr1 h1 (itok_rev g0)⟩⟩
      · exact h1.elim
    | _ => exact (show False from h1).elim
theorem i_zip {es : List Expr} {k : Nat} {tp : Pos} (hg : Gl X "zip") (hm : X.mg "zip" = none) (ha : PE X a (tE X.K cls W ma)) (hb : PE X b (tE X.K cls W mb)) (pa : plainE a = true) (pb : plainE b = true) :
    PI X (.Tuple es k tp) (.Call (.Name "zip" p) [a, b] [] pos) (tI X.K cls W fun σ vh => (ma σ vh).bind fun x vh => (mb σ vh).bind fun y vh => match x, y with | .ref m, .ref n => if (seqL vh m).isSome ∧ (seqL vh n).isSome then .ok (.zipL m n) vh else .stuck | .tup xs, .tup ys => .ok (.zipT xs ys) vh | _, _ => .stuck) :=
  (RZ.pi_zipA hg hm (f_cons ha (f_cons hb f_nil pb) pa) (starEach_cons pa) (star_any (es := [b]) (by simp [pb]))).imp fun τ H R h => r_two (fun μ1 vh1 H1 x y v w hr1 rv rw' h1 => by
    cases x with
    | ref m =>
      cases y with
      | ref n =>
        simp only at h1
        split at h1
        · rename_i hz
          obtain ⟨xs, e1⟩ := Option.isSome_iff_exists.mp hz.1
          obtain ⟨ys, e2⟩ := Option.isSome_iff_exists.mp hz.2
          obtain ⟨a, vs, rfl, g0, g1, g2⟩ := hr1.seq rv e1
          obtain ⟨b, ws, rfl, k0, k1, k2⟩ := hr1.seq rw' e2
          exact ⟨a, b, vs, ws, rfl, .inl ⟨g1, k1, out_here hr1 h1 (itok_zip g0 k0)⟩⟩
        · exact h1.elim
      | _ => exact (show False from h1).elim
    | tup xs =>
      cases y with
      | tup ys =>
        obtain ⟨a, vs, rfl, g1, g2⟩ := rv.tupI
        obtain ⟨b, ws, rfl, k1, k2⟩ := rw'.tupI
        exact ⟨a, b, vs, ws, rfl, .inr ⟨g1, k1, out_here hr1 h1 (itok_zipT g1 g2 k1 k2)⟩⟩
      | _ => exact (show False from h1).elim
    | _ => exact (show False from h1).elim) h
theorem i_enum {es : List Expr} {k : Nat} {tp : Pos} (hg : Gl X "enumerate") (hm : X.mg "enumerate" = none) (ha : PE X a (tE X.K cls W ma)) (pa : plainE a = true) :
    PI X (.Tuple es k tp) (.Call (.Name "enumerate" p) [a] [] pos) (tI X.K cls W fun σ vh => (ma σ vh).bind fun x vh => match x with | .ref n => if (seqL vh n).isSome then .ok (.enumL n) vh else .stuck | _ => .stuck) :=
  (pi_enum hg hm (f_cons ha f_nil pa) (starEach_cons pa)).imp fun τ H R h => r_one (fun μ1 vh1 H1 x v hr1 rv h1 => by
    cases x with
    | ref n =>
      simp only at h1
      split at h1
      · rename_i hz
        obtain ⟨xs, e1⟩ := Option.isSome_iff_exists.mp hz
        obtain ⟨a, vs, rfl, g0, g1, g2⟩ := hr1.seq rv e1
        exact ⟨a, vs, rfl, g1, out_here hr1 h1 (itok_enum g0)⟩
      · exact h1.elim
    | _ => exact (show False from h1).elim) h
theorem ts_nil : PTs X [] (tB X.K cls W fun _ vh => .ok true vh) := ⟨fun pins s σ H Q I h => pts_nil.run pins s σ H Q I (by
  obtain ⟨μ, σ', vh, hs, hr, h⟩ := h
  exact out_here hr h rfl)⟩
end
section
variable {K : PySem.W.Frag} {cls : Nat → Option Addr} {W : WX} {S own : List Nat} {mi : SSt → VH → Res Ito} {mt : VV → SSt → VH → RS} {mf : SSt → VH → Res Bool} {me : SSt → VH → Res VV}
abbrev W0 : WX := fun _ _ _ _ => False
theorem out_noexc {α β : Type} {rel : List Addr → Hp → α → β → Prop} {We We' : Value → Option Addr → Hp → Prop} {μ : List Addr} {H : Hp} {Q : β → Hp → Prop} {r : Res α} (h : out K cls We μ H rel Q r.noexc) : out K cls We' μ H rel Q r := by
  cases r with
  | ok a vh => exact h
  | exc c fs vh => exact h.elim
  | stuck => exact h
theorem r_lc (n : Nat) (hS : ∀ i ∈ S, i ∈ own) (τ : L2.St) (H : Hp) (Q : VK) (h : tE K cls W (fun σ vh => (mi σ vh).bind fun J vh => lcF J own vh.length mt mf me σ n 0 (vh ++ [.lst []])) τ H Q) :
    tLc (tI K cls W mi) (tG K cls W0 S mt) (tB K cls W0 mf) (tE K cls W0 me) own τ H Q := by
  obtain ⟨μ, σ, vh, hs, hr, h⟩ := h
  refine ⟨μ, σ, vh, hs, hr, (out.bind h).imp fun J H1 h1 => ?_⟩
  obtain ⟨μ1, vh1, it, e1, hr1, hJ, h1⟩ := h1
  intro D nD
  have eA : Ext μ1 H1 (μ1 ++ [D]) (upd H1 D (.lst [])) := ⟨⟨[D], rfl⟩, TP.new nD⟩
  refine ⟨fun i m H => ∃ μ' vh', Ext (μ1 ++ [D]) (upd H1 D (.lst [])) μ' H ∧ HR K cls μ' vh' H ∧ out K cls (fun c d H' => W c d τ H') μ' H (RV K) Q (lcF it own vh1.length mt mf me σ m i vh'),
    ⟨n, μ1 ++ [D], vh1 ++ [.lst []], Ext.refl _ _, hr1.alloc (o := .lst []) (ho := .lst []) nD rfl RVs.nil, h1.ext eA⟩, ?_⟩
  rintro i m H2 ⟨μ2, vh2, e2, hr2, h2⟩
  have hD : μ2[vh1.length]? = some D := e2.get (by rw [← hr1.len]; simp)
  cases m with
  | zero => exact h2.elim
  | succ m =>
    simp only [lcF] at h2
    have ok := hJ μ2 H2 vh2 i (eA.trans e2) hr2
    cases en : it.nx i vh2 with
    | none => rw [en] at h2; exact h2.elim
    | some o =>
      rw [en] at h2
      cases o with
      | none => exact .inl ⟨ok.1 en, out_here hr2 h2 (.ref hD)⟩
      | some x =>
        obtain ⟨g1, g2⟩ := ok.2 x en
        refine .inr ⟨g1, fun H => ∃ μ' vh', Ext (μ1 ++ [D]) (upd H1 D (.lst [])) μ' H ∧ HR K cls μ' vh' H ∧ out K cls (fun c d H' => W c d τ H') μ' H (RV K) Q (lcF it own vh1.length mt mf me σ m (i + 1) vh'), fun H' q => ⟨m, Nat.lt_succ_self m, q⟩, fun v H3 hy => ?_⟩
        obtain ⟨e3, hr3, r3⟩ := g2 v H3 hy
        have hs3 := ((hs.mono e1).mono (eA.trans e2)).mono e3
        refine ⟨μ2, wipeS σ own, vh2, x, hs3.wipe own, hr3, r3, ?_⟩
        have h2 := h2.ext e3
        simp only at h2
        cases em : mt x (wipeS σ own) vh2 with
        | nx σ4 vh4 =>
          rw [em] at h2
          simp only at h2
          intro τ4 μ4 H4 e4 hr4 hs4 kp
          refine ⟨by rw [kp own hS, wipe_wipe τ own own fun _ h => h], μ4, σ4, vh4, hs4, hr4, out_noexc ((out.bind (h2.ext e4)).imp fun b H5 h5 => ?_)⟩
          obtain ⟨μ5, vh5, b5, e5, hr5, r5, h5⟩ := h5
          cases r5
          cases b with
          | true =>
            rw [if_pos rfl] at h5
            rw [if_pos rfl]
            refine ⟨μ5, σ4, vh5, hs4.mono e5, hr5, out_noexc ((out.bind h5).imp fun y H6 h6 => ?_)⟩
            obtain ⟨μ6, vh6, y6, e6, hr6, r6, h6⟩ := h6
            split at h6
            · rename_i acc ea
              split at h6
              · rename_i hz
                have eT : Ext (μ1 ++ [D]) (upd H1 D (.lst [])) μ6 H6 := (((e2.trans e3).trans e4).trans e5).trans e6
                have hD6 : μ6[vh1.length]? = some D := eT.get (by rw [← hr1.len]; simp)
                obtain ⟨a, vs, ev, a1, a2, a3⟩ := hr6.getL (.ref hD6) ea
                cases ev
                have eS : Ext μ6 H6 μ6 (upd H6 D (.lst (vs ++ [y]))) := ⟨⟨[], by simp⟩, TP.set a2 rfl⟩
                refine ⟨vs, a2, by rw [← a3.length, lineZ_eq]; exact hz, μ6, _, eT.trans eS, hr6.set (o' := .lst (acc ++ [y6])) ea rfl rfl a1 a2 rfl (RVs.mono eS (a3.append (.cons r6 .nil))), h6.ext eS⟩
              · exact h6.elim
            · exact h6.elim
          | false =>
            rw [if_neg Bool.false_ne_true] at h5
            rw [if_neg Bool.false_ne_true]
            exact ⟨μ5, vh5, ((e2.trans e3).trans e4).trans e5, hr5, h5⟩
        | _ => rw [em] at h2; exact (show False from h2).elim
end
end Fe
namespace Fe
open PySem PySem.Spec PyProof.Rows L2
section
variable {K : PySem.W.Frag} {cls : Nat → Option Addr} {W : WX} {μ : List Addr} {H : Hp}
theorem outS.imp {D D' : Ends} {r : RS} (h : outS K cls W D μ H r) (kn : ∀ τ H, D.nx τ H → D'.nx τ H) (kr : ∀ x H, D.rt x H → D'.rt x H) (kb : ∀ τ H, D.bk τ H → D'.bk τ H) (kc : ∀ τ H, D.ct τ H → D'.ct τ H) : outS K cls W D' μ H r := by
  cases r with
  | nx σ vh => exact fun b μ2 H2 e2 hr q => kn _ _ (h b μ2 H2 e2 hr q)
  | rt v σ vh => exact fun b μ2 H2 e2 hr q => kr _ _ (h b μ2 H2 e2 hr q)
  | bk σ vh => exact fun b μ2 H2 e2 hr q => kb _ _ (h b μ2 H2 e2 hr q)
  | ct σ vh => exact fun b μ2 H2 e2 hr q => kc _ _ (h b μ2 H2 e2 hr q)
  | exc c fs σ vh => exact h
  | stuck => exact h
theorem outS_nx {D : Ends} {σ : SSt} {τ : L2.St} {vh : VH} (hr : HR K cls μ vh H) (hs : SR K μ H σ τ) (h : outS K cls W D μ H (.nx σ vh)) : D.nx τ H := h τ μ H (Ext.refl _ _) hr hs
/-- a loop's body -/
def loopK (D : Ends) (Nx : L2.St → Hp → Prop) : Ends := { D with nx := Nx, ct := Nx, bk := D.nx }
theorem outS_loop {D : Ends} {r : RS} {Nx : L2.St → Hp → Prop} {f : SSt → VH → RS} (h : outS K cls W D μ H (match r with | .nx σ vh => f σ vh | .ct σ vh => f σ vh | .bk σ vh => .nx σ vh | r => r))
    (k : ∀ τ H1 μ1 σ vh, Ext μ H μ1 H1 → SR K μ1 H1 σ τ → HR K cls μ1 vh H1 → outS K cls W D μ1 H1 (f σ vh) → Nx τ H1) : outS K cls W { D with nx := Nx, ct := Nx, bk := D.nx } μ H r := by
  cases r with
  | nx σ vh => exact fun τ μ2 H2 e2 hr hs => k τ H2 μ2 σ vh e2 hs hr (outS.ext e2 h)
  | ct σ vh => exact fun τ μ2 H2 e2 hr hs => k τ H2 μ2 σ vh e2 hs hr (outS.ext e2 h)
  | rt v σ vh => exact h
  | bk σ vh => exact h
  | exc c fs σ vh => exact h
  | stuck => exact h
end
section
variable {X : Cx} {cls : Nat → Option Addr} {W : WX} {ma mb : SSt → VH → Res VV} {mt : SSt → VH → Res Bool} {m1 m2 : SSt → VH → RS} {a b tg : Expr} {pos p : Pos} {st : Stmt} {sts sts' : List Stmt}
theorem s_nil : PSs X [] (tSt X.K cls W fun σ vh => .nx σ vh) := pss_nil.imp fun D τ H h => by
  obtain ⟨μ, σ, vh, hs, hr, h⟩ := h
  exact outS_nx hr hs h
theorem s_cons (h1 : PS X st (tSt X.K cls W m1)) (h2 : PSs X sts (tSt X.K cls W m2)) : PSs X (st :: sts) (tSt X.K cls W fun σ vh => (m1 σ vh).seq m2) := (pss_cons h1 h2).imp fun D τ H h => by
  obtain ⟨μ, σ, vh, hs, hr, h⟩ := h
  refine ⟨μ, σ, vh, hs, hr, ?_⟩
  simp only at h
  cases e : m1 σ vh with
  | nx σ1 vh1 =>
    rw [e] at h
    exact fun τ1 μ1 H1 e1 hr1 hs1 => ⟨μ1, σ1, vh1, hs1, hr1, outS.ext e1 h⟩
  | _ => rw [e] at h; exact h
theorem s_expr (ha : PE X a (tE X.K cls W ma)) (nc : notComp a = true) : PS X (.Expr a pos) (tSt X.K cls W fun σ vh => (ma σ vh).go σ fun _ vh => .nx σ vh) := (ps_expr ha (by cases a <;> first | rfl | cases nc)).imp fun D τ H h => by
  obtain ⟨μ, σ, vh, hs, hr, h⟩ := h
  refine ⟨μ, σ, vh, hs, hr, (out.go hs h).imp fun x H1 h1 => ?_⟩
  obtain ⟨μ1, vh1, a1, e1, hr1, r1, h1⟩ := h1
  exact outS_nx hr1 (hs.mono e1) h1
theorem s_set {i : Nat} {x : Str} {px : Pos} (hN : X.N.Nodup) (hi : X.N[i]? = some x) (hx : Loc X.env.scope x) (hf : X.fn x = true ∨ X.env.scope.names.lookup x = some .local) (ha : PE X a (tE X.K cls W ma)) (nc : (notComp a || cellB X.env.scope x) = true) :
    PS X (.Assign [.Name x px] a pos) (tSt X.K cls W fun σ vh => (ma σ vh).go σ fun x vh => .nx (σ.set i (some x)) vh) := (ps_set hN hi hx ha (set_sw nc) hf).imp fun D τ H h => by
  obtain ⟨μ, σ, vh, hs, hr, h⟩ := h
  refine ⟨μ, σ, vh, hs, hr, (out.go hs h).imp fun x H1 h1 => ?_⟩
  obtain ⟨μ1, vh1, a1, e1, hr1, r1, h1⟩ := h1
  exact outS_nx hr1 (SR.set r1 i (hs.mono e1)) h1
theorem sw_true {y : Str} {py : Pos} {elt tg iter : Expr} {ifs : List Expr} {scope : Scope} {pos : Pos} {l : Nat} {env : Env} (h1 : env.blockKind = .function) (h2 : env.kindOf y = some .local) (h3 : (py.line == pos.line) = true) (h4 : (scope.names.any fun (n, k) => n == y && (k == .local || k == .cell)) = false) :
    swapsWith (.ListComp elt [⟨tg, iter, ifs, 0⟩] scope pos) (some (.Name y py)) l env = pure true := by
  show (pure (env.blockKind == .function && env.kindOf y == some .local && py.line == pos.line && !(scope.names.any fun (n, k) => n == y && (k == .local || k == .cell))) : Sem Bool) = pure true
  rw [h1, h2, h3, h4]
  rfl
theorem s_setLc {i : Nat} {y : Str} {py spos : Pos} {elt iter : Expr} {ifs : List Expr} {scope : Scope} {own : List (Str × Nat)} {S : List Nat} {mi : SSt → VH → Res Ito} {mg : VV → SSt → VH → RS} {mf : SSt → VH → Res Bool} {me : SSt → VH → Res VV} (n : Nat) (hS : ∀ i ∈ S, i ∈ own.map (·.2)) (hc : X.calm = true) (hN : X.N.Nodup) (hi0 : X.N[i]? = some y)
    (hyl : X.env.scope.names.lookup y = some .local) (hsw : swapsWith (.ListComp elt [⟨tg, iter, ifs, 0⟩] scope pos) (some (.Name y py)) spos.line X.env = pure true) (hi : PI X tg iter (tI X.K cls W mi)) (ok : BlkOk X.N X.env.scope scope own)
    (hg : ∀ (s : Shared) (H : Hp) (C : Addr) (cl : List (Str × Addr)) (fp : List Addr), PG (X.blk s H scope (compEnvC scope cl C X.env) fp) tg (tG X.K cls W0 S mg)) (ht : ∀ (s : Shared) (H : Hp) (C : Addr) (cl : List (Str × Addr)) (fp : List Addr), PTs (X.blk s H scope (compEnvC scope cl C X.env) fp) ifs (tB X.K cls W0 mf))
    (he : ∀ (s : Shared) (H : Hp) (C : Addr) (cl : List (Str × Addr)) (fp : List Addr), PE (X.blk s H scope (compEnvC scope cl C X.env) fp) elt (tE X.K cls W0 me)) (pe : plainE iter = true) :
    PS X (.Assign [.Name y py] (.ListComp elt [⟨tg, iter, ifs, 0⟩] scope pos) spos) (tSt X.K cls W fun σ vh => ((mi σ vh).bind fun J vh => lcF J (own.map (·.2)) vh.length mg mf me σ n 0 (vh ++ [.lst []])).go σ fun x vh => .nx (σ.set i (some x)) vh) :=
  (ps_setLc hc hN hi0 hyl hsw hi ok hg ht he fun x => plain_folded pe).imp fun D τ H h => by
    obtain ⟨μ, σ, vh, hs, hr, h⟩ := h
    refine r_lc (W := W) (mi := mi) (mf := mf) (me := me) n hS τ H _ ⟨μ, σ, vh, hs, hr, (out.go hs h).imp fun x H1 h1 => ?_⟩
    obtain ⟨μ1, vh1, a1, e1, hr1, r1, h1⟩ := h1
    exact outS_nx hr1 (SR.set r1 i (hs.mono e1)) h1
theorem f_lc {elt iter : Expr} {ifs : List Expr} {scope : Scope} {own : List (Str × Nat)} {S : List Nat} {mi : SSt → VH → Res Ito} {mg : VV → SSt → VH → RS} {mf : SSt → VH → Res Bool} {me : SSt → VH → Res VV} (n : Nat) (hS : ∀ i ∈ S, i ∈ own.map (·.2)) (hc : X.calm = true) (hN : X.N.Nodup)
    (hi : PI X tg iter (tI X.K cls W mi)) (ok : BlkOk X.N X.env.scope scope own)
    (hg : ∀ (s : Shared) (H : Hp) (C : Addr) (cl : List (Str × Addr)) (fp : List Addr), PG (X.blk s H scope (compEnvC scope cl C X.env) fp) tg (tG X.K cls W0 S mg)) (ht : ∀ (s : Shared) (H : Hp) (C : Addr) (cl : List (Str × Addr)) (fp : List Addr), PTs (X.blk s H scope (compEnvC scope cl C X.env) fp) ifs (tB X.K cls W0 mf))
    (he : ∀ (s : Shared) (H : Hp) (C : Addr) (cl : List (Str × Addr)) (fp : List Addr), PE (X.blk s H scope (compEnvC scope cl C X.env) fp) elt (tE X.K cls W0 me)) (pe : plainE iter = true) :
    PE X (.ListComp elt [⟨tg, iter, ifs, 0⟩] scope pos) (tE X.K cls W fun σ vh => (mi σ vh).bind fun J vh => lcF J (own.map (·.2)) vh.length mg mf me σ n 0 (vh ++ [.lst []])) :=
  (pe_lc hc hN hi ok hg ht he fun x => plain_folded pe).imp fun τ H Q h => r_lc n hS τ H Q h
theorem noTup_sw0 {tg a : Expr} {env : Env} (nt : notTup a = true) : swappedStores [tg] a env = pure none := by
  cases a <;> first | (cases nt; done) | (cases tg <;> rfl)
theorem noTup_sw {tg a : Expr} {env : Env} (nt : swT tg a = true) : swappedStores [tg] a env = pure none := by
  unfold swT at nt
  split at nt
  · cases a <;> rfl
  · cases a with
    | Tuple vs k p =>
      unfold swappedStores
      simp only [List.length_cons, List.length_nil, List.filterMap_cons, List.filterMap_nil]
      split <;> first | rfl | (split <;> rfl)
    | _ => rfl
  · exact noTup_sw0 nt
theorem s_asg {S : List Nat} {mg : VV → SSt → VH → RS} (fl : ∀ v σ vh, RS.flat (mg v σ vh)) (ha : PE X a (tE X.K cls W ma)) (hg : PG X tg (tG X.K cls W S mg)) (nc : notComp a = true) (nt : swT tg a = true) (ptg : plainE tg = true) :
    PS X (.Assign [tg] a pos) (tSt X.K cls W fun σ vh => (ma σ vh).go σ fun x vh => mg x σ vh) := (ps_asg ha hg (notComp_sw nc) (noTup_sw nt) (h1 := by rw [assign_cons ptg]; rfl)).imp fun D τ H h => by
  obtain ⟨μ, σ, vh, hs, hr, h⟩ := h
  refine ⟨μ, σ, vh, hs, hr, (out.go hs h).imp fun x H1 h1 => ?_⟩
  obtain ⟨μ1, vh1, a1, e1, hr1, r1, h1⟩ := h1
  exact ⟨μ1, σ, vh1, a1, hs.mono e1, hr1, r1, (outS.toG (fl _ _ _) h1).imp fun _ _ q _ => q⟩
theorem s_par {i j : Nat} {x y : Str} {px py pt : Pos} {kt k2 : Nat} {p2 : Pos} (hc : X.calm = true) (hN : X.N.Nodup) (hi : X.N[i]? = some x) (hj : X.N[j]? = some y) (hij : i ≠ j) (hx : X.env.scope.names.lookup x = some .local) (hy : X.env.scope.names.lookup y = some .local)
    (ha : PE X a (tE X.K cls W ma)) (hb : PE X b (tE X.K cls W mb)) (pa : plainE a = true) (pb : plainE b = true) (hw : swappedStores [.Tuple [.Name x px, .Name y py] kt pt] (.Tuple [a, b] k2 p2) X.env = pure (some [x, y])) :
    PS X (.Assign [.Tuple [.Name x px, .Name y py] kt pt] (.Tuple [a, b] k2 p2) pos) (tSt X.K cls W fun σ vh => (ma σ vh).go σ fun x vh => (mb σ vh).go σ fun y vh => .nx ((σ.set i (some x)).set j (some y)) vh) :=
  (ps_par hc hN hi hj hij hx hy (f_cons ha (f_cons hb f_nil pb) pa) hw).imp fun D τ H h => by
    obtain ⟨μ, σ, vh, hs, hr, h⟩ := h
    refine ⟨μ, σ, vh, hs, hr, ?_⟩
    simp only at h ⊢
    cases e : ma σ vh with
    | ok x1 vh1 =>
      rw [e] at h
      simp only [Res.go_ok, Res.bind_ok] at h ⊢
      cases e' : mb σ vh1 with
      | ok y1 vh2 =>
        rw [e'] at h
        simp only [Res.go_ok, Res.bind_ok] at h ⊢
        intro vs μ1 H1 e1 hr1 r1
        obtain ⟨v, w, rfl, rv, rw'⟩ := r1.twoI
        exact ⟨v, w, rfl, h _ μ1 H1 e1 hr1 (SR.set rw' j (SR.set rv i (hs.mono e1)))⟩
      | exc c fs vh2 => rw [e'] at h; exact fun C d μ1 H1 hc e1 hr1 q => h C d τ μ1 H1 hc e1 hr1 (hs.mono e1) q
      | stuck => rw [e'] at h; exact h
    | exc c fs vh2 => rw [e] at h; exact fun C d μ1 H1 hc e1 hr1 q => h C d τ μ1 H1 hc e1 hr1 (hs.mono e1) q
    | stuck => rw [e] at h; exact h
/-- x op= y -/
def augR : BO → R2
  | .add => R2.or (rI0 fun i j => .int (i + j)) (fun x y H Q => ∃ i j, x = .str i ∧ y = .str j ∧ i.length + j.length ≤ sizeLine ∧ Q (.str (i ++ j)) H)
  | .sub => rI0 fun i j => .int (i - j)
  | .fdiv => rI CDiv fun i j => .int (i / j)
  | _ => fun _ _ _ _ => False
theorem aug_ok (o : BO) : OpR X (inplaceOp o.op) (augR o) := by
  cases o with
  | add => exact iop_add.or iop_add_str
  | sub => exact iop_sub
  | fdiv => exact iop_fdiv
  | _ => intro pins s σ H x y v u Q I rx ry h; exact h.elim
theorem aug_m {K : PySem.W.Frag} (o : BO) : OpM K cls (augR o) (sAug o) := by
  intro We μ vh H x y v u Q hr rx ry h
  cases o with
  | add =>
    cases x with
    | int i =>
      cases y with
      | int j => exact .inl ⟨i, j, rx.intI, ry.intI, out_here hr h (.int _)⟩
      | _ => exact (show False from h).elim
    | str i =>
      cases y with
      | str j =>
        simp only [sAug] at h
        split at h
        · rename_i hz
          exact .inr ⟨i, j, rx.strI, ry.strI, by rw [lineZ_eq]; exact hz, out_here hr h (.str _)⟩
        · exact h.elim
      | _ => exact (show False from h).elim
    | _ => cases y <;> exact (show False from h).elim
  | sub =>
    cases x with
    | int i =>
      cases y with
      | int j => exact ⟨i, j, rx.intI, ry.intI, out_here hr h (.int _)⟩
      | _ => exact (show False from h).elim
    | _ => cases y <;> exact (show False from h).elim
  | fdiv =>
    cases x with
    | int i =>
      cases y with
      | int j =>
        simp only [sAug] at h
        split at h
        · rename_i hz
          exact ⟨i, j, rx.intI, ry.intI, ⟨hz.1, by omega⟩, out_here hr h (.int _)⟩
        · exact h.elim
      | _ => exact (show False from h).elim
    | _ => cases y <;> exact (show False from h).elim
  | _ => cases x <;> cases y <;> exact (show False from h).elim
theorem s_aug {i : Nat} {x : Str} {px : Pos} (o : BO) (hN : X.N.Nodup) (hi : X.N[i]? = some x) (hx : Loc X.env.scope x) (hf : X.fn x = true ∨ X.env.scope.names.lookup x = some .local) (ha : PE X a (tE X.K cls W ma)) :
    PS X (.AugAssign (.Name x px) o.op a pos) (tSt X.K cls W fun σ vh => match σ[i]? with | some (some x) => (ma σ vh).go σ fun y vh => (sAug o x y vh).go σ fun z vh => .nx (σ.set i (some z)) vh | _ => .stuck) :=
  (ps_aug hN hi hx ha (aug_ok o) hf).imp fun D τ H h => by
    obtain ⟨μ, σ, vh, hs, hr, h⟩ := h
    simp only at h
    split at h
    · rename_i v e
      obtain ⟨y, g1, g2⟩ := hs.get e
      refine ⟨y, g1, μ, σ, vh, hs, hr, (out.go hs h).imp fun z H1 h1 => ?_⟩
      obtain ⟨μ1, vh1, a1, e1, hr1, r1, h1⟩ := h1
      refine aug_m o (fun c d H' => W c d τ H') μ1 vh1 H1 v a1 y z _ hr1 (g2.mono e1) r1 ((out.go (hs.mono e1) h1).imp fun u H2 h2 => ?_)
      obtain ⟨μ2, vh2, a2, e2, hr2, r2, h2⟩ := h2
      exact outS_nx hr2 (SR.set r2 i ((hs.mono e1).mono e2)) h2
    · exact h.elim
theorem s_ret (ha : PE X a (tE X.K cls W ma)) : PS X (.Return (some a) pos) (tSt X.K cls W fun σ vh => (ma σ vh).go σ fun x vh => .rt x σ vh) := (ps_ret ha).imp fun D τ H h => by
  obtain ⟨μ, σ, vh, hs, hr, h⟩ := h
  refine ⟨μ, σ, vh, hs, hr, (out.go hs h).imp fun x H1 h1 => ?_⟩
  obtain ⟨μ1, vh1, a1, e1, hr1, r1, h1⟩ := h1
  exact h1 x μ1 H1 (Ext.refl _ _) hr1 r1
theorem s_ret0 : PS X (.Return none pos) (tSt X.K cls W fun σ vh => .rt .non σ vh) := ps_retN.imp fun D τ H h => by
  obtain ⟨μ, σ, vh, hs, hr, h⟩ := h
  exact h _ μ H (Ext.refl _ _) hr .non
theorem s_ife (hc : PT X a (tB X.K cls W mt)) (h1 : PSs X sts (tSt X.K cls W m1)) (h2 : PSs X sts' (tSt X.K cls W m2)) :
    PS X (.If a sts sts' pos) (tSt X.K cls W fun σ vh => (mt σ vh).go σ fun c vh => if c = true then m1 σ vh else m2 σ vh) := (ps_if hc h1 h2).imp fun D τ H h => by
  obtain ⟨μ, σ, vh, hs, hr, h⟩ := h
  refine ⟨μ, σ, vh, hs, hr, (out.go hs h).imp fun x H1 h1 => ?_⟩
  obtain ⟨μ1, vh1, a1, e1, hr1, r1, h1⟩ := h1
  cases r1
  cases x with
  | true => exact ⟨μ1, σ, vh1, hs.mono e1, hr1, h1⟩
  | false => exact ⟨μ1, σ, vh1, hs.mono e1, hr1, h1⟩
theorem s_pass : PS X (.Pass pos) (tSt X.K cls W fun σ vh => .nx σ vh) := ps_pass.imp fun D τ H h => by
  obtain ⟨μ, σ, vh, hs, hr, h⟩ := h
  exact outS_nx hr hs h
theorem s_brk : PS X (.Break pos) (tSt X.K cls W fun σ vh => .bk σ vh) := ps_break.imp fun D τ H h => by
  obtain ⟨μ, σ, vh, hs, hr, h⟩ := h
  exact h τ μ H (Ext.refl _ _) hr hs
theorem s_cont : PS X (.Continue pos) (tSt X.K cls W fun σ vh => .ct σ vh) := ps_continue.imp fun D τ H h => by
  obtain ⟨μ, σ, vh, hs, hr, h⟩ := h
  exact h τ μ H (Ext.refl _ _) hr hs
theorem s_whl (n : Nat) (hp : PassesOwn (model X.prog X.w) X.A X.env X.xe) (hc : PT X a (tB X.K cls W mt)) (hb : PSs X sts (tSt X.K cls W m1)) :
    PS X (.While a sts [] pos) (tSt X.K cls W fun σ vh => whlF mt m1 n σ vh) := (ps_while hp hc hb).imp fun D τ H h => by
  obtain ⟨μ, σ, vh, hs, hr, h⟩ := h
  refine ⟨fun m τ H => ∃ μ σ vh, SR X.K μ H σ τ ∧ HR X.K cls μ vh H ∧ outS X.K cls W D μ H (whlF mt m1 m σ vh), ⟨n, μ, σ, vh, hs, hr, h⟩, ?_⟩
  rintro m τ H ⟨μ, σ, vh, hs, hr, h⟩
  cases m with
  | zero => exact h.elim
  | succ m =>
    simp only [whlF] at h
    refine ⟨μ, σ, vh, hs, hr, (out.go hs h).imp fun x H1 h1 => ?_⟩
    obtain ⟨μ1, vh1, a1, e1, hr1, r1, h1⟩ := h1
    cases r1
    cases x with
    | true =>
      rw [if_pos rfl] at h1
      rw [if_pos rfl]
      refine ⟨fun τ H => ∃ μ σ vh, SR X.K μ H σ τ ∧ HR X.K cls μ vh H ∧ outS X.K cls W D μ H (whlF mt m1 m σ vh), fun _ _ q => ⟨m, Nat.lt_succ_self m, q⟩, μ1, σ, vh1, hs.mono e1, hr1, ?_⟩
      exact outS_loop h1 fun τ2 H2 μ2 σ2 vh2 _ hs2 hr2 h2 => ⟨μ2, σ2, vh2, hs2, hr2, h2⟩
    | false =>
      rw [if_neg Bool.false_ne_true] at h1
      rw [if_neg Bool.false_ne_true]
      exact outS_nx hr1 (hs.mono e1) h1
theorem s_fr {S : List Nat} {mi : SSt → VH → Res Ito} {mg : VV → SSt → VH → RS} (n : Nat) (fl : ∀ v σ vh, RS.flat (mg v σ vh)) (hp : PassesOwn (model X.prog X.w) X.A X.env X.xe) (hc : X.calm = true) (hi : PI X tg a (tI X.K cls W mi)) (hg : PG X tg (tG X.K cls W S mg)) (hb : PSs X sts (tSt X.K cls W m1)) (pa : plainE a = true) :
    PS X (.For tg a sts [] pos) (tSt X.K cls W fun σ vh => (mi σ vh).go σ fun J vh => forF J (fun x σ vh => (mg x σ vh).seq m1) n 0 σ vh) :=
  (ps_for hp hc hi hg hb fun x => plain_folded pa).imp fun D τ H h => by
    obtain ⟨μ, σ, vh, hs, hr, h⟩ := h
    refine ⟨μ, σ, vh, hs, hr, (out.go hs h).imp fun J H1 h1 => ?_⟩
    obtain ⟨μ1, vh1, it, e1, hr1, hJ, h1⟩ := h1
    refine ⟨fun i m τ H => ∃ μ σ vh, Ext μ1 H1 μ H ∧ SR X.K μ H σ τ ∧ HR X.K cls μ vh H ∧ outS X.K cls W D μ H (forF it (fun x σ vh => (mg x σ vh).seq m1) m i σ vh), ⟨n, μ1, σ, vh1, Ext.refl _ _, hs.mono e1, hr1, h1⟩, ?_⟩
    rintro i m τ2 H2 ⟨μ2, σ2, vh2, e2, hs2, hr2, h2⟩
    cases m with
    | zero => exact h2.elim
    | succ m =>
      simp only [forF] at h2
      have ok := hJ μ2 H2 vh2 i e2 hr2
      cases en : it.nx i vh2 with
      | none => rw [en] at h2; exact h2.elim
      | some o =>
        rw [en] at h2
        cases o with
        | none => exact .inl ⟨ok.1 en, outS_nx hr2 hs2 h2⟩
        | some x =>
          obtain ⟨g1, g2⟩ := ok.2 x en
          refine .inr ⟨g1, fun τ H => ∃ μ σ vh, Ext μ1 H1 μ H ∧ SR X.K μ H σ τ ∧ HR X.K cls μ vh H ∧ outS X.K cls W D μ H (forF it (fun x σ vh => (mg x σ vh).seq m1) m (i + 1) σ vh), fun _ _ q => ⟨m, Nat.lt_succ_self m, q⟩, fun v H3 hy => ?_⟩
          obtain ⟨e3, hr3, r3⟩ := g2 v H3 hy
          refine ⟨μ2, σ2, vh2, x, hs2.mono e3, hr3, r3, ?_⟩
          have h3 := outS_loop (r := (mg x σ2 vh2).seq m1) (Nx := fun τ H => ∃ μ σ vh, Ext μ1 H1 μ H ∧ SR X.K μ H σ τ ∧ HR X.K cls μ vh H ∧ outS X.K cls W D μ H (forF it (fun x σ vh => (mg x σ vh).seq m1) m (i + 1) σ vh)) (h2.ext e3)
            fun τ4 H4 μ4 σ4 vh4 e4 hs4 hr4 h4 => ⟨μ4, σ4, vh4, (e2.trans e3).trans e4, hs4, hr4, h4⟩
          refine (outS.seqG (fl _ _ _) h3).imp fun τ4 H4 h4 _ => ?_
          obtain ⟨μ4, σ4, vh4, e4, hr4, hs4, h4⟩ := h4
          exact ⟨μ4, σ4, vh4, hs4, hr4, h4⟩
end
end Fe
namespace Fe
open PySem PySem.Spec PyProof.Rows L2
theorem RVs.maps {K : PySem.W.Frag} {μ : List Addr} {H : Hp} {α : Type} {f : α → VV} {g : α → V} (h : ∀ a, RV K μ H (f a) (g a)) : ∀ l : List α, RVs K μ H (l.map f) (l.map g)
  | [] => .nil
  | a :: l => .cons (h a) (RVs.maps h l)
theorem rngVV_rel {K : PySem.W.Frag} {μ : List Addr} {H : Hp} (j : Int) : RVs K μ H (rngVV j.toNat) (rgV 0 j) := by
  unfold rngVV rgV
  rw [Int.sub_zero]
  exact RVs.maps (fun k => .int _) _
theorem rgOk_of {j : Int} (h : small62 j) (h2 : j.toNat ≤ lineZ) : RgOk 0 j := by
  unfold small62 at h; unfold lineZ at h2; unfold RgOk; omega
section
variable {X : Cx} {cls : Nat → Option Addr} {W : WX} {ma mj me : SSt → VH → Res VV} {a j e : Expr} {pos p p2 p3 pos2 pos3 : Pos} {st : Stmt}
theorem f_lrev (hc : X.calm = true) (hg : Gl X "list") (hm : X.mg "list" = none) (hg2 : Gl X "reversed") (hm2 : X.mg "reversed" = none) (ha : PE X a (tE X.K cls W ma)) (pa : plainE a = true) :
    PE X (.Call (.Name "list" p) [.Call (.Name "reversed" p2) [a] [] pos2] [] pos) (tE X.K cls W fun σ vh => (ma σ vh).bind fun x vh => sO1 .lrev x vh) := (pe_lrev hc hg hm hg2 hm2 ha (starEach_cons pa) (starEach_cons rfl)).imp fun τ H Q h => by
  obtain ⟨μ, σ, vh, hs, hr, h⟩ := h
  refine ⟨μ, σ, vh, hs, hr, (out.bind h).imp fun x H1 h1 => ?_⟩
  obtain ⟨μ1, vh1, a1, e1, hr1, r1, h1⟩ := h1
  cases a1 with
  | ref n =>
    simp only [sO1] at h1
    split at h1
    · rename_i xs e
      obtain ⟨b, vs, rfl, _, h2, h3⟩ := hr1.seq r1 e
      exact ⟨b, vs, rfl, h2, out_alloc hr1 h1 rfl h3.reverse⟩
    · exact h1.elim
  | _ => exact (show False from h1).elim
theorem f_lrg (hc : X.calm = true) (hg : Gl X "list") (hm : X.mg "list" = none) (hg2 : Gl X "range") (hm2 : X.mg "range" = none) (ha : PE X a (tE X.K cls W ma)) (pa : plainE a = true) :
    PE X (.Call (.Name "list" p) [.Call (.Name "range" p2) [a] [] pos2] [] pos) (tE X.K cls W fun σ vh => (ma σ vh).bind fun x vh => sO1 .lrg x vh) := (pe_listRg hc hg hm (prg_1 hg2 hm2 ha (starEach_cons pa)) (starEach_cons rfl)).imp fun τ H Q h => by
  obtain ⟨μ, σ, vh, hs, hr, h⟩ := h
  refine ⟨μ, σ, vh, hs, hr, (out.bind h).imp fun x H1 h1 => ?_⟩
  obtain ⟨μ1, vh1, a1, e1, hr1, r1, h1⟩ := h1
  cases a1 with
  | int i =>
    simp only [sO1] at h1
    split at h1
    · rename_i hz
      exact ⟨i, r1.intI, rgOk_of hz.1 hz.2, out_alloc hr1 h1 rfl (rngVV_rel i)⟩
    · exact h1.elim
  | _ => exact (show False from h1).elim
theorem f_lrr (hc : X.calm = true) (hg : Gl X "list") (hm : X.mg "list" = none) (hg2 : Gl X "reversed") (hm2 : X.mg "reversed" = none) (hg3 : Gl X "range") (hm3 : X.mg "range" = none) (ha : PE X a (tE X.K cls W ma)) (pa : plainE a = true) :
    PE X (.Call (.Name "list" p) [.Call (.Name "reversed" p2) [.Call (.Name "range" p3) [a] [] pos3] [] pos2] [] pos) (tE X.K cls W fun σ vh => (ma σ vh).bind fun x vh => sO1 .lrr x vh) := (pe_lrr hc hg hm hg2 hm2 (prg_1 hg3 hm3 ha (starEach_cons pa)) (starEach_cons rfl) (starEach_cons rfl)).imp fun τ H Q h => by
  obtain ⟨μ, σ, vh, hs, hr, h⟩ := h
  refine ⟨μ, σ, vh, hs, hr, (out.bind h).imp fun x H1 h1 => ?_⟩
  obtain ⟨μ1, vh1, a1, e1, hr1, r1, h1⟩ := h1
  cases a1 with
  | int i =>
    simp only [sO1] at h1
    split at h1
    · rename_i hz
      exact ⟨i, r1.intI, rgOk_of hz.1 hz.2, out_alloc hr1 h1 rfl (rngVV_rel i).reverse⟩
    · exact h1.elim
  | _ => exact (show False from h1).elim
theorem ev2_rel {K : PySem.W.Frag} {μ : List Addr} {H : Hp} : ∀ {xs : List VV} {vs : List V}, RVs K μ H xs vs → RVs K μ H (ev2 xs) (ev2 vs)
  | _, _, .nil => .nil
  | _, _, .cons r .nil => .cons r .nil
  | _, _, .cons r (.cons _ t) => .cons r (ev2_rel t)
theorem f_ev0 {k1 k2 : Nat} {p1 p4 : Pos} (ha : PE X a (tE X.K cls W ma)) :
    PE X (.Subscript a (.Slice (some (.Constant (.int 0) k1 p1)) none (some (.Constant (.int 2) k2 p2)) p3) p4) (tE X.K cls W fun σ vh => (ma σ vh).bind fun x vh => sO1 .ev0 x vh) := (pe_ev 0 ha).imp fun τ H Q h => by
  obtain ⟨μ, σ, vh, hs, hr, h⟩ := h
  refine ⟨μ, σ, vh, hs, hr, (out.bind h).imp fun x H1 h1 => ?_⟩
  obtain ⟨μ1, vh1, a1, e1, hr1, r1, h1⟩ := h1
  cases a1 with
  | ref n =>
    simp only [sO1] at h1
    split at h1
    · rename_i xs e
      obtain ⟨b, vs, rfl, _, h2, h3⟩ := hr1.seq r1 e
      exact ⟨b, vs, rfl, h2, out_alloc hr1 h1 rfl (ev2_rel (h3.drop 0))⟩
    · exact h1.elim
  | _ => exact (show False from h1).elim
theorem f_ev1 {k1 k2 : Nat} {p1 p4 : Pos} (ha : PE X a (tE X.K cls W ma)) :
    PE X (.Subscript a (.Slice (some (.Constant (.int 1) k1 p1)) none (some (.Constant (.int 2) k2 p2)) p3) p4) (tE X.K cls W fun σ vh => (ma σ vh).bind fun x vh => sO1 .ev1 x vh) := (pe_ev 1 ha).imp fun τ H Q h => by
  obtain ⟨μ, σ, vh, hs, hr, h⟩ := h
  refine ⟨μ, σ, vh, hs, hr, (out.bind h).imp fun x H1 h1 => ?_⟩
  obtain ⟨μ1, vh1, a1, e1, hr1, r1, h1⟩ := h1
  cases a1 with
  | ref n =>
    simp only [sO1] at h1
    split at h1
    · rename_i xs e
      obtain ⟨b, vs, rfl, _, h2, h3⟩ := hr1.seq r1 e
      exact ⟨b, vs, rfl, h2, out_alloc hr1 h1 rfl (ev2_rel (h3.drop 1))⟩
    · exact h1.elim
  | _ => exact (show False from h1).elim
theorem f_lval {ap cp : Pos} (hc : X.calm = true) (hg : Gl X "list") (hm : X.mg "list" = none) (pb : plainBase a = true) (hl : (ap.endLine == cp.line) = true) (ha : PE X a (tE X.K cls W ma)) :
    PE X (.Call (.Name "list" p) [.Call (.Attribute a "values" ap) [] [] cp] [] pos) (tE X.K cls W fun σ vh => (ma σ vh).bind fun x vh => sO1 .lval x vh) := (pe_lvals hc ha hg hm (plain_base pb) hl (starEach_cons rfl)).imp fun τ H Q h => by
  obtain ⟨μ, σ, vh, hs, hr, h⟩ := h
  refine ⟨μ, σ, vh, hs, hr, (out.bind h).imp fun x H1 h1 => ?_⟩
  obtain ⟨μ1, vh1, a1, e1, hr1, r1, h1⟩ := h1
  cases a1 with
  | ref n =>
    simp only [sO1] at h1
    split at h1
    · rename_i kvs e
      obtain ⟨b, ws, rfl, _, h2, h3, h4⟩ := hr1.getD r1 e
      exact ⟨b, ws, rfl, h2, out_alloc hr1 h1 rfl h4⟩
    · exact h1.elim
  | _ => exact (show False from h1).elim
theorem f_nset (hc : X.calm = true) (hg : Gl X "len") (hm : X.mg "len" = none) (hg2 : Gl X "set") (hm2 : X.mg "set" = none) (ha : PE X a (tE X.K cls W ma)) (pa : plainE a = true) :
    PE X (.Call (.Name "len" p) [.Call (.Name "set" p2) [a] [] pos2] [] pos) (tE X.K cls W fun σ vh => (ma σ vh).bind fun x vh => sO1 .nset x vh) := (L2.pe_lenSetI hc hg hm hg2 hm2 ha (starEach_cons pa)).imp fun τ H Q h => by
  obtain ⟨μ, σ, vh, hs, hr, h⟩ := h
  refine ⟨μ, σ, vh, hs, hr, (out.bind h).imp fun x H1 h1 => ?_⟩
  obtain ⟨μ1, vh1, a1, e1, hr1, r1, h1⟩ := h1
  cases a1 with
  | ref n =>
    simp only [sO1] at h1
    split at h1
    · rename_i xs e
      split at h1
      · rename_i ns e2
        split at h1
        · rename_i hz
          obtain ⟨b, vs, rfl, _, h2, h3⟩ := hr1.seq r1 e
          have e3 := allInts_rel (K := X.K) (μ := μ1) (H := H1) e2
          subst e3
          rw [h3.ints] at h2
          exact ⟨b, ns, rfl, h2, hz.1, hz.2, out_here hr1 h1 (.int _)⟩
        · exact h1.elim
      · exact h1.elim
    · exact h1.elim
  | _ => exact (show False from h1).elim
theorem f_bits {ap cp : Pos} (pb : plainBase a = true) (hl : (ap.endLine == cp.line) = true) (ha : PE X a (tE X.K cls W ma)) :
    PE X (.Call (.Attribute a "bit_length" ap) [] [] cp) (tE X.K cls W fun σ vh => (ma σ vh).bind fun x vh => sO1 .bits x vh) := (pe_bits ha (plain_base pb) hl).imp fun τ H Q h => by
  obtain ⟨μ, σ, vh, hs, hr, h⟩ := h
  refine ⟨μ, σ, vh, hs, hr, (out.bind h).imp fun x H1 h1 => ?_⟩
  obtain ⟨μ1, vh1, a1, e1, hr1, r1, h1⟩ := h1
  cases a1 with
  | int i => exact ⟨i, r1.intI, out_here hr1 h1 (.int _)⟩
  | _ => exact (show False from h1).elim
theorem aug_plain {i : Expr} (h : plainE i = true) : ∀ ov iv new, augStore i ov iv new = (do holding [new, ov, iv] (setItem ov iv new); release [new, ov, iv] []; pure .next) := by
  cases i <;> first | (cases h; done) | (intros; rfl)
theorem s_augS (hu : X.A.units + 64 < cLine) (o : BO) (pj : plainE j = true) (ha : PE X a (tE X.K cls W ma)) (hj : PE X j (tE X.K cls W mj)) (he : PE X e (tE X.K cls W me)) :
    PS X (.AugAssign (.Subscript a j p) o.op e pos) (tSt X.K cls W fun σ vh => (ma σ vh).go σ fun x vh => (mj σ vh).go σ fun k vh => (sGet x k vh).go σ fun y vh => (me σ vh).go σ fun z vh => (sAug o y z vh).go σ fun u vh => (sSet x k u vh).go σ fun _ vh => .nx σ vh) :=
  (ps_augS ha hj (get_all (by omega)) he (aug_ok o) (set_all (by omega)) (aug_plain pj)).imp fun D τ H h => by
    obtain ⟨μ, σ, vh, hs, hr, h⟩ := h
    refine ⟨μ, σ, vh, hs, hr, (out.go hs h).imp fun x H1 h1 => ?_⟩
    obtain ⟨μ1, vh1, a1, e1, hr1, r1, h1⟩ := h1
    have s1 := hs.mono e1
    refine ⟨μ1, σ, vh1, s1, hr1, (out.go s1 h1).imp fun k H2 h2 => ?_⟩
    obtain ⟨μ2, vh2, a2, e2, hr2, r2, h2⟩ := h2
    have s2 := s1.mono e2
    refine getm (We := fun c d H' => W c d τ H') hr2 (r1.mono e2) r2 ((out.go s2 h2).imp fun y H3 h3 => ?_)
    obtain ⟨μ3, vh3, a3, e3, hr3, r3, h3⟩ := h3
    have s3 := s2.mono e3
    refine ⟨μ3, σ, vh3, s3, hr3, (out.go s3 h3).imp fun z H4 h4 => ?_⟩
    obtain ⟨μ4, vh4, a4, e4, hr4, r4, h4⟩ := h4
    have s4 := s3.mono e4
    refine aug_m o (fun c d H' => W c d τ H') μ4 vh4 H4 a3 a4 y z _ hr4 (r3.mono e4) r4 ((out.go s4 h4).imp fun u H5 h5 => ?_)
    obtain ⟨μ5, vh5, a5, e5, hr5, r5, h5⟩ := h5
    have s5 := s4.mono e5
    have E := ((e2.trans e3).trans e4).trans e5
    have h6 := out.go (K := X.K) (cls := cls) (W := W) (rel := fun _ _ _ (_ : Unit) => True) s5 h5
    refine setm (We := fun c d H' => W c d τ H') hr5 (r1.mono E) (r2.mono ((e3.trans e4).trans e5)) r5 (h6.imp fun _ H6 h7 => ?_)
    obtain ⟨μ6, vh6, a6, e6, hr6, _, h7⟩ := h7
    exact outS_nx hr6 (s5.mono e6) h7
theorem s_any : PS X st (tSt X.K cls W fun _ _ => .stuck) := ⟨fun pins s σ H D I hw => by
  obtain ⟨_, _, _, _, _, h⟩ := hw
  exact h.elim⟩
end
end Fe
namespace Fe
open PySem PySem.Spec PyProof.Rows L2
theorem sub_plain {a b : Expr} {pos : Pos} {env : Env} (h : plainE b = true) : ∀ v, assign (.Subscript a b pos) env v = (do
      let ov ← holding [v] (eval a env)
      let iv ← holding [v, ov] (eval b env)
      standAt pos
      holding [v, ov, iv] (setItem ov iv v)
      release [v, ov, iv] []) := by
  intro v
  cases b <;> first | rfl | cases h
theorem sw_par {x y : Str} {px py pt : Pos} {kt k2 : Nat} {p2 : Pos} {a b : Expr} {env : Env} (hb : env.blockKind = .function) (hx : env.kindOf x = some .local) (hy : env.kindOf y = some .local) (hl : (px.line == py.line) = true) (hn : x ≠ y)
    (pa : plainE a = true) (pb : plainE b = true) (h1 : (foldedForSure 8 a && foldedForSure 8 b) = false) (h2 : (constantsAlone 8 a && constantsAlone 8 b) = false) :
    swappedStores [.Tuple [.Name x px, .Name y py] kt pt] (.Tuple [a, b] k2 p2) env = pure (some [x, y]) := by
  have hl' : py.line = px.line := (eq_of_beq hl).symm
  unfold swappedStores
  simp only [hb]
  have e1 : ([a, b].all (foldedForSure 8)) = false := by simpa using h1
  have e2 : ([a, b].all (constantsAlone 8)) = false := by simpa using h2
  have n1 : (y == x) = false := by simpa using fun z => hn z.symm
  have pl : (Expr.Name x px).pos.line = px.line := rfl
  have xn : (x == y) = false := by simpa using hn
  simp [hx, hy, hl', e1, e2, hn, List.eraseDups, n1]
  rw [if_neg (by rintro (h | h) <;> (split at h <;> first | (cases pa; done) | (cases pb; done) | cases h))]
  simp [List.filterMap_cons, hx, hy, hl', pl, List.eraseDupsBy, List.eraseDupsBy.loop, n1, xn]
theorem vis_of {sc : Scope} {x : Str} (h : visB sc x = true) : Vis sc x := by
  unfold visB at h
  split at h
  · rename_i e; exact .inl e
  · rename_i e; exact .inr (.inl e)
  · rename_i e; exact .inr (.inr e)
  · cases h
theorem loc_of {sc : Scope} {blk : Bool} {x : Str} (h : locB sc blk x = true) : L2.Loc sc x ∧ (blk = false ∨ sc.names.lookup x = some .local) := by
  unfold locB at h
  split at h
  · rename_i e; exact ⟨.inl e, .inr e⟩
  · rename_i e; exact ⟨.inr e, .inl (by simpa using h)⟩
  · cases h
theorem gl_of {sc : Scope} {x : Str} (h : glB sc x = true) : sc.names.lookup x = some .globalImplicit := by
  unfold glB at h
  split at h
  · rename_i e; exact e
  · cases h
section
variable {c : Ck} {cls : Nat → Option Addr} {G : Gam} {k : Nat}
theorem XOk.units {sc : Scope} {blk : Bool} {X : Cx} {W : WX} (ok : XOk c cls G k sc blk X W) : X.A.units + 64 < cLine := by
  have := ok.room.un
  omega
theorem XOk.glX {sc : Scope} {blk : Bool} {X : Cx} {W : WX} (ok : XOk c cls G k sc blk X W) {x : Str} (h : glB sc x = true) : Gl X x := by
  have := gl_of h
  rw [← ok.hsc] at this
  exact this
theorem XOk.blk' {sc scope : Scope} {blk : Bool} {X : Cx} {W : WX} (ok : XOk c cls G k sc blk X W) (s : Shared) (H : Hp) (C : Addr) (cl : List (Str × Addr)) (fp : List Addr) :
    XOk c cls G k (relS scope sc) true (X.blk s H scope (compEnvC scope cl C X.env) fp) W0 := by
  have e := ok.hsc
  subst e
  exact { hN := ok.hN, nd := ok.nd, hsc := rfl, calm := ok.calm, room := ok.room, fn := (fun h => by cases h), bf := ok.bf, gl := ok.gl, fs := ok.fs, co := ok.co, bk := (fun h => by cases h), stk := (fun h => by cases h), frm := (fun h => by cases h), ex := (fun h => by cases h), tk := takes0, own := PassesOwn.never }
theorem XOk.fnL {sc : Scope} {blk : Bool} {X : Cx} {W : WX} (ok : XOk c cls G k sc blk X W) {x : Str} (h : blk = false ∨ sc.names.lookup x = some .local) : X.fn x = true ∨ X.env.scope.names.lookup x = some .local := by
  rcases h with h | h
  · exact .inl (ok.fn h x)
  · rw [← ok.hsc] at h; exact .inr h
theorem own_ok {own : List Nat} {N : List Str} : (own.map fun i => (N.getD i "", i)).map (·.2) = own := by
  rw [List.map_map]; exact List.map_id _
theorem slots_in {own : List Nat} {N : List Str} {S : List Nat} (h : S.all (fun i => own.contains i) = true) : ∀ i ∈ S, i ∈ (own.map fun i => (N.getD i "", i)).map (·.2) := by
  rw [own_ok]
  intro i hi
  have := List.all_eq_true.mp h i hi
  simpa using this
theorem lits {sc : Scope} {x : Str} (h : bltB c sc x = true) : glB sc x = true ∧ c.bf x = true ∧ (x == ("__debug__" : Str)) = false := by
  unfold bltB at h
  simp only [Bool.and_eq_true, Bool.not_eq_true'] at h
  exact ⟨h.1.1, h.1.2, h.2⟩
theorem names {x : Str} (h : okName x = true) : (x == ("__debug__" : Str)) = false ∧ (x == ("__classdict__" : Str)) = false := by
  unfold okName at h
  simp only [Bool.and_eq_true, Bool.not_eq_true'] at h
  exact h
end
section
variable {X : Cx} {cls : Nat → Option Addr}
theorem pe_cls {c : Ck} {sc : Scope} {ctb : Nat → Option Addr} {d : Nat} {z : Str} {E : Addr} (C : ClsOk X.K X.mg cls ctb c.rs c.ct) (hsc : X.env.scope = sc) (h : clsB c sc d z = true) (e : ctb d = some E) : PE X (.Name z p) (tC (clsV d E)) := by
  unfold clsB at h
  simp only [Bool.and_eq_true, decide_eq_true_eq] at h
  obtain ⟨⟨⟨h1, h2⟩, h3⟩, h4⟩ := h
  obtain ⟨n1, n2⟩ := names h4
  have hg : Gl X z := by
    have := gl_of h3
    rw [← hsc] at this
    exact this
  by_cases e13 : d = 13
  · subst e13
    have := C.ve E e
    simp only [clsNm, Option.some.injEq] at h1
    subst h1
    exact pe_bltn hg this (u := .type "ValueError") (by decide +kernel) rfl (by decide) (by decide)
  · obtain ⟨nm, g1, g2⟩ := C.cn d E e e13
    rw [h1] at g1
    cases g1
    have : clsV d E = .ref E := by unfold clsV; rw [if_neg e13]
    rw [this]
    exact pe_glob hg g2 rfl n1
theorem cls_pair {d : Nat} {E : Addr} : ClsV (clsV d E) (clsU d E) := by
  unfold clsV clsU
  split
  · exact .ty _
  · exact .own _
theorem clsU_of {d : Nat} {E : Addr} : ∀ u, RelV (clsV d E) u → u = clsU d E := fun u r => by
  unfold clsV at r
  unfold clsU
  by_cases e : d = 13
  · rw [if_pos e] at r ⊢; exact r
  · rw [if_neg e] at r ⊢; exact r
/-- isinstance(x, C), x an exception that is kept as a value -/
theorem f_isv {c : Ck} {sc : Scope} {W : WX} {ctb : Nat → Option Addr} {ma : SSt → VH → Res VV} {a : Expr} {z : Str} {d : Nat} {p p2 pos : Pos} (C : ClsOk X.K X.mg cls ctb c.rs c.ct) (hsc : X.env.scope = sc) (hg : Gl X "isinstance") (hm : X.mg "isinstance" = none)
    (ha : PE X a (tE X.K cls W ma)) (pa : plainE a = true) (hz : clsB c sc d z = true) :
    PE X (.Call (.Name "isinstance" p) [a, .Name z p2] [] pos) (tE X.K cls W fun σ vh => (ma σ vh).bind fun x vh => match x with
      | .ref n => match vh[n]? with
        | some (.exo e) => .ok (.bl ([d].any fun b => subX e b)) vh
        | _ => .stuck
      | _ => .stuck) := by
  have hct : c.ct d = true := by
    have := hz
    unfold clsB at this
    simp only [Bool.and_eq_true] at this
    exact this.1.1.2
  obtain ⟨E, hE⟩ := C.ct d hct
  have pc := pe_cls (X := X) (p := p2) C hsc hz hE
  have hcall : CallR X (.builtin "isinstance") (fun xs H Q => ∃ (q : Addr) (D : Addr) (c : V) (cv : Value) (b : Bool), xs = [.ref q, c] ∧ H q = some (ExK (.ref D) q) ∧ ExcC X.K D ∧ (∀ u, RelV c u → u = cv) ∧ PySem.W.kitOne X.K (.ref D) cv = some b ∧ Q (.bl b) H) := by
    intro pins s σ H xs us Q I r h
    obtain ⟨q, D, c, cv, b, rfl, hq, EC, hcv, e, k⟩ := h
    cases r with
    | cons rx rr =>
      cases rr with
      | cons rt rr =>
        cases rr
        cases rx
        have ec := hcv _ rt
        subst ec
        obtain ⟨⟨oe, vs, hget, hz, hv⟩, _, _⟩ := I.hok q _ hq
        have J : PySem.W.InstAt s.heap q oe D none := by
          obtain ⟨oc, od, oda, osl⟩ := oe
          obtain ⟨h1, h2⟩ := hz
          dsimp only at h1 h2 hv
          subst h1 h2 hv
          exact ⟨hget, rfl, rfl, trivial⟩
        exact PySem.W.kia_one (PySem.W.handS_kitx_exc EC.hg EC.hk EC.hs EC.hd EC.ha EC.hn EC.ht EC.hm) I.kIn J e (fun z => nomatch z) fun tk => ⟨.bl b, H, I.kept (t' := tk) fun _ _ z => z, rfl, k⟩
  refine (pe_callB hcall hg hm (by decide +kernel) (pa_cons ha (pa_cons pc pa_nil (starEach_cons rfl)) (starEach_cons pa)) (by decide) (by decide) (starEach_cons pa) (star_any (es := [_]) rfl)).imp fun τ H Q h => ?_
  obtain ⟨μ, σ, vh, hs, hr, h⟩ := h
  refine ⟨μ, σ, vh, hs, hr, (out.bind h).imp fun x H1 h1 => ?_⟩
  obtain ⟨μ1, vh1, a1, e1, hr1, r1, h1⟩ := h1
  cases r1 with
  | ref en =>
    rename_i n q
    simp only at h1
    split at h1
    · rename_i e ev
      obtain ⟨a', ha', D, hD, hH⟩ := hr1.ob _ _ ev
      rw [en] at ha'; cases ha'
      refine ⟨q, D, clsV d E, clsU d E, subX e d, rfl, hH, (C.md e D hD).2.2.2.2, clsU_of, (C.sub e D d E hD hE).2, ?_⟩
      have : [d].any (fun b => subX e b) = subX e d := by simp
      rw [this] at h1
      exact out_here hr1 h1 (.bl _)
    · exact h1.elim
  | _ => exact h1.elim
end
section
variable {c : Ck} {cls : Nat → Option Addr} {G : Gam} {k : Nat}
theorem ts_plain {sc : Scope} {blk : Bool} : ∀ {ts : Ts} {es : List Expr}, chkTs c sc blk ts es = true → es.all plainE = true ∧ es.length = Ts.len ts
  | .nil, [], _ => ⟨rfl, rfl⟩
  | .nil, _ :: _, h => by simp [chkTs] at h
  | .cons _ _, [], h => by simp [chkTs] at h
  | .cons t ts, x :: xs, h => by
    simp only [chkTs, Bool.and_eq_true] at h
    obtain ⟨h1, h2⟩ := ts_plain h.2
    exact ⟨by rw [List.all_cons, Bool.and_eq_true]; exact ⟨h.1.1, h1⟩, by simp [Ts.len, h2]⟩
/-- the judgements, one for each kind of tree -/
def PBt (X : Cx) (x : Expr) (t : TT) : Prop := PT X x t ∧ ∀ op ys pos, x = .BoolOp op ys pos → PW X x t
mutual
theorem okE : ∀ (e : E) (sc : Scope) (blk : Bool) (X : Cx) (W : WX) (ok : XOk c cls G k sc blk X W) (x : Expr), chkE c sc blk e x = true → PE X x (tE X.K cls W (ev G e))
  | .nm i, sc, blk, X, W, ok, x, h => by
    simp only [chkE] at h
    split at h
    · simp only [Bool.and_eq_true, slotB, decide_eq_true_eq] at h
      obtain ⟨n1, n2⟩ := names h.2
      exact f_var (by rw [ok.hN]; exact h.1.1) (by rw [ok.hsc]; exact vis_of h.1.2) n1 n2
    · cases h
  | .gl j, sc, blk, X, W, ok, x, h => by
    simp only [chkE] at h
    split at h
    · rename_i nm _
      simp only [Bool.and_eq_true, decide_eq_true_eq] at h
      obtain ⟨n1, n2⟩ := names h.2
      cases e : G.gl j with
      | none => exact ⟨fun pins s τ H Q I h' => by
          obtain ⟨μ, σ, vh, hs, hr, h'⟩ := h'
          simp only [ev, e] at h'
          exact h'.elim⟩
      | some v =>
        obtain ⟨u, y, hm, ru, rv⟩ := ok.gl j nm v h.1.1 e
        exact (pe_glob (ok.glX h.1.2) hm ru n1).imp fun τ H Q h' => by
          obtain ⟨μ, σ, vh, hs, hr, h'⟩ := h'
          simp only [ev, e] at h'
          exact out_here hr h' (rv μ H)
    · cases h
  | .cn kk, sc, blk, X, W, ok, x, h => by
    simp only [chkE] at h
    split at h
    · exact f_cn h
    · cases h
  | .bin o a b, sc, blk, X, W, ok, x, h => by
    simp only [chkE] at h
    split at h
    · simp only [Bool.and_eq_true, decide_eq_true_eq] at h
      obtain ⟨⟨rfl, h1⟩, h2⟩ := h
      exact f_bin o (okE a sc blk X W ok _ h1) (okE b sc blk X W ok _ h2)
    · cases h
  | .neg a, sc, blk, X, W, ok, x, h => by
    simp only [chkE] at h
    split at h
    · simp only [Bool.and_eq_true, decide_eq_true_eq] at h
      obtain ⟨rfl, h1⟩ := h
      exact f_neg (okE a sc blk X W ok _ h1)
    · cases h
  | .cmp o a b, sc, blk, X, W, ok, x, h => by
    simp only [chkE] at h
    split at h
    · simp only [Bool.and_eq_true, decide_eq_true_eq] at h
      obtain ⟨⟨⟨rfl, h0⟩, h1⟩, h2⟩ := h
      exact f_cmp ok.units o (okE a sc blk X W ok _ h1) (okE b sc blk X W ok _ h2) h0
    · cases h
  | .chain o1 o2 a b d, sc, blk, X, W, ok, x, h => by
    simp only [chkE] at h
    split at h
    · simp only [Bool.and_eq_true, decide_eq_true_eq] at h
      obtain ⟨⟨⟨⟨⟨rfl, rfl⟩, h0⟩, h1⟩, h2⟩, h3⟩ := h
      exact f_chain ok.units o1 o2 (okE a sc blk X W ok _ h1) (okE b sc blk X W ok _ h2) (okE d sc blk X W ok _ h3) h0
    · cases h
  | .one a, sc, blk, X, W, ok, x, h => by
    simp only [chkE] at h
    split at h
    · exact pe_one (okE a sc blk X W ok _ h)
    · cases h
  | .and a b, sc, blk, X, W, ok, x, h => by
    simp only [chkE] at h
    split at h
    · simp only [Bool.and_eq_true, decide_eq_true_eq] at h
      obtain ⟨⟨rfl, h1⟩, h2⟩ := h
      exact f_and (okE a sc blk X W ok _ h1) (okE b sc blk X W ok _ h2)
    · cases h
  | .or a b, sc, blk, X, W, ok, x, h => by
    simp only [chkE] at h
    split at h
    · simp only [Bool.and_eq_true, decide_eq_true_eq] at h
      obtain ⟨⟨rfl, h1⟩, h2⟩ := h
      exact f_or (okE a sc blk X W ok _ h1) (okE b sc blk X W ok _ h2)
    · cases h
  | .not a, sc, blk, X, W, ok, x, h => by
    simp only [chkE] at h
    split at h
    · simp only [Bool.and_eq_true, decide_eq_true_eq] at h
      obtain ⟨rfl, h1⟩ := h
      exact f_not (okE a sc blk X W ok _ h1)
    · cases h
  | .ife t a b, sc, blk, X, W, ok, x, h => by
    simp only [chkE] at h
    split at h
    · simp only [Bool.and_eq_true, decide_eq_true_eq] at h
      obtain ⟨⟨h0, h1⟩, h2⟩ := h
      exact f_ife (okTb t sc blk X W ok _ h0).1 (okE a sc blk X W ok _ h1) (okE b sc blk X W ok _ h2)
    · cases h
  | .tup es, sc, blk, X, W, ok, x, h => by
    simp only [chkE] at h
    split at h
    · exact f_tup (okEs es sc blk X W ok _ h)
    · cases h
  | .lst es, sc, blk, X, W, ok, x, h => by
    simp only [chkE] at h
    split at h
    · exact f_lst (okEs es sc blk X W ok _ h)
    · cases h
  | .dnew, sc, blk, X, W, ok, x, h => by
    simp only [chkE] at h
    split at h
    · exact f_dnew
    · cases h
  | .ix a b, sc, blk, X, W, ok, x, h => by
    simp only [chkE] at h
    split at h
    · simp only [Bool.and_eq_true, decide_eq_true_eq] at h
      obtain ⟨⟨h0, h1⟩, h2⟩ := h
      exact f_ix ok.units (okE a sc blk X W ok _ h1) (okE b sc blk X W ok _ h2) h0
    · cases h
  | .slc a lo hi, sc, blk, X, W, ok, x, h => by
    simp only [chkE] at h
    split at h
    · simp only [Bool.and_eq_true, decide_eq_true_eq] at h
      obtain ⟨⟨h0, h1⟩, h2⟩ := h
      exact f_slc (okE a sc blk X W ok _ h0) (okOe lo sc blk X W ok _ h1) (okOe hi sc blk X W ok _ h2)
    · cases h
  | .call f es, sc, blk, X, W, ok, x, h => by
    simp only [chkE] at h
    split at h
    · rename_i nm _ xs _
      simp only [Bool.and_eq_true, decide_eq_true_eq, Bool.not_eq_true'] at h
      obtain ⟨⟨⟨h0, h1⟩, h2⟩, h3⟩ := h
      obtain ⟨fa, fd, ps, g1, g2, g3, g4, g5⟩ := ok.fs f nm h0
      have hes := okEs es sc blk X W ok _ h3
      have hp := few_off c sc blk h3
      cases xs with
      | nil =>
        cases es with
        | nil => exact f_call0 g4 ok.room (ok.glX h1) g1 g2 g3 ok.tk h2 g5
        | cons e r => simp [chkEs] at h3
      | cons y ys =>
        rw [List.all_cons, Bool.and_eq_true] at hp
        exact f_call g4 ok.room (ok.glX h1) g1 g2 g3 ok.tk h2 hes hp.1 hp.2 g5
    · cases h
  | .bi f es, sc, blk, X, W, ok, x, h => by
    simp only [chkE] at h
    split at h
    · simp only [Bool.and_eq_true, decide_eq_true_eq] at h
      obtain ⟨⟨rfl, h1⟩, h2⟩ := h
      obtain ⟨b1, b2, b3⟩ := lits h1
      have hp := few_off c sc blk h2
      rw [List.all_cons, Bool.and_eq_true] at hp
      exact f_bi ok.calm f (ok.glX b1) (ok.bf _ b2) (okEs es sc blk X W ok _ h2) hp.1 hp.2
    · cases h
  | .isi a t, sc, blk, X, W, ok, x, h => by
    simp only [chkE] at h
    split at h
    · simp only [Bool.and_eq_true, decide_eq_true_eq] at h
      obtain ⟨⟨⟨⟨⟨⟨⟨rfl, h1⟩, h2⟩, h3⟩, h4⟩, rfl⟩, h5⟩, h6⟩ := h
      obtain ⟨b1, b2, b3⟩ := lits h1
      obtain ⟨d1, d2, d3⟩ := lits h3
      exact f_isi (by simpa using h5) (ok.glX b1) (ok.bf _ b2) (ok.glX d1) (ok.bf _ d2) (okE a sc blk X W ok _ h6) h2
    · cases h
  | .o1 k a, sc, blk, X, W, ok, x, h => by
    cases k with
    | lrev =>
      simp only [chkE] at h
      split at h
      · simp only [Bool.and_eq_true, decide_eq_true_eq] at h
        obtain ⟨⟨⟨⟨⟨rfl, h1⟩, rfl⟩, h2⟩, h3⟩, h4⟩ := h
        obtain ⟨b1, b2, b3⟩ := lits h1
        obtain ⟨d1, d2, d3⟩ := lits h2
        exact f_lrev ok.calm (ok.glX b1) (ok.bf _ b2) (ok.glX d1) (ok.bf _ d2) (okE a sc blk X W ok _ h4) h3
      · cases h
    | lrg =>
      simp only [chkE] at h
      split at h
      · simp only [Bool.and_eq_true, decide_eq_true_eq] at h
        obtain ⟨⟨⟨⟨⟨rfl, h1⟩, rfl⟩, h2⟩, h3⟩, h4⟩ := h
        obtain ⟨b1, b2, b3⟩ := lits h1
        obtain ⟨d1, d2, d3⟩ := lits h2
        exact f_lrg ok.calm (ok.glX b1) (ok.bf _ b2) (ok.glX d1) (ok.bf _ d2) (okE a sc blk X W ok _ h4) h3
      · cases h
    | lrr =>
      simp only [chkE] at h
      split at h
      · simp only [Bool.and_eq_true, decide_eq_true_eq] at h
        obtain ⟨⟨⟨⟨⟨⟨⟨rfl, h1⟩, rfl⟩, h2⟩, rfl⟩, h5⟩, h3⟩, h4⟩ := h
        obtain ⟨b1, b2, b3⟩ := lits h1
        obtain ⟨d1, d2, d3⟩ := lits h2
        obtain ⟨g1, g2, g3⟩ := lits h5
        exact f_lrr ok.calm (ok.glX b1) (ok.bf _ b2) (ok.glX d1) (ok.bf _ d2) (ok.glX g1) (ok.bf _ g2) (okE a sc blk X W ok _ h4) h3
      · cases h
    | lval =>
      simp only [chkE] at h
      split at h
      · simp only [Bool.and_eq_true, decide_eq_true_eq] at h
        obtain ⟨⟨⟨⟨⟨rfl, h1⟩, rfl⟩, h2⟩, h3⟩, h4⟩ := h
        obtain ⟨b1, b2, b3⟩ := lits h1
        exact f_lval ok.calm (ok.glX b1) (ok.bf _ b2) h2 h3 (okE a sc blk X W ok _ h4)
      · cases h
    | nset =>
      simp only [chkE] at h
      split at h
      · simp only [Bool.and_eq_true, decide_eq_true_eq] at h
        obtain ⟨⟨⟨⟨⟨rfl, h1⟩, rfl⟩, h2⟩, h3⟩, h4⟩ := h
        obtain ⟨b1, b2, b3⟩ := lits h1
        obtain ⟨d1, d2, d3⟩ := lits h2
        exact f_nset ok.calm (ok.glX b1) (ok.bf _ b2) (ok.glX d1) (ok.bf _ d2) (okE a sc blk X W ok _ h4) h3
      · cases h
    | ev0 =>
      simp only [chkE] at h
      split at h
      · simp only [Bool.and_eq_true, decide_eq_true_eq] at h
        obtain ⟨⟨rfl, rfl⟩, h3⟩ := h
        exact f_ev0 (okE a sc blk X W ok _ h3)
      · cases h
    | ev1 =>
      simp only [chkE] at h
      split at h
      · simp only [Bool.and_eq_true, decide_eq_true_eq] at h
        obtain ⟨⟨rfl, rfl⟩, h3⟩ := h
        exact f_ev1 (okE a sc blk X W ok _ h3)
      · cases h
    | bits =>
      simp only [chkE] at h
      split at h
      · simp only [Bool.and_eq_true, decide_eq_true_eq] at h
        obtain ⟨⟨⟨rfl, h1⟩, h2⟩, h3⟩ := h
        exact f_bits h1 h2 (okE a sc blk X W ok _ h3)
      · cases h
  | .me m o es, sc, blk, X, W, ok, x, h => by
    simp only [chkE] at h
    split at h
    · rename_i b nm ap xs cp
      simp only [Bool.and_eq_true, decide_eq_true_eq] at h
      obtain ⟨⟨⟨⟨⟨rfl, h1⟩, h2⟩, h3⟩, h4⟩, h5⟩ := h
      have hes := okEs es sc blk X W ok _ h5
      have hp := few_off c sc blk h5
      cases xs with
      | nil =>
        cases es with
        | nil => exact f_me0 m h1 h2 (okE o sc blk X W ok _ h4)
        | cons e r => simp [chkEs] at h5
      | cons y ys =>
        rw [List.all_cons, Bool.and_eq_true] at hp
        exact f_me m h1 h2 (okE o sc blk X W ok _ h4) hes hp.1 hp.2 (by omega)
    · cases h
  | .lc elt t it ifs own, sc, blk, X, W, ok, x, h => by
    simp only [chkE] at h
    split at h
    · simp only [Bool.and_eq_true] at h
      obtain ⟨⟨⟨⟨⟨⟨h0, h1⟩, h2⟩, h3⟩, h4⟩, h5⟩, h6⟩ := h
      have bo := blkOk_by h0
      rw [← ok.hN, ← ok.hsc] at bo
      have r := f_lc (W := W) G.N (slots_in (N := X.N) h4) ok.calm (by rw [ok.hN]; exact ok.nd) (okI it sc blk X W ok _ _ h2) bo (fun s H C cl fp => okT t _ true _ _ (ok.blk' s H C cl fp) _ h3)
        (fun s H C cl fp => okBs ifs _ true _ _ (ok.blk' s H C cl fp) _ h5) (fun s H C cl fp => okE elt _ true _ _ (ok.blk' s H C cl fp) _ h6) h1 (pos := by assumption)
      rw [own_ok] at r
      exact r
    · cases h
  | .isx _, sc, blk, X, W, ok, x, h => by simp [chkE] at h
  | .isv a cs, sc, blk, X, W, ok, x, h => by
    simp only [chkE] at h
    split at h
    · simp only [Bool.and_eq_true, decide_eq_true_eq] at h
      obtain ⟨⟨⟨⟨rfl, h1⟩, h2⟩, h3⟩, h4⟩ := h
      obtain ⟨b1, b2, b3⟩ := lits h1
      split at h3
      · obtain ⟨ctb, C⟩ := ok.co
        exact f_isv C ok.hsc (ok.glX b1) (ok.bf _ b2) (okE a sc blk X W ok _ h4) h2 h3
      · cases h3
    · cases h
theorem okEs : ∀ (es : Es) (sc : Scope) (blk : Bool) (X : Cx) (W : WX) (ok : XOk c cls G k sc blk X W) (xs : List Expr), chkEs c sc blk es xs = true → PA X xs (tA X.K cls W (evs G es))
  | .nil, sc, blk, X, W, ok, [], h => f_nil
  | .nil, sc, blk, X, W, ok, _ :: _, h => by simp [chkEs] at h
  | .cons _ _, sc, blk, X, W, ok, [], h => by simp [chkEs] at h
  | .cons e es, sc, blk, X, W, ok, x :: xs, h => by
    simp only [chkEs, Bool.and_eq_true] at h
    exact f_cons (okE e sc blk X W ok _ h.1.2) (okEs es sc blk X W ok _ h.2) h.1.1
theorem okOe : ∀ (es : Oe) (sc : Scope) (blk : Bool) (X : Cx) (W : WX) (ok : XOk c cls G k sc blk X W) (xs : Option Expr), chkO c sc blk es xs = true → PO X xs (tO X.K cls W (evo G es))
  | .none, sc, blk, X, W, ok, none, h => f_onone
  | .none, sc, blk, X, W, ok, some _, h => by simp [chkO] at h
  | .some _, sc, blk, X, W, ok, none, h => by simp [chkO] at h
  | .some e, sc, blk, X, W, ok, some x, h => f_osome (okE e sc blk X W ok _ (by simpa only [chkO] using h))
theorem okTb : ∀ (b : B) (sc : Scope) (blk : Bool) (X : Cx) (W : WX) (ok : XOk c cls G k sc blk X W) (x : Expr), chkB c sc blk b x = true → PBt X x (tB X.K cls W (tst G b))
  | .cmp o a b, sc, blk, X, W, ok, x, h => by
    simp only [chkB] at h
    split at h
    · simp only [Bool.and_eq_true, decide_eq_true_eq] at h
      obtain ⟨⟨⟨rfl, h0⟩, h1⟩, h2⟩ := h
      exact ⟨f_tcmp ok.units o (okE a sc blk X W ok _ h1) (okE b sc blk X W ok _ h2) h0, fun _ _ _ z => nomatch z⟩
    · cases h
  | .chain o1 o2 a b d, sc, blk, X, W, ok, x, h => by
    simp only [chkB] at h
    split at h
    · simp only [Bool.and_eq_true, decide_eq_true_eq] at h
      obtain ⟨⟨⟨⟨⟨rfl, rfl⟩, h0⟩, h1⟩, h2⟩, h3⟩ := h
      exact ⟨f_tchain ok.units o1 o2 (okE a sc blk X W ok _ h1) (okE b sc blk X W ok _ h2) (okE d sc blk X W ok _ h3) h0, fun _ _ _ z => nomatch z⟩
    · cases h
  | .one a, sc, blk, X, W, ok, x, h => by
    simp only [chkB] at h
    split at h
    · have := f_tone (pos := by assumption) (op := by assumption) (okTb a sc blk X W ok _ h).1
      exact ⟨this.pt, fun _ _ _ _ => this⟩
    · cases h
  | .and a b, sc, blk, X, W, ok, x, h => by
    simp only [chkB] at h
    split at h
    · simp only [Bool.and_eq_true, decide_eq_true_eq] at h
      obtain ⟨⟨rfl, h1⟩, h2⟩ := h
      have := f_tand (okTb a sc blk X W ok _ h1).1 ((okTb b sc blk X W ok _ h2).2 _ _ _ rfl)
      exact ⟨this.pt, fun _ _ _ _ => this⟩
    · cases h
  | .or a b, sc, blk, X, W, ok, x, h => by
    simp only [chkB] at h
    split at h
    · simp only [Bool.and_eq_true, decide_eq_true_eq] at h
      obtain ⟨⟨rfl, h1⟩, h2⟩ := h
      have := f_tor (okTb a sc blk X W ok _ h1).1 ((okTb b sc blk X W ok _ h2).2 _ _ _ rfl)
      exact ⟨this.pt, fun _ _ _ _ => this⟩
    · cases h
  | .not a, sc, blk, X, W, ok, x, h => by
    simp only [chkB] at h
    split at h
    · simp only [Bool.and_eq_true, decide_eq_true_eq] at h
      obtain ⟨rfl, h1⟩ := h
      exact ⟨f_tnot (okTb a sc blk X W ok _ h1).1, fun _ _ _ z => nomatch z⟩
    · cases h
  | .tr e, sc, blk, X, W, ok, x, h => by
    simp only [chkB, Bool.and_eq_true] at h
    exact ⟨f_ttr (okE e sc blk X W ok _ h.2) h.1, fun _ _ _ z => by subst z; cases h.1⟩
theorem okBs : ∀ (b : Bs) (sc : Scope) (blk : Bool) (X : Cx) (W : WX) (ok : XOk c cls G k sc blk X W) (xs : List Expr), chkBs c sc blk b xs = true → PTs X xs (tB X.K cls W (tsts G b))
  | .nil, sc, blk, X, W, ok, [], h => ts_nil
  | .nil, sc, blk, X, W, ok, _ :: _, h => by simp [chkBs] at h
  | .one b, sc, blk, X, W, ok, [], h => by simp [chkBs] at h
  | .one b, sc, blk, X, W, ok, [x], h => pts_one (okTb b sc blk X W ok _ (by simpa only [chkBs] using h)).1
  | .one b, sc, blk, X, W, ok, _ :: _ :: _, h => by simp [chkBs] at h
theorem okT : ∀ (t : T) (sc : Scope) (blk : Bool) (X : Cx) (W : WX) (ok : XOk c cls G k sc blk X W) (x : Expr), chkT c sc blk t x = true → PG X x (tG X.K cls W (T.slots t) (asgT G t))
  | .nm i, sc, blk, X, W, ok, x, h => by
    simp only [chkT] at h
    split at h
    · simp only [Bool.and_eq_true, slotB, decide_eq_true_eq] at h
      obtain ⟨l1, l2⟩ := loc_of h.2
      exact g_nm (by rw [ok.hN]; exact ok.nd) (by rw [ok.hN]; exact h.1) (by rw [ok.hsc]; exact l1) (ok.fnL l2)
    · cases h
  | .tup ts, sc, blk, X, W, ok, x, h => by
    simp only [chkT] at h
    split at h
    · obtain ⟨p1, p2⟩ := ts_plain h
      exact g_tup ok.calm (okTs ts sc blk X W ok _ h) p1 p2
    · cases h
  | .sub o i, sc, blk, X, W, ok, x, h => by
    simp only [chkT] at h
    split at h
    · simp only [Bool.and_eq_true] at h
      exact g_sub ok.units (okE o sc blk X W ok _ h.1.2) (okE i sc blk X W ok _ h.2) (sub_plain h.1.1)
    · cases h
theorem okTs : ∀ (t : Ts) (sc : Scope) (blk : Bool) (X : Cx) (W : WX) (ok : XOk c cls G k sc blk X W) (x : List Expr), chkTs c sc blk t x = true → PGs X x (tGs X.K cls W (Ts.slots t) (asgTs G t))
  | .nil, sc, blk, X, W, ok, [], h => gs_nil.imp fun v τ H Q h => by
    obtain ⟨μ, σ, vh, vs, h1, h2, h3, h4⟩ := h
    exact ⟨μ, σ, vh, vs, h1, h2, h3, by cases vs <;> exact h4⟩
  | .nil, sc, blk, X, W, ok, _ :: _, h => by simp [chkTs] at h
  | .cons _ _, sc, blk, X, W, ok, [], h => by simp [chkTs] at h
  | .cons t ts, sc, blk, X, W, ok, x :: xs, h => by
    simp only [chkTs, Bool.and_eq_true] at h
    exact (gs_cons (okT t sc blk X W ok _ h.1.2) (okTs ts sc blk X W ok _ h.2) h.1.1).imp fun v τ H Q h => by
      obtain ⟨μ, σ, vh, vs, h1, h2, h3, h4⟩ := h
      exact ⟨μ, σ, vh, vs, h1, h2, h3, by cases vs <;> exact h4⟩
theorem okI : ∀ (i : I) (sc : Scope) (blk : Bool) (X : Cx) (W : WX) (ok : XOk c cls G k sc blk X W) (tg x : Expr), chkI c sc blk i tg x = true → PI X tg x (tI X.K cls W (evI G i))
  | .sq e, sc, blk, X, W, ok, tg, x, h => i_sq (okE e sc blk X W ok _ (by simpa only [chkI] using h))
  | .rng1 a, sc, blk, X, W, ok, tg, x, h => by
    simp only [chkI] at h
    split at h
    · simp only [Bool.and_eq_true, decide_eq_true_eq] at h
      obtain ⟨⟨⟨rfl, h1⟩, h2⟩, h3⟩ := h
      obtain ⟨b1, b2, b3⟩ := lits h1
      exact i_rng1 (ok.glX b1) (ok.bf _ b2) (okE a sc blk X W ok _ h3) h2
    · cases h
  | .rng2 a b, sc, blk, X, W, ok, tg, x, h => by
    simp only [chkI] at h
    split at h
    · simp only [Bool.and_eq_true, decide_eq_true_eq] at h
      obtain ⟨⟨⟨⟨⟨rfl, h1⟩, h2⟩, h3⟩, h4⟩, h5⟩ := h
      obtain ⟨b1, b2, b3⟩ := lits h1
      exact i_rng2 (ok.glX b1) (ok.bf _ b2) (okE a sc blk X W ok _ h4) (okE b sc blk X W ok _ h5) h2 h3
    · cases h
  | .rev a, sc, blk, X, W, ok, tg, x, h => by
    simp only [chkI] at h
    split at h
    · simp only [Bool.and_eq_true, decide_eq_true_eq] at h
      obtain ⟨⟨⟨rfl, h1⟩, h2⟩, h3⟩ := h
      obtain ⟨b1, b2, b3⟩ := lits h1
      exact i_rev (ok.glX b1) (ok.bf _ b2) (okE a sc blk X W ok _ h3) h2
    · cases h
  | .zip a b, sc, blk, X, W, ok, tg, x, h => by
    simp only [chkI, Bool.and_eq_true] at h
    obtain ⟨h0, h⟩ := h
    split at h0
    · split at h
      · simp only [Bool.and_eq_true, decide_eq_true_eq] at h
        obtain ⟨⟨⟨⟨⟨rfl, h1⟩, h2⟩, h3⟩, h4⟩, h5⟩ := h
        obtain ⟨b1, b2, b3⟩ := lits h1
        exact i_zip (ok.glX b1) (ok.bf _ b2) (okE a sc blk X W ok _ h4) (okE b sc blk X W ok _ h5) h2 h3
      · cases h
    · cases h0
  | .enum a, sc, blk, X, W, ok, tg, x, h => by
    simp only [chkI, Bool.and_eq_true] at h
    obtain ⟨h0, h⟩ := h
    split at h0
    · split at h
      · simp only [Bool.and_eq_true, decide_eq_true_eq] at h
        obtain ⟨⟨⟨rfl, h1⟩, h2⟩, h3⟩ := h
        obtain ⟨b1, b2, b3⟩ := lits h1
        exact i_enum (ok.glX b1) (ok.bf _ b2) (okE a sc blk X W ok _ h3) h2
      · cases h
    · cases h0
end
end
end Fe
namespace L2
open PySem PySem.Spec PyProof.Rows
/-- isinstance(e, (C1, C2, ..)), e the exception that the suite holds -/
def rIsET (K : PySem.W.Frag) (D a : Addr) : List V → Hp → VK → Prop := fun xs H Q => ∃ (tp : Addr) (cs : List V) (us : List Value) (b : Bool), xs = [.ref a, .ref tp] ∧ H tp = some (.tup cs) ∧ Paired ClsV cs us ∧ PySem.W.kitAny K (.ref D) us = some b ∧ Q (.bl b) H
theorem call_isET {X : Cx} {a D : Addr} {oe : Obj} {pn : List (Addr × Obj)} (C : ExcC X.K D) (hz : Zc (.ref D) none oe) (hf : ∃ vs, oe.data = .fields vs) : CallR (X.suite a ((a, oe) :: pn)) (.builtin "isinstance") (rIsET X.K D a) := by
  intro pins s σ H xs us Q I r h
  obtain ⟨tp, cs, ws, b, rfl, hT, k, e, q⟩ := h
  obtain ⟨u1, u2, rfl, r1, r2⟩ := vals2 r
  cases (show u1 = Value.ref a from r1)
  cases (show u2 = Value.ref tp from r2)
  obtain ⟨hget, _⟩ := I.pin (a, oe) (List.mem_append.mpr (.inl List.mem_cons_self))
  obtain ⟨vs, hv⟩ := hf
  have J : PySem.W.InstAt s.heap a oe D none := by
    obtain ⟨oc, od, oda, osl⟩ := oe
    obtain ⟨h1, h2⟩ := hz
    dsimp only at h1 h2 hv
    subst h1 h2 hv
    exact ⟨hget, rfl, rfl, trivial⟩
  obtain ⟨_, its, rv, o, h1, h2, n, h3⟩ := (show ObjOk X.prog X.w H s.heap tp (.tup cs) from I.hok tp _ hT)
  have e3 := ClsV.all k rv
  subst e3
  obtain ⟨oc, od, dt, sl⟩ := o
  simp only at h2 h3
  subst h2 h3
  exact PySem.W.kia_tup (PySem.W.handS_kitx_exc C.hg C.hk C.hs C.hd C.ha C.hn C.ht C.hm) I.kIn J h1 e (fun z => nomatch z) fun tk => ⟨.bl b, H, I.kept (t' := tk) fun _ _ z => z, rfl, q⟩
end L2
namespace Fe
open PySem PySem.Spec PyProof.Rows L2
/-- slot i holds the exception at a -/
def hotI (i : Option Nat) (a : Addr) (τ : L2.St) : Prop := ∀ j, i = some j → j < τ.length → τ[j]? = some (some (.ref a))
section
variable (K : PySem.W.Frag) (cls : Nat → Option Addr) (i : Option Nat) (a : Addr)
def tX (m : SSt → VH → Res VV) : TE := fun τ H Q => hotI i a τ ∧ tE K cls W0 m τ H Q
def tXs (m : SSt → VH → Res (List VV)) : TA := fun τ H Q => hotI i a τ ∧ tA K cls W0 m τ H Q
def tXS (m : SSt → VH → RS) : TS := fun D τ H => hotI i a τ ∧ tSt K cls W0 m { D with nx := fun τ' H' => hotI i a τ' → D.nx τ' H' } τ H
end
section
variable {X : Cx} {cls : Nat → Option Addr} {i : Option Nat} {q : Addr} {ma mb : SSt → VH → Res VV} {ms : SSt → VH → Res (List VV)} {m1 m2 : SSt → VH → RS} {a b : Expr} {es : List Expr} {pos p : Pos} {st : Stmt} {sts : List Stmt}
theorem x_of (h : PE X a (tE X.K cls W0 ma)) : PE X a (tX X.K cls i q ma) := h.imp fun τ H Q h => h.2
theorem x_nil : PA X [] (tXs X.K cls i q fun _ vh => .ok [] vh) := f_nil.imp fun τ H Q h => h.2
theorem x_cons (ha : PE X a (tX X.K cls i q ma)) (hr : PA X es (tXs X.K cls i q ms)) (pa : plainE a = true) :
    PA X (a :: es) (tXs X.K cls i q fun σ vh => (ma σ vh).bind fun x vh => (ms σ vh).bind fun xs vh => .ok (x :: xs) vh) := (pa_cons ha hr (starEach_cons pa)).imp fun τ H Q h => by
  obtain ⟨hi, μ, σ, vh, hs, hr, h⟩ := h
  refine ⟨hi, μ, σ, vh, hs, hr, (out.bind h).imp fun x H1 h1 => ?_⟩
  obtain ⟨μ1, vh1, a1, e1, hr1, r1, h1⟩ := h1
  refine ⟨hi, μ1, σ, vh1, hs.mono e1, hr1, (out.bind h1).imp fun y H2 h2 => ?_⟩
  obtain ⟨μ2, vh2, a2, e2, hr2, r2, h2⟩ := h2
  exact out_here hr2 h2 (.cons (r1.mono e2) r2)
theorem x_lst (h0 : PA X es (tXs X.K cls i q ms)) :
    PE X (.List es pos) (tX X.K cls i q fun σ vh => (ms σ vh).bind fun xs vh => if xs.length ≤ lineZ then .ok (.ref vh.length) (vh ++ [.lst xs]) else .stuck) := (pe_lst h0).imp fun τ H Q h => by
  obtain ⟨hi, μ, σ, vh, hs, hr, h⟩ := h
  refine ⟨hi, μ, σ, vh, hs, hr, (out.bind h).imp fun x H1 h1 => ?_⟩
  obtain ⟨μ1, vh1, a1, e1, hr1, r1, h1⟩ := h1
  split at h1
  · rename_i hz
    exact ⟨by rw [← r1.length, lineZ_eq]; exact hz, out_alloc hr1 h1 rfl r1⟩
  · exact h1.elim
theorem tX_op {r : R2} {f : VV → VV → VH → Res VV} (hm : OpM X.K cls r f) (τ : L2.St) (H : Hp) (Q : VK) (h : tX X.K cls i q (fun σ vh => (ma σ vh).bind fun x vh => (mb σ vh).bind fun y vh => f x y vh) τ H Q) : tOp r (tX X.K cls i q ma) (tX X.K cls i q mb) τ H Q := by
  obtain ⟨hi, μ, σ, vh, hs, hr, h⟩ := h
  refine ⟨hi, μ, σ, vh, hs, hr, (out.bind h).imp fun x H1 h1 => ?_⟩
  obtain ⟨μ1, vh1, a1, e1, hr1, r1, h1⟩ := h1
  refine ⟨hi, μ1, σ, vh1, hs.mono e1, hr1, (out.bind h1).imp fun y H2 h2 => ?_⟩
  obtain ⟨μ2, vh2, a2, e2, hr2, r2, h2⟩ := h2
  exact hm _ μ2 vh2 H2 a1 a2 x y Q hr2 (r1.mono e2) r2 h2
theorem x_bin (o : BO) (ha : PE X a (tX X.K cls i q ma)) (hb : PE X b (tX X.K cls i q mb)) :
    PE X (.BinOp a o.op b pos) (tX X.K cls i q fun σ vh => (ma σ vh).bind fun x vh => (mb σ vh).bind fun y vh => sBin o x y vh) := (pe_op o.ok ha hb).imp fun τ H Q h => tX_op o.m τ H Q h
theorem x_or {rest : List Expr} (ha : PE X a (tX X.K cls i q ma)) (hb : PE X (.BoolOp .Or (b :: rest) pos) (tX X.K cls i q mb)) :
    PE X (.BoolOp .Or (a :: b :: rest) pos) (tX X.K cls i q fun σ vh => (ma σ vh).bind fun x vh => match x with | .bl true => .ok (.bl true) vh | .bl false => mb σ vh | _ => .stuck) := (pe_or ha hb).imp fun τ H Q h => by
  obtain ⟨hi, μ, σ, vh, hs, hr, h⟩ := h
  refine ⟨hi, μ, σ, vh, hs, hr, (out.bind h).imp fun x H1 h1 => ?_⟩
  obtain ⟨μ1, vh1, a1, e1, hr1, r1, h1⟩ := h1
  cases a1 with
  | bl i =>
    refine ⟨i, r1.blI, ?_⟩
    cases i with
    | false => exact ⟨hi, μ1, σ, vh1, hs.mono e1, hr1, h1⟩
    | true => exact out_here hr1 h1 (.bl _)
  | _ => exact (show False from h1).elim
theorem pa_clss {c : Ck} {sc : Scope} {ctb : Nat → Option Addr} (C : ClsOk X.K X.mg cls ctb c.rs c.ct) (hsc : X.env.scope = sc) : ∀ {ds : List Nat} {zs : List Expr}, clsBs c sc ds zs = true → ∃ Es : List Addr, Es.length = ds.length ∧ (∀ j d : Nat, ds[j]? = some d → ∃ E, Es[j]? = some E ∧ ctb d = some E) ∧ PA X zs (fun _ H Q => Q ((ds.zip Es).map fun z => clsV z.1 z.2) H) ∧ zs.all plainE = true
  | [], [], _ => ⟨[], rfl, by simp, pa_nil, rfl⟩
  | [], _ :: _, h => by simp [clsBs] at h
  | _ :: _, [], h => by simp [clsBs] at h
  | d :: ds, z :: zs, h => by
    cases z with
    | Name z p =>
      simp only [clsBs, Bool.and_eq_true] at h
      obtain ⟨Es, l, k, pa, pl⟩ := pa_clss C hsc h.2
      have hct : c.ct d = true := by
        have := h.1
        unfold clsB at this
        simp only [Bool.and_eq_true] at this
        exact this.1.1.2
      obtain ⟨E, hE⟩ := C.ct d hct
      refine ⟨E :: Es, by simp [l], fun j d' hj => ?_, pa_cons (pe_cls C hsc h.1 hE) pa (starEach_cons rfl), by rw [List.all_cons, pl]; rfl⟩
      cases j with
      | zero =>
        simp only [List.getElem?_cons_zero, Option.some.injEq] at hj ⊢
        subst hj
        exact ⟨E, rfl, hE⟩
      | succ j => simpa using k j d' (by simpa using hj)
    | _ => simp [clsBs] at h
theorem any_kit {K : PySem.W.Frag} {mg : Str → Option Value} {ctb : Nat → Option Addr} {rs ct : Nat → Bool} (C : ClsOk K mg cls ctb rs ct) {d0 : Nat} {D : Addr} (hD : cls d0 = some D) : ∀ {ds : List Nat} {Es : List Addr}, Es.length = ds.length → (∀ j d : Nat, ds[j]? = some d → ∃ E, Es[j]? = some E ∧ ctb d = some E) → PySem.W.kitAny K (.ref D) ((ds.zip Es).map fun z => clsU z.1 z.2) = some (ds.any (subX d0)) ∧ Paired ClsV ((ds.zip Es).map fun z => clsV z.1 z.2) ((ds.zip Es).map fun z => clsU z.1 z.2)
  | [], [], _, _ => ⟨rfl, .nil⟩
  | [], _ :: _, h, _ => by simp at h
  | _ :: _, [], h, _ => by simp at h
  | d :: ds, E :: Es, h, k => by
    obtain ⟨i1, i2⟩ := any_kit C hD (ds := ds) (Es := Es) (by simpa using h) (fun j d' hj => by simpa using k (j + 1) d' (by simpa using hj))
    obtain ⟨E', e1, e2⟩ := k 0 d (by simp)
    simp only [List.getElem?_cons_zero, Option.some.injEq] at e1
    subst e1
    have hb := (C.sub d0 D d E hD e2).2
    refine ⟨?_, .cons cls_pair i2⟩
    simp only [List.zip_cons_cons, List.map_cons, List.any_cons]
    exact kitAny_cons hb (fun hz => by rw [hz, Bool.false_or]; exact i1) (fun hz => by rw [hz, Bool.true_or])
end
section
variable {c : Ck} {sc : Scope} {cls : Nat → Option Addr} {G : Gam} {k : Nat} {X : Cx} {W : WX} {i : Option Nat} {q : Addr} {oe : Obj} {pn : List (Addr × Obj)} {d0 : Nat} {D : Addr}
theorem ev_isx {cs : List Nat} : ev (G.heat d0) (.isx cs) = fun _ vh => .ok (.bl (cs.any (subX d0))) vh := by
  funext σ vh
  simp [ev, Gam.heat]
mutual
theorem okEx (ok : XOk c cls G k sc false X W) (hD : cls d0 = some D) (hz : Zc (.ref D) none oe) (hf : ∃ vs, oe.data = .fields vs) : ∀ (e : E) (x : Expr), chkX c sc i e x = true → PE (X.suite q ((q, oe) :: pn)) x (tX X.K cls i q (ev (G.heat d0) e))
  | .isx cs, x, h => by
    rw [ev_isx]
    obtain ⟨ctb, C⟩ := ok.co
    have exc : ExcC X.K D := (C.md d0 D hD).2.2.2.2
    simp only [chkX] at h
    split at h
    · rename_i f p1 n p2 y p3 
      simp only [Bool.and_eq_true, decide_eq_true_eq] at h
      obtain ⟨⟨⟨⟨⟨rfl, h1⟩, h2⟩, h3⟩, h4⟩, h5⟩ := h
      obtain ⟨b1, b2, b3⟩ := lits h1
      obtain ⟨n1, n2⟩ := names h3
      cases i with
      | none => cases h4
      | some j =>
        simp only [slotB, decide_eq_true_eq] at h4
        have hN : (X.suite q ((q, oe) :: pn)).N[j]? = some n := by
          show X.N[j]? = some n
          rw [ok.hN]; exact h4
        have hv : Vis (X.suite q ((q, oe) :: pn)).env.scope n := by
          show Vis X.env.scope n
          rw [ok.hsc]; exact vis_of h2
        have pv := pe_var (X := X.suite q ((q, oe) :: pn)) (pos := p2) hN hv n1 n2
        have hjl : ∀ (pins : List (Addr × Obj)) (s : Shared) (τ : L2.St) (H : Hp), Inv (X.suite q ((q, oe) :: pn)) pins τ H s → j < τ.length := fun pins s τ H I => by
          rw [I.len]; exact (List.getElem?_eq_some_iff.mp hN).1
        split at h5
        · rename_i z pz
          split at h5
          · rename_i d
            have hct : c.ct d = true := by
              have := h5
              unfold clsB at this
              simp only [Bool.and_eq_true] at this
              exact this.1.1.2
            obtain ⟨E, hE⟩ := C.ct d hct
            have pc := pe_cls (X := X.suite q ((q, oe) :: pn)) (p := pz) C ok.hsc h5 hE
            have r := pe_callB (X := X.suite q ((q, oe) :: pn)) (call_isE exc hz hf) (ok.glX b1) (ok.bf _ b2) (by decide +kernel) (pa_cons pv (pa_cons pc pa_nil (starEach_cons rfl)) (starEach_cons rfl)) (by decide) (by decide) (starEach_cons rfl) (star_any (es := [_]) rfl) (p := p1) (pos := p3)
            refine ⟨fun pins s τ H Q I h => r.run pins s τ H Q I ?_⟩
            obtain ⟨hi, μ, σ, vh, hs, hr, h⟩ := h
            refine ⟨.ref q, hi j rfl (hjl _ _ _ _ I), clsV d E, clsU d E, subX d0 d, rfl, clsU_of, (C.sub d0 D d E hD hE).2, ?_⟩
            have : [d].any (subX d0) = subX d0 d := by simp
            rw [this] at h
            exact out_here hr h (.bl _)
          · cases h5
        · rename_i zs kk pz
          simp only [Bool.and_eq_true, decide_eq_true_eq] at h5
          obtain ⟨h5, h6⟩ := h5
          obtain ⟨Es, l, kE, pa, pl⟩ := pa_clss (X := X.suite q ((q, oe) :: pn)) C ok.hsc h5
          obtain ⟨a1, a2⟩ := any_kit C hD l kE
          have r := pe_callB (X := X.suite q ((q, oe) :: pn)) (call_isET exc hz hf) (ok.glX b1) (ok.bf _ b2) (by decide +kernel) (pa_cons pv (pa_cons (pe_tup (x1 := kk) (pos := pz) pa) pa_nil (starEach_cons rfl)) (starEach_cons rfl)) (by decide) (by decide) (starEach_cons rfl) (star_any (es := [_]) rfl) (p := p1) (pos := p3)
          refine ⟨fun pins s τ H Q I h => r.run pins s τ H Q I ?_⟩
          obtain ⟨hi, μ, σ, vh, hs, hr, h⟩ := h
          refine ⟨.ref q, hi j rfl (hjl _ _ _ _ I), ?_⟩
          refine ⟨?_, fun tp np => ⟨tp, _, _, _, rfl, upd_same, a2, a1, ?_⟩⟩
          · have : ((cs.zip Es).map fun z => clsV z.1 z.2).length = cs.length := by simp [l]
            rw [this]
            rw [lineZ_eq]; unfold lineZ; omega
          · exact h _ μ _ ⟨⟨[], by simp⟩, TP.new np⟩ (hr.new np) (.bl _)
        · cases h5
    · cases h
  | .nm j, x, h => by
    simp only [chkX] at h
    split at h
    · simp only [Bool.and_eq_true, slotB, decide_eq_true_eq] at h
      obtain ⟨n1, n2⟩ := names h.2
      exact x_of (X := X.suite q ((q, oe) :: pn)) (f_var (by show X.N[j]? = _; rw [ok.hN]; exact h.1.1) (by show Vis X.env.scope _; rw [ok.hsc]; exact vis_of h.1.2) n1 n2)
    · cases h
  | .cn kk, x, h => by
    simp only [chkX] at h
    split at h
    · exact x_of (X := X.suite q ((q, oe) :: pn)) (f_cn h)
    · cases h
  | .bin o a b, x, h => by
    simp only [chkX] at h
    split at h
    · simp only [Bool.and_eq_true, decide_eq_true_eq] at h
      obtain ⟨⟨rfl, h1⟩, h2⟩ := h
      exact x_bin (X := X.suite q ((q, oe) :: pn)) o (okEx ok hD hz hf a _ h1) (okEx ok hD hz hf b _ h2)
    · cases h
  | .one a, x, h => by
    simp only [chkX] at h
    split at h
    · exact pe_one (okEx ok hD hz hf a _ h)
    · cases h
  | .or a b, x, h => by
    simp only [chkX] at h
    split at h
    · simp only [Bool.and_eq_true, decide_eq_true_eq] at h
      obtain ⟨⟨rfl, h1⟩, h2⟩ := h
      exact x_or (X := X.suite q ((q, oe) :: pn)) (okEx ok hD hz hf a _ h1) (okEx ok hD hz hf b _ h2)
    · cases h
  | .lst es, x, h => by
    simp only [chkX] at h
    split at h
    · exact x_lst (X := X.suite q ((q, oe) :: pn)) (okExs ok hD hz hf es _ h)
    · cases h
  | .gl _, x, h => by simp [chkX] at h
  | .neg _, x, h => by simp [chkX] at h
  | .cmp _ _ _, x, h => by simp [chkX] at h
  | .chain _ _ _ _ _, x, h => by simp [chkX] at h
  | .and _ _, x, h => by simp [chkX] at h
  | .not _, x, h => by simp [chkX] at h
  | .ife _ _ _, x, h => by simp [chkX] at h
  | .tup _, x, h => by simp [chkX] at h
  | .dnew, x, h => by simp [chkX] at h
  | .ix _ _, x, h => by simp [chkX] at h
  | .slc _ _ _, x, h => by simp [chkX] at h
  | .call _ _, x, h => by simp [chkX] at h
  | .bi _ _, x, h => by simp [chkX] at h
  | .me _ _ _, x, h => by simp [chkX] at h
  | .isi _ _, x, h => by simp [chkX] at h
  | .o1 _ _, x, h => by simp [chkX] at h
  | .lc _ _ _ _ _, x, h => by simp [chkX] at h
theorem okExs (ok : XOk c cls G k sc false X W) (hD : cls d0 = some D) (hz : Zc (.ref D) none oe) (hf : ∃ vs, oe.data = .fields vs) : ∀ (e : Es) (x : List Expr), chkXs c sc i e x = true → PA (X.suite q ((q, oe) :: pn)) x (tXs X.K cls i q (evs (G.heat d0) e))
  | .nil, [], h => x_nil (X := X.suite q ((q, oe) :: pn))
  | .nil, _ :: _, h => by simp [chkXs] at h
  | .cons _ _, [], h => by simp [chkXs] at h
  | .cons e es, x :: xs, h => by
    simp only [chkXs, Bool.and_eq_true] at h
    exact x_cons (X := X.suite q ((q, oe) :: pn)) (okEx ok hD hz hf e _ h.1.2) (okExs ok hD hz hf es _ h.2) h.1.1
end
theorem hotI_set {i : Option Nat} {q : Addr} {τ : L2.St} {j : Nat} {x : Option V} (h : hotI i q τ) (hj : i ≠ some j) : hotI i q (τ.set j x) := fun l hl hlt => by
  have : j ≠ l := fun z => hj (by rw [hl, z])
  rw [List.getElem?_set_ne this]
  exact h l hl (by simpa using hlt)
theorem okH1 (ok : XOk c cls G k sc false X W) (hD : cls d0 = some D) (hz : Zc (.ref D) none oe) (hf : ∃ vs, oe.data = .fields vs) (s : S) (x : Stmt) (h : chkH1 c sc i s x = true) : PS (X.suite q ((q, oe) :: pn)) x (tXS X.K cls i q (exec (G.heat d0) s)) := by
  unfold chkH1 at h
  split at h
  · rename_i j e
    split at h
    · rename_i y py a p
      simp only [Bool.and_eq_true, slotB, decide_eq_true_eq, Bool.not_eq_true', beq_eq_false_iff_ne, ne_eq] at h
      obtain ⟨⟨⟨⟨h1, h2⟩, h3⟩, h4⟩, h5⟩ := h
      obtain ⟨l1, l2⟩ := loc_of h2
      have pe := okEx (q := q) (pn := pn) (i := i) ok hD hz hf e a h5
      refine (ps_set (X := X.suite q ((q, oe) :: pn)) (by show X.N.Nodup; rw [ok.hN]; exact ok.nd) (by show X.N[j]? = some y; rw [ok.hN]; exact h1) (by show L2.Loc X.env.scope y; rw [ok.hsc]; exact l1) pe (set_sw (by show (notComp a || cellB X.env.scope y) = true; rw [ok.hsc]; exact h3)) (ok.fnL l2)).imp fun D τ H h => ?_
      obtain ⟨hi, μ, σ, vh, hs, hr, h⟩ := h
      refine ⟨hi, μ, σ, vh, hs, hr, (out.go hs h).imp fun x H1 h1 => ?_⟩
      obtain ⟨μ1, vh1, a1, e1, hr1, r1, h1⟩ := h1
      exact outS_nx hr1 (SR.set r1 j (hs.mono e1)) h1 (hotI_set hi h4)
    · cases h
  · rename_i j e
    split at h
    · rename_i y py n ap a cp p
      simp only [Bool.and_eq_true, slotB, decide_eq_true_eq] at h
      obtain ⟨⟨⟨⟨⟨⟨rfl, h1⟩, h2⟩, h3⟩, h4⟩, h5⟩, h6⟩ := h
      obtain ⟨n1, n2⟩ := names h3
      have pe := okEx (q := q) (pn := pn) (i := i) ok hD hz hf e a h6
      have pb : PE (X.suite q ((q, oe) :: pn)) (.Name y py) (tE X.K cls W0 (ev (G.heat d0) (.nm j))) := f_var (X := X.suite q ((q, oe) :: pn)) (by show X.N[j]? = _; rw [ok.hN]; exact h1) (by show Vis X.env.scope _; rw [ok.hsc]; exact vis_of h2) n1 n2
      have r := pe_bm (X := X.suite q ((q, oe) :: pn)) (apos := ap) (cpos := cp) (ME.append).pa (ME.append).slot (ME.append).tyd (ME.append).ok pb (x_cons (X := X.suite q ((q, oe) :: pn)) (i := i) (q := q) pe (x_nil (X := X.suite q ((q, oe) :: pn)) (cls := cls)) h5) (plain_base rfl) (few_args (es := [a]) (by simp [h5]) (by simp)) h4 (starEach_cons h5) (star_any (es := []) rfl)
      refine (ps_expr (X := X.suite q ((q, oe) :: pn)) r rfl).imp fun D τ H h => ?_
      obtain ⟨hi, μ, σ, vh, hs, hr, h⟩ := h
      refine ⟨μ, σ, vh, hs, hr, ?_⟩
      have h' := out.go (K := X.K) (cls := cls) (W := W0) (rel := RV X.K) hs h
      simp only [ev, evs] at h'
      refine (out.bind h').imp fun x H1 h1 => ?_
      obtain ⟨μ1, vh1, a1, e1, hr1, r1, h1⟩ := h1
      split at h1
      · rename_i ht
        refine ⟨tyOk_rel hr1 r1 ht, hi, μ1, σ, vh1, hs.mono e1, hr1, (out.bind h1).imp fun y H2 h2 => ?_⟩
        obtain ⟨μ2, vh2, a2, e2, hr2, r2, h2⟩ := h2
        refine (ME.append).m _ μ2 vh2 H2 a1 x a2 y _ hr2 (r1.mono e2) r2 (h2.imp fun z H3 h3 => ?_)
        obtain ⟨μ3, vh3, a3, e3, hr3, r3, h3⟩ := h3
        exact outS_nx hr3 (hs.mono e3) h3 hi
      · exact h1.elim
    · cases h
  · split at h
    · exact ps_pass.imp fun D τ H h => by
        obtain ⟨hi, μ, σ, vh, hs, hr, h⟩ := h
        exact outS_nx hr hs h hi
    · cases h
  · cases h
theorem okH (ok : XOk c cls G k sc false X W) (hD : cls d0 = some D) (hz : Zc (.ref D) none oe) (hf : ∃ vs, oe.data = .fields vs) : ∀ (s : Ss) (x : List Stmt), chkH c sc i s x = true → PSs (X.suite q ((q, oe) :: pn)) x (tXS X.K cls i q (execs (G.heat d0) s))
  | .nil, [], h => pss_nil.imp fun D τ H h => by
    obtain ⟨hi, μ, σ, vh, hs, hr, h⟩ := h
    exact outS_nx hr hs h hi
  | .nil, _ :: _, h => by simp [chkH] at h
  | .cons _ _, [], h => by simp [chkH] at h
  | .cons s r, x :: xs, h => by
    simp only [chkH, Bool.and_eq_true] at h
    refine (pss_cons (okH1 ok hD hz hf s x h.1) (okH ok hD hz hf r xs h.2)).imp fun D τ H h => ?_
    obtain ⟨hi, μ, σ, vh, hs, hr, h⟩ := h
    refine ⟨hi, μ, σ, vh, hs, hr, ?_⟩
    simp only [execs] at h
    cases e : exec (G.heat d0) s σ vh with
    | nx σ1 vh1 =>
      rw [e] at h
      exact fun τ1 μ1 H1 e1 hr1 hs1 hi1 => ⟨hi1, μ1, σ1, vh1, hs1, hr1, outS.ext e1 h⟩
    | _ => rw [e] at h; exact h
theorem s_raise {d : Nat} {z m : Str} {j : Nat} {p p2 pos pos' : Pos} {ctb : Nat → Option Addr} (hc : X.calm = true) (tk : Takes X W) (C : ClsOk X.K X.mg cls ctb c.rs c.ct) (hd : clsNm d = some z) (hr : c.rs d = true) (hg : Gl X z) (hdb : (z == ("__debug__" : Str)) = false) :
    PS X (.Raise (some (.Call (.Name z p) [.Constant (.str m) j p2] [] pos)) none pos') (tSt X.K cls W fun σ vh => .exc d none σ vh) := by
  obtain ⟨A, hA⟩ := C.rs d hr
  obtain ⟨nm, g1, g2⟩ := C.nm d A hA
  rw [hd] at g1
  cases g1
  obtain ⟨x1, x2, x3, x4, x5⟩ := C.md d A hA
  exact (ps_raise hc tk (pmk_own PySem.F.excBase_ValueError x1 g2 x2 (raises_own x3 x4) hg hdb)).imp fun D τ H h => by
    obtain ⟨μ, σ, vh, hs, hr, h⟩ := h
    exact h A none τ μ H hA (Ext.refl _ _) hr hs trivial
theorem SR.kill1 {K : PySem.W.Frag} {μ : List Addr} {H : Hp} {x : Option V} : ∀ {σ : SSt} {τ : L2.St} (i : Nat), SR K μ H σ τ → SR K μ H (σ.set i none) (τ.set i x)
  | _, _, _, .nil => .nil
  | _, _, 0, .nn h => .nn h
  | _, _, 0, .sm _ h => .nn h
  | _, _, i + 1, .nn h => .nn (SR.kill1 i h)
  | _, _, i + 1, .sm r h => .sm r (SR.kill1 i h)
/-- the try, its exception on the way to the suite -/
theorem out_try {K : PySem.W.Frag} {μ : List Addr} {H : Hp} {Dn D' : Ends} {W W' : WX} {i : Option Nat} {r : RS} (h : outS K cls W Dn μ H (finR i r))
    (kn : ∀ τ H, (match i with | some i => Dn.nx (τ.set i none) H | none => Dn.nx τ H) → D'.nx τ H) (kr : ∀ x H, Dn.rt x H → D'.rt x H)
    (kb : ∀ τ H, (match i with | some i => Dn.bk (τ.set i none) H | none => Dn.bk τ H) → D'.bk τ H) (kc : ∀ τ H, (match i with | some i => Dn.ct (τ.set i none) H | none => Dn.ct τ H) → D'.ct τ H) : outS K cls W' D' μ H r := by
  cases r with
  | nx σ vh =>
    intro τ μ2 H2 e2 hr hs
    refine kn τ H2 ?_
    cases i with
    | none => exact h τ μ2 H2 e2 hr hs
    | some i => exact h _ μ2 H2 e2 hr (hs.kill1 i)
  | rt v σ vh => exact fun x μ2 H2 e2 hr q => kr x H2 (h x μ2 H2 e2 hr q)
  | bk σ vh =>
    intro τ μ2 H2 e2 hr hs
    refine kb τ H2 ?_
    cases i with
    | none => exact h τ μ2 H2 e2 hr hs
    | some i => exact h _ μ2 H2 e2 hr (hs.kill1 i)
  | ct σ vh =>
    intro τ μ2 H2 e2 hr hs
    refine kc τ H2 ?_
    cases i with
    | none => exact h τ μ2 H2 e2 hr hs
    | some i => exact h _ μ2 H2 e2 hr (hs.kill1 i)
  | exc c fs σ vh => exact h.elim
  | stuck => exact h.elim
/-- what a suite must do, whatever the exception of the program is -/
def tsX (K : PySem.W.Frag) (cls : Nat → Option Addr) (G : Gam) (i : Option Nat) (h : Ss) : Addr → Value → Option Addr → TS := fun a cv d D τ H => ∃ d0 C, cv = .ref C ∧ d = none ∧ cls d0 = some C ∧ tXS K cls i a (execs (G.heat d0) h) D τ H
theorem okHs (ok : XOk c cls G k sc false X W) {s : Ss} {x : List Stmt} (h : chkH c sc i s x = true) (a : Addr) (oe : Obj) (cv : Value) (d : Option Addr) (pn : List (Addr × Obj)) (hz : Zc cv d oe) (hf : ∃ vs, oe.data = .fields vs) : PSs (X.suite a ((a, oe) :: pn)) x (tsX X.K cls G i s a cv d) := by
  refine ⟨fun pins st τ H D I h' => ?_⟩
  obtain ⟨d0, C, rfl, rfl, hC, h'⟩ := h'
  exact (okH ok hC hz hf s x h).run pins st τ H D I h'
theorem exec_try {i : Option Nat} {e : Nat} {b h : Ss} {σ : SSt} {vh : VH} : exec G (.tryc i e b h) σ vh = (match execs G b σ vh with
    | .exc d none σ' vh' => if subX d e = true then finR i (execs (G.heat d) h (killS i σ') vh') else .exc d none σ' vh'
    | .exc _ (some _) _ _ => .stuck
    | r => r) := by
  first
    | (simp only [exec]; done)
    | (simp only [exec]
       cases execs G b σ vh with
       | exc d fs σ' vh' => cases fs <;> rfl
       | _ => rfl)
section
variable {z n : Str} {body suite : List Stmt} {b0 : Stmt} {np pos pos' : Pos} {e : Nat} {b h : Ss}
theorem cls_names {ctb : Nat → Option Addr} {E : Addr} (C : ClsOk X.K X.mg cls ctb c.rs c.ct) (hsc : X.env.scope = sc) (hz : clsB c sc e z = true) (hE : ctb e = some E) : Names X z (clsU e E) := by
  unfold clsB at hz
  simp only [Bool.and_eq_true, decide_eq_true_eq] at hz
  obtain ⟨⟨⟨h1, h2⟩, h3⟩, h4⟩ := hz
  obtain ⟨n1, n2⟩ := names h4
  have hg : Gl X z := by
    have := gl_of h3
    rw [← hsc] at this
    exact this
  refine ⟨hg, n1, ?_⟩
  by_cases e13 : e = 13
  · subst e13
    have := C.ve E hE
    simp only [clsNm, Option.some.injEq] at h1
    subst h1
    exact .inr ⟨this, show bootBuiltins "ValueError" = some (.type "ValueError") by decide +kernel, by decide⟩
  · obtain ⟨nm, g1, g2⟩ := C.cn e E hE e13
    rw [h1] at g1
    cases g1
    have : clsU e E = .ref E := by unfold clsU; rw [if_neg e13]
    rw [this]
    exact .inl g2
theorem s_tryas {j : Nat} (ok : XOk c cls G k sc false X W) (hz : clsB c sc e z = true) (hj : c.N[j]? = some n) (hl : sc.names.lookup n = some .local)
    (hb : ∀ (W : WX) (pn : List (Addr × Obj)) (xe : Value → Shared → Prop), Takes (X.tr pn xe) W → PassesOwn (model X.prog X.w) X.A X.env xe → PSs (X.tr pn xe) body (tSt X.K cls W (execs G b)))
    (hsu : chkH c sc (some j) h (b0 :: suite) = true) :
    PS X (.Try body [.ExceptHandler (some (.Name z np)) (some n) (b0 :: suite) pos'] [] [] pos) (tSt X.K cls W (exec G (.tryc (some j) e b h))) := by
  obtain ⟨ctb, C⟩ := ok.co
  have hct : c.ct e = true := by
    have := hz
    unfold clsB at this
    simp only [Bool.and_eq_true] at this
    exact this.1.1.2
  obtain ⟨E, hE⟩ := C.ct e hct
  refine (ps_try_as (i := j) (ok.stk rfl) (ok.frm rfl) (by rw [ok.hN]; exact ok.nd) (by rw [ok.hN]; exact hj) (by show X.env.scope.names.lookup n = _; rw [ok.hsc]; exact hl) (cls_names C ok.hsc hz hE) ok.tk hb (fun a oe cv d pn hz hf => okHs ok hsu a oe cv d pn hz hf)).imp fun D τ H h' => ?_
  obtain ⟨μ, σ, vh, hs, hr, h'⟩ := h'
  refine ⟨μ, σ, vh, hs, hr, ?_⟩
  rw [exec_try] at h'
  cases er : execs G b σ vh with
  | exc d fs σ' vh' =>
    rw [er] at h'
    cases fs with
    | some fs => exact h'.elim
    | none =>
      intro A dd τ' μ' H' hA e' hr' hs' xd
      cases dd with
      | some _ => exact xd.elim
      | none =>
        refine ⟨subX d e, (C.sub d A e E hA hE).1, fun hbt a na => ?_, fun hbf => ?_⟩
        · simp only [hbt, if_true] at h'
          refine ⟨d, A, rfl, rfl, hA, fun l hl hlt => ?_, μ', killS (some j) σ', vh', hs'.kill1 j, hr', ?_⟩
          · cases hl
            rw [List.getElem?_set_self (by simpa using hlt)]
          · exact out_try (h'.ext e') (fun τ H q _ => q) (fun _ _ q => q) (fun _ _ q => q) (fun _ _ q => q)
        · simp only [hbf, Bool.false_eq_true, if_false] at h'
          exact h' A none τ' μ' H' hA e' hr' hs' trivial
  | nx _ _ => rw [er] at h'; exact h'
  | rt _ _ _ => rw [er] at h'; exact h'
  | bk _ _ => rw [er] at h'; exact h'
  | ct _ _ => rw [er] at h'; exact h'
  | stuck => rw [er] at h'; exact h'
theorem s_tryonly (ok : XOk c cls G k sc false X W) (hz : clsB c sc e z = true)
    (hb : ∀ (W : WX) (pn : List (Addr × Obj)) (xe : Value → Shared → Prop), Takes (X.tr pn xe) W → PassesOwn (model X.prog X.w) X.A X.env xe → PSs (X.tr pn xe) body (tSt X.K cls W (execs G b)))
    (hsu : chkH c sc none h (b0 :: suite) = true) :
    PS X (.Try body [.ExceptHandler (some (.Name z np)) none (b0 :: suite) pos'] [] [] pos) (tSt X.K cls W (exec G (.tryc none e b h))) := by
  obtain ⟨ctb, C⟩ := ok.co
  have hct : c.ct e = true := by
    have := hz
    unfold clsB at this
    simp only [Bool.and_eq_true] at this
    exact this.1.1.2
  obtain ⟨E, hE⟩ := C.ct e hct
  refine (ps_try_only (ok.stk rfl) (ok.frm rfl) (cls_names C ok.hsc hz hE) ok.tk hb (fun a oe cv d pn hz hf => okHs ok hsu a oe cv d pn hz hf)).imp fun D τ H h' => ?_
  obtain ⟨μ, σ, vh, hs, hr, h'⟩ := h'
  refine ⟨μ, σ, vh, hs, hr, ?_⟩
  rw [exec_try] at h'
  cases er : execs G b σ vh with
  | exc d fs σ' vh' =>
    rw [er] at h'
    cases fs with
    | some fs => exact h'.elim
    | none =>
      intro A dd τ' μ' H' hA e' hr' hs' xd
      cases dd with
      | some _ => exact xd.elim
      | none =>
        refine ⟨subX d e, (C.sub d A e E hA hE).1, fun hbt a na => ?_, fun hbf => ?_⟩
        · simp only [hbt, if_true] at h'
          refine ⟨d, A, rfl, rfl, hA, fun l hl hlt => (by cases hl), μ', killS none σ', vh', hs', hr', ?_⟩
          exact out_try (h'.ext e') (fun τ H q _ => q) (fun _ _ q => q) (fun _ _ q => q) (fun _ _ q => q)
        · simp only [hbf, Bool.false_eq_true, if_false] at h'
          exact h' A none τ' μ' H' hA e' hr' hs' trivial
  | nx _ _ => rw [er] at h'; exact h'
  | rt _ _ _ => rw [er] at h'; exact h'
  | bk _ _ => rw [er] at h'; exact h'
  | ct _ _ => rw [er] at h'; exact h'
  | stuck => rw [er] at h'; exact h'
end
end
end Fe
namespace L2
open PySem PySem.Spec PyProof.Rows
section
variable {X : Cx} {pins : List (Addr × Obj)} {σ : St} {H : Hp} {s : Shared}
/-- an object that stands already is tracked from here on -/
theorem Inv.track (I : Inv X pins σ H s) {a : Addr} {o : HO} (n0 : X.s_0.heap.get? a = none) (hn : H a = none) (nL : a ≠ X.env.locals) (nC : ∀ x c, X.env.cells.lookup x = some c → c ≠ a) (nP : ∀ p ∈ X.pn ++ pins, p.1 ≠ a) (new : ObjOk X.prog X.w (upd H a o) s.heap a o) :
    Inv X pins σ (upd H a o) s := by
  have ne : ∀ {b : Addr} {u : HO}, H b = some u → b ≠ a := fun e z => by rw [z, hn] at e; cases e
  refine ⟨I.ok, I.os, I.bare, ⟨I.base.keep, I.base.slot, fun b u q n hx => ?_, I.base.there, fun b xs q => ?_, fun b u v q => ?_, fun b ps q => ?_⟩, I.loc, I.cell, ?_, fun x c e => ?_, fun p hp => ?_, fun b u e => ?_, I.len⟩
  · rw [upd_ne (fun z => by rw [z, n0] at q; cases q)]
    exact I.base.free b u q n hx
  · have := I.base.tups b xs q
    rw [upd_ne (ne this)]; exact this
  · have := I.base.frzs b u v q
    rw [upd_ne (ne this)]; exact this
  · obtain ⟨m, this⟩ := I.base.tbls b ps q
    exact ⟨m, by rw [upd_ne (ne this)]; exact this⟩
  · rw [upd_ne (fun z => nL z.symm)]; exact I.free
  · rw [upd_ne (nC x c e)]; exact I.freeC x c e
  · obtain ⟨e, n, r⟩ := I.pin p hp
    exact ⟨e, by rw [upd_ne (nP p hp)]; exact n, r⟩
  · by_cases hb : b = a
    · subst hb
      rw [upd_same] at e
      cases e
      exact new
    · rw [upd_ne hb] at e
      exact (I.hok b u e).stay (fun c v _ q => q) (fun c q => by rw [upd_ne (ne q)]; exact q) fun c xs q => by rw [upd_ne (ne q)]; exact q
end
section
variable {X : Cx} {x n : Str} {c : Value} {i : Nat} {body suite : List Stmt} {b₀ : Stmt} {np pos pos' : Pos} {tb : WX → TS} {ts : Addr → Value → Option Addr → TS} {Wout : WX}
/-- what the clause wishes of an exception of the body, where the suite ends plainly and the exception is kept -/
def wKp (K : PySem.W.Frag) (c : Value) (i : Nat) (ts : Addr → Value → Option Addr → TS) (Wout : WX) (D : Ends) : WX := fun cls d σ H =>
  ∃ b, PySem.W.exmOne K cls c = some b ∧ (b = true → d = none ∧ ∀ a, H a = none → ts a cls d { nx := fun σ' H' => H' a = none → D.nx (σ'.set i none) (upd H' a (Fe.ExK cls a)), rt := fun _ _ => False } (σ.set i (some (.ref a))) H) ∧
    (b = false → Wout cls d σ H)
/-- the frame's exception is handled by its own suite; then it stands on, as a value -/
theorem ps_try_keep (hex : X.ex = []) (hs : X.stack = X.env :: X.outer) (hf : X.env.frame = some X.env.locals) (hN : X.N.Nodup) (hi : X.N[i]? = some n) (hln : X.env.kindOf n = some .local) (hc : Names X x c) (tk : Takes X Wout)
    (hb : ∀ (W : WX) (pn : List (Addr × Obj)) (xe : Value → Shared → Prop), Takes (X.tr pn xe) W → PassesOwn (model X.prog X.w) X.A X.env xe → PSs (X.tr pn xe) body (tb W))
    (hsu : ∀ (a : Addr) (oe : Obj) (cls : Value) (d : Option Addr) (pn : List (Addr × Obj)), Zc cls d oe → (∃ vs, oe.data = .fields vs) → PSs (X.suite a ((a, oe) :: pn)) (b₀ :: suite) (ts a cls d)) :
    PS X (.Try body [.ExceptHandler (some (.Name x np)) (some n) (b₀ :: suite) pos'] [] [] pos) (fun D σ H => tb (wKp X.K c i ts Wout D) D σ H) := by
  refine ⟨fun pins s σ H D I h => ?_⟩
  have ok := I.ok
  have frm : X.A.frames = some (X.env :: X.outer) := by rw [ok.frames, hs]
  refine wpAny_Try_except ?_
  refine wpAny_mono ((hb (wKp X.K c i ts Wout D) (X.pn ++ pins) (fun e s₁ => wpAny (model X.prog X.w) X.A (noteFrame e X.env) (fun _ s₂ => wpAny (model X.prog X.w) X.A (setFlight e none) (fun _ s₃ =>
    wpAny (model X.prog X.w) X.A (handleBy e X.env [.ExceptHandler (some (.Name x np)) (some n) (b₀ :: suite) pos']) (SP X pins D) X.xe s₃) X.xe s₂) X.xe s₁) (fun u s' xx => ?_) PassesOwn.looking).run [] s σ H D (I.toTry _) h) (fun f s1 hsp => ?_) (fun e s1 he => he)
  · obtain ⟨a, B, sI, pins', σ', H', cls, d, rfl, J', nb, up, sky, na, os, ag, b, hb1, hyes, hno⟩ := xx
    have J : Inv X pins σ' H' sI := J'.ofTry ok
    have sky' : Sky B (X.env :: X.outer) a (Zc cls d) X.env.locals s'.heap := by rw [← hs]; exact sky
    show wpAny (model X.prog X.w) X.A (noteFrame (.ref a) X.env) _ _ _
    refine Sky.land Zc.steady frm hf sky' fun h3 fl3 up3 => ?_
    have J3 : Inv X pins σ' H' { s' with heap := h3 } := J.landed nb fl3.1 (up.trans up3) os ag
    obtain ⟨oe3, vs3, he3, hz3, hd3⟩ := fl3.there
    have nfr : a ∉ frs (X.env :: X.outer) := fun hm => by
      obtain ⟨_, o', e', hnf⟩ := fl3.2.2.1.mem hm
      rw [he3] at e'; cases e'
      exact hnf _ hd3
    have nL : a ≠ X.env.locals := fun z => nfr (List.mem_filterMap.mpr ⟨X.env, List.mem_cons_self, by rw [hf, z]⟩)
    have nF : a ∉ X.fs := fun hm => by
      obtain ⟨e, he, q⟩ := List.mem_filterMap.mp hm
      exact nfr (List.mem_filterMap.mpr ⟨e, List.mem_cons_of_mem _ he, q⟩)
    have nI : sI.heap.get? a = none := by
      cases e : sI.heap.get? a with
      | none => rfl
      | some o =>
        have := nb a o e (by show a ∉ frs X.stack; rw [hs]; exact nfr)
        rw [fl3.2.1] at this; cases this
    have n0 : X.s_0.heap.get? a = none := by
      cases e : X.s_0.heap.get? a with
      | none => rfl
      | some o =>
        obtain ⟨o', z⟩ := J.base.there a o e (by rw [hex]; exact fun z => nomatch z)
        rw [nI] at z; cases z
    have nP : ∀ p ∈ X.pn ++ pins, p.1 ≠ a := fun p hp z => by
      have := (J.pin p hp).1
      rw [z, nI] at this; cases this
    have S3 := J3.suite he3 hd3 na nL nF
    refine wpAny_handleBy_cons (codeAny_handlers_test ?_) (by intro q; cases q)
    have LT : PySem.W.Looks (model X.prog X.w) h3 (typeOf (.ref a)) cls := fun A Q E s k q => wpAny_typeOf_ref (k _ _ he3) (by rw [hz3.1]; exact q)
    have LM := PySem.W.exm_one (M := model X.prog X.w) (J3.kIn) LT hb1
    have test : ∀ {Q : Value → Shared → Prop} {E : Value → Shared → Prop}, Q c { s' with heap := h3 } → wpAny (model X.prog X.w) (X.A.mark (some (.ref a))) (eval (.Name x np) X.env) Q E { s' with heap := h3 } := fun {Q E} q => by
      obtain ⟨hg, hdbg, hm | ⟨hm, hv, hnn⟩⟩ := hc
      · exact ld_glob (X := X.suite a ((a, oe3) :: (X.pn ++ pins))) S3 hg hm q hdbg
      · exact ld_blt (X := X.suite a ((a, oe3) :: (X.pn ++ pins))) S3 hg hm hv q hnn hdbg
    refine test (LM.here ?_)
    cases b with
    | true =>
      refine codeAny_handlers_suite_as ?_
      refine HandSPX.lands_againZ fl3 fun h4 fl4 up4 => ?_
      have J4 : Inv X pins σ' H' { s' with heap := h4 } := J.landed nb fl4.1 ((up.trans up3).trans up4) os ag
      obtain ⟨oe4, vs4, he4, hz4, hd4⟩ := fl4.there
      have S4 := J4.suite he4 hd4 na nL nF
      obtain ⟨hd0, hyes⟩ := hyes rfl
      refine store_ok (X := X.suite a ((a, oe4) :: (X.pn ++ pins))) (v := .ref a) S4 hN hi (.inl hln) rfl (fun s5 S5 => ?_) (.inr hln)
      refine wpAny_mono ((hsu a oe4 cls d (X.pn ++ pins) hz4 ⟨_, hd4⟩).run [] s5 _ H' _ S5 (hyes a na)) (fun f s6 hsp => ?_) (fun _ _ z => False.elim z)
      cases f with
      | next =>
        obtain ⟨σ6, H6, S6, q6⟩ := hsp
        obtain ⟨g1, g2, g3, g4, g5⟩ := S6.pin (a, oe4) (List.mem_append_left _ List.mem_cons_self)
        have J6 : Inv X pins σ6 H6 s6 := S6.unsuite ok
        have T6 : Inv X pins σ6 (upd H6 a (Fe.ExK cls a)) s6 := J6.track n0 g2 g3 (fun y cc e z => by
          obtain ⟨v, o, ho, hd⟩ := J6.cell y cc e
          rw [z] at ho
          rw [g1] at ho; cases ho
          exact g5 v hd) nP (Fe.exK_ok g1 (by rw [hd0] at hz4; exact hz4) hd4)
        exact gone_ok T6 hN hi hln fun s7 J7 => ⟨_, _, J7, q6 g2⟩
      | brk =>
        obtain ⟨σ6, H6, S6, q6⟩ := hsp
        exact q6.elim
      | cont =>
        obtain ⟨σ6, H6, S6, q6⟩ := hsp
        exact q6.elim
      | ret u =>
        obtain ⟨v6, σ6, H6, S6, r6, q6⟩ := hsp
        exact q6.elim
    | false =>
      show wpAny _ X.A (handleBy (.ref a) X.env []) _ _ _
      refine wpAny_handleBy_nil ?_
      obtain ⟨k1, k2, k3, oe, vs, T, oT, ts', he, hz, hd, h1, hr⟩ := id fl3
      unfold PySem.passOn
      refine wpAny_bind (wpAny_field he hd h1 ?_)
      rw [if_neg (show ¬ ((Value.ref T == Value.none) = true) from by simp)]
      have fin : wpAny (model X.prog X.w) X.A (setFlight (.ref a) X.env.frame) (fun _ s4 => wpAny (model X.prog X.w) X.A (throw (.ref a) : Sem Flow) (SP X pins D) X.xe s4) X.xe { s' with heap := h3 } := by
        rw [hf]
        refine HandSPX.setFlight_upZ fl3 fun h4 hh4 up4 => wpAny_throw (tk _ _ ?_)
        exact ⟨a, B, sI, pins, σ', H', cls, d, rfl, J, nb, (up.trans up3).trans up4, .inr (.inr (by rw [hs]; exact hh4)), na, os, ag, hno rfl⟩
      first
        | exact wpAny_bind (wpAny_pure (wpAny_bind fin))
        | exact wpAny_bind fin
  · cases f with
    | next =>
      obtain ⟨σ', H', J', q⟩ := hsp
      exact wpAny_execs_nil ⟨σ', H', J'.ofTry ok, q⟩
    | brk =>
      obtain ⟨σ', H', J', q⟩ := hsp
      exact ⟨σ', H', J'.ofTry ok, q⟩
    | cont =>
      obtain ⟨σ', H', J', q⟩ := hsp
      exact ⟨σ', H', J'.ofTry ok, q⟩
    | ret u =>
      obtain ⟨v, σ', H', J', r, q⟩ := hsp
      exact ⟨v, σ', H', J'.ofTry ok, r, q⟩
end
end L2
namespace Fe
open PySem PySem.Spec PyProof.Rows L2
section
variable {c : Ck} {sc : Scope} {cls : Nat → Option Addr} {G : Gam} {k : Nat} {X : Cx} {W : WX} {z n y : Str} {body : List Stmt} {np pos pos' py pn2 pa : Pos} {e i j : Nat} {b : Ss}
theorem exec_tryk {σ : SSt} {vh : VH} : exec G (.tryk i e b j) σ vh = (match execs G b σ vh with
    | .exc d none σ' vh' => if subX d e = true then .nx ((σ'.set j (some (.ref vh'.length))).set i none) (vh' ++ [.exo d]) else .exc d none σ' vh'
    | .exc _ (some _) _ _ => .stuck
    | r => r) := by
  first
    | (simp only [exec]; done)
    | (simp only [exec]
       cases execs G b σ vh with
       | exc d fs σ' vh' => cases fs <;> rfl
       | _ => rfl)
theorem SR.keep2 {K : PySem.W.Frag} {μ : List Addr} {H : Hp} {v : VV} {x : V} (r : RV K μ H v x) {σ : SSt} {τ : L2.St} (e : i ≠ j) (h : SR K μ H σ τ) (w : V) : SR K μ H ((σ.set j (some v)).set i none) (((τ.set i (some w)).set j (some x)).set i none) := by
  have h1 := SR.kill1 (x := none) i (SR.set r j h)
  have e2 : ((τ.set i (some w)).set j (some x)).set i none = (τ.set j (some x)).set i none := by
    rw [List.set_comm _ _ e, List.set_set]
  rw [e2]; exact h1
theorem s_tryk (ok : XOk c cls G k sc false X W) (hz : clsB c sc e z = true) (hi : c.N[i]? = some n) (hl : sc.names.lookup n = some .local) (hn : okName n = true) (hj : c.N[j]? = some y) (hy : sc.names.lookup y = some .local) (hij : i ≠ j)
    (hb : ∀ (W : WX) (pn : List (Addr × Obj)) (xe : Value → Shared → Prop), Takes (X.tr pn xe) W → PassesOwn (model X.prog X.w) X.A X.env xe → PSs (X.tr pn xe) body (tSt X.K cls W (execs G b))) :
    PS X (.Try body [.ExceptHandler (some (.Name z np)) (some n) [.Assign [.Name y py] (.Name n pn2) pa] pos'] [] [] pos) (tSt X.K cls W (exec G (.tryk i e b j))) := by
  obtain ⟨ctb, C⟩ := ok.co
  have hct : c.ct e = true := by
    have := hz
    unfold clsB at this
    simp only [Bool.and_eq_true] at this
    exact this.1.1.2
  obtain ⟨E, hE⟩ := C.ct e hct
  obtain ⟨n1, n2⟩ := names hn
  have hl' : X.env.scope.names.lookup n = some .local := by rw [ok.hsc]; exact hl
  have hy' : X.env.scope.names.lookup y = some .local := by rw [ok.hsc]; exact hy
  refine (ps_try_keep (i := i) (ts := fun a cv d D τ H => (i < τ.length → τ[i]? = some (some (.ref a))) ∧ D.nx (τ.set j (some (.ref a))) H) (ok.ex rfl) (ok.stk rfl) (ok.frm rfl) (by rw [ok.hN]; exact ok.nd) (by rw [ok.hN]; exact hi) hl' (cls_names C ok.hsc hz hE) ok.tk hb (fun a oe cv d pn hz hf => ?_)).imp fun D τ H h' => ?_
  · have r := pss_one (ps_set (pos := pa) (pos' := py) (X := X.suite a ((a, oe) :: pn)) (i := j) (by show X.N.Nodup; rw [ok.hN]; exact ok.nd) (by show X.N[j]? = _; rw [ok.hN]; exact hj) (.inl hy') (pe_var (pos := pn2) (X := X.suite a ((a, oe) :: pn)) (i := i) (by show X.N[i]? = _; rw [ok.hN]; exact hi) (.inl hl') n1 n2) (notComp_sw rfl) (.inr hy'))
    refine ⟨fun pins s τ H D I h => r.run pins s τ H D I ?_⟩
    obtain ⟨h1, h2⟩ := h
    have hlen : i < τ.length := by
      rw [I.len]
      show i < X.N.length
      rw [ok.hN]; exact (List.getElem?_eq_some_iff.mp hi).1
    exact ⟨.ref a, h1 hlen, h2⟩
  obtain ⟨μ, σ, vh, hs, hr, h'⟩ := h'
  refine ⟨μ, σ, vh, hs, hr, ?_⟩
  rw [exec_tryk] at h'
  cases er : execs G b σ vh with
  | exc d fs σ' vh' =>
    rw [er] at h'
    cases fs with
    | some fs => exact h'.elim
    | none =>
      intro A dd τ' μ' H' hA e' hr' hs' xd
      cases dd with
      | some _ => exact xd.elim
      | none =>
        refine ⟨subX d e, (C.sub d A e E hA hE).1, fun hbt => ⟨rfl, fun a na => ?_⟩, fun hbf => ?_⟩
        · simp only [hbt, if_true] at h'
          refine ⟨fun hl => List.getElem?_set_self (by simpa using hl), fun g => ?_⟩
          have ee : Ext μ' H' (μ' ++ [a]) (upd H' a (ExK (.ref A) a)) := ⟨⟨[a], rfl⟩, TP.new na⟩
          exact h' _ (μ' ++ [a]) _ (e'.trans ee) (hr'.exo hA na) (SR.keep2 (.ref (by simp [← hr'.len])) hij (hs'.mono ee) (.ref a))
        · simp only [hbf, Bool.false_eq_true, if_false] at h'
          exact h' A none τ' μ' H' hA e' hr' hs' trivial
  | nx _ _ => rw [er] at h'; exact h'
  | rt _ _ _ => rw [er] at h'; exact h'
  | bk _ _ => rw [er] at h'; exact h'
  | ct _ _ => rw [er] at h'; exact h'
  | stuck => rw [er] at h'; exact h'
end
end Fe
namespace Fe
open PySem PySem.Spec PyProof.Rows L2
section
variable {c : Ck} {cls : Nat → Option Addr} {G : Gam} {k : Nat}
mutual
theorem okS : ∀ (s : S) (sc : Scope) (X : Cx) (W : WX) (ok : XOk c cls G k sc false X W) (x : Stmt), chkS c sc s x = true → PS X x (tSt X.K cls W (exec G s))
  | .expr e, sc, X, W, ok, x, h => by
    simp only [chkS] at h
    split at h
    · simp only [Bool.and_eq_true] at h
      exact s_expr (okE e sc false X W ok _ h.2) h.1
    · cases h
  | .asg t e, sc, X, W, ok, x, h => by
    simp only [chkS] at h
    split at h
    · simp only [Bool.and_eq_true] at h
      obtain ⟨⟨⟨⟨h1, h2⟩, h3⟩, h4⟩, h5⟩ := h
      exact s_asg (asgT_flat G t) (okE e sc false X W ok _ h5) (okT t sc false X W ok _ h4) h1 h2 h3
    · cases h
  | .set i e, sc, X, W, ok, x, h => by
    simp only [chkS] at h
    split at h
    · simp only [Bool.and_eq_true, slotB, decide_eq_true_eq] at h
      obtain ⟨⟨⟨h1, h2⟩, h3⟩, h4⟩ := h
      obtain ⟨l1, l2⟩ := loc_of h2
      exact s_set (by rw [ok.hN]; exact ok.nd) (by rw [ok.hN]; exact h1) (by rw [ok.hsc]; exact l1) (ok.fnL l2) (okE e sc false X W ok _ h4) (by rw [ok.hsc]; exact h3)
    · cases h
  | .setLc i elt t it ifs own, sc, X, W, ok, x, h => by
    simp only [chkS] at h
    split at h
    · simp only [Bool.and_eq_true, slotB, decide_eq_true_eq, Bool.not_eq_true'] at h
      obtain ⟨⟨⟨⟨⟨⟨⟨⟨⟨⟨g1, g2⟩, g3⟩, g4⟩, h0⟩, h1⟩, h2⟩, h3⟩, h4⟩, h5⟩, h6⟩ := h
      have bo := blkOk_by h0
      rw [← ok.hN, ← ok.hsc] at bo
      rw [← ok.hsc] at g2
      have r := s_setLc (W := W) (i := i) (spos := by assumption) G.N (slots_in (N := X.N) h4) ok.calm (by rw [ok.hN]; exact ok.nd) (by rw [ok.hN]; exact g1) g2 (sw_true (ok.bk rfl) g2 g3 g4) (okI it sc false X W ok _ _ h2) bo (fun s H C cl fp => okT t _ true _ _ (ok.blk' s H C cl fp) _ h3)
        (fun s H C cl fp => okBs ifs _ true _ _ (ok.blk' s H C cl fp) _ h5) (fun s H C cl fp => okE elt _ true _ _ (ok.blk' s H C cl fp) _ h6) h1
      rw [own_ok] at r
      exact r
    · cases h
  | .par i j a b, sc, X, W, ok, x, h => by
    simp only [chkS] at h
    split at h
    · simp only [Bool.and_eq_true, slotB, decide_eq_true_eq, Bool.not_eq_true'] at h
      obtain ⟨⟨⟨⟨⟨⟨⟨⟨⟨⟨⟨h1, h2⟩, h3⟩, h4⟩, h5⟩, h6⟩, h7⟩, h8⟩, h9⟩, h10⟩, h11⟩, h12⟩ := h
      rw [← ok.hsc] at h4 h5
      refine s_par ok.calm (by rw [ok.hN]; exact ok.nd) (by rw [ok.hN]; exact h1) (by rw [ok.hN]; exact h2) h3 h4 h5 (okE a sc false X W ok _ h11) (okE b sc false X W ok _ h12) h7 h8 (sw_par (ok.bk rfl) h4 h5 h6 (fun z => ?_) h7 h8 h9 h10)
      subst z
      exact h3 ((List.getElem?_inj (List.getElem?_eq_some_iff.mp h1).1 ok.nd).mp (h1.trans h2.symm))
    · cases h
  | .aug i o e, sc, X, W, ok, x, h => by
    simp only [chkS] at h
    split at h
    · simp only [Bool.and_eq_true, slotB, decide_eq_true_eq] at h
      obtain ⟨⟨⟨h1, h2⟩, rfl⟩, h4⟩ := h
      obtain ⟨l1, l2⟩ := loc_of h2
      exact s_aug o (by rw [ok.hN]; exact ok.nd) (by rw [ok.hN]; exact h1) (by rw [ok.hsc]; exact l1) (ok.fnL l2) (okE e sc false X W ok _ h4)
    · cases h
  | .ret e, sc, X, W, ok, x, h => by
    simp only [chkS] at h
    split at h
    · exact s_ret (okE e sc false X W ok _ h)
    · cases h
  | .ret0, sc, X, W, ok, x, h => by
    simp only [chkS] at h
    split at h
    · exact s_ret0
    · cases h
  | .ife t a b, sc, X, W, ok, x, h => by
    simp only [chkS] at h
    split at h
    · simp only [Bool.and_eq_true] at h
      exact s_ife (okTb t sc false X W ok _ h.1.1).1 (okSs a sc X W ok _ h.1.2) (okSs b sc X W ok _ h.2)
    · cases h
  | .whl t b, sc, X, W, ok, x, h => by
    simp only [chkS] at h
    split at h
    · simp only [Bool.and_eq_true] at h
      exact s_whl G.N ok.own (okTb t sc false X W ok _ h.1).1 (okSs b sc X W ok _ h.2)
    · cases h
  | .fr t it b, sc, X, W, ok, x, h => by
    simp only [chkS] at h
    split at h
    · simp only [Bool.and_eq_true] at h
      obtain ⟨⟨⟨h1, h2⟩, h3⟩, h4⟩ := h
      exact s_fr G.N (asgT_flat G t) ok.own ok.calm (okI it sc false X W ok _ _ h2) (okT t sc false X W ok _ h3) (okSs b sc X W ok _ h4) h1
    · cases h
  | .augS a o j e, sc, X, W, ok, x, h => by
    simp only [chkS] at h
    split at h
    · simp only [Bool.and_eq_true, decide_eq_true_eq] at h
      obtain ⟨⟨⟨⟨h1, rfl⟩, h2⟩, h3⟩, h4⟩ := h
      exact s_augS ok.units o h1 (okE a sc false X W ok _ h2) (okE j sc false X W ok _ h3) (okE e sc false X W ok _ h4)
    · cases h
  | .any, sc, X, W, ok, x, h => s_any
  | .pass, sc, X, W, ok, x, h => by
    simp only [chkS] at h
    split at h
    · exact s_pass
    · cases h
  | .brk, sc, X, W, ok, x, h => by
    simp only [chkS] at h
    split at h
    · exact s_brk
    · cases h
  | .cont, sc, X, W, ok, x, h => by
    simp only [chkS] at h
    split at h
    · exact s_cont
    · cases h
  | .raise d, sc, X, W, ok, x, h => by
    simp only [chkS] at h
    split at h
    · simp only [Bool.and_eq_true, decide_eq_true_eq, Bool.not_eq_true'] at h
      obtain ⟨⟨⟨h1, h2⟩, h3⟩, h4⟩ := h
      obtain ⟨ctb, C⟩ := ok.co
      exact s_raise ok.calm ok.tk C h1 h2 (ok.glX h3) h4
    · cases h
  | .tryc i e b g, sc, X, W, ok, x, h => by
    simp only [chkS] at h
    split at h
    · rename_i body z zp nn suite sp tp
      simp only [Bool.and_eq_true, Bool.not_eq_true'] at h
      obtain ⟨⟨⟨⟨h1, h2⟩, h3⟩, h4⟩, h5⟩ := h
      have hb : ∀ (W : WX) (pn : List (Addr × Obj)) (xe : Value → Shared → Prop), Takes (X.tr pn xe) W → PassesOwn (model X.prog X.w) X.A X.env xe → PSs (X.tr pn xe) body (tSt X.K cls W (execs G b)) := fun W' pn xe tk pa =>
        okSs b sc (X.tr pn xe) W' { hN := ok.hN, nd := ok.nd, hsc := ok.hsc, calm := ok.calm, room := ok.room, fn := ok.fn, bf := ok.bf, gl := ok.gl, fs := ok.fs, bk := ok.bk, stk := ok.stk, frm := ok.frm, ex := ok.ex, co := ok.co, tk := tk, own := pa } body h2
      cases suite with
      | nil => cases h4
      | cons b0 suite =>
        cases i with
        | none =>
          cases nn with
          | none => exact s_tryonly ok h1 hb h3
          | some n => cases h5
        | some j =>
          cases nn with
          | none => cases h5
          | some n =>
            simp only [slotB, Bool.and_eq_true, decide_eq_true_eq] at h5
            exact s_tryas ok h1 h5.1 h5.2 hb h3
    · cases h
  | .tryk i e b j, sc, X, W, ok, x, h => by
    simp only [chkS] at h
    split at h
    · rename_i body z zp nn y yp n2 n2p ap sp tp
      simp only [Bool.and_eq_true, Bool.not_eq_true', slotB, decide_eq_true_eq] at h
      obtain ⟨⟨⟨⟨⟨⟨⟨⟨h1, h2⟩, h3⟩, h4⟩, h5⟩, h6⟩, h7⟩, h8⟩, h9⟩ := h
      subst h5
      have hb : ∀ (W : WX) (pn : List (Addr × Obj)) (xe : Value → Shared → Prop), Takes (X.tr pn xe) W → PassesOwn (model X.prog X.w) X.A X.env xe → PSs (X.tr pn xe) body (tSt X.K cls W (execs G b)) := fun W' pn xe tk pa =>
        okSs b sc (X.tr pn xe) W' { hN := ok.hN, nd := ok.nd, hsc := ok.hsc, calm := ok.calm, room := ok.room, fn := ok.fn, bf := ok.bf, gl := ok.gl, fs := ok.fs, bk := ok.bk, stk := ok.stk, frm := ok.frm, ex := ok.ex, co := ok.co, tk := tk, own := pa } body h2
      exact s_tryk ok h1 h3 h4 h6 h7 h8 (by simpa using h9) hb
    · cases h
  | .fx s, sc, X, W, ok, x, h => okS s sc X W ok x (by simpa only [chkS] using h)
theorem okSs : ∀ (s : Ss) (sc : Scope) (X : Cx) (W : WX) (ok : XOk c cls G k sc false X W) (x : List Stmt), chkSs c sc s x = true → PSs X x (tSt X.K cls W (execs G s))
  | .nil, sc, X, W, ok, [], h => s_nil
  | .nil, sc, X, W, ok, _ :: _, h => by simp [chkSs] at h
  | .cons _ _, sc, X, W, ok, [], h => by simp [chkSs] at h
  | .cons s r, sc, X, W, ok, x :: xs, h => by
    simp only [chkSs, Bool.and_eq_true] at h
    exact s_cons (okS s sc X W ok _ h.1) (okSs r sc X W ok _ h.2)
end
end
end Fe
namespace Fe
open PySem PySem.Spec PyProof.Rows L2
/-- a def of the program: its name, its statement, its slots, its parameters -/
structure DR where
  nm : Str
  qual : Str
  st : Stmt
  N : List Str
  ps : List Str
/-- names of defs, of constants and of the built-ins, for all defs alike -/
structure Tb where
  row : Nat → Option DR
  gnm : Nat → Option Str
  bf : Str → Bool
  rs : Nat → Bool := fun _ => false
  ct : Nat → Bool := fun _ => false
def Tb.ck (t : Tb) (N : List Str) : Ck := ⟨N, fun f => (t.row f).map (·.nm), t.gnm, t.bf, t.rs, t.ct⟩
/-- a def, checked against my text of it -/
def chkD (t : Tb) (r : DR) (d : Df) : Bool := decide (d.np = r.ps.length) && decide (d.nl = r.N.length) && chkSs (t.ck r.N) (defScope r.st) d.body (defBody r.st)
structure DOk (K : PySem.W.Frag) (mg : Str → Option Value) (t : Tb) (P : Pg) (f : Nat) (r : DR) (fa : Addr) (fd : FuncData) : Prop where
  hF : Fun K r.nm r.qual r.st fa fd
  sc : FnScope r.N r.ps (defScope r.st)
  mg : mg r.nm = some (.ref fa)
  bi : Binds K fd r.ps []
  ck : ∃ d, P.fn f = some d ∧ chkD t r d = true
section
variable {Pr : Program} {w : World} {K : PySem.W.Frag} {mg : Str → Option Value} {base : Heap} {cls : Nat → Option Addr}
theorem outS_run {E : Value → Option Addr → Hp → Prop} {μ : List Addr} {H : Hp} {Q : VK} {r : RS} (h : out K cls E μ H (RV K) Q (runB r)) : outS K cls (fun c d _ H => E c d H) { nx := fun _ H' => Q .non H', rt := Q } μ H r := by
  cases r with
  | nx σ vh => exact fun τ μ1 H1 e hr hs => h .non μ1 H1 e hr .non
  | rt v σ vh => exact fun x μ1 H1 e hr hs => h x μ1 H1 e hr hs
  | exc c fs σ vh => exact fun C d τ μ1 H1 hc e hr hs q => h C d μ1 H1 hc e hr q
  | bk σ vh => exact h.elim
  | ct σ vh => exact h.elim
  | stuck => exact h.elim
theorem callF_len {P : Pg} {k f : Nat} {d : Df} (e : P.fn f = some d) {xs : List VV} {vh : VH} (h : xs.length ≠ d.np) : callF P k f xs vh = .stuck := by
  cases k with
  | zero => rfl
  | succ k => simp only [callF, e]; rw [if_neg h]
theorem prog_ok {t : Tb} {P : Pg} (hg : ∀ j nm v, t.gnm j = some nm → P.gl j = some v → ∃ u x, mg nm = some u ∧ RelV x u ∧ ∀ μ H, RV K μ H v x) (hb : ∀ x, t.bf x = true → mg x = none) (hc : ∃ ctb, ClsOk K mg cls ctb t.rs t.ct)
    (rows : ∀ f r, t.row f = some r → ∃ fa fd, DOk K mg t P f r fa fd) : ∀ (k f : Nat) (r : DR) (fa : Addr) (fd : FuncData), DOk K mg t P f r fa fd → FnOk Pr w K mg base (L2.CX Pr w) k fa fd r.ps (spF K cls r.ps.length (callF P k f))
  | 0, f, r, fa, fd, D => ⟨fun vs H Q E h => h.1, fun A outer s H args us vs Q E _ _ _ _ h => by
      obtain ⟨_, _, _, _, _, _, h⟩ := h
      exact h.elim⟩
  | k + 1, f, r, fa, fd, D => by
    refine D.hF.okX D.sc (fun vs H Q E h => h.1) (fun cdv A outer s H vs Q E hr h => ?_)
    obtain ⟨hl, μ, xs, vh, hh, rs, ho⟩ := h
    obtain ⟨d, e, hck⟩ := D.ck
    simp only [chkD, Bool.and_eq_true, decide_eq_true_eq] at hck
    obtain ⟨⟨h1, h2⟩, h3⟩ := hck
    have hx : xs.length = d.np := by rw [rs.length, h1]; exact hl
    simp only [callF, e] at ho
    rw [if_pos hx] at ho
    have ok : XOk (t.ck r.N) cls ⟨callF P k, P.gl, P.N⟩ k (defScope r.st) false (cxOf (L2.CX Pr w) Pr w K mg base r.N r.qual (defScope r.st) fa cdv A outer s H E) (fun c d _ H => E c d H) :=
      { hN := rfl, nd := D.sc.nd, hsc := rfl, calm := rfl, room := hr, fn := fun _ _ => rfl, bf := hb, gl := hg, co := hc, tk := takes_of rfl rfl rfl rfl, own := passes_of rfl
        stk := fun _ => rfl, frm := fun _ => rfl, ex := fun _ => rfl,
        bk := fun _ => by
          show Env.blockKind (envOfC r.qual (defScope r.st) s.heap.objs.size fa cdv) = .function
          unfold Env.blockKind
          rw [show (envOfC r.qual (defScope r.st) s.heap.objs.size fa cdv).scope.kind = .function from D.sc.kind]
          rfl
        fs := fun g nm hn => by
          simp only [Tb.ck, Option.map_eq_some_iff] at hn
          obtain ⟨r', hr', rfl⟩ := hn
          obtain ⟨fa', fd', D'⟩ := rows g r' hr'
          obtain ⟨d', e', hc'⟩ := D'.ck
          simp only [chkD, Bool.and_eq_true, decide_eq_true_eq] at hc'
          exact ⟨fa', fd', r'.ps, D'.mg, D'.hF.kp, D'.bi, prog_ok hg hb hc rows k g r' fa' fd' D', fun xs vh hn => callF_len e' (by rw [hc'.1.1]; exact hn)⟩ }
    refine ⟨_, okSs d.body (defScope r.st) _ _ ok _ h3, μ, _, vh, SR.start (r.N.length - vs.length) rs, hh, ?_⟩
    have e5 : d.nl - d.np = r.N.length - vs.length := by rw [h2, h1, hl]
    rw [← e5]
    exact outS_run ho
/-- the law's promise -/
def spLaw (K : PySem.W.Frag) (F : List VV → VH → Res VV) : Sp := spF K (fun _ => none) 1 F
theorem law_sp {K : PySem.W.Frag} {H : Hp} {a : Addr} {ns : List Int} {F : List VV → VH → Res VV} (hO : Only H) (hS : SqL K H a (ns.map V.int)) (h : ∃ vh', F [.ref 0] [.rol (ns.map .int)] = .ok (.bl true) vh') :
    spLaw K F [.ref a] H (fun v _ => v = .bl true) fun _ _ _ => False := by
  obtain ⟨vh', e⟩ := h
  refine ⟨rfl, [a], [.ref 0], [.rol (ns.map .int)], ⟨rfl, fun n o hn => ?_, fun m n b o u hm hn ho => ?_⟩, .cons (.ref rfl) .nil, ?_⟩
  · cases n with
    | zero =>
      simp at hn
      subst hn
      refine ⟨a, rfl, ns.map V.int, ?_, RVs.of_ints⟩
      rcases hS with (h | h) | h
      · rcases hO a with z | ⟨o, xs, z⟩
        · rw [z] at h; cases h
        · rw [z] at h; cases h
      · exact .inl h
      · exact .inr h
    | succ n => simp at hn
  · cases m with
    | zero => simp at hm; subst hm; cases ho
    | succ m => simp at hm
  · rw [e]
    exact fun x μ1 H1 _ _ r => r.blI
end
end Fe
namespace Fe
open PySem PySem.Spec PyProof.Rows L2
theorem mem_lk {β : Type} {f : Nat} {r : β} : ∀ {l : List (Nat × β)}, l.lookup f = some r → (f, r) ∈ l
  | [], h => by simp at h
  | (g, q) :: l, h => by
    rw [List.lookup_cons] at h
    cases e : f == g with
    | true => rw [e] at h; simp only [Option.some.injEq] at h; have := eq_of_beq e; subst this; subst h; exact List.mem_cons_self
    | false => rw [e] at h; exact List.mem_cons_of_mem _ (mem_lk h)
section
variable {K : PySem.W.Frag} {h : Heap} {mg : Str → Option Value}
theorem dok_mk {t : Tb} {P : Pg} {f : Nat} {r : DR} {f1 : Addr} {od1 an1 : Option Addr} {sl1 : Array (Option Value)} {oc1 kV1 dc1 pm1 cd1 ct1 : Value} (X : K.In h) (G : h.Ns mainGlobals mg)
    (a : PySem.W.nsIn K mainGlobals r.nm = some (some (.ref f1))) (l : K.lookup f1 = some ⟨oc1, od1, .func (PySem.W.fnOf r.nm r.qual (defArgs r.st) (defBody r.st) (defScope r.st) .none kV1 dc1 pm1 an1 cd1 ct1), sl1⟩)
    (c : PySem.W.codeIn K cd1 r.qual = true) (k : PySem.W.keepIn K (.ref f1) = true) (S : FnScope r.N r.ps (defScope r.st))
    (B : ∀ (kV doc pm : Value) (an : Option Addr) (cdv ct : Value) (us : List Value), us.length = r.ps.length → bindArgs (PySem.W.fnOf r.nm r.qual (defArgs r.st) (defBody r.st) (defScope r.st) .none kV doc pm an cdv ct) ⟨us, []⟩ = pure (r.ps.zip us))
    (ck : ∃ d, P.fn f = some d ∧ chkD t r d = true) : ∃ fa fd, DOk K mg t P f r fa fd :=
  have F := fun_mk (st := r.st) l c k
  ⟨f1, _, ⟨F, S, PySem.W.mg_of X G a, F.binds B, ck⟩⟩
def DAll (K : PySem.W.Frag) (mg : Str → Option Value) (t : Tb) (P : Pg) (l : List (Nat × DR)) : Prop := ∀ p ∈ l, ∃ fa fd, DOk K mg t P p.1 p.2 fa fd
theorem dall_nil {t : Tb} {P : Pg} : DAll K mg t P [] := fun _ h => by cases h
theorem dall_cons {t : Tb} {P : Pg} {f : Nat} {r : DR} {l : List (Nat × DR)} (h1 : ∃ fa fd, DOk K mg t P f r fa fd) (h2 : DAll K mg t P l) : DAll K mg t P ((f, r) :: l) := fun p h => by
  cases h with
  | head => exact h1
  | tail _ h => exact h2 p h
def BAll (mg : Str → Option Value) (l : List Str) : Prop := ∀ x ∈ l, mg x = none
theorem ball_nil : BAll mg [] := fun _ h => by cases h
theorem ball_cons {x : Str} {l : List Str} (X : K.In h) (G : h.Ns mainGlobals mg) (z : PySem.W.nsIn K mainGlobals x = some none) (h2 : BAll mg l) : BAll mg (x :: l) := fun p h => by
  cases h with
  | head => exact PySem.W.mg_none_of X G z
  | tail _ h => exact h2 p h
def tbOf (rl : List (Nat × DR)) (bl : List Str) : Tb := ⟨fun f => rl.lookup f, fun _ => none, fun x => bl.contains x, fun _ => false, fun _ => false⟩
/-- classes, raised and asked for -/
def tbX (rl : List (Nat × DR)) (bl : List Str) (rs ct : List Nat) : Tb := ⟨fun f => rl.lookup f, fun _ => none, fun x => bl.contains x, fun d => rs.contains d, fun d => ct.contains d⟩
/-- .. and constants of the module -/
def tbG (rl : List (Nat × DR)) (bl : List Str) (rs ct : List Nat) (gl : List (Nat × Str × VV)) : Tb := ⟨fun f => rl.lookup f, fun j => (gl.lookup j).map (·.1), fun x => bl.contains x, fun d => rs.contains d, fun d => ct.contains d⟩
def GAll (K : PySem.W.Frag) (mg : Str → Option Value) (gl : List (Nat × Str × VV)) : Prop := ∀ p ∈ gl, ∃ u x, mg p.2.1 = some u ∧ RelV x u ∧ ∀ μ H, RV K μ H p.2.2 x
theorem gall_nil : GAll K mg [] := fun _ h => by cases h
theorem gall_cons {p : Nat × Str × VV} {l : List (Nat × Str × VV)} (h1 : ∃ u x, mg p.2.1 = some u ∧ RelV x u ∧ ∀ μ H, RV K μ H p.2.2 x) (h2 : GAll K mg l) : GAll K mg (p :: l) := fun q h => by
  cases h with
  | head => exact h1
  | tail _ h => exact h2 q h
theorem gall_int {nm : Str} {i : Int} {tk : Tok} (X : K.In h) (G : h.Ns mainGlobals mg) (z : PySem.W.nsIn K mainGlobals nm = some (some (.int i tk))) : ∃ u x, mg nm = some u ∧ RelV x u ∧ ∀ μ H, RV K μ H (.int i) x := ⟨_, .int i, PySem.W.mg_of X G z, ⟨_, rfl⟩, fun _ _ => .int i⟩
theorem gall_str {nm : Str} {i : Str} {tk : Tok} (X : K.In h) (G : h.Ns mainGlobals mg) (z : PySem.W.nsIn K mainGlobals nm = some (some (.str i tk))) : ∃ u x, mg nm = some u ∧ RelV x u ∧ ∀ μ H, RV K μ H (.str i) x := ⟨_, .str i, PySem.W.mg_of X G z, ⟨_, rfl⟩, fun _ _ => .str i⟩
theorem cls_none : ClsOk K mg (fun _ => none) (fun _ => none) (fun _ => false) (fun _ => false) :=
  { rs := fun _ h => (by cases h), nm := fun _ _ h => (by cases h), md := fun _ _ h => (by cases h), ct := fun _ h => (by cases h), cn := fun _ _ h => (by cases h), ve := fun _ h => (by cases h), sub := fun _ _ _ _ h => (by cases h) }
/-- the whole: from all facts to the law's promise -/
theorem law_fn {Pr : Program} {rl : List (Nat × DR)} {bl : List Str} {P : Pg} {k f : Nat} {r : DR} (hD : DAll K mg (tbOf rl bl) P rl) (hB : BAll mg bl) (hr : rl.lookup f = some r) (fa : Addr) (hfa : mg r.nm = some (.ref fa)) :
    ∃ fd, DOk K mg (tbOf rl bl) P f r fa fd ∧ ∀ w base, FnOk Pr w K mg base (L2.CX Pr w) k fa fd r.ps (spF K (fun _ => none) r.ps.length (callF P k f)) := by
  have rows : ∀ f r, (tbOf rl bl).row f = some r → ∃ fa fd, DOk K mg (tbOf rl bl) P f r fa fd := fun f r h => hD (f, r) (mem_lk (show rl.lookup f = some r from h))
  obtain ⟨fa', fd, D⟩ := rows f r hr
  have e : fa' = fa := by
    have h1 := D.mg.symm.trans hfa
    exact Value.ref.inj (Option.some.inj h1)
  subst e
  refine ⟨fd, D, fun w base => prog_ok (fun j nm v h => by cases h) (fun x hx => hB x ?_) ⟨fun _ => none, cls_none⟩ rows k f r fa' fd D⟩
  have hx' : bl.contains x = true := hx
  simpa using hx'
end
section
variable {K : PySem.W.Frag} {mg : Str → Option Value}
theorem fa_nil {α : Type} {P : α → Prop} : ∀ p ∈ ([] : List α), P p := fun _ h => by cases h
theorem fa_cons {α : Type} {P : α → Prop} {a : α} {l : List α} (h : P a) (t : ∀ p ∈ l, P p) : ∀ p ∈ a :: l, P p := fun p hp => by
  cases hp with
  | head => exact h
  | tail _ hp => exact t p hp
/-- a class that is raised -/
def ClsR (K : PySem.W.Frag) (mg : Str → Option Value) (p : Nat × Addr) : Prop := (∃ nm, clsNm p.1 = some nm ∧ mg nm = some (.ref p.2)) ∧ PySem.W.excIn K p.2 [.type "ValueError", .type "Exception", .type "BaseException", .type "object"] "ValueError.__new__" = true ∧ PySem.W.keepIn K (.ref p.2) = true ∧ PySem.W.subIn K (.ref p.2) (.type "BaseException") = some true ∧ PySem.W.typeIn K (.ref p.2) = some (.type "type") ∧ ExcC K p.2
/-- a class that is asked for -/
def ClsT (K : PySem.W.Frag) (mg : Str → Option Value) (q : Nat × Addr) : Prop := if q.1 = 13 then mg "ValueError" = none else (∃ nm, clsNm q.1 = some nm ∧ mg nm = some (.ref q.2)) ∧ PySem.W.subIn K (.ref q.2) (.type "BaseException") = some true ∧ PySem.W.typeIn K (.ref q.2) = some (.type "type") ∧ PySem.W.isClsIn K q.2 = true
def ClsS (K : PySem.W.Frag) (p q : Nat × Addr) : Prop := if q.1 = 13 then PySem.W.subIn K (.ref p.2) (.type "ValueError") = some (subX p.1 q.1) else PySem.W.subIn K (.ref p.2) (.ref q.2) = some (subX p.1 q.1)
theorem clsR_mk {d : Nat} {D : Addr} {h : Heap} {nm : Str} (X : K.In h) (G : h.Ns mainGlobals mg) (e : clsNm d = some nm) (a : PySem.W.nsIn K mainGlobals nm = some (some (.ref D)))
    (x1 : PySem.W.excIn K D [.type "ValueError", .type "Exception", .type "BaseException", .type "object"] "ValueError.__new__" = true) (x2 : PySem.W.keepIn K (.ref D) = true) (x3 : PySem.W.subIn K (.ref D) (.type "BaseException") = some true) (x4 : PySem.W.typeIn K (.ref D) = some (.type "type"))
    (y1 : PySem.W.findIn K (.ref D) "__getattribute__" = some (some (.builtin "BaseException.__getattribute__"))) (y2 : PySem.W.findIn K (.ref D) "__getattr__" = some none) (y3 : PySem.W.hasDictIn K D = true) (y4 : PySem.W.findIn K (.ref D) "__class__" = some (some (.builtin "object.__class__")))
    (y5 : PySem.W.specialIn K (.builtin "object.__class__") "__get__" = some (some (.builtin "getset_descriptor.__get__"))) (y6 : PySem.W.takesIn K (.builtin "object.__class__") = some true) (y7 : PySem.W.mroIn K D (.type "object") = some true) : ClsR K mg (d, D) :=
  ⟨⟨nm, e, PySem.W.mg_of X G a⟩, x1, x2, x3, x4, ⟨y1, y2, x3, y3, y4, y5, y6, y7⟩⟩
theorem clsT_mk {d : Nat} {D : Addr} {h : Heap} {nm : Str} (X : K.In h) (G : h.Ns mainGlobals mg) (n : d ≠ 13) (e : clsNm d = some nm) (a : PySem.W.nsIn K mainGlobals nm = some (some (.ref D)))
    (x3 : PySem.W.subIn K (.ref D) (.type "BaseException") = some true) (x4 : PySem.W.typeIn K (.ref D) = some (.type "type")) (x5 : PySem.W.isClsIn K D = true) : ClsT K mg (d, D) := by
  unfold ClsT
  rw [if_neg n]
  exact ⟨⟨nm, e, PySem.W.mg_of X G a⟩, x3, x4, x5⟩
theorem clsT_ve {D : Addr} {h : Heap} (X : K.In h) (G : h.Ns mainGlobals mg) (z : PySem.W.nsIn K mainGlobals "ValueError" = some none) : ClsT K mg (13, D) := by
  unfold ClsT
  rw [if_pos rfl]
  exact PySem.W.mg_none_of X G z
theorem kit_sub {D E : Addr} {b : Bool} (sD : PySem.W.subIn K (.ref D) (.ref D) = some true) (t : PySem.W.typeIn K (.ref E) = some (.type "type")) (i : PySem.W.isClsIn K E = true) (s : PySem.W.subIn K (.ref D) (.ref E) = some b) : PySem.W.kitOne K (.ref D) (.ref E) = some b := by
  unfold PySem.W.kitOne
  split
  · rename_i e
    have e2 : D = E := Value.ref.inj (eq_of_beq e)
    subst e2
    rw [sD] at s
    exact s
  · have i2 : (PySem.W.clsIn K E).isSome = true := i
    show (if ((PySem.W.clsIn K E).isSome && PySem.W.typeIn K (.ref E) == some (.type "type")) = true then PySem.W.subIn K (.ref D) (.ref E) else none) = some b
    rw [if_pos (by rw [i2, t] <;> rfl)]
    exact s
theorem exm_sub {D E : Addr} {b : Bool} (x : PySem.W.subIn K (.ref E) (.type "BaseException") = some true) (t : PySem.W.typeIn K (.ref E) = some (.type "type")) (i : PySem.W.isClsIn K E = true) (s : PySem.W.subIn K (.ref D) (.ref E) = some b) : PySem.W.exmOne K (.ref D) (.ref E) = some b := by
  have i2 : (PySem.W.clsIn K E).isSome = true := i
  show (if (PySem.W.subIn K (.ref E) (.type "BaseException") == some true) = true then (if ((PySem.W.clsIn K E).isSome && PySem.W.typeIn K (.ref E) == some (.type "type")) = true then PySem.W.subIn K (.ref D) (.ref E) else none) else none) = some b
  rw [if_pos (by rw [x] <;> rfl), if_pos (by rw [i2, t] <;> rfl)]
  exact s
theorem kit_ve {D : Addr} {b : Bool} (s : PySem.W.subIn K (.ref D) (.type "ValueError") = some b) : PySem.W.kitOne K (.ref D) (.type "ValueError") = some b ∧ PySem.W.exmOne K (.ref D) (.type "ValueError") = some b := by
  have m : PySem.W.kitMeta "ValueError" = true := by decide +kernel
  have k : PySem.W.kitCls K (.ref D) (.type "ValueError") = some b := by
    show (if PySem.W.kitMeta "ValueError" = true then PySem.W.subIn K (.ref D) (.type "ValueError") else none) = some b
    rw [if_pos m]; exact s
  refine ⟨?_, ?_⟩
  · show (if ((Value.ref D : Value) == Value.type "ValueError") = true then some true else PySem.W.kitCls K (.ref D) (.type "ValueError")) = some b
    rw [if_neg (by simp)]; exact k
  · have e : (PySem.W.subIn K (.type "ValueError") (.type "BaseException") == some true) = true := by
      show (((PySem.fastBuiltinMro "ValueError").map (·.contains (.type "BaseException"))) == some true) = true
      decide +kernel
    show (if (PySem.W.subIn K (.type "ValueError") (.type "BaseException") == some true) = true then PySem.W.kitCls K (.ref D) (.type "ValueError") else none) = some b
    rw [if_pos e]; exact k
theorem lk_of {β : Type} {d : Nat} : ∀ {l : List (Nat × β)}, (l.map (·.1)).contains d = true → ∃ C, l.lookup d = some C
  | [], h => by simp at h
  | (g, q) :: l, h => by
    rw [List.lookup_cons]
    cases e : d == g with
    | true => exact ⟨q, rfl⟩
    | false =>
      refine lk_of (l := l) ?_
      rw [List.map_cons, List.contains_cons] at h
      rw [e, Bool.false_or] at h
      exact h
/-- all together -/
theorem cls_mk {rlist tlist : List (Nat × Addr)} {rs ct : List Nat} (er : rlist.map (·.1) = rs) (et : tlist.map (·.1) = ct) (hR : ∀ p ∈ rlist, ClsR K mg p) (hT : ∀ q ∈ tlist, ClsT K mg q) (hS : ∀ p ∈ rlist, ∀ q ∈ tlist, ClsS K p q) (hD : ∀ p ∈ rlist, PySem.W.subIn K (.ref p.2) (.ref p.2) = some true) :
    ClsOk K mg (fun d => rlist.lookup d) (fun e => tlist.lookup e) (fun d => rs.contains d) (fun d => ct.contains d) where
  rs := fun d h => by subst er; exact lk_of h
  nm := fun d C h => (hR _ (mem_lk h)).1
  md := fun d C h => (hR _ (mem_lk h)).2
  ct := fun d h => by subst et; exact lk_of h
  cn := fun e E h n => by
    have := hT _ (mem_lk h)
    unfold ClsT at this
    rw [if_neg n] at this
    exact this.1
  ve := fun E h => by
    have := hT _ (mem_lk h)
    unfold ClsT at this
    rw [if_pos rfl] at this
    exact this
  sub := fun d C e E h h2 => by
    have s := hS _ (mem_lk h) _ (mem_lk h2)
    have t := hT _ (mem_lk h2)
    have sD := hD _ (mem_lk h)
    unfold ClsS at s
    unfold ClsT at t
    unfold clsU
    by_cases n : e = 13
    · simp only [n, if_true] at s ⊢
      exact (kit_ve s).symm
    · simp only [n, if_false] at s t ⊢
      exact ⟨exm_sub t.2.1 t.2.2.1 t.2.2.2 s, kit_sub sD t.2.2.1 t.2.2.2 s⟩
end
section
variable {K : PySem.W.Frag} {mg : Str → Option Value}
/-- the same, with classes of exceptions -/
theorem law_fnX {Pr : Program} {rl : List (Nat × DR)} {bl : List Str} {rs ct : List Nat} {cls ctb : Nat → Option Addr} {P : Pg} {k f : Nat} {r : DR} (hD : DAll K mg (tbX rl bl rs ct) P rl) (hB : BAll mg bl) (hC : ClsOk K mg cls ctb (fun d => rs.contains d) (fun d => ct.contains d)) (hr : rl.lookup f = some r) (fa : Addr) (hfa : mg r.nm = some (.ref fa)) :
    ∃ fd, DOk K mg (tbX rl bl rs ct) P f r fa fd ∧ ∀ w base, FnOk Pr w K mg base (L2.CX Pr w) k fa fd r.ps (spF K cls r.ps.length (callF P k f)) := by
  have rows : ∀ f r, (tbX rl bl rs ct).row f = some r → ∃ fa fd, DOk K mg (tbX rl bl rs ct) P f r fa fd := fun f r h => hD (f, r) (mem_lk (show rl.lookup f = some r from h))
  obtain ⟨fa', fd, D⟩ := rows f r hr
  have e : fa' = fa := by
    have h1 := D.mg.symm.trans hfa
    exact Value.ref.inj (Option.some.inj h1)
  subst e
  refine ⟨fd, D, fun w base => prog_ok (fun j nm v h => by cases h) (fun x hx => hB x ?_) ⟨ctb, hC⟩ rows k f r fa' fd D⟩
  have hx' : bl.contains x = true := hx
  simpa using hx'
theorem law_fnG {Pr : Program} {rl : List (Nat × DR)} {bl : List Str} {rs ct : List Nat} {gl : List (Nat × Str × VV)} {cls ctb : Nat → Option Addr} {P : Pg} {k f : Nat} {r : DR} (hD : DAll K mg (tbG rl bl rs ct gl) P rl) (hB : BAll mg bl) (hC : ClsOk K mg cls ctb (fun d => rs.contains d) (fun d => ct.contains d)) (hGl : GAll K mg gl) (hP : ∀ j, P.gl j = (gl.lookup j).map (·.2)) (hr : rl.lookup f = some r) (fa : Addr) (hfa : mg r.nm = some (.ref fa)) :
    ∃ fd, DOk K mg (tbG rl bl rs ct gl) P f r fa fd ∧ ∀ w base, FnOk Pr w K mg base (L2.CX Pr w) k fa fd r.ps (spF K cls r.ps.length (callF P k f)) := by
  have rows : ∀ f r, (tbG rl bl rs ct gl).row f = some r → ∃ fa fd, DOk K mg (tbG rl bl rs ct gl) P f r fa fd := fun f r h => hD (f, r) (mem_lk (show rl.lookup f = some r from h))
  obtain ⟨fa', fd, D⟩ := rows f r hr
  have e : fa' = fa := by
    have h1 := D.mg.symm.trans hfa
    exact Value.ref.inj (Option.some.inj h1)
  subst e
  refine ⟨fd, D, fun w base => prog_ok (fun j nm v h hv => ?_) (fun x hx => hB x ?_) ⟨ctb, hC⟩ rows k f r fa' fd D⟩
  · rw [hP] at hv
    have h' : (gl.lookup j).map (·.1) = some nm := h
    cases e : gl.lookup j with
    | none => rw [e] at hv; cases hv
    | some p =>
      rw [e] at hv h'
      cases hv; cases h'
      exact hGl (j, p) (mem_lk e)
  · have hx' : bl.contains x = true := hx
    simpa using hx'
end
/-- the law's promise, with classes -/
def spLawX (K : PySem.W.Frag) (F : List VV → VH → Res VV) : Sp := fun vs H Q E => ∀ rlist : List (Nat × Addr), spF K (fun d => rlist.lookup d) 1 F vs H Q E
theorem fnX {Pr : Program} {w : World} {K : PySem.W.Frag} {mg : Str → Option Value} {base : Heap} {CX : CXT} {k : Nat} {fa : Addr} {fd : FuncData} {ps : List Str} {F : List VV → VH → Res VV} {rlist : List (Nat × Addr)} (h : FnOk Pr w K mg base CX k fa fd ps (spF K (fun d => rlist.lookup d) 1 F)) : FnOk Pr w K mg base CX k fa fd ps (spLawX K F) :=
  ⟨fun vs H Q E q => h.len vs H Q E (q rlist), fun A outer s H args us vs Q E a b c d q => h.run A outer s H args us vs Q E a b c d (q rlist)⟩
theorem law_spX {K : PySem.W.Frag} {H : Hp} {a : Addr} {ns : List Int} {F : List VV → VH → Res VV} (hO : Only H) (hS : SqL K H a (ns.map V.int)) (h : ∃ vh', F [.ref 0] [.rol (ns.map .int)] = .ok (.bl true) vh') :
    spLawX K F [.ref a] H (fun v _ => v = .bl true) fun _ _ _ => False := by
  intro rlist
  obtain ⟨vh', e⟩ := h
  refine ⟨rfl, [a], [.ref 0], [.rol (ns.map .int)], ⟨rfl, fun n o hn => ?_, fun m n b o u hm hn ho => ?_⟩, .cons (.ref rfl) .nil, ?_⟩
  · cases n with
    | zero =>
      simp at hn
      subst hn
      refine ⟨a, rfl, ns.map V.int, ?_, RVs.of_ints⟩
      rcases hS with (h | h) | h
      · rcases hO a with z | ⟨o, xs, z⟩
        · rw [z] at h; cases h
        · rw [z] at h; cases h
      · exact .inl h
      · exact .inr h
    | succ n => simp at hn
  · cases m with
    | zero => simp at hm; subst hm; cases ho
    | succ m => simp at hm
  · rw [e]
    exact fun x μ1 H1 _ _ r => r.blI
theorem cx_no {Pr : Program} {w : World} {outer : List Env} {H : Hp} {s : Shared} {u : Value} {s' : Shared} (h : L2.CX Pr w outer H s (fun _ _ _ => False) u s') : False := by
  obtain ⟨_, _, _, _, _, _, _, _, _, _, _, _, z⟩ := h
  exact z.elim
end Fe
namespace Fe
open PySem PySem.Spec PyProof.Rows L2
theorem call_eq {P : Pg} {k f : Nat} {xs : List VV} {vh : VH} {d : Df} (e : P.fn f = some d) (h : xs.length = d.np) : callF P (k + 1) f xs vh = runB (execs ⟨callF P k, P.gl, P.N⟩ d.body (xs.map some ++ List.replicate (d.nl - d.np) none) vh) := by
  simp only [callF, e]; rw [if_pos h]
theorem log2_lt {n k : Nat} (h : n < 2 ^ k) (hk : 0 < k) : n.log2 < k := by
  by_cases e : n = 0
  · subst e; simpa using hk
  · exact (Nat.log2_lt e).mpr h
theorem bits64 {a : Int} (h : a.natAbs < 2 ^ 64) : Builtin.Int.intBits a ≤ 64 := by
  unfold Builtin.Int.intBits
  split
  · omega
  · have := log2_lt h (by decide)
    omega
theorem mulOk_l {a b : Int} (h : a.natAbs < 2 ^ 64) : IntMulOk a b := IntMulOk.of_left (bits64 h)
theorem mulOk_r {a b : Int} (h : b.natAbs < 2 ^ 64) : IntMulOk a b := IntMulOk.of_right (bits64 h)
end Fe
namespace Fe
open PySem PySem.Spec PyProof.Rows L2
inductive PV where
  | non | bl (b : Bool) | int (i : Int) | str (s : Str) | tup (xs : List PV) | lst (own : Bool) (xs : List PV) | dct (own : Bool) (ks : List Key) (xs : List PV) | scr (xs : List PV) | exo (d : Nat)
  deriving Inhabited
mutual
@[simp] def fz : PV → PV
  | .non => .non
  | .bl b => .bl b
  | .int i => .int i
  | .str s => .str s
  | .tup xs => .tup (fzs xs)
  | .lst _ xs => .lst false (fzs xs)
  | .dct _ ks xs => .dct false ks (fzs xs)
  | .scr xs => .scr (fzs xs)
  | .exo d => .exo d
@[simp] def fzs : List PV → List PV
  | [] => []
  | x :: xs => fz x :: fzs xs
end
mutual
@[simp] def clo : PV → Bool
  | .tup xs => clos xs
  | .lst b xs => b && clos xs
  | .dct b _ xs => b && clos xs
  | .scr _ => false
  | .exo _ => false
  | _ => true
@[simp] def clos : List PV → Bool
  | [] => true
  | x :: xs => clo x && clos xs
end
mutual
theorem fz_fz : ∀ p : PV, fz (fz p) = fz p
  | .non => rfl
  | .bl b => rfl
  | .int i => rfl
  | .str s => rfl
  | .tup xs => by simp only [fz, fzs_fzs xs]
  | .lst _ xs => by simp only [fz, fzs_fzs xs]
  | .dct _ ks xs => by simp only [fz, fzs_fzs xs]
  | .scr xs => by simp only [fz, fzs_fzs xs]
  | .exo _ => rfl
theorem fzs_fzs : ∀ p : List PV, fzs (fzs p) = fzs p
  | [] => rfl
  | x :: xs => by simp only [fzs, fz_fz x, fzs_fzs xs]
end
theorem fzs_map : ∀ p : List PV, fzs p = p.map fz
  | [] => rfl
  | x :: xs => by simp only [fzs, List.map_cons, fzs_map xs]
theorem fzs_len (p : List PV) : (fzs p).length = p.length := by rw [fzs_map, List.length_map]
theorem fzs_get (p : List PV) (i : Nat) : (fzs p)[i]? = (p[i]?).map fz := by rw [fzs_map, List.getElem?_map]
mutual
/-- v stands for p: f the handles read, o the handles owned -/
inductive R (vh : VH) : VV → PV → List Nat → List Nat → Prop
  | non : R vh .non .non [] []
  | bl (b : Bool) : R vh (.bl b) (.bl b) [] []
  | int (i : Int) : R vh (.int i) (.int i) [] []
  | str (s : Str) : R vh (.str s) (.str s) [] []
  | tup {xs : List VV} {ps : List PV} {f o : List Nat} : Rs vh xs ps f o → R vh (.tup xs) (.tup ps) f o
  | scr {n : Nat} {xs : List VV} {ps : List PV} {f : List Nat} : vh[n]? = some (.rol xs) → Rs vh xs ps f [] → R vh (.ref n) (.scr ps) (n :: f) []
  | flst {n : Nat} {xs : List VV} {ps : List PV} {f : List Nat} : vh[n]? = some (.lst xs) → Rs vh xs ps f [] → R vh (.ref n) (.lst false ps) (n :: f) []
  | olst {n : Nat} {xs : List VV} {ps : List PV} {f o : List Nat} : vh[n]? = some (.lst xs) → Rs vh xs ps f o → R vh (.ref n) (.lst true ps) f (n :: o)
  | fdct {n : Nat} {kvs : List (Key × VV)} {ps : List PV} {f : List Nat} : vh[n]? = some (.dct kvs) → Rs vh (kvs.map (·.2)) ps f [] → R vh (.ref n) (.dct false (kvs.map (·.1)) ps) (n :: f) []
  | odct {n : Nat} {kvs : List (Key × VV)} {ps : List PV} {f o : List Nat} : vh[n]? = some (.dct kvs) → Rs vh (kvs.map (·.2)) ps f o → R vh (.ref n) (.dct true (kvs.map (·.1)) ps) f (n :: o)
  | exo {n : Nat} {d : Nat} : vh[n]? = some (.exo d) → R vh (.ref n) (.exo d) [n] []
inductive Rs (vh : VH) : List VV → List PV → List Nat → List Nat → Prop
  | nil : Rs vh [] [] [] []
  | cons {x : VV} {p : PV} {xs : List VV} {ps : List PV} {f1 o1 f2 o2 : List Nat} : R vh x p f1 o1 → Rs vh xs ps f2 o2 → Rs vh (x :: xs) (p :: ps) (f1 ++ f2) (o1 ++ o2)
end
/-- unchanged, what was there -/
def Agr (vh vh' : VH) : Prop := ∀ (n : Nat) (o : VO), vh[n]? = some o → vh'[n]? = some o
theorem Agr.refl (vh : VH) : Agr vh vh := fun _ _ h => h
theorem Agr.trans {a b c : VH} (h : Agr a b) (k : Agr b c) : Agr a c := fun n o e => k n o (h n o e)
theorem Agr.app (vh m : VH) : Agr vh (vh ++ m) := fun n o h => by
  rw [List.getElem?_append_left (List.getElem?_eq_some_iff.mp h).1]; exact h
theorem Agr.len {vh vh' : VH} (h : Agr vh vh') : vh.length ≤ vh'.length := by
  cases e : vh.length with
  | zero => omega
  | succ k =>
    have h1 : k < vh.length := by omega
    have := h k _ (List.getElem?_eq_getElem h1)
    have := (List.getElem?_eq_some_iff.mp this).1
    omega
theorem seqL_lt {vh : VH} {n : Nat} {xs : List VV} (h : seqL vh n = some xs) : n < vh.length := by
  unfold seqL at h
  split at h
  · rename_i e; exact (List.getElem?_eq_some_iff.mp e).1
  · rename_i e; exact (List.getElem?_eq_some_iff.mp e).1
  · cases h
theorem seqL_same {vh vh' : VH} {n : Nat} (h : vh'[n]? = vh[n]?) : seqL vh' n = seqL vh n := by unfold seqL; rw [h]
section
variable {vh vh' : VH}
mutual
theorem R.lt : ∀ {v : VV} {p : PV} {f o : List Nat}, R vh v p f o → (∀ n ∈ f, n < vh.length) ∧ ∀ n ∈ o, n < vh.length
  | _, _, _, _, .non => ⟨by simp, by simp⟩
  | _, _, _, _, .bl _ => ⟨by simp, by simp⟩
  | _, _, _, _, .int _ => ⟨by simp, by simp⟩
  | _, _, _, _, .str _ => ⟨by simp, by simp⟩
  | _, _, _, _, .tup h => Rs.lt h
  | _, _, _, _, .scr e h => by
    have := Rs.lt h
    have h2 := (List.getElem?_eq_some_iff.mp e).1
    refine ⟨fun n hn => ?_, by simp⟩
    rcases List.mem_cons.mp hn with rfl | hn
    · exact h2
    · exact this.1 n hn
  | _, _, _, _, .exo e => by
    have h2 := (List.getElem?_eq_some_iff.mp e).1
    exact ⟨fun n hn => by rw [List.mem_singleton.mp hn]; exact h2, by simp⟩
  | _, _, _, _, .flst e h => by
    have := Rs.lt h
    have h2 := (List.getElem?_eq_some_iff.mp e).1
    refine ⟨fun n hn => ?_, by simp⟩
    rcases List.mem_cons.mp hn with rfl | hn
    · exact h2
    · exact this.1 n hn
  | _, _, _, _, .olst e h => by
    have := Rs.lt h
    have h2 := (List.getElem?_eq_some_iff.mp e).1
    refine ⟨this.1, fun n hn => ?_⟩
    rcases List.mem_cons.mp hn with rfl | hn
    · exact h2
    · exact this.2 n hn
  | _, _, _, _, .fdct e h => by
    have := Rs.lt h
    have h2 := (List.getElem?_eq_some_iff.mp e).1
    refine ⟨fun n hn => ?_, by simp⟩
    rcases List.mem_cons.mp hn with rfl | hn
    · exact h2
    · exact this.1 n hn
  | _, _, _, _, .odct e h => by
    have := Rs.lt h
    have h2 := (List.getElem?_eq_some_iff.mp e).1
    refine ⟨this.1, fun n hn => ?_⟩
    rcases List.mem_cons.mp hn with rfl | hn
    · exact h2
    · exact this.2 n hn
theorem Rs.lt : ∀ {v : List VV} {p : List PV} {f o : List Nat}, Rs vh v p f o → (∀ n ∈ f, n < vh.length) ∧ ∀ n ∈ o, n < vh.length
  | _, _, _, _, .nil => ⟨by simp, by simp⟩
  | _, _, _, _, .cons h t => by
    have h1 := R.lt h
    have h2 := Rs.lt t
    exact ⟨fun n hn => (List.mem_append.mp hn).elim (h1.1 n) (h2.1 n), fun n hn => (List.mem_append.mp hn).elim (h1.2 n) (h2.2 n)⟩
end
mutual
theorem R.same : ∀ {v : VV} {p : PV} {f o : List Nat}, R vh v p f o → (∀ n, n ∈ f ∨ n ∈ o → vh'[n]? = vh[n]?) → R vh' v p f o
  | _, _, _, _, .non, _ => .non
  | _, _, _, _, .bl _, _ => .bl _
  | _, _, _, _, .int _, _ => .int _
  | _, _, _, _, .str _, _ => .str _
  | _, _, _, _, .tup h, k => .tup (Rs.same h k)
  | _, _, _, _, .scr e h, k => .scr (by rw [k _ (.inl List.mem_cons_self)]; exact e) (Rs.same h fun n hn => k n (by rcases hn with hn | hn <;> simp_all))
  | _, _, _, _, .exo e, k => .exo (by rw [k _ (.inl List.mem_cons_self)]; exact e)
  | _, _, _, _, .flst e h, k => .flst (by rw [k _ (.inl List.mem_cons_self)]; exact e) (Rs.same h fun n hn => k n (by rcases hn with hn | hn <;> simp_all))
  | _, _, _, _, .olst e h, k => .olst (by rw [k _ (.inr List.mem_cons_self)]; exact e) (Rs.same h fun n hn => k n (by rcases hn with hn | hn <;> simp_all))
  | _, _, _, _, .fdct e h, k => .fdct (by rw [k _ (.inl List.mem_cons_self)]; exact e) (Rs.same h fun n hn => k n (by rcases hn with hn | hn <;> simp_all))
  | _, _, _, _, .odct e h, k => .odct (by rw [k _ (.inr List.mem_cons_self)]; exact e) (Rs.same h fun n hn => k n (by rcases hn with hn | hn <;> simp_all))
theorem Rs.same : ∀ {v : List VV} {p : List PV} {f o : List Nat}, Rs vh v p f o → (∀ n, n ∈ f ∨ n ∈ o → vh'[n]? = vh[n]?) → Rs vh' v p f o
  | _, _, _, _, .nil, _ => .nil
  | _, _, _, _, .cons h t, k => .cons (R.same h fun n hn => k n (by rcases hn with hn | hn <;> simp_all)) (Rs.same t fun n hn => k n (by rcases hn with hn | hn <;> simp_all))
end
theorem R.agr {v : VV} {p : PV} {f o : List Nat} (h : R vh v p f o) (a : Agr vh vh') : R vh' v p f o := h.same fun n hn => by
  have hl : n < vh.length := hn.elim (h.lt.1 n) (h.lt.2 n)
  rw [a n _ (List.getElem?_eq_getElem hl), List.getElem?_eq_getElem hl]
theorem Rs.agr {v : List VV} {p : List PV} {f o : List Nat} (h : Rs vh v p f o) (a : Agr vh vh') : Rs vh' v p f o := h.same fun n hn => by
  have hl : n < vh.length := hn.elim (h.lt.1 n) (h.lt.2 n)
  rw [a n _ (List.getElem?_eq_getElem hl), List.getElem?_eq_getElem hl]
theorem seqL_of_lst {n : Nat} {xs : List VV} (e : vh[n]? = some (.lst xs)) : seqL vh n = some xs := by unfold seqL; rw [e]
mutual
theorem R.fz : ∀ {v : VV} {p : PV} {f o : List Nat}, R vh v p f o → ∃ f', R vh v (fz p) f' [] ∧ ∀ n, n ∈ f' ↔ n ∈ f ∨ n ∈ o
  | _, _, _, _, .non => ⟨[], .non, by simp⟩
  | _, _, _, _, .bl _ => ⟨[], .bl _, by simp⟩
  | _, _, _, _, .int _ => ⟨[], .int _, by simp⟩
  | _, _, _, _, .str _ => ⟨[], .str _, by simp⟩
  | _, _, _, _, .tup h => by
    obtain ⟨f', h1, h2⟩ := Rs.fz h
    exact ⟨f', .tup h1, h2⟩
  | _, _, _, _, .exo e => ⟨[_], .exo e, by simp⟩
  | _, _, _, _, .flst e h => by
    obtain ⟨f', h1, h2⟩ := Rs.fz h
    exact ⟨_ :: f', .flst e h1, fun n => by simp [h2]⟩
  | _, _, _, _, .scr e h => by
    obtain ⟨f', h1, h2⟩ := Rs.fz h
    exact ⟨_ :: f', .scr e h1, fun n => by simp [h2]⟩
  | _, _, _, _, .olst e h => by
    obtain ⟨f', h1, h2⟩ := Rs.fz h
    refine ⟨_ :: f', .flst e h1, fun n => ?_⟩
    simp only [List.mem_cons, h2]
    constructor
    · rintro (h | h | h) <;> simp [h]
    · rintro (h | h | h) <;> simp [h]
  | _, _, _, _, .fdct e h => by
    obtain ⟨f', h1, h2⟩ := Rs.fz h
    exact ⟨_ :: f', .fdct e h1, fun n => by simp [h2]⟩
  | _, _, _, _, .odct e h => by
    obtain ⟨f', h1, h2⟩ := Rs.fz h
    refine ⟨_ :: f', .fdct e h1, fun n => ?_⟩
    simp only [List.mem_cons, h2]
    constructor
    · rintro (h | h | h) <;> simp [h]
    · rintro (h | h | h) <;> simp [h]
theorem Rs.fz : ∀ {v : List VV} {p : List PV} {f o : List Nat}, Rs vh v p f o → ∃ f', Rs vh v (fzs p) f' [] ∧ ∀ n, n ∈ f' ↔ n ∈ f ∨ n ∈ o
  | _, _, _, _, .nil => ⟨[], .nil, by simp⟩
  | _, _, _, _, .cons h t => by
    obtain ⟨f1, h1, h2⟩ := R.fz h
    obtain ⟨f2, k1, k2⟩ := Rs.fz t
    refine ⟨f1 ++ f2, by simpa using Rs.cons h1 k1, fun n => ?_⟩
    simp only [List.mem_append, h2, k2]
    constructor
    · rintro ((h | h) | (h | h)) <;> simp [h]
    · rintro ((h | h) | (h | h)) <;> simp [h]
end
mutual
theorem R.clo : ∀ {v : VV} {p : PV} {f o : List Nat}, R vh v p f o → clo p = true → f = []
  | _, _, _, _, .non, _ => rfl
  | _, _, _, _, .bl _, _ => rfl
  | _, _, _, _, .int _, _ => rfl
  | _, _, _, _, .str _, _ => rfl
  | _, _, _, _, .tup h, k => Rs.clo h (by simpa using k)
  | _, _, _, _, .flst e h, k => by simp at k
  | _, _, _, _, .exo e, k => by simp at k
  | _, _, _, _, .scr e h, k => by simp at k
  | _, _, _, _, .olst e h, k => Rs.clo h (by simpa using k)
  | _, _, _, _, .fdct e h, k => by simp at k
  | _, _, _, _, .odct e h, k => Rs.clo h (by simpa using k)
theorem Rs.clo : ∀ {v : List VV} {p : List PV} {f o : List Nat}, Rs vh v p f o → clos p = true → f = []
  | _, _, _, _, .nil, _ => rfl
  | _, _, _, _, .cons h t, k => by
    simp only [clos, Bool.and_eq_true] at k
    rw [R.clo h k.1, Rs.clo t k.2]; rfl
end
theorem Rs.len : ∀ {v : List VV} {p : List PV} {f o : List Nat}, Rs vh v p f o → v.length = p.length
  | _, _, _, _, .nil => rfl
  | _, _, _, _, .cons _ t => by simp [Rs.len t]
theorem Rs.get : ∀ {v : List VV} {p : List PV} {f o : List Nat} {i : Nat} {q : PV}, Rs vh v p f o → p[i]? = some q → ∃ x f1 o1, v[i]? = some x ∧ R vh x q f1 o1 ∧ (∀ n ∈ f1, n ∈ f) ∧ List.Sublist o1 o
  | _, _, _, _, _, _, .nil, h => by simp at h
  | _, _, _, _, 0, _, .cons h t, e => by
    simp at e; subst e
    exact ⟨_, _, _, rfl, h, fun n hn => List.mem_append_left _ hn, List.sublist_append_left _ _⟩
  | _, _, _, _, i + 1, _, .cons h t, e => by
    obtain ⟨x, f1, o1, h1, h2, h3, h4⟩ := Rs.get (i := i) t (by simpa using e)
    exact ⟨x, f1, o1, by simpa using h1, h2, fun n hn => List.mem_append_right _ (h3 n hn), h4.trans (List.sublist_append_right _ _)⟩
theorem Rs.app : ∀ {v w : List VV} {p q : List PV} {f o f' o' : List Nat}, Rs vh v p f o → Rs vh w q f' o' → Rs vh (v ++ w) (p ++ q) (f ++ f') (o ++ o')
  | _, _, _, _, _, _, _, _, .nil, h => h
  | _, _, _, _, _, _, _, _, .cons h t, k => by
    have := Rs.cons h (Rs.app t k)
    simpa [List.append_assoc] using this
/-- frozen lists of values: the handles are among fs -/
def Fz (vh : VH) (v : List VV) (p : List PV) (fs : Nat → Prop) : Prop := ∃ f, Rs vh v p f [] ∧ ∀ n ∈ f, fs n
theorem Rs.toFz {v : List VV} {p : List PV} {f o : List Nat} (h : Rs vh v p f o) : Fz vh v (fzs p) fun n => n ∈ f ∨ n ∈ o := by
  obtain ⟨f', h1, h2⟩ := h.fz
  exact ⟨f', h1, fun n hn => (h2 n).mp hn⟩
theorem Fz.imp {v : List VV} {p : List PV} {fs fs' : Nat → Prop} (h : Fz vh v p fs) (k : ∀ n, fs n → fs' n) : Fz vh v p fs' := by
  obtain ⟨f, h1, h2⟩ := h
  exact ⟨f, h1, fun n hn => k n (h2 n hn)⟩
theorem Fz.nil {fs : Nat → Prop} : Fz vh [] [] fs := ⟨[], .nil, by simp⟩
theorem Fz.cons {x : VV} {q : PV} {v : List VV} {p : List PV} {fs : Nat → Prop} {f : List Nat} (h : R vh x q f []) (hf : ∀ n ∈ f, fs n) (t : Fz vh v p fs) : Fz vh (x :: v) (q :: p) fs := by
  obtain ⟨f', h1, h2⟩ := t
  exact ⟨f ++ f', by simpa using Rs.cons h h1, fun n hn => (List.mem_append.mp hn).elim (hf n) (h2 n)⟩
theorem Fz.app {v w : List VV} {p q : List PV} {fs : Nat → Prop} (h : Fz vh v p fs) (k : Fz vh w q fs) : Fz vh (v ++ w) (p ++ q) fs := by
  obtain ⟨f, h1, h2⟩ := h
  obtain ⟨f', k1, k2⟩ := k
  exact ⟨f ++ f', by simpa using h1.app k1, fun n hn => (List.mem_append.mp hn).elim (h2 n) (k2 n)⟩
theorem Fz.len {v : List VV} {p : List PV} {fs : Nat → Prop} (h : Fz vh v p fs) : v.length = p.length := by
  obtain ⟨f, h1, h2⟩ := h
  exact h1.len
theorem Fz.get {v : List VV} {p : List PV} {fs : Nat → Prop} {i : Nat} {q : PV} (h : Fz vh v p fs) (e : p[i]? = some q) : ∃ x f1, v[i]? = some x ∧ R vh x q f1 [] ∧ ∀ n ∈ f1, fs n := by
  obtain ⟨f, h1, h2⟩ := h
  obtain ⟨x, f1, o1, h3, h4, h5, h6⟩ := h1.get e
  have : o1 = [] := List.sublist_nil.mp h6
  subst this
  exact ⟨x, f1, h3, h4, fun n hn => h2 n (h5 n hn)⟩
theorem Fz.cons_inv {x : VV} {q : PV} {v : List VV} {p : List PV} {fs : Nat → Prop} (h : Fz vh (x :: v) (q :: p) fs) : (∃ f, R vh x q f [] ∧ ∀ n ∈ f, fs n) ∧ Fz vh v p fs := by
  obtain ⟨f, h1, h2⟩ := h
  generalize ho : ([] : List Nat) = o at h1
  cases h1 with
  | cons a b =>
    have := List.append_eq_nil_iff.mp ho.symm
    obtain ⟨rfl, rfl⟩ := this
    exact ⟨⟨_, a, fun n hn => h2 n (List.mem_append_left _ hn)⟩, _, b, fun n hn => h2 n (List.mem_append_right _ hn)⟩
theorem Fz.drop : ∀ {v : List VV} {p : List PV} {fs : Nat → Prop} (k : Nat), Fz vh v p fs → Fz vh (v.drop k) (p.drop k) fs
  | v, p, _, 0, h => by simpa using h
  | [], [], _, k + 1, h => by simpa using h
  | [], _ :: _, _, k + 1, h => by have := h.len; simp at this
  | _ :: _, [], _, k + 1, h => by have := h.len; simp at this
  | x :: v, q :: p, _, k + 1, h => Fz.drop k h.cons_inv.2
theorem Fz.take : ∀ {v : List VV} {p : List PV} {fs : Nat → Prop} (k : Nat), Fz vh v p fs → Fz vh (v.take k) (p.take k) fs
  | v, p, _, 0, h => by simpa using Fz.nil
  | [], [], _, k + 1, h => by simpa using h
  | [], _ :: _, _, k + 1, h => by have := h.len; simp at this
  | _ :: _, [], _, k + 1, h => by have := h.len; simp at this
  | x :: v, q :: p, _, k + 1, h => by
    obtain ⟨⟨f, a, b⟩, t⟩ := h.cons_inv
    exact Fz.cons a b (Fz.take k t)
theorem Fz.rev : ∀ {v : List VV} {p : List PV} {fs : Nat → Prop}, Fz vh v p fs → Fz vh v.reverse p.reverse fs
  | [], [], _, h => by simpa using h
  | [], _ :: _, _, h => by have := h.len; simp at this
  | _ :: _, [], _, h => by have := h.len; simp at this
  | x :: v, q :: p, _, h => by
    obtain ⟨⟨f, a, b⟩, t⟩ := h.cons_inv
    rw [List.reverse_cons, List.reverse_cons]
    exact (Fz.rev t).app (Fz.cons a b Fz.nil)
theorem Fz.ev2 : ∀ {v : List VV} {p : List PV} {fs : Nat → Prop}, Fz vh v p fs → Fz vh (Fe.ev2 v) (Fe.ev2 p) fs
  | [], [], _, _ => Fz.nil
  | [], _ :: _, _, h => by have := h.len; simp at this
  | _ :: _, [], _, h => by have := h.len; simp at this
  | [x], [a], fs, h => h
  | [x], _ :: _ :: _, _, h => by have := h.len; simp at this
  | _ :: _ :: _, [a], _, h => by have := h.len; simp at this
  | x :: y :: v, a :: b :: p, fs, h => by
    obtain ⟨⟨f, r, k⟩, t⟩ := h.cons_inv
    obtain ⟨_, t⟩ := t.cons_inv
    exact Fz.cons r k (Fz.ev2 t)
theorem Fz.rep {v : List VV} {p : List PV} {fs : Nat → Prop} (h : Fz vh v p fs) : ∀ k : Nat, Fz vh (List.replicate k v).flatten (List.replicate k p).flatten fs
  | 0 => by simpa using Fz.nil
  | k + 1 => by rw [List.replicate_succ, List.replicate_succ, List.flatten_cons, List.flatten_cons]; exact h.app (Fz.rep h k)
theorem Fz.agr {v : List VV} {p : List PV} {fs : Nat → Prop} (h : Fz vh v p fs) (a : Agr vh vh') : Fz vh' v p fs := by
  obtain ⟨f, h1, h2⟩ := h
  exact ⟨f, h1.agr a, h2⟩
end
end Fe
namespace Fe
open PySem PySem.Spec PyProof.Rows L2
inductive RP (α : Type) where
  | ok (a : α)
  | exc (c : Nat)
  | stuck
def RP.bind {α β : Type} (r : RP α) (f : α → RP β) : RP β := match r with
  | .ok a => f a
  | .exc c => .exc c
  | .stuck => .stuck
@[simp] theorem RP.bind_ok {α β : Type} (a : α) (f : α → RP β) : (RP.ok a).bind f = f a := rfl
@[simp] theorem RP.bind_exc {α β : Type} (c : Nat) (f : α → RP β) : (RP.exc c : RP α).bind f = .exc c := rfl
@[simp] theorem RP.bind_stuck {α β : Type} (f : α → RP β) : (RP.stuck : RP α).bind f = .stuck := rfl
abbrev SV := List (Option PV)
inductive RSP where
  | nx (σ : SV)
  | rt (p : PV)
  | bk (σ : SV)
  | ct (σ : SV)
  | exc (c : Nat) (σ : SV)
  | stuck
  | rx (p : PV) (σ : SV)
def RP.go {α : Type} (r : RP α) (σ : SV) (f : α → RSP) : RSP := match r with
  | .ok a => f a
  | .exc c => .exc c σ
  | .stuck => .stuck
@[simp] theorem RP.go_ok {α : Type} (a : α) (σ : SV) (f : α → RSP) : (RP.ok a).go σ f = f a := rfl
@[simp] theorem RP.go_exc {α : Type} (c : Nat) (σ : SV) (f : α → RSP) : (RP.exc c : RP α).go σ f = .exc c σ := rfl
@[simp] theorem RP.go_stuck {α : Type} (σ : SV) (f : α → RSP) : (RP.stuck : RP α).go σ f = .stuck := rfl
def RSP.seq (r : RSP) (f : SV → RSP) : RSP := match r with
  | .nx σ => f σ
  | r => r
@[simp] theorem RSP.seq_nx (σ : SV) (f : SV → RSP) : (RSP.nx σ).seq f = f σ := rfl
@[simp] theorem RSP.seq_rt (σ : PV) (f : SV → RSP) : (RSP.rt σ).seq f = .rt σ := rfl
@[simp] theorem RSP.seq_bk (σ : SV) (f : SV → RSP) : (RSP.bk σ).seq f = .bk σ := rfl
@[simp] theorem RSP.seq_ct (σ : SV) (f : SV → RSP) : (RSP.ct σ).seq f = .ct σ := rfl
@[simp] theorem RSP.seq_exc (c : Nat) (σ : SV) (f : SV → RSP) : (RSP.exc c σ).seq f = .exc c σ := rfl
@[simp] theorem RSP.seq_stuck (f : SV → RSP) : (RSP.stuck).seq f = .stuck := rfl
@[simp] theorem RSP.seq_rx (p : PV) (σ : SV) (f : SV → RSP) : (RSP.rx p σ).seq f = .rx p σ := rfl
/-- a result with the state behind it -/
inductive RX (α : Type) where
  | ok (a : α) (σ : SV)
  | exc (c : Nat) (σ : SV)
  | stuck
def RX.bind {α β : Type} (r : RX α) (f : α → SV → RX β) : RX β := match r with
  | .ok a σ => f a σ
  | .exc c σ => .exc c σ
  | .stuck => .stuck
@[simp] theorem RX.bind_ok {α β : Type} (a : α) (σ : SV) (f : α → SV → RX β) : (RX.ok a σ).bind f = f a σ := rfl
@[simp] theorem RX.bind_exc {α β : Type} (c : Nat) (σ : SV) (f : α → SV → RX β) : (RX.exc c σ : RX α).bind f = .exc c σ := rfl
@[simp] theorem RX.bind_stuck {α β : Type} (f : α → SV → RX β) : (RX.stuck : RX α).bind f = .stuck := rfl
def RX.go {α : Type} (r : RX α) (f : α → SV → RSP) : RSP := match r with
  | .ok a σ => f a σ
  | .exc c σ => .exc c σ
  | .stuck => .stuck
@[simp] theorem RX.go_ok {α : Type} (a : α) (σ : SV) (f : α → SV → RSP) : (RX.ok a σ).go f = f a σ := rfl
@[simp] theorem RX.go_exc {α : Type} (c : Nat) (σ : SV) (f : α → SV → RSP) : (RX.exc c σ : RX α).go f = .exc c σ := rfl
@[simp] theorem RX.go_stuck {α : Type} (f : α → SV → RSP) : (RX.stuck : RX α).go f = .stuck := rfl
def RP.at {α : Type} (r : RP α) (σ : SV) : RX α := match r with
  | .ok a => .ok a σ
  | .exc c => .exc c σ
  | .stuck => .stuck
@[simp] theorem RP.at_ok {α : Type} (a : α) (σ : SV) : (RP.ok a).at σ = .ok a σ := rfl
@[simp] theorem RP.at_exc {α : Type} (c : Nat) (σ : SV) : (RP.exc c : RP α).at σ = .exc c σ := rfl
@[simp] theorem RP.at_stuck {α : Type} (σ : SV) : (RP.stuck : RP α).at σ = .stuck := rfl
/-- a def's result with what has become of its in-out parameters -/
inductive RIO where
  | ok (p : PV) (ios : SV)
  | exc (c : Nat) (ios : SV)
  | stuck
def RIO.rp : RIO → RP PV
  | .ok p _ => .ok p
  | .exc c _ => .exc c
  | .stuck => .stuck
@[simp] theorem RIO.rp_ok {p : PV} {ios : SV} : (RIO.ok p ios).rp = .ok p := rfl
@[simp] theorem RIO.rp_exc {c : Nat} {ios : SV} : (RIO.exc c ios).rp = .exc c := rfl
@[simp] theorem RIO.rp_stuck : RIO.stuck.rp = .stuck := rfl
mutual
def toP : VV → Option PV
  | .non => some .non
  | .bl b => some (.bl b)
  | .int i => some (.int i)
  | .str s => some (.str s)
  | .tup xs => (toPs xs).map .tup
  | .ref _ => none
def toPs : List VV → Option (List PV)
  | [] => some []
  | x :: xs => match toP x, toPs xs with
    | some p, some ps => some (p :: ps)
    | _, _ => none
end
def Cn.pv : Cn → PV
  | .non => .non
  | .bl b => .bl b
  | .int i => .int i
  | .str s => .str s
def lsP : PV → Option (List PV)
  | .lst _ xs => some xs
  | .scr xs => some xs
  | _ => none
def seqP : PV → Option (List PV)
  | .tup xs => some xs
  | .lst _ xs => some xs
  | .scr xs => some xs
  | _ => none
def binP : BO → PV → PV → RP PV
  | .add, .int i, .int j => .ok (.int (i + j))
  | .add, .str i, .str j => if i.length + j.length ≤ 16777216 then .ok (.str (i ++ j)) else .stuck
  | .add, .lst _ xs, .lst _ ys => if xs.length + ys.length ≤ 16777216 then .ok (.lst true (fzs xs ++ fzs ys)) else .stuck
  | .add, .tup xs, .tup ys => if xs.length + ys.length ≤ 16777216 ∧ xs.isEmpty = false ∧ ys.isEmpty = false then .ok (.tup (fzs xs ++ fzs ys)) else .stuck
  | .sub, .int i, .int j => .ok (.int (i - j))
  | .mul, .int i, .int j => if IntMulOk i j then .ok (.int (i * j)) else .stuck
  | .mul, .lst _ xs, .int k => if k.natAbs ≤ 9223372036854775807 ∧ xs.length * k.toNat ≤ 16777216 then .ok (.lst true (List.replicate k.toNat (fzs xs)).flatten) else .stuck
  | .fdiv, .int i, .int j => if 0 < j ∧ (j.natAbs ≤ 18446744073709551615 ∨ j.natAbs.log2 < 9000) then .ok (.int (i / j)) else .stuck
  | .mod, .int i, .int j => if 0 < j then .ok (.int (i % j)) else .stuck
  | .pow, .int i, .int j => if 0 ≤ j ∧ j.natAbs ≤ 1000000 ∧ i.natAbs ≤ 18446744073709551615 then .ok (.int (i ^ j.toNat)) else .stuck
  | .shl, .int i, .int j => if 0 ≤ j ∧ j.natAbs ≤ 1000000 ∧ i.natAbs ≤ 18446744073709551615 then .ok (.int (i * 2 ^ j.toNat)) else .stuck
  | .shr, .int i, .int j => if 0 ≤ j then .ok (.int (i / 2 ^ j.toNat)) else .stuck
  | .band, .int i, .int j => .ok (.int (Builtin.bitAnd i j))
  | _, _, _ => .stuck
def augP : BO → PV → PV → RP PV
  | .add, .int i, .int j => .ok (.int (i + j))
  | .add, .str i, .str j => if i.length + j.length ≤ 16777216 then .ok (.str (i ++ j)) else .stuck
  | .sub, .int i, .int j => .ok (.int (i - j))
  | .fdiv, .int i, .int j => if 0 < j ∧ j.natAbs ≤ 1073741823 then .ok (.int (i / j)) else .stuck
  | _, _, _ => .stuck
@[simp] def scalP : PV → PV → Bool
  | .non, .non => true | .non, .int _ => true | .int _, .non => true | .non, .bl _ => true | .bl _, .non => true | .non, .str _ => true | .str _, .non => true
  | .int _, .int _ => true | .bl _, .bl _ => true | .str _, .str _ => true
  | .int _, .str _ => true | .str _, .int _ => true | .bl _, .str _ => true | .str _, .bl _ => true
  | _, _ => false
@[simp] def eqSP : PV → PV → Bool
  | .non, .non => true
  | .int i, .int j => decide (i = j)
  | .bl i, .bl j => decide (i = j)
  | .str i, .str j => decide (i = j)
  | _, _ => false
mutual
def pdat : Nat → PV → Option PyData
  | 0, _ => none
  | _ + 1, .non => some .none
  | _ + 1, .bl b => some (.bool b)
  | _ + 1, .int i => some (.int i)
  | _ + 1, .str s => some (.str s)
  | k + 1, .tup xs => (pdats k xs).map .tuple
  | k + 1, .lst _ xs => (pdats k xs).map .list
  | k + 1, .scr xs => (pdats k xs).map .list
  | _ + 1, .dct _ _ _ => none
  | _ + 1, .exo _ => none
def pdats : Nat → List PV → Option (List PyData)
  | _, [] => some []
  | k, x :: xs => match pdat k x, pdats k xs with
    | some d, some ds => some (d :: ds)
    | _, _ => none
end
def eqP (x y : PV) : Option Bool :=
  if scalP x y = true then some (eqSP x y) else
  match pdat 66 x, pdat 66 y with
  | some d, some e => if SeqAt.shaped d = true ∧ SeqAt.shaped e = true then some (PyData.eqv d e) else none
  | _, _ => none
def flatP : PV → Bool
  | .non => true
  | .bl _ => true
  | .int _ => true
  | .str _ => true
  | _ => false
def eqFP : PV → PV → Bool
  | .non, .non => true
  | .bl a, .bl b => a == b
  | .bl a, .int b => (if a then 1 else 0) == b
  | .int a, .bl b => a == (if b then 1 else 0)
  | .int a, .int b => a == b
  | .str a, .str b => a == b
  | _, _ => false
def inFP (x : PV) (xs : List PV) : Bool := xs.any fun y => eqFP y x
def keyP : PV → Option Key
  | .int i => some (.inl i)
  | .str s => some (.inr s)
  | _ => none
def lookP (ks : List Key) (xs : List PV) (k : Key) : Option PV := lookK (ks.zip xs) k
def inP (x y : PV) : Option Bool :=
  match y with
  | .tup ys => if flatP x = true ∧ ys.all flatP = true then some (inFP x ys) else none
  | .lst _ ys => if flatP x = true ∧ ys.all flatP = true then some (inFP x ys) else none
  | .scr ys => if flatP x = true ∧ ys.all flatP = true then some (inFP x ys) else none
  | .str t => match x with
    | .str s => some (!(Builtin.Str.occurrences t s 0 t.length 1).isEmpty)
    | _ => none
  | .dct _ ks xs => match keyP x with
    | some k => some (lookP ks xs k).isSome
    | none => none
  | _ => none
def isNonP : PV → Bool
  | .non => true
  | _ => false
def obP : Option Bool → RP PV
  | some b => .ok (.bl b)
  | none => .stuck
def ooP : Option PV → RP PV
  | some p => .ok p
  | none => .stuck
def cmpP : CO → PV → PV → RP PV
  | .eq, x, y => obP (eqP x y)
  | .ne, x, y => obP ((eqP x y).map (!·))
  | .lt, .int i, .int j => .ok (.bl (decide (i < j)))
  | .le, .int i, .int j => .ok (.bl (decide (i ≤ j)))
  | .gt, .int i, .int j => .ok (.bl (decide (j < i)))
  | .ge, .int i, .int j => .ok (.bl (decide (j ≤ i)))
  | .lt, .str i, .str j => .ok (.bl (decide (i.cps.toList < j.cps.toList)))
  | .isn, x, .non => .ok (.bl (isNonP x))
  | .notn, x, .non => .ok (.bl (!isNonP x))
  | .isin, x, y => obP (inP x y)
  | .notin, x, y => obP ((inP x y).map (!·))
  | _, _, _ => .stuck
def ixIP (xs : List PV) : PV → Option PV
  | .int i => (atI xs i).map fz
  | _ => none
def ixOP (x i : PV) : RP PV :=
  match x with
  | .tup xs => ooP (ixIP xs i)
  | .lst _ xs => ooP (ixIP xs i)
  | .scr xs => ooP (ixIP xs i)
  | .str z => if z.length ≤ 16777216 then ooP (match i with | .int i => (atI z.cps.toList i).map fun c => .str ⟨#[c]⟩ | _ => none) else .stuck
  | .dct _ ks xs => ooP ((keyP i).bind fun k => (lookP ks xs k).map fz)
  | _ => .stuck
def slcP (x : PV) (lo hi : Option Int) : RP PV :=
  match x with
  | .lst _ xs => .ok (.lst true (cutL (fzs xs) lo hi))
  | .scr xs => .ok (.lst true (cutL (fzs xs) lo hi))
  | .tup xs => if HT.sIx xs.length 0 lo = 0 ∧ HT.sIx xs.length xs.length hi = xs.length then .stuck else .ok (.tup (cutL (fzs xs) lo hi))
  | _ => .stuck
def truP : PV → Option Bool
  | .non => some false
  | .bl b => some b
  | .int i => some (i != 0)
  | .str s => if s.length ≤ 16777216 then some (s.length != 0) else none
  | .tup xs => some (!xs.isEmpty)
  | .lst _ xs => some (!xs.isEmpty)
  | .scr xs => some (!xs.isEmpty)
  | .dct _ ks _ => some (!ks.isEmpty)
  | .exo _ => none
def tyP : PV → String
  | .non => "NoneType"
  | .bl _ => "bool"
  | .int _ => "int"
  | .str _ => "str"
  | .tup _ => "tuple"
  | .lst _ _ => "list"
  | .scr _ => "list"
  | .dct _ _ _ => "dict"
  | .exo _ => "exc"
/-- isinstance, of a built-in type; of an exception it is not asked -/
def isiP (x : PV) (t : String) : RP PV := match x with
  | .exo _ => .stuck
  | x => .ok (.bl (subTy (tyP x) t))
@[simp] def intsP : List PV → Option (List Int)
  | [] => some []
  | .int i :: r => (intsP r).map (i :: ·)
  | _ :: _ => none
@[simp] def blsP : List PV → Option (List Bool)
  | [] => some []
  | .bl b :: r => (blsP r).map (b :: ·)
  | _ :: _ => none
@[simp] def strsP : List PV → Option (List Str)
  | [] => some []
  | .str s :: r => (strsP r).map (s :: ·)
  | _ :: _ => none
@[simp] def prsP : List PV → Option (List (Int × Int))
  | [] => some []
  | .tup [.int i, .int j] :: r => (prsP r).map ((i, j) :: ·)
  | _ :: _ => none
def srtdP (xs : List PV) : RP PV := match intsP xs with
  | some ns => .ok (.lst true ((srtI ns).map .int))
  | none => match prsP xs with
    | some ps => .ok (.lst true ((srtP ps).map fun p => .tup [.int p.1, .int p.2]))
    | none => .stuck
def biP : BI → List PV → RP PV
  | .len, [.str s] => if s.length ≤ 16777216 then .ok (.int s.length) else .stuck
  | .len, [.tup xs] => .ok (.int xs.length)
  | .len, [.lst _ xs] => .ok (.int xs.length)
  | .len, [.scr xs] => .ok (.int xs.length)
  | .len, [.dct _ ks _] => .ok (.int ks.length)
  | .abs, [.int i] => .ok (.int (if i < 0 then -i else i))
  | .min2, [.int i, .int j] => .ok (.int (if j < i then j else i))
  | .max2, [.int i, .int j] => .ok (.int (if j > i then j else i))
  | .int, [.int i] => .ok (.int i)
  | .int, [.bl b] => .ok (.int (if b then 1 else 0))
  | .list, [x] => match seqP x with
    | some xs => .ok (.lst true (fzs xs))
    | none => .stuck
  | .tuple, [x] => match seqP x with
    | some xs => .ok (.tup (fzs xs))
    | none => .stuck
  | .sum, [x] => match lsP x with
    | some xs => match intsP xs with
      | some ns => .ok (.int ns.sum)
      | none => .stuck
    | none => .stuck
  | .all, [x] => match lsP x with
    | some xs => match blsP xs with
      | some bs => .ok (.bl (bs.all id))
      | none => .stuck
    | none => .stuck
  | .any, [x] => match lsP x with
    | some xs => match blsP xs with
      | some bs => .ok (.bl (bs.any id))
      | none => .stuck
    | none => .stuck
  | .sorted, [x] => match lsP x with
    | some xs => srtdP xs
    | none => .stuck
  | _, _ => .stuck
def isStrP : PV → Bool
  | .str _ => true
  | _ => false
def isDctP : PV → Bool
  | .dct _ _ _ => true
  | _ => false
def tyMP (m : ME) (x : PV) : Bool := match m with
  | .join => isStrP x
  | .setdef => isDctP x
  | _ => (lsP x).isSome
/-- methods that only read -/
def meP : ME → PV → List PV → RP PV
  | .count, x, [.int k] => match lsP x with
    | some xs => match intsP xs with
      | some ns => .ok (.int (ns.count k : Nat))
      | none => .stuck
    | none => .stuck
  | .join, .str a, [x] => match lsP x with
    | some xs => match strsP xs with
      | some ys => if (ys.map (·.length)).sum + ys.length * a.length ≤ 16777216 then .ok (.str (Txt.join a ys)) else .stuck
      | none => .stuck
    | none => .stuck
  | _, _, _ => .stuck
mutual
@[simp] def vE : E → List Nat
  | .nm i => [i]
  | .gl _ => []
  | .cn _ => []
  | .bin _ a b => vE a ++ vE b
  | .neg a => vE a
  | .cmp _ a b => vE a ++ vE b
  | .chain _ _ a b c => vE a ++ (vE b ++ vE c)
  | .one a => vE a
  | .and a b => vE a ++ vE b
  | .or a b => vE a ++ vE b
  | .not a => vE a
  | .ife t a b => vB t ++ (vE a ++ vE b)
  | .tup es => vEs es
  | .lst es => vEs es
  | .dnew => []
  | .ix a b => vE a ++ vE b
  | .slc a lo hi => vE a ++ (vO lo ++ vO hi)
  | .call _ es => vEs es
  | .bi _ es => vEs es
  | .me _ o es => vE o ++ vEs es
  | .isi a _ => vE a
  | .o1 _ a => vE a
  | .lc elt _ it ifs _ => vI it ++ (vBs ifs ++ vE elt)
  | .isx _ => []
  | .isv a _ => vE a
@[simp] def vEs : Es → List Nat
  | .nil => []
  | .cons e es => vE e ++ vEs es
@[simp] def vO : Oe → List Nat
  | .none => []
  | .some e => vE e
@[simp] def vB : B → List Nat
  | .cmp _ a b => vE a ++ vE b
  | .chain _ _ a b c => vE a ++ (vE b ++ vE c)
  | .one a => vB a
  | .and a b => vB a ++ vB b
  | .or a b => vB a ++ vB b
  | .not a => vB a
  | .tr e => vE e
@[simp] def vBs : Bs → List Nat
  | .nil => []
  | .one b => vB b
@[simp] def vI : I → List Nat
  | .sq e => vE e
  | .rng1 a => vE a
  | .rng2 a b => vE a ++ vE b
  | .rev e => vE e
  | .zip a b => vE a ++ vE b
  | .enum a => vE a
end
@[simp] def frzS (σ : SV) : List Nat → SV
  | [] => σ
  | i :: is => match (frzS σ is)[i]? with
    | some (some p) => (frzS σ is).set i (some (fz p))
    | _ => frzS σ is
@[simp] def wipeV (σ : SV) : List Nat → SV
  | [] => σ
  | v :: vs => (wipeV σ vs).set v none
@[simp] def settle (vs : List Nat) (p : PV) (σ : SV) : SV := if clo p = true then σ else frzS σ vs
mutual
def asgV : T → PV → SV → Option SV
  | .nm i, p, σ => some (σ.set i (some p))
  | .tup ts, p, σ => match seqP p with
    | some xs => if xs.length = Ts.len ts then asgVs ts xs σ else none
    | none => none
  | .sub _ _, _, _ => none
def asgVs : Ts → List PV → SV → Option SV
  | .nil, [], σ => some σ
  | .cons t ts, x :: xs, σ => (asgV t x σ).bind fun σ => asgVs ts xs σ
  | _, _, _ => none
end
def forV (body : PV → SV → RSP) : List PV → SV → RSP
  | [], σ => .nx σ
  | x :: xs, σ => match body x σ with
    | .nx σ => forV body xs σ
    | .ct σ => forV body xs σ
    | .bk σ => .nx σ
    | r => r
/-- a for statement's turn -/
def frV (a : PV → SV → Option SV) (b : SV → RSP) : PV → SV → RSP := fun x σ => match a x σ with
  | some σ => b σ
  | none => .stuck
def whlV (test : SV → RP Bool) (body : SV → RSP) : Nat → SV → RSP
  | 0, _ => .stuck
  | f + 1, σ => (test σ).go σ fun b => if b = true then match body σ with
      | .nx σ => whlV test body f σ
      | .ct σ => whlV test body f σ
      | .bk σ => .nx σ
      | r => r
    else .nx σ
def lcV (asg : PV → Option SV) (ifs : SV → RP Bool) (elt : SV → RP PV) : List PV → RP (List PV)
  | [] => .ok []
  | x :: xs => match asg x with
    | none => .stuck
    | some σ => match ifs σ with
      | .ok true => match elt σ with
        | .ok y => match lcV asg ifs elt xs with
          | .ok ys => .ok (fz y :: ys)
          | _ => .stuck
        | _ => .stuck
      | .ok false => lcV asg ifs elt xs
      | _ => .stuck
def rngP (lo : Int) (n : Nat) : List PV := (List.range n).map fun k => .int (lo + (k : Nat))
def zipP (xs ys : List PV) : List PV := (xs.zip ys).map fun p => .tup [p.1, p.2]
def enumP (xs : List PV) : List PV := xs.zipIdx.map fun p => .tup [.int (p.2 : Nat), p.1]
def rng1P : PV → RP (List PV × Bool)
  | .int j => if small62 j then .ok (rngP 0 j.toNat, true) else .stuck
  | _ => .stuck
def rng2P : PV → PV → RP (List PV × Bool)
  | .int i, .int j => if small62 i ∧ small62 j then .ok (rngP i (j - i).toNat, true) else .stuck
  | _, _ => .stuck
def o1P : O1 → PV → RP PV
  | .lrev, .lst _ xs => .ok (.lst true (fzs xs).reverse)
  | .lrev, .scr xs => .ok (.lst true (fzs xs).reverse)
  | .lrg, .int j => if small62 j ∧ j.toNat ≤ 16777216 then .ok (.lst true (rngP 0 j.toNat)) else .stuck
  | .lrr, .int j => if small62 j ∧ j.toNat ≤ 16777216 then .ok (.lst true (rngP 0 j.toNat).reverse) else .stuck
  | .bits, .int i => .ok (.int (Builtin.Int.intBits i : Nat))
  | .lval, .dct _ _ xs => .ok (.lst true (fzs xs))
  | .nset, .lst _ xs => match intsP xs with
    | some ns => if ns.length < 64 ∧ ns.Nodup then .ok (.int ns.length) else .stuck
    | none => .stuck
  | .ev0, .lst _ xs => .ok (.lst true (ev2 ((fzs xs).drop 0)))
  | .ev0, .scr xs => .ok (.lst true (ev2 ((fzs xs).drop 0)))
  | .ev1, .lst _ xs => .ok (.lst true (ev2 ((fzs xs).drop 1)))
  | .ev1, .scr xs => .ok (.lst true (ev2 ((fzs xs).drop 1)))
  | _, _ => .stuck
/-- x[i] of an owned list -/
def getP (x i : PV) : RP PV := match x with
  | .lst true xs => ooP (ixIP xs i)
  | _ => .stuck
def zippedP : PV → PV → RP (List PV × Bool)
  | .tup xs, .tup ys => .ok (zipP (fzs xs) (fzs ys), true)
  | x, y => match lsP x, lsP y with
    | some xs, some ys => .ok (zipP (fzs xs) (fzs ys), false)
    | _, _ => .stuck
structure GV where
  fn : Nat → List PV → RP PV
  N : Nat
  gl : Nat → Option PV
  io : Nat → List Nat
  fx : Nat → List PV → RIO
  mine : List Nat
/-- in a suite that holds an exception of class d -/
def GV.heat (G : GV) (d : Nat) : GV := { G with fn := fun f xs => if f = hotF then .ok (.int d) else G.fn f xs, fx := fun f xs => if f = hotF then .stuck else G.fx f xs }
def killV (i : Option Nat) (σ : SV) : SV := match i with
  | some i => σ.set i none
  | none => σ
/-- behind an except suite -/
def finV (i : Option Nat) : RSP → RSP
  | .nx σ => .nx (killV i σ)
  | .rt v => .rt v
  | .bk σ => .bk (killV i σ)
  | .ct σ => .ct (killV i σ)
  | .rx p σ => .rx p σ
  | _ => .stuck
/-- behind a try's body -/
def tryV (i : Option Nat) (e : Nat) (h : Nat → SV → RSP) : RSP → RSP
  | .exc d σ => if subX d e = true then finV i (h d (killV i σ)) else .exc d σ
  | r => r
/-- .. where the suite keeps the exception in slot j -/
def tryK (i j e : Nat) : RSP → RSP
  | .exc d σ => if subX d e = true then .nx ((σ.set j (some (.exo d))).set i none) else .exc d σ
  | r => r
def popB : ME → Bool
  | .pop => true
  | .popAt => true
  | _ => false
mutual
def evV (G : GV) : E → SV → RP PV
  | .nm i, σ => match σ[i]? with
    | some (some p) => .ok (fz p)
    | _ => .stuck
  | .gl j, _ => match G.gl j with
    | some p => .ok p
    | none => .stuck
  | .cn c, _ => .ok c.pv
  | .bin o a b, σ => (evV G a σ).bind fun x => (evV G b σ).bind fun y => binP o x y
  | .neg a, σ => (evV G a σ).bind fun x => match x with
    | .int i => .ok (.int (-i))
    | _ => .stuck
  | .cmp o a b, σ => (evV G a σ).bind fun x => (evV G b σ).bind fun y => cmpP o x y
  | .chain o1 o2 a b c, σ => (evV G a σ).bind fun x => (evV G b σ).bind fun y => (cmpP o1 x y).bind fun z => match z with
    | .bl true => (evV G c σ).bind fun w => cmpP o2 y w
    | .bl false => .ok (.bl false)
    | _ => .stuck
  | .one a, σ => evV G a σ
  | .and a b, σ => (evV G a σ).bind fun x => match x with
    | .bl true => evV G b σ
    | .bl false => .ok (.bl false)
    | _ => .stuck
  | .or a b, σ => (evV G a σ).bind fun x => match x with
    | .bl true => .ok (.bl true)
    | .bl false => evV G b σ
    | _ => .stuck
  | .not a, σ => (evV G a σ).bind fun x => match x with
    | .bl b => .ok (.bl (!b))
    | _ => .stuck
  | .ife t a b, σ => (tstV G t σ).bind fun c => if c = true then evV G a σ else evV G b σ
  | .tup es, σ => (evsV G es σ).bind fun xs => if xs.length ≤ 16777216 then .ok (.tup xs) else .stuck
  | .lst es, σ => (evsV G es σ).bind fun xs => if xs.length ≤ 16777216 then .ok (.lst true xs) else .stuck
  | .dnew, _ => .ok (.dct true [] [])
  | .ix a b, σ => (evV G a σ).bind fun x => (evV G b σ).bind fun y => ixOP x y
  | .slc a lo hi, σ => (evV G a σ).bind fun x => (evoV G lo σ).bind fun l => (evoV G hi σ).bind fun h => slcP x l h
  | .call f es, σ => (evsV G es σ).bind fun xs => G.fn f (fzs xs)
  | .bi f es, σ => (evsV G es σ).bind fun xs => biP f xs
  | .me m o es, σ => (evV G o σ).bind fun x => if tyMP m x = true then (evsV G es σ).bind fun xs => meP m x xs else .stuck
  | .o1 k a, σ => (evV G a σ).bind fun x => o1P k x
  | .isi a t, σ => (evV G a σ).bind fun x => isiP x t
  | .lc elt t it ifs own, σ => (evIV G it σ).bind fun J => if J.1.length ≤ 16777216 ∧ J.1.length < G.N then (lcV (fun x => asgV t x (wipeV σ own)) (tstsV G ifs) (evV G elt) J.1).bind fun ys => .ok (.lst true ys) else .stuck
  | .isx cs, _ => match G.fn hotF [] with
    | .ok (.int d) => .ok (.bl (cs.any fun e => subX d.toNat e))
    | _ => .stuck
  | .isv a cs, σ => (evV G a σ).bind fun x => match x with
    | .exo d => .ok (.bl (cs.any fun e => subX d e))
    | _ => .stuck
def evsV (G : GV) : Es → SV → RP (List PV)
  | .nil, _ => .ok []
  | .cons e es, σ => (evV G e σ).bind fun x => (evsV G es σ).bind fun xs => .ok (x :: xs)
def evoV (G : GV) : Oe → SV → RP (Option Int)
  | .none, _ => .ok none
  | .some e, σ => (evV G e σ).bind fun x => match x with
    | .int i => .ok (some i)
    | _ => .stuck
def tstV (G : GV) : B → SV → RP Bool
  | .cmp o a b, σ => (evV G a σ).bind fun x => (evV G b σ).bind fun y => (cmpP o x y).bind fun z => match z with
    | .bl k => .ok k
    | _ => .stuck
  | .chain o1 o2 a b c, σ => (evV G a σ).bind fun x => (evV G b σ).bind fun y => (cmpP o1 x y).bind fun z => match z with
    | .bl true => (evV G c σ).bind fun w => (cmpP o2 y w).bind fun z => match z with
      | .bl k => .ok k
      | _ => .stuck
    | .bl false => .ok false
    | _ => .stuck
  | .one a, σ => tstV G a σ
  | .and a b, σ => (tstV G a σ).bind fun c => if c = true then tstV G b σ else .ok false
  | .or a b, σ => (tstV G a σ).bind fun c => if c = true then .ok true else tstV G b σ
  | .not a, σ => (tstV G a σ).bind fun c => .ok (!c)
  | .tr e, σ => (evV G e σ).bind fun x => match truP x with
    | some k => .ok k
    | none => .stuck
def tstsV (G : GV) : Bs → SV → RP Bool
  | .nil, _ => .ok true
  | .one b, σ => tstV G b σ
/-- what is walked, and whether nothing else can change the list meanwhile -/
def evIV (G : GV) : I → SV → RP (List PV × Bool)
  | .sq e, σ => (evV G e σ).bind fun x => match x with
    | .tup xs => .ok (fzs xs, true)
    | .lst b xs => .ok (fzs xs, b)
    | .scr xs => .ok (fzs xs, false)
    | _ => .stuck
  | .rng1 a, σ => (evV G a σ).bind fun x => rng1P x
  | .rng2 a b, σ => (evV G a σ).bind fun x => (evV G b σ).bind fun y => rng2P x y
  | .rev e, σ => (evV G e σ).bind fun x => match x with
    | .lst b xs => .ok ((fzs xs).reverse, b)
    | .scr xs => .ok ((fzs xs).reverse, false)
    | _ => .stuck
  | .zip a b, σ => (evV G a σ).bind fun x => (evV G b σ).bind fun y => zippedP x y
  | .enum a, σ => (evV G a σ).bind fun x => match x with
    | .lst b xs => .ok (enumP (fzs xs), b)
    | .scr xs => .ok (enumP (fzs xs), false)
    | _ => .stuck
end
mutual
def evM (G : GV) : E → SV → RP PV
  | .nm i, σ => match σ[i]? with
    | some (some p) => .ok p
    | _ => .stuck
  | .tup es, σ => (evMs G es σ).bind fun xs => if xs.length ≤ 16777216 then .ok (.tup xs) else .stuck
  | e, σ => evV G e σ
def evMs (G : GV) : Es → SV → RP (List PV)
  | .nil, _ => .ok []
  | .cons e es, σ => (evM G e σ).bind fun x => (evMs G es σ).bind fun xs => .ok (x :: xs)
end
@[simp] def evR (G : GV) (e : E) (σ : SV) : RP PV := if (vE e).Nodup then evM G e σ else evV G e σ
/-- the list that stands in slot i and is owned -/
@[simp] def ownL (σ : SV) (i : Nat) : Option (List PV) := match σ[i]? with
  | some (some (.lst true xs)) => some xs
  | _ => none
def popP (m : ME) (xs : List PV) (args : List PV) : Option (PV × List PV) := match m, args with
  | .pop, [] => match xs[xs.length - 1]? with
    | some y => some (y, xs.dropLast)
    | none => none
  | .popAt, [.int i] => match seqIndex? i xs.length with
    | some k => match xs[k]? with
      | some y => if i.natAbs ≤ 9223372036854775807 then some (y, xs.eraseIdx k) else none
      | none => none
    | none => none
  | _, _ => none
/-- x.m(..) with nothing given back -/
def mutP (m : ME) (xs : List PV) (args : List PV) : Option (List PV) := match m, args with
  | .append, [y] => if xs.length < 16777216 then some (xs ++ [y]) else none
  | .insert, [.int i, y] => if xs.length < 16777216 ∧ 0 ≤ i ∧ i.natAbs ≤ 9223372036854775807 then some (xs.take i.toNat ++ [y] ++ xs.drop i.toNat) else none
  | .reverse, [] => some xs.reverse
  | .clear, [] => some []
  | .extend, [.lst _ ys] => if xs.length + ys.length ≤ 16777216 then some (xs ++ fzs ys) else none
  | _, _ => none
def setP (x i v : PV) : Option PV := match x with
  | .lst true xs => match i with
    | .int k => match ixN xs.length k with
      | some j => some (.lst true (xs.set j v))
      | none => none
    | _ => none
  | .dct true ks xs => match keyP i with
    | some k => if ks.length < 16777216 then some (.dct true ((putKK (ks.zip xs) k (fz v)).map (·.1)) ((putKK (ks.zip xs) k (fz v)).map (·.2))) else none
    | none => none
  | _ => none
/-- a path into a thing -/
@[simp] def pathE : E → Option (Nat × List Int)
  | .nm i => some (i, [])
  | .ix a (.cn (.int k)) => match pathE a with
    | some (i, l) => some (i, l ++ [k])
    | none => none
  | _ => none
def updP : List Int → (List PV → Option (List PV)) → PV → Option PV
  | [], g, .lst true xs => match g xs with
    | some ys => some (.lst true ys)
    | none => none
  | i :: r, g, .tup xs => match ixN xs.length i with
    | some k => match xs[k]? with
      | some q => match updP r g q with
        | some q' => some (.tup (xs.set k q'))
        | none => none
      | none => none
    | none => none
  | i :: r, g, .lst true xs => match ixN xs.length i with
    | some k => match xs[k]? with
      | some q => match updP r g q with
        | some q' => some (.lst true (xs.set k q'))
        | none => none
      | none => none
    | none => none
  | _, _, _ => none
/-- a target and a value -/
def asgE (G : GV) (t : T) (e : E) (σ : SV) : RSP := (evV G e σ).go σ fun x => match t with
  | .sub (.nm i) j => match (settle (vE e) x σ)[i]? with
    | some (some p) => (evV G j (settle (vE e) x σ)).go (settle (vE e) x σ) fun k => match setP p k x with
      | some p' => .nx ((settle (vE e) x σ).set i (some p'))
      | none => .stuck
    | _ => .stuck
  | t => match asgV t x (settle (vE e) x σ) with
    | some σ => .nx σ
    | none => .stuck
/-- nothing owned lies right below -/
def shL : PV → Bool
  | .lst b _ => !b
  | .dct b _ _ => !b
  | _ => true
def shF : PV → Bool
  | .tup xs => xs.all shL
  | _ => true
def shA (σ : SV) (i : Nat) : Bool := match σ[i]? with
  | some (some p) => shF p
  | _ => false
/-- what stands in slot i goes to several targets; the slot is not read any more -/
def moveE (ts : Ts) (i : Nat) (σ : SV) : RSP := match σ[i]? with
  | some (some p) => match asgV (.tup ts) p (σ.set i none) with
    | some σ => .nx σ
    | none => .stuck
  | _ => .stuck
def idxP (n : Nat) : PV → Option Nat
  | .int k => ixN n k
  | _ => none
/-- which part of an owned thing -/
def placeP (p k : PV) : Option Nat := match p with
  | .tup xs => idxP xs.length k
  | .lst true xs => idxP xs.length k
  | .dct true ks _ => (keyP k).bind fun key => ks.findIdx? fun y => decide (y = key)
  | _ => none
def partsP : PV → List PV
  | .tup xs => xs
  | .lst _ xs => xs
  | .dct _ _ xs => xs
  | _ => []
def withP (p : PV) (j : Nat) (q : PV) : PV := match p with
  | .tup xs => .tup (xs.set j q)
  | .lst b xs => .lst b (xs.set j q)
  | .dct b ks xs => .dct b ks (xs.set j q)
  | p => p
def getO : List PV → PV → Option PV
  | [], p => some p
  | k :: r, p => match placeP p k with
    | some j => match (partsP p)[j]? with
      | some q => getO r q
      | none => none
    | none => none
def putO : List PV → PV → PV → Option PV
  | [], q, _ => some q
  | k :: r, q, p => match placeP p k with
    | some j => match (partsP p)[j]? with
      | some s => (putO r q s).map (withP p j)
      | none => none
    | none => none
def keyR : RP PV → Option PV
  | .ok k => if (keyP k).isSome = true then some k else none
  | _ => none
def pathV (G : GV) : E → SV → Option (Nat × List PV)
  | .nm i, _ => some (i, [])
  | .ix a b, σ => match pathV G a σ, keyR (evV G b σ) with
    | some r, some k => some (r.1, r.2 ++ [k])
    | _, _ => none
  | _, _ => none
def rootE : E → List Nat
  | .nm i => [i]
  | .ix a _ => rootE a
  | _ => []
/-- what d.setdefault(k, v) tells, and the dict behind it -/
def sdP (ks : List Key) (ps : List PV) : List PV → Option (PV × PV)
  | [k, v] => match keyP k with
    | some key => if ks.length < 16777216 ∧ flatP v = true then match lookK (ks.zip ps) key with
        | some u => if flatP u = true then some (u, .dct true ks ps) else none
        | none => some (v, .dct true ((putKK (ks.zip ps) key v).map (·.1)) ((putKK (ks.zip ps) key v).map (·.2)))
      else none
    | none => none
  | _ => none
def isMut : ME → Bool
  | .count => false
  | .join => false
  | _ => true
/-- a method that changes: what it tells, and the thing behind it -/
def mutC (m : ME) (q : PV) (xs : List PV) : Option (PV × PV) := match q with
  | .lst true l => if popB m = true then (popP m l xs).map fun r => (r.1, .lst true r.2) else (mutP m l xs).map fun l' => (.non, .lst true l')
  | .dct true ks ps => match m with
    | .setdef => sdP ks ps xs
    | _ => none
  | _ => none
/-- the thing at a path in slot j, changed -/
def mutAt (m : ME) (j : Nat) (ks : List PV) (xs : List PV) (σ : SV) : RX PV := match σ[j]? with
  | some (some p) => match getO ks p with
    | some q => match mutC m q xs with
      | some (y, q') => match putO ks q' p with
        | some p' => .ok y (σ.set j (some p'))
        | none => .stuck
      | none => .stuck
    | none => .stuck
  | _ => .stuck
def okR {α : Type} : RP α → Option α
  | .ok k => some k
  | _ => none
def mutX (G : GV) (m : ME) (o : E) (es : Es) (σ : SV) : RX PV := match pathV G o σ, okR (evsV G es σ) with
  | some a, some xs => mutAt m a.1 a.2 xs (settle (vEs es) (.tup xs) σ)
  | _, _ => .stuck
/-- arguments: values, and paths of in-out ones -/
inductive AV where
  | v (p : PV)
  | io (j : Nat) (ks : List PV)
def argsV (G : GV) (io : List Nat) : Nat → Es → SV → Option (List AV)
  | _, .nil, _ => some []
  | i, .cons e es, σ => if io.contains i = true then match pathV G e σ, argsV G io (i + 1) es σ with
      | some r, some as => some (.io r.1 r.2 :: as)
      | _, _ => none
    else match okR (evV G e σ), argsV G io (i + 1) es σ with
      | some x, some as => some (.v (fz x) :: as)
      | _, _ => none
def valsA : List AV → List PV
  | [] => []
  | .v p :: r => p :: valsA r
  | .io _ _ :: r => valsA r
def rootsA : List AV → List Nat
  | [] => []
  | .v _ :: r => rootsA r
  | .io j _ :: r => j :: rootsA r
def resA (σ : SV) : List AV → Option (List PV)
  | [] => some []
  | .v p :: r => (resA σ r).map (p :: ·)
  | .io j ks :: r => match σ[j]? with
    | some (some p) => match getO ks p with
      | some q => (resA σ r).map (q :: ·)
      | none => none
    | _ => none
def killA (σ : SV) : List AV → SV
  | [] => σ
  | .v _ :: r => killA σ r
  | .io j _ :: r => (killA σ r).set j none
def backA (σ1 : SV) : List AV → SV → SV → Option SV
  | [], _, σ => some σ
  | .v _ :: r, _ :: ios, σ => backA σ1 r ios σ
  | .io j ks :: r, some q :: ios, σ => match σ1[j]? with
    | some (some p) => match putO ks q p with
      | some p' => backA σ1 r ios (σ.set j (some p'))
      | none => none
    | _ => none
  | _, _, _ => none
def vNE (io : List Nat) : Nat → Es → List Nat
  | _, .nil => []
  | i, .cons e es => if io.contains i = true then vNE io (i + 1) es else vE e ++ vNE io (i + 1) es
def rootsE (io : List Nat) : Nat → Es → List Nat
  | _, .nil => []
  | i, .cons e es => if io.contains i = true then rootE e ++ rootsE io (i + 1) es else rootsE io (i + 1) es
/-- the slots whose arguments are frozen -/
def frzA (as : List AV) (vs : List Nat) (σ : SV) : SV := if clos (valsA as) = true then σ else frzS σ vs
def backX (σ1 : SV) (as : List AV) : RIO → RX PV
  | .ok p ios => match backA σ1 as ios (killA σ1 as) with
    | some σ2 => .ok p σ2
    | none => .stuck
  | .exc c ios => match backA σ1 as ios (killA σ1 as) with
    | some σ2 => .exc c σ2
    | none => .stuck
  | .stuck => .stuck
/-- two parts of one tuple, the slot's thing being dead behind -/
def spX (σ : SV) (j : Nat) : RIO → RX PV
  | .ok r _ => .ok r (σ.set j none)
  | .exc c _ => .exc c (σ.set j none)
  | .stuck => .stuck
def callSp (G : GV) (f : Nat) (σ : SV) : List AV → RX PV
  | [.io j [a], .io j' [b]] => match σ[j]? with
    | some (some (.tup ps)) => match idxP ps.length a, idxP ps.length b with
      | some m, some n => if j = j' ∧ m < n then match ps[m]?, ps[n]? with
          | some p, some q => spX σ j (G.fx f [p, q])
          | _, _ => .stuck
        else .stuck
      | _, _ => .stuck
    | _ => .stuck
  | _ => .stuck
def callIO (G : GV) (f : Nat) (es : Es) (σ : SV) : RX PV := match argsV G (G.io f) 0 es σ with
  | some as => if (rootsA as).Nodup then match resA (frzA as (vNE (G.io f) 0 es) σ) as with
      | some ps => backX (frzA as (vNE (G.io f) 0 es) σ) as (G.fx f ps)
      | none => .stuck
    else callSp G f σ as
  | none => .stuck
mutual
/-- the slots that an expression writes -/
def wE (G : GV) : E → List Nat
  | .bin _ a b => wE G a ++ wE G b
  | .cmp _ a b => wE G a ++ wE G b
  | .neg a => wE G a
  | .one a => wE G a
  | .and a b => wE G a ++ wE G b
  | .or a b => wE G a ++ wE G b
  | .not a => wE G a
  | .tup es => wEs G es
  | .lst es => wEs G es
  | .ix a b => wE G a ++ wE G b
  | .bi _ es => wEs G es
  | .isi a _ => wE G a
  | .o1 _ a => wE G a
  | .call f es => rootsE (G.io f) 0 es ++ wEs G es
  | .me m o es => if isMut m = true then rootE o else wE G o ++ wEs G es
  | _ => []
def wEs (G : GV) : Es → List Nat
  | .nil => []
  | .cons e es => wE G e ++ wEs G es
end
/-- a value that is held while other slots are written -/
def hold (x : PV) (vs ws : List Nat) : Bool := clo x || vs.all fun i => !ws.contains i
mutual
def evX (G : GV) : E → SV → RX PV
  | .bin o a b, σ => (evX G a σ).bind fun x σ1 => (evX G b σ1).bind fun y σ2 => if hold x (vE a) (wE G b) = true then (binP o (fz x) (fz y)).at σ2 else .stuck
  | .cmp o a b, σ => (evX G a σ).bind fun x σ1 => (evX G b σ1).bind fun y σ2 => if hold x (vE a) (wE G b) = true then (cmpP o (fz x) (fz y)).at σ2 else .stuck
  | .neg a, σ => (evX G a σ).bind fun x σ1 => match x with
    | .int i => .ok (.int (-i)) σ1
    | _ => .stuck
  | .one a, σ => evX G a σ
  | .and a b, σ => (evX G a σ).bind fun x σ1 => match x with
    | .bl true => evX G b σ1
    | .bl false => .ok (.bl false) σ1
    | _ => .stuck
  | .or a b, σ => (evX G a σ).bind fun x σ1 => match x with
    | .bl true => .ok (.bl true) σ1
    | .bl false => evX G b σ1
    | _ => .stuck
  | .not a, σ => (evX G a σ).bind fun x σ1 => match x with
    | .bl b => .ok (.bl (!b)) σ1
    | _ => .stuck
  | .tup es, σ => (evsX G es σ).bind fun xs σ1 => if xs.length ≤ 16777216 then .ok (.tup xs) σ1 else .stuck
  | .lst es, σ => (evsX G es σ).bind fun xs σ1 => if xs.length ≤ 16777216 then .ok (.lst true xs) σ1 else .stuck
  | .ix a b, σ => (evX G a σ).bind fun x σ1 => (evX G b σ1).bind fun y σ2 => if hold x (vE a) (wE G b) = true then (ixOP (fz x) (fz y)).at σ2 else .stuck
  | .bi f es, σ => (evsX G es σ).bind fun xs σ1 => (biP f (fzs xs)).at σ1
  | .isi a t, σ => (evX G a σ).bind fun x σ1 => (isiP (fz x) t).at σ1
  | .o1 k a, σ => (evX G a σ).bind fun x σ1 => (o1P k (fz x)).at σ1
  | .call f es, σ => match G.io f with
    | [] => (evsX G es σ).bind fun xs σ1 => (G.fn f (fzs xs)).at σ1
    | _ :: _ => callIO G f es σ
  | .me m o es, σ => if isMut m = true then mutX G m o es σ else (evX G o σ).bind fun x σ1 => if tyMP m (fz x) = true then (evsX G es σ1).bind fun xs σ2 => if hold x (vE o) (wEs G es) = true then (meP m (fz x) (fzs xs)).at σ2 else .stuck else .stuck
  | e, σ => (evV G e σ).at σ
def evsX (G : GV) : Es → SV → RX (List PV)
  | .nil, σ => .ok [] σ
  | .cons e es, σ => (evX G e σ).bind fun x σ1 => (evsX G es σ1).bind fun xs σ2 => if hold x (vE e) (wEs G es) = true then .ok (x :: xs) σ2 else .stuck
end
def tstX (G : GV) : B → SV → RX Bool
  | .cmp o a b, σ => (evX G (.cmp o a b) σ).bind fun x σ1 => match x with
    | .bl k => .ok k σ1
    | _ => .stuck
  | .one a, σ => tstX G a σ
  | .and a b, σ => (tstX G a σ).bind fun c σ1 => if c = true then tstX G b σ1 else .ok false σ1
  | .or a b, σ => (tstX G a σ).bind fun c σ1 => if c = true then .ok true σ1 else tstX G b σ1
  | .not a, σ => (tstX G a σ).bind fun c σ1 => .ok (!c) σ1
  | .tr e, σ => (evX G e σ).bind fun x σ1 => match truP (fz x) with
    | some k => .ok k σ1
    | none => .stuck
  | .chain o1 o2 a b c, σ => (tstV G (.chain o1 o2 a b c) σ).at σ
def whlX (test : SV → RX Bool) (body : SV → RSP) : Nat → SV → RSP
  | 0, _ => .stuck
  | f + 1, σ => (test σ).go fun b σ => if b = true then match body σ with
      | .nx σ => whlX test body f σ
      | .ct σ => whlX test body f σ
      | .bk σ => .nx σ
      | r => r
    else .nx σ
/-- the parts are frozen, the thing itself is not -/
def fzD : PV → PV
  | .tup xs => .tup (fzs xs)
  | .lst b xs => .lst b (fzs xs)
  | .dct b ks xs => .dct b ks (fzs xs)
  | p => fz p
/-- an item of the thing at a path in slot j -/
def setAt (j : Nat) (ks : List PV) (k x : PV) (σ : SV) : RSP := match σ[j]? with
  | some (some p) => match getO ks p with
    | some q => match setP q k x with
      | some q' => match putO ks q' p with
        | some p' => .nx (σ.set j (some p'))
        | none => .stuck
      | none => .stuck
    | none => .stuck
  | _ => .stuck
mutual
/-- a value goes to a target, which may be a place of a thing -/
def tgtX (G : GV) : T → PV → SV → RSP
  | .nm i, x, σ => .nx (σ.set i (some x))
  | .tup ts, x, σ => match seqP x with
    | some xs => if xs.length = Ts.len ts then tgtsX G ts xs σ else .stuck
    | none => .stuck
  | .sub o k, x, σ => match pathV G o σ, keyR (evV G k σ) with
    | some a, some kk => setAt a.1 a.2 kk x σ
    | _, _ => .stuck
def tgtsX (G : GV) : Ts → List PV → SV → RSP
  | .nil, [], σ => .nx σ
  | .cons t ts, x :: xs, σ => (tgtX G t x σ).seq fun σ => tgtsX G ts xs σ
  | _, _, _ => .stuck
end
/-- an item of the thing in slot j goes to a target -/
def okGo {α : Type} (r : RP α) (f : α → RSP) : RSP := match r with
  | .ok a => f a
  | _ => .stuck
@[simp] theorem okGo_ok {α : Type} {a : α} {f : α → RSP} : okGo (.ok a) f = f a := rfl
def itemX (G : GV) (t : T) (j : Nat) (b : E) (σ : SV) : RSP := match σ[j]? with
  | some (some p) => (evV G b σ).go σ fun k => okGo (ixOP p k) fun x => match asgV t x (if clo x = true then σ else σ.set j (some (fzD p))) with
    | some σ => .nx σ
    | none => .stuck
  | _ => .stuck
/-- the slots that a value may still share with: an in-out call has settled its own -/
def vR (G : GV) : E → List Nat
  | .call f es => match G.io f with
    | [] => vE (.call f es)
    | _ :: _ => []
  | e => vE e
def asgX (G : GV) (t : T) (e : E) (σ : SV) : RSP := match e with
  | .ix (.nm j) b => itemX G t j b σ
  | e => (evX G e σ).go fun x σ1 => tgtX G t x (settle (vR G e) x σ1)
def setX (G : GV) (i : Nat) (e : E) (σ : SV) : RSP := match e with
  | .ix (.nm j) b => itemX G (.nm i) j b σ
  | e => (evX G e σ).go fun x σ1 => .nx ((settle (vR G e) x σ1).set i (some x))
def killsV (σ : SV) : List Nat → SV
  | [] => σ
  | i :: is => (killsV σ is).set i none
def retX (G : GV) (e : E) (σ : SV) : RSP :=
  if wE G e = [] then if (vE e).Nodup ∧ ((vE e).all fun i => !G.mine.contains i) = true then (evM G e σ).go σ fun x => .rx x (killsV σ (vE e))
    else (evV G e σ).go σ fun x => .rx x (settle (vE e) x σ)
  else (evX G e σ).go fun x σ1 => .rx x (settle (vR G e) x σ1)
mutual
/-- slots of io are not assigned -/
def noasS (io : List Nat) : S → Bool
  | .asg t _ => (T.slots t).all fun i => !io.contains i
  | .set i _ => !io.contains i
  | .setLc i _ _ _ _ _ => !io.contains i
  | .par i j _ _ => !io.contains i && !io.contains j
  | .aug i _ _ => !io.contains i
  | .ife _ a b => noasSs io a && noasSs io b
  | .whl _ b => noasSs io b
  | .fr t _ b => ((T.slots t).all fun i => !io.contains i) && noasSs io b
  | .tryc i _ b h => (match i with | some i => !io.contains i | none => true) && (noasSs io b && noasSs io h)
  | .tryk i _ b j => !io.contains i && !io.contains j && noasSs io b
  | .fx s => noasS io s
  | _ => true
def noasSs (io : List Nat) : Ss → Bool
  | .nil => true
  | .cons s r => noasS io s && noasSs io r
end
/-- a loop over the owned list in slot j, which its body may not assign -/
def forO (body : PV → SV → RSP) (j : Nat) : Nat → Nat → SV → RSP
  | 0, _, _ => .stuck
  | f + 1, i, σ => match ownL σ j with
    | some qs => match qs[i]? with
      | some q => if flatP q = true then match body q σ with
          | .nx σ => forO body j f (i + 1) σ
          | .ct σ => forO body j f (i + 1) σ
          | .bk σ => .nx σ
          | r => r
        else .stuck
      | none => .nx σ
    | none => .stuck
mutual
def execV (G : GV) : S → SV → RSP
  | .expr e, σ => match e with
    | .me m (.nm i) (.cons (.me m2 (.nm j) es) .nil) => match ownL σ i, ownL σ j with
      | some k0, some l => if tyMP m (.lst true k0) = true ∧ popB m2 = true ∧ popB m = false then (evsV G es σ).go σ fun xs => match popP m2 l xs with
          | some (y, l') => match ownL (σ.set j (some (.lst true l'))) i with
            | some k => match mutP m k [y] with
              | some k' => .nx ((σ.set j (some (.lst true l'))).set i (some (.lst true k')))
              | none => .stuck
            | none => .stuck
          | none => .stuck
        else .stuck
      | _, _ => .stuck
    | .me m (.nm i) es => match ownL σ i with
      | some l => if tyMP m (.lst true l) = true then (evsV G es σ).go σ fun xs =>
        if popB m = true then match popP m l xs with
            | some (_, l') => .nx (σ.set i (some (.lst true l')))
            | none => .stuck
        else match ownL (settle (vEs es) (.tup xs) σ) i with
          | some l => match mutP m l xs with
            | some l' => .nx ((settle (vEs es) (.tup xs) σ).set i (some (.lst true l')))
            | none => .stuck
          | none => .stuck
        else .stuck
      | none => .stuck
    | .me m (.ix a b) es => match pathE (.ix a b) with
      | some (i, l) => match σ[i]? with
        | some (some p) => if (updP l some p).isSome = true ∧ tyMP m (.lst true []) = true then (evsV G es σ).go σ fun xs => if xs.all flatP = true then match updP l (fun q => mutP m q xs) p with
            | some p' => .nx (σ.set i (some p'))
            | none => .stuck
          else .stuck
          else .stuck
        | _ => .stuck
      | none => (evV G (.me m (.ix a b) es) σ).go σ fun _ => .nx σ
    | e => (evV G e σ).go σ fun _ => .nx σ
  | .asg t e, σ => match t, e with
    | .tup ts, .nm i => if shA σ i = true then asgE G (.tup ts) (.nm i) σ else moveE ts i σ
    | t, e => asgE G t e σ
  | .set i e, σ => match e with
    | .me m (.nm j) es => if popB m = true then match ownL σ j with
        | some l => (evsV G es σ).go σ fun xs => match popP m l xs with
          | some (y, l') => .nx ((σ.set j (some (.lst true l'))).set i (some y))
          | none => .stuck
        | none => .stuck
      else (evV G (.me m (.nm j) es) σ).go σ fun x => .nx ((settle (j :: vEs es) x σ).set i (some x))
    | e => (evV G e σ).go σ fun x => .nx ((settle (vE e) x σ).set i (some x))
  | .setLc i elt t it ifs own, σ => ((evIV G it σ).bind fun J => if J.1.length ≤ 16777216 ∧ J.1.length < G.N then (lcV (fun x => asgV t x (wipeV σ own)) (tstsV G ifs) (evV G elt) J.1).bind fun ys => .ok (.lst true ys) else .stuck).go σ
      fun x => .nx ((settle (vI it ++ (vBs ifs ++ vE elt)) x σ).set i (some x))
  | .par i j a b, σ => (evV G a σ).go σ fun x => (evV G b σ).go σ fun y => .nx (((settle (vE a ++ vE b) (.tup [x, y]) σ).set i (some x)).set j (some y))
  | .aug i o e, σ => match σ[i]? with
    | some (some x) => (evV G e σ).go σ fun y => (augP o x y).go σ fun z => .nx (σ.set i (some z))
    | _ => .stuck
  | .ret e, σ => match e with
    | .tup (.cons (.me m (.nm i) es) rest) => if popB m = true then match ownL σ i with
        | some l => if tyMP m (.lst true l) = true ∧ (vEs rest).Nodup then (evsV G es σ).go σ fun xs => match popP m l xs with
            | some (y, l') => (evMs G rest (σ.set i (some (.lst true l')))).go (σ.set i (some (.lst true l'))) fun ys => if ys.length + 1 ≤ 16777216 then .rt (.tup (y :: ys)) else .stuck
            | none => .stuck
          else .stuck
        | none => .stuck
      else (evR G (.tup (.cons (.me m (.nm i) es) rest)) σ).go σ fun x => .rt x
    | e => (evR G e σ).go σ fun x => .rt x
  | .ret0, _ => .rt .non
  | .ife t a b, σ => (tstV G t σ).go σ fun c => if c = true then execsV G a σ else execsV G b σ
  | .whl t b, σ => whlV (tstV G t) (execsV G b) G.N σ
  | .fr t it b, σ => (evIV G it σ).go σ fun J => if J.1.length < G.N then
      forV (frV (asgV t) (execsV G b)) J.1 (if J.2 = true ∧ clos J.1 = true then σ else frzS σ (vI it)) else .stuck
  | .augS a o j e, σ => match a with
    | .nm i => match σ[i]? with
      | some (some p) => (evV G j σ).go σ fun k => (getP p k).go σ fun y => (evV G e σ).go σ fun z => (augP o y z).go σ fun u => match setP p k u with
        | some p' => .nx (σ.set i (some p'))
        | none => .stuck
      | _ => .stuck
    | _ => .stuck
  | .any, _ => .stuck
  | .pass, σ => .nx σ
  | .brk, σ => .bk σ
  | .cont, σ => .ct σ
  | .raise d, σ => .exc d σ
  | .tryc i e b h, σ => tryV i e (fun d σ => execsV (G.heat d) h σ) (execsV G b σ)
  | .tryk i e b j, σ => tryK i j e (execsV G b σ)
  | .fx (.expr e), σ => (evX G e σ).go fun _ σ => .nx σ
  | .fx (.set i e), σ => setX G i e σ
  | .fx (.asg t e), σ => asgX G t e σ
  | .fx (.ret e), σ => retX G e σ
  | .fx .ret0, σ => .rx .non σ
  | .fx (.ife t a b), σ => (tstX G t σ).go fun c σ => if c = true then execsV G a σ else execsV G b σ
  | .fx (.whl t b), σ => whlX (tstX G t) (execsV G b) G.N σ
  | .fx (.fr t (.sq e) b), σ => match e with
    | .nm j => if (ownL σ j).isSome = true ∧ noasSs [j] b = true ∧ (T.slots t).contains j = false then forO (frV (asgV t) (execsV G b)) j G.N 0 σ else .stuck
    | e => (evX G e σ).go fun x σ => match x with
      | .tup xs => if xs.length < G.N ∧ clos (fzs xs) = true then forV (frV (asgV t) (execsV G b)) (fzs xs) σ else .stuck
      | _ => .stuck
  | .fx _, _ => .stuck
def execsV (G : GV) : Ss → SV → RSP
  | .nil, σ => .nx σ
  | .cons s r, σ => (execV G s σ).seq fun σ => execsV G r σ
end
def runV : RSP → RP PV
  | .nx _ => .ok .non
  | .rt v => .ok v
  | .exc c _ => .exc c
  | .bk _ => .stuck
  | .ct _ => .stuck
  | .stuck => .stuck
  | .rx p _ => .ok p
/-- what has become of the in-out parameters -/
def maskI (io : List Nat) : Nat → SV → SV
  | _, [] => []
  | i, x :: xs => (if io.contains i = true then x else none) :: maskI io (i + 1) xs
def finX (io : List Nat) (np : Nat) : RSP → RIO
  | .nx σ => .ok .non (maskI io 0 (σ.take np))
  | .rt p => if io = [] then .ok p (List.replicate np none) else .stuck
  | .rx p σ => .ok p (maskI io 0 (σ.take np))
  | .exc c σ => .exc c (maskI io 0 (σ.take np))
  | _ => .stuck
def gvm (P : Pg) (fx : Nat → List PV → RIO) (mine : List Nat) : GV := { fn := fun f ps => (fx f (fzs ps)).rp, N := P.N, gl := fun j => (P.gl j).bind toP, io := fun f => match P.fn f with | some d => d.io | none => [], fx := fx, mine := mine }
def callX (P : Pg) : Nat → Nat → List PV → RIO
  | 0, _, _ => .stuck
  | k + 1, f, ps => match P.fn f with
    | some d => if ps.length = d.np ∧ noasSs d.io d.body = true then finX d.io d.np (execsV (gvm P (callX P k) d.io) d.body (ps.map some ++ List.replicate (d.nl - d.np) none)) else .stuck
    | none => .stuck
def callV (P : Pg) (k f : Nat) (ps : List PV) : RP PV := (callX P k f (fzs ps)).rp
def gv (P : Pg) (k : Nat) : GV := gvm P (callX P k) []
end Fe
namespace Fe
open PySem PySem.Spec PyProof.Rows L2
abbrev HL := Nat → List Nat
def SRV (vh : VH) (σ : SSt) (σp : SV) (f o : HL) : Prop := σ.length = σp.length ∧ ∀ i, match σp[i]? with
  | some (some p) => ∃ v, σ[i]? = some (some v) ∧ R vh v p (f i) (o i)
  | _ => f i = [] ∧ o i = []
structure Sep (f o : HL) : Prop where
  nd : ∀ i, (o i).Nodup
  oo : ∀ i j, i ≠ j → ∀ n ∈ o i, n ∉ o j
  fo : ∀ i j, ∀ n ∈ o i, n ∉ f j
structure Inv (vh : VH) (σ : SSt) (σp : SV) (f o : HL) : Prop where
  sr : SRV vh σ σp f o
  sep : Sep f o
def Src (vh : VH) (f o : HL) (vs : List Nat) (n : Nat) : Prop := (∃ i ∈ vs, n ∈ f i ∨ n ∈ o i) ∨ vh.length ≤ n
def Ok1 (vh : VH) (f o : HL) (vs : List Nat) (vh' : VH) (v : VV) (p : PV) : Prop :=
  ∃ ft ot, R vh' v p ft ot ∧ ot.Nodup ∧ (∀ n ∈ ot, n ∉ ft) ∧ (∀ n ∈ ft, Src vh f o vs n) ∧ ∀ n ∈ ot, vh.length ≤ n
def Oks (vh : VH) (f o : HL) (vs : List Nat) (vh' : VH) (v : List VV) (p : List PV) : Prop :=
  ∃ ft ot, Rs vh' v p ft ot ∧ ot.Nodup ∧ (∀ n ∈ ot, n ∉ ft) ∧ (∀ n ∈ ft, Src vh f o vs n) ∧ ∀ n ∈ ot, vh.length ≤ n
/-- a result and its picture -/
def okX {α β : Type} (P : VH → α → β → Prop) (vh : VH) (r : RP β) (s : Res α) : Prop := match r with
  | .ok p => ∃ v vh', s = .ok v vh' ∧ Agr vh vh' ∧ P vh' v p
  | .exc c => ∃ (_ : Unit) (vh' : VH), s = .exc c none vh' ∧ Agr vh vh'
  | .stuck => True
theorem okX.bind {α β α' β' : Type} {P : VH → α → β → Prop} {P' : VH → α' → β' → Prop} {vh : VH} {r : RP β} {s : Res α} {g : β → RP β'} {h : α → VH → Res α'} (a : okX P vh r s)
    (k : ∀ v p vh1, Agr vh vh1 → P vh1 v p → okX P' vh1 (g p) (h v vh1)) : okX P' vh (r.bind g) (s.bind h) := by
  cases r with
  | ok p =>
    obtain ⟨v, vh1, rfl, ag, hp⟩ := a
    have := k v p vh1 ag hp
    simp only [RP.bind_ok, Res.bind_ok]
    cases e : g p with
    | ok q =>
      rw [e] at this
      obtain ⟨w, vh2, e2, ag2, hq⟩ := this
      exact ⟨w, vh2, e2, ag.trans ag2, hq⟩
    | exc c =>
      rw [e] at this
      obtain ⟨fs, vh2, e2, ag2⟩ := this
      exact ⟨fs, vh2, e2, ag.trans ag2⟩
    | stuck => trivial
  | exc c =>
    obtain ⟨fs, vh1, rfl, ag⟩ := a
    exact ⟨fs, vh1, rfl, ag⟩
  | stuck => trivial
theorem okX.imp {α β : Type} {P P' : VH → α → β → Prop} {vh : VH} {r : RP β} {s : Res α} (a : okX P vh r s) (k : ∀ vh' v p, Agr vh vh' → P vh' v p → P' vh' v p) : okX P' vh r s := by
  cases r with
  | ok p =>
    obtain ⟨v, vh1, e, ag, hp⟩ := a
    exact ⟨v, vh1, e, ag, k _ _ _ ag hp⟩
  | exc c => exact a
  | stuck => trivial
theorem okX.here {α β : Type} {P : VH → α → β → Prop} {vh : VH} {p : β} {v : α} (h : P vh v p) : okX P vh (.ok p) (.ok v vh) := ⟨v, vh, rfl, Agr.refl _, h⟩
theorem okX.ite {α β : Type} {P : VH → α → β → Prop} {vh : VH} {r : RP β} {s s' : Res α} {c : Prop} {i1 i2 : Decidable c} (k : c → okX P vh r s) : okX P vh (@ite _ c i1 r .stuck) (@ite _ c i2 s s') := by
  by_cases h : c
  · rw [if_pos h, if_pos h]; exact k h
  · rw [if_neg h]; trivial
section
variable {vh vh1 vh' : VH} {f o : HL} {vs ws : List Nat}
theorem Src.mono {n : Nat} (h : Src vh1 f o vs n) (l : vh.length ≤ vh1.length) (s : ∀ i ∈ vs, i ∈ ws) : Src vh f o ws n := by
  rcases h with ⟨i, hi, h⟩ | h
  · exact .inl ⟨i, s i hi, h⟩
  · exact .inr (Nat.le_trans l h)
theorem Ok1.mono {v : VV} {p : PV} (h : Ok1 vh1 f o vs vh' v p) (l : vh.length ≤ vh1.length) (s : ∀ i ∈ vs, i ∈ ws) : Ok1 vh f o ws vh' v p := by
  obtain ⟨ft, ot, h1, h2, h3, h4, h5⟩ := h
  exact ⟨ft, ot, h1, h2, h3, fun n hn => (h4 n hn).mono l s, fun n hn => Nat.le_trans l (h5 n hn)⟩
theorem Ok1.agr {vh2 : VH} {v : VV} {p : PV} (h : Ok1 vh f o vs vh' v p) (a : Agr vh' vh2) : Ok1 vh f o vs vh2 v p := by
  obtain ⟨ft, ot, h1, h2⟩ := h
  exact ⟨ft, ot, h1.agr a, h2⟩
theorem Ok1.sc {v : VV} {p : PV} (h : R vh' v p [] []) : Ok1 vh f o vs vh' v p := ⟨[], [], h, List.nodup_nil, by simp, by simp, by simp⟩
theorem Ok1.fz {v : VV} {p : PV} (h : Ok1 vh f o vs vh' v p) : ∃ f1, R vh' v (fz p) f1 [] ∧ ∀ n ∈ f1, Src vh f o vs n := by
  obtain ⟨ft, ot, h1, h2, h3, h4, h5⟩ := h
  obtain ⟨f1, k1, k2⟩ := h1.fz
  exact ⟨f1, k1, fun n hn => ((k2 n).mp hn).elim (h4 n) fun z => .inr (h5 n z)⟩
theorem Ok1.frz {v : VV} {p : PV} {f1 : List Nat} (h : R vh' v p f1 []) (k : ∀ n ∈ f1, Src vh f o vs n) : Ok1 vh f o vs vh' v p := ⟨f1, [], h, List.nodup_nil, by simp, k, by simp⟩
theorem Oks.fz {v : List VV} {p : List PV} (h : Oks vh f o vs vh' v p) : Fz vh' v (fzs p) (Src vh f o vs) := by
  obtain ⟨ft, ot, h1, h2, h3, h4, h5⟩ := h
  exact h1.toFz.imp fun n hn => hn.elim (h4 n) fun z => .inr (h5 n z)
theorem Oks.agr {vh2 : VH} {v : List VV} {p : List PV} (h : Oks vh f o vs vh' v p) (a : Agr vh' vh2) : Oks vh f o vs vh2 v p := by
  obtain ⟨ft, ot, h1, h2⟩ := h
  exact ⟨ft, ot, h1.agr a, h2⟩
theorem Oks.mono {v : List VV} {p : List PV} (h : Oks vh1 f o vs vh' v p) (l : vh.length ≤ vh1.length) (s : ∀ i ∈ vs, i ∈ ws) : Oks vh f o ws vh' v p := by
  obtain ⟨ft, ot, h1, h2, h3, h4, h5⟩ := h
  exact ⟨ft, ot, h1, h2, h3, fun n hn => (h4 n hn).mono l s, fun n hn => Nat.le_trans l (h5 n hn)⟩
theorem Oks.nil : Oks vh f o vs vh' [] [] := ⟨[], [], .nil, List.nodup_nil, by simp, by simp, by simp⟩
/-- one value, then others evaluated later -/
theorem Oks.cons {x : VV} {p : PV} {v : List VV} {ps : List PV} (bf : ∀ i n, n ∈ f i ∨ n ∈ o i → n < vh.length) (h : Ok1 vh f o vs vh1 x p) (a : Agr vh1 vh') (al : vh.length ≤ vh1.length) (t : Oks vh1 f o ws vh' v ps) : Oks vh f o (vs ++ ws) vh' (x :: v) (p :: ps) := by
  obtain ⟨ft, ot, h1, h2, h3, h4, h5⟩ := h
  obtain ⟨ft', ot', k1, k2, k3, k4, k5⟩ := t
  have l1 := h1.lt
  have l2 := h1.agr a
  refine ⟨ft ++ ft', ot ++ ot', .cons l2 k1, ?_, ?_, ?_, ?_⟩
  · refine List.nodup_append.mpr ⟨h2, k2, fun x hx y hy e => ?_⟩
    have z1 := l1.2 x hx
    have z2 := k5 y hy
    omega
  · intro n hn hm
    rcases List.mem_append.mp hn with hn | hn <;> rcases List.mem_append.mp hm with hm | hm
    · exact h3 n hn hm
    · have z1 := l1.2 n hn
      have z3 := h5 n hn
      rcases k4 n hm with ⟨i, _, z⟩ | z
      · have := bf i n z; omega
      · omega
    · have z1 := l1.1 n hm
      have z2 := k5 n hn
      omega
    · exact k3 n hn hm
  · intro n hn
    rcases List.mem_append.mp hn with hn | hn
    · exact (h4 n hn).mono (Nat.le_refl _) fun i hi => List.mem_append_left _ hi
    · exact (k4 n hn).mono al fun i hi => List.mem_append_right _ hi
  · intro n hn
    rcases List.mem_append.mp hn with hn | hn
    · exact h5 n hn
    · exact Nat.le_trans al (k5 n hn)
theorem Ok1.tup {v : List VV} {p : List PV} (h : Oks vh f o vs vh' v p) : Ok1 vh f o vs vh' (.tup v) (.tup p) := by
  obtain ⟨ft, ot, h1, h2⟩ := h
  exact ⟨ft, ot, .tup h1, h2⟩
theorem Ok1.newO {v : List VV} {p : List PV} (al : vh.length ≤ vh'.length) (h : Oks vh f o vs vh' v p) : Ok1 vh f o vs (vh' ++ [.lst v]) (.ref vh'.length) (.lst true p) := by
  obtain ⟨ft, ot, h1, h2, h3, h4, h5⟩ := h
  have l := h1.lt
  refine ⟨ft, vh'.length :: ot, .olst (by simp) (h1.agr (Agr.app _ _)), ?_, ?_, h4, ?_⟩
  · refine List.nodup_cons.mpr ⟨fun z => ?_, h2⟩
    have := l.2 _ z; omega
  · intro n hn hm
    rcases List.mem_cons.mp hn with rfl | hn
    · have := l.1 _ hm; omega
    · exact h3 n hn hm
  · intro n hn
    rcases List.mem_cons.mp hn with rfl | hn
    · exact al
    · exact h5 n hn
theorem Fz.oks {v : List VV} {p : List PV} (h : Fz vh' v p (Src vh f o vs)) : Oks vh f o vs vh' v p := by
  obtain ⟨f1, h1, h2⟩ := h
  exact ⟨f1, [], h1, List.nodup_nil, by simp, h2, by simp⟩
theorem okX.new {v : List VV} {p : List PV} (al : vh.length ≤ vh'.length) (h : Fz vh' v p (Src vh f o vs)) : okX (Ok1 vh f o vs) vh' (.ok (.lst true p)) (.ok (.ref vh'.length) (vh' ++ [.lst v])) := ⟨_, _, rfl, Agr.app _ _, Ok1.newO al h.oks⟩
theorem okX.tupF {v : List VV} {p : List PV} (h : Fz vh' v p (Src vh f o vs)) : okX (Ok1 vh f o vs) vh' (.ok (.tup p)) (.ok (.tup v) vh') := okX.here (Ok1.tup h.oks)
theorem okX.sc {v : VV} {p : PV} (h : R vh' v p [] []) : okX (Ok1 vh f o vs) vh' (.ok p) (.ok v vh') := okX.here (Ok1.sc h)
theorem lst_inv {v : VV} {b : Bool} {ps : List PV} (h : Ok1 vh f o vs vh' v (.lst b ps)) : ∃ n xs, v = .ref n ∧ vh'[n]? = some (.lst xs) ∧ Fz vh' xs (fzs ps) (Src vh f o vs) := by
  obtain ⟨ft, ot, h1, h2, h3, h4, h5⟩ := h
  cases h1 with
  | flst e r => exact ⟨_, _, rfl, e, r.toFz.imp fun n hn => hn.elim (fun z => h4 n (List.mem_cons_of_mem _ z)) (by simp)⟩
  | olst e r => exact ⟨_, _, rfl, e, r.toFz.imp fun n hn => hn.elim (h4 n) fun z => .inr (h5 n (List.mem_cons_of_mem _ z))⟩
theorem scr_inv {v : VV} {ps : List PV} (h : Ok1 vh f o vs vh' v (.scr ps)) : ∃ n xs, v = .ref n ∧ vh'[n]? = some (.rol xs) ∧ Fz vh' xs (fzs ps) (Src vh f o vs) := by
  obtain ⟨ft, ot, h1, h2, h3, h4, h5⟩ := h
  cases h1 with
  | scr e r => exact ⟨_, _, rfl, e, r.toFz.imp fun n hn => hn.elim (fun z => h4 n (List.mem_cons_of_mem _ z)) (by simp)⟩
theorem tup_inv {v : VV} {ps : List PV} (h : Ok1 vh f o vs vh' v (.tup ps)) : ∃ xs, v = .tup xs ∧ Fz vh' xs (fzs ps) (Src vh f o vs) := by
  obtain ⟨ft, ot, h1, h2, h3, h4, h5⟩ := h
  cases h1 with
  | tup r => exact ⟨_, rfl, r.toFz.imp fun n hn => hn.elim (h4 n) fun z => .inr (h5 n z)⟩
theorem dct_inv {v : VV} {b : Bool} {ks : List Key} {ps : List PV} (h : Ok1 vh f o vs vh' v (.dct b ks ps)) : ∃ n kvs, v = .ref n ∧ vh'[n]? = some (.dct kvs) ∧ kvs.map (·.1) = ks ∧ Fz vh' (kvs.map (·.2)) (fzs ps) (Src vh f o vs) := by
  obtain ⟨ft, ot, h1, h2, h3, h4, h5⟩ := h
  cases h1 with
  | fdct e r => exact ⟨_, _, rfl, e, rfl, r.toFz.imp fun n hn => hn.elim (fun z => h4 n (List.mem_cons_of_mem _ z)) (by simp)⟩
  | odct e r => exact ⟨_, _, rfl, e, rfl, r.toFz.imp fun n hn => hn.elim (h4 n) fun z => .inr (h5 n (List.mem_cons_of_mem _ z))⟩
theorem non_inv {v : VV} (h : Ok1 vh f o vs vh' v .non) : v = .non := by obtain ⟨ft, ot, h1, _⟩ := h; cases h1; rfl
theorem bl_inv {v : VV} {b : Bool} (h : Ok1 vh f o vs vh' v (.bl b)) : v = .bl b := by obtain ⟨ft, ot, h1, _⟩ := h; cases h1; rfl
theorem int_inv {v : VV} {b : Int} (h : Ok1 vh f o vs vh' v (.int b)) : v = .int b := by obtain ⟨ft, ot, h1, _⟩ := h; cases h1; rfl
theorem str_inv {v : VV} {b : Str} (h : Ok1 vh f o vs vh' v (.str b)) : v = .str b := by obtain ⟨ft, ot, h1, _⟩ := h; cases h1; rfl
theorem ls_inv {v : VV} {p : PV} {ps : List PV} (h : Ok1 vh f o vs vh' v p) (e : lsP p = some ps) : ∃ n xs, v = .ref n ∧ seqL vh' n = some xs ∧ Fz vh' xs (fzs ps) (Src vh f o vs) := by
  cases p with
  | lst b qs =>
    cases e
    obtain ⟨n, xs, rfl, h1, h2⟩ := lst_inv h
    exact ⟨n, xs, rfl, seqL_lst h1, h2⟩
  | scr qs =>
    cases e
    obtain ⟨n, xs, rfl, h1, h2⟩ := scr_inv h
    exact ⟨n, xs, rfl, seqL_rol h1, h2⟩
  | _ => cases e
theorem seq_inv {v : VV} {p : PV} {ps : List PV} (h : Ok1 vh f o vs vh' v p) (e : seqP p = some ps) : ∃ xs, seqV vh' v = some xs ∧ Fz vh' xs (fzs ps) (Src vh f o vs) := by
  cases p with
  | lst b qs =>
    obtain ⟨n, xs, rfl, h1, h2⟩ := ls_inv h e
    exact ⟨xs, h1, h2⟩
  | scr qs =>
    obtain ⟨n, xs, rfl, h1, h2⟩ := ls_inv h e
    exact ⟨xs, h1, h2⟩
  | tup qs =>
    cases e
    obtain ⟨xs, rfl, h2⟩ := tup_inv h
    exact ⟨xs, rfl, h2⟩
  | _ => cases e
theorem bin_ok (b : BO) {v u : VV} {p q : PV} (al : vh.length ≤ vh'.length) (hp : Ok1 vh f o vs vh' v p) (hq : Ok1 vh f o vs vh' u q) : okX (Ok1 vh f o vs) vh' (binP b p q) (sBin b v u vh') := by
  cases p with
  | int i =>
    have := int_inv hp; subst this
    cases q with
    | int j =>
      have := int_inv hq; subst this
      cases b <;> simp only [binP, sBin] <;> first | exact okX.sc (.int _) | (split <;> first | exact okX.sc (.int _) | trivial)
    | _ => cases b <;> trivial
  | str i =>
    have := str_inv hp; subst this
    cases q with
    | str j =>
      have := str_inv hq; subst this
      cases b <;> simp only [binP, sBin, lineZ] <;> first | trivial | exact okX.ite fun _ => okX.sc (.str _)
    | _ => cases b <;> trivial
  | lst b1 ps =>
    obtain ⟨n, xs, rfl, h1, h2⟩ := lst_inv hp
    cases q with
    | lst b2 qs =>
      obtain ⟨m, ys, rfl, k1, k2⟩ := lst_inv hq
      cases b with
      | add =>
        simp only [binP, sBin, h1, k1, lineZ]
        have e1 : xs.length = ps.length := by rw [h2.len, fzs_len]
        have e2 : ys.length = qs.length := by rw [k2.len, fzs_len]
        rw [e1, e2]
        exact okX.ite fun _ => okX.new al (h2.app k2)
      | _ => trivial
    | int k =>
      have := int_inv hq; subst this
      cases b with
      | mul =>
        simp only [binP, sBin, h1, lineZ]
        have e1 : xs.length = ps.length := by rw [h2.len, fzs_len]
        rw [e1]
        exact okX.ite fun _ => okX.new al (h2.rep _)
      | _ => trivial
    | _ => cases b <;> trivial
  | tup ps =>
    obtain ⟨xs, rfl, h2⟩ := tup_inv hp
    cases q with
    | tup qs =>
      obtain ⟨ys, rfl, k2⟩ := tup_inv hq
      cases b with
      | add =>
        simp only [binP, sBin, lineZ]
        have e1 : xs.length = ps.length := by rw [h2.len, fzs_len]
        have e2 : ys.length = qs.length := by rw [k2.len, fzs_len]
        have e3 : xs.isEmpty = ps.isEmpty := by cases xs <;> cases ps <;> simp_all
        have e4 : ys.isEmpty = qs.isEmpty := by cases ys <;> cases qs <;> simp_all
        rw [e1, e2, e3, e4]
        exact okX.ite fun _ => okX.tupF (h2.app k2)
      | _ => trivial
    | _ => cases b <;> trivial
  | _ => cases b <;> cases q <;> trivial
end
end Fe
namespace Fe
open PySem PySem.Spec PyProof.Rows L2
section
variable {vh vh1 vh' : VH} {f o : HL} {vs ws : List Nat}
mutual
theorem dat_eq : ∀ (k : Nat) {v : VV} {p : PV} {f o : List Nat}, R vh v p f o → dat vh k v = pdat k p
  | 0, _, _, _, _, _ => by simp [dat, pdat]
  | k + 1, _, _, _, _, .non => by simp [dat, pdat]
  | k + 1, _, _, _, _, .bl _ => by simp [dat, pdat]
  | k + 1, _, _, _, _, .int _ => by simp [dat, pdat]
  | k + 1, _, _, _, _, .str _ => by simp [dat, pdat]
  | k + 1, _, _, _, _, .tup h => by simp only [dat, pdat]; rw [dats_eq k h]
  | k + 1, _, _, _, _, .flst e h => by simp only [dat, pdat]; rw [seqL_lst e]; simp only; rw [dats_eq k h]
  | k + 1, _, _, _, _, .olst e h => by simp only [dat, pdat]; rw [seqL_lst e]; simp only; rw [dats_eq k h]
  | k + 1, _, _, _, _, .scr e h => by simp only [dat, pdat]; rw [seqL_rol e]; simp only; rw [dats_eq k h]
  | k + 1, _, _, _, _, .fdct e h => by simp only [dat, pdat]; simp [seqL, e]
  | k + 1, _, _, _, _, .exo e => by simp only [dat, pdat]; simp [seqL, e]
  | k + 1, _, _, _, _, .odct e h => by simp only [dat, pdat]; simp [seqL, e]
theorem dats_eq : ∀ (k : Nat) {v : List VV} {p : List PV} {f o : List Nat}, Rs vh v p f o → dats vh k v = pdats k p
  | k, _, _, _, _, .nil => by simp [dats, pdats]
  | k, _, _, _, _, .cons h t => by simp only [dats, pdats]; rw [dat_eq k h, dats_eq k t] <;> rfl
end
theorem scal_same {v u : VV} {p q : PV} {f1 o1 f2 o2 : List Nat} (h : R vh v p f1 o1) (k : R vh u q f2 o2) : scalV v u = scalP p q ∧ eqS v u = eqSP p q := by
  cases h <;> cases k <;> exact ⟨rfl, rfl⟩
theorem eq_same {v u : VV} {p q : PV} (hp : Ok1 vh f o vs vh' v p) (hq : Ok1 vh f o vs vh' u q) : eqD vh' v u = eqP p q := by
  obtain ⟨_, _, h1, _⟩ := hp
  obtain ⟨_, _, k1, _⟩ := hq
  obtain ⟨e1, e2⟩ := scal_same h1 k1
  unfold eqD eqP
  rw [e1, e2, dat_eq _ h1, dat_eq _ k1] <;> rfl
theorem flat_same {v : VV} {p : PV} {f1 o1 : List Nat} (h : R vh v p f1 o1) : flatVV v = flatP p := by cases h <;> rfl
theorem flats_same {v : List VV} {p : List PV} {f1 o1 : List Nat} (h : Rs vh v p f1 o1) : v.all flatVV = p.all flatP := by
  induction v generalizing p f1 o1 with
  | nil => cases h; rfl
  | cons x v ih => cases h with | cons a b => simp only [List.all_cons, flat_same a, ih b]
theorem eqF_same {v u : VV} {p q : PV} {f1 o1 f2 o2 : List Nat} (h : R vh v p f1 o1) (k : R vh u q f2 o2) : eqVV v u = eqFP p q := by cases h <;> cases k <;> rfl
theorem inF_same {x : VV} {q : PV} {f2 o2 : List Nat} (k : R vh x q f2 o2) {v : List VV} {p : List PV} {f1 o1 : List Nat} (h : Rs vh v p f1 o1) : inVV x v = inFP q p := by
  unfold inVV inFP
  induction v generalizing p f1 o1 with
  | nil => cases h; rfl
  | cons y v ih => cases h with | cons a b => simp only [List.any_cons, eqF_same a k, ih b]
theorem flats_fz (p : List PV) : (fzs p).all flatP = p.all flatP := by
  induction p with
  | nil => rfl
  | cons x p ih => simp only [fzs, List.all_cons, ih]; cases x <;> rfl
theorem inF_fz (x : PV) (p : List PV) : inFP x (fzs p) = inFP x p := by
  unfold inFP
  induction p with
  | nil => rfl
  | cons y p ih => simp only [fzs, List.any_cons, ih]; cases y <;> rfl
theorem key_same {v : VV} {p : PV} {f1 o1 : List Nat} (h : R vh v p f1 o1) : keyOf v = keyP p := by cases h <;> rfl
theorem look_same {fs : Nat → Prop} {k : Key} : ∀ {kvs : List (Key × VV)} {ps : List PV}, Fz vh (kvs.map (·.2)) ps fs → (lookK kvs k = none ∧ lookP (kvs.map (·.1)) ps k = none) ∨ ∃ x q f1, lookK kvs k = some x ∧ lookP (kvs.map (·.1)) ps k = some q ∧ R vh x q f1 [] ∧ ∀ n ∈ f1, fs n
  | [], ps, h => .inl ⟨rfl, rfl⟩
  | (a, x) :: kvs, [], h => by have := h.len; simp at this
  | (a, x) :: kvs, q :: ps, h => by
    obtain ⟨⟨f1, h1, h2⟩, t⟩ := h.cons_inv
    unfold lookP
    simp only [List.map_cons, List.zip_cons_cons]
    by_cases e : a = k
    · refine .inr ⟨x, q, f1, ?_, ?_, h1, h2⟩
      · unfold lookK; rw [List.find?_cons_of_pos (by simpa using e)]; rfl
      · unfold lookK; rw [List.find?_cons_of_pos (by simpa using e)]; rfl
    · have := look_same (k := k) t
      unfold lookP at this
      unfold lookK at this ⊢
      rw [List.find?_cons_of_neg (by simpa using e), List.find?_cons_of_neg (by simpa using e)]
      exact this
theorem look_fz (ks : List Key) (ps : List PV) (k : Key) : lookP ks (fzs ps) k = (lookP ks ps k).map fz := by
  unfold lookP lookK
  induction ks generalizing ps with
  | nil => rfl
  | cons a ks ih =>
    cases ps with
    | nil => rfl
    | cons x ps =>
      simp only [fzs, List.zip_cons_cons]
      by_cases e : a = k
      · rw [List.find?_cons_of_pos (by simpa using e), List.find?_cons_of_pos (by simpa using e)]; rfl
      · rw [List.find?_cons_of_neg (by simpa using e), List.find?_cons_of_neg (by simpa using e)]; exact ih ps
theorem in_same {v u : VV} {p q : PV} (hp : Ok1 vh f o vs vh' v p) (hq : Ok1 vh f o vs vh' u q) : inB vh' v u = inP p q := by
  have hp0 := hp
  obtain ⟨_, _, h1, _⟩ := hp
  cases q with
  | tup ps =>
    obtain ⟨xs, rfl, k, k1, k2⟩ := tup_inv hq
    simp only [inB, inP, flat_same h1, flats_same k1, inF_same h1 k1, flats_fz, inF_fz]
  | lst b ps =>
    obtain ⟨n, xs, rfl, e, k, k1, k2⟩ := lst_inv hq
    simp only [inB, inP, e, flat_same h1, flats_same k1, inF_same h1 k1, flats_fz, inF_fz]
  | scr ps =>
    obtain ⟨n, xs, rfl, e, k, k1, k2⟩ := scr_inv hq
    simp only [inB, inP, e, flat_same h1, flats_same k1, inF_same h1 k1, flats_fz, inF_fz]
  | str t =>
    have := str_inv hq; subst this
    cases h1 <;> rfl
  | dct b ks ps =>
    obtain ⟨n, kvs, rfl, e, rfl, k⟩ := dct_inv hq
    simp only [inB, inP, e, key_same h1]
    cases keyP p with
    | none => rfl
    | some kk =>
      simp only
      rcases look_same (k := kk) k with ⟨a, b⟩ | ⟨x, q, f1, a, b, _⟩
      · rw [look_fz] at b
        rw [a, Option.map_eq_none_iff.mp b]; rfl
      · rw [look_fz] at b
        obtain ⟨q', b1, b2⟩ := Option.map_eq_some_iff.mp b
        rw [a, b1]; rfl
  | non => have := non_inv hq; subst this; rfl
  | bl _ => have := bl_inv hq; subst this; rfl
  | int _ => have := int_inv hq; subst this; rfl
  | exo _ => obtain ⟨_, _, r, _⟩ := hq; cases r with | exo e => simp [inB, inP, e]
theorem ob_ok {r : Option Bool} : okX (Ok1 vh f o vs) vh' (obP r) (okB r vh') := by
  cases r with
  | none => trivial
  | some b => exact okX.sc (.bl b)
theorem isNon_same {v : VV} {p : PV} {f1 o1 : List Nat} (h : R vh v p f1 o1) : isNon v = isNonP p := by cases h <;> rfl
theorem cmp_ok (c : CO) {v u : VV} {p q : PV} (hp : Ok1 vh f o vs vh' v p) (hq : Ok1 vh f o vs vh' u q) : okX (Ok1 vh f o vs) vh' (cmpP c p q) (sCmp c v u vh') := by
  have ord : ∀ {g : Int → Int → Bool} {P : VV → VV → VH → Res VV} {P' : PV → PV → RP PV}, (∀ x y, P x y vh' = match x, y with | .int i, .int j => .ok (.bl (g i j)) vh' | _, _ => .stuck) → (∀ x y, P' x y = match x, y with | .int i, .int j => .ok (.bl (g i j)) | _, _ => .stuck) → okX (Ok1 vh f o vs) vh' (P' p q) (P v u vh') := by
    intro g P P' e1 e2
    rw [e1, e2]
    cases p with
    | int i =>
      have := int_inv hp; subst this
      cases q with
      | int j => have := int_inv hq; subst this; exact okX.sc (.bl _)
      | _ => trivial
    | _ => trivial
  cases c with
  | eq => simp only [cmpP, sCmp, eq_same hp hq]; exact ob_ok
  | ne => simp only [cmpP, sCmp, eq_same hp hq]; exact ob_ok
  | isin => simp only [cmpP, sCmp, in_same hp hq]; exact ob_ok
  | notin => simp only [cmpP, sCmp, in_same hp hq]; exact ob_ok
  | lt =>
    cases p with
    | int i =>
      have := int_inv hp; subst this
      cases q with
      | int j => have := int_inv hq; subst this; exact okX.sc (.bl _)
      | _ => trivial
    | str i =>
      have := str_inv hp; subst this
      cases q with
      | str j => have := str_inv hq; subst this; exact okX.sc (.bl _)
      | _ => trivial
    | _ => cases q <;> trivial
  | le => exact ord (P := sCmp .le) (P' := cmpP .le) (fun x y => by cases x <;> cases y <;> rfl) (fun x y => by cases x <;> cases y <;> rfl)
  | gt => exact ord (P := sCmp .gt) (P' := cmpP .gt) (fun x y => by cases x <;> cases y <;> rfl) (fun x y => by cases x <;> cases y <;> rfl)
  | ge => exact ord (P := sCmp .ge) (P' := cmpP .ge) (fun x y => by cases x <;> cases y <;> rfl) (fun x y => by cases x <;> cases y <;> rfl)
  | isn =>
    obtain ⟨_, _, h1, _⟩ := hp
    cases q with
    | non => have := non_inv hq; subst this; simp only [cmpP, sCmp, isNon_same h1]; exact okX.sc (.bl _)
    | _ => trivial
  | notn =>
    obtain ⟨_, _, h1, _⟩ := hp
    cases q with
    | non => have := non_inv hq; subst this; simp only [cmpP, sCmp, isNon_same h1]; exact okX.sc (.bl _)
    | _ => trivial
theorem atI_fz {xs : List VV} {ps : List PV} {fs : Nat → Prop} {i : Int} (h : Fz vh xs (fzs ps) fs) : (atI ps i = none ∨ ∃ p x f1, atI ps i = some p ∧ atI xs i = some x ∧ R vh x (fz p) f1 [] ∧ ∀ n ∈ f1, fs n) := by
  have el : xs.length = ps.length := by rw [h.len, fzs_len]
  unfold atI
  rw [el]
  cases e : ixN ps.length i with
  | none => exact .inl rfl
  | some j =>
    cases e2 : ps[j]? with
    | none => left; exact e2
    | some p =>
      right
      obtain ⟨x, f1, h1, h2, h3⟩ := h.get (i := j) (q := fz p) (by rw [fzs_get, e2]; rfl)
      exact ⟨p, x, f1, e2, h1, h2, h3⟩
theorem ixI_ok {xs : List VV} {ps : List PV} {u : VV} {q : PV} (h : Fz vh' xs (fzs ps) (Src vh f o vs)) (hq : Ok1 vh f o vs vh' u q) : okX (Ok1 vh f o vs) vh' (ooP (ixIP ps q)) (okO (ixI xs u) vh') := by
  cases q with
  | int i =>
    have := int_inv hq; subst this
    rcases atI_fz (i := i) h with e | ⟨p, x, f1, e1, e2, h1, h2⟩
    · simp only [ixIP, e]; trivial
    · simp only [ixIP, ixI, e1, e2]
      exact okX.here (Ok1.frz h1 h2)
  | _ => trivial
theorem ix_ok {v u : VV} {p q : PV} (hp : Ok1 vh f o vs vh' v p) (hq : Ok1 vh f o vs vh' u q) : okX (Ok1 vh f o vs) vh' (ixOP p q) (sIx v u vh') := by
  cases p with
  | tup ps =>
    obtain ⟨xs, rfl, k⟩ := tup_inv hp
    exact ixI_ok k hq
  | lst b ps =>
    obtain ⟨n, xs, rfl, e, k⟩ := lst_inv hp
    simp only [ixOP, sIx, e]
    exact ixI_ok k hq
  | scr ps =>
    obtain ⟨n, xs, rfl, e, k⟩ := scr_inv hp
    simp only [ixOP, sIx, e]
    exact ixI_ok k hq
  | str z =>
    have := str_inv hp; subst this
    simp only [ixOP, sIx, lineZ]
    refine okX.ite fun _ => ?_
    cases q with
    | int i =>
      have := int_inv hq; subst this
      simp only [ixI]
      cases atI z.cps.toList i with
      | none => trivial
      | some c => exact okX.sc (.str _)
    | _ => trivial
  | dct b ks ps =>
    obtain ⟨n, kvs, rfl, e, rfl, k⟩ := dct_inv hp
    obtain ⟨_, _, h1, _⟩ := hq
    simp only [ixOP, sIx, e, key_same h1]
    cases keyP q with
    | none => trivial
    | some kk =>
      simp only [Option.bind_some]
      rcases look_same (k := kk) k with ⟨a, b⟩ | ⟨x, q', f1, a, b, h3, h4⟩
      · rw [look_fz] at b
        rw [Option.map_eq_none_iff.mp b]; trivial
      · rw [look_fz] at b
        rw [a, b]
        exact okX.here (Ok1.frz h3 h4)
  | _ => trivial
theorem cutF {xs : List VV} {ps : List PV} {fs : Nat → Prop} (lo hi : Option Int) (h : Fz vh xs ps fs) : Fz vh (cutL xs lo hi) (cutL ps lo hi) fs := by
  unfold cutL
  rw [h.len]
  exact (h.drop _).take _
theorem slc_ok {v : VV} {p : PV} {lo hi : Option Int} (al : vh.length ≤ vh'.length) (hp : Ok1 vh f o vs vh' v p) : okX (Ok1 vh f o vs) vh' (slcP p lo hi) (sSlc v lo hi vh') := by
  cases p with
  | lst b ps =>
    obtain ⟨n, xs, rfl, e, k⟩ := lst_inv hp
    simp only [slcP, sSlc, seqL_lst e]
    exact okX.new al (cutF lo hi k)
  | scr ps =>
    obtain ⟨n, xs, rfl, e, k⟩ := scr_inv hp
    simp only [slcP, sSlc, seqL_rol e]
    exact okX.new al (cutF lo hi k)
  | tup ps =>
    obtain ⟨xs, rfl, k⟩ := tup_inv hp
    have el : xs.length = ps.length := by rw [k.len, fzs_len]
    simp only [slcP, sSlc, el]
    split
    · trivial
    · exact okX.tupF (cutF lo hi k)
  | _ => trivial
theorem tru_same {v : VV} {p : PV} (hp : Ok1 vh f o vs vh' v p) : truV v vh' = truP p := by
  cases p with
  | tup ps =>
    obtain ⟨xs, rfl, k⟩ := tup_inv hp
    have el := k.len
    simp only [truV, truP]
    cases xs <;> cases ps <;> simp_all
  | lst b ps =>
    obtain ⟨n, xs, rfl, e, k⟩ := lst_inv hp
    have el := k.len
    simp only [truV, truP, e]
    cases xs <;> cases ps <;> simp_all
  | scr ps =>
    obtain ⟨n, xs, rfl, e, k⟩ := scr_inv hp
    have el := k.len
    simp only [truV, truP, e]
    cases xs <;> cases ps <;> simp_all
  | dct b ks ps =>
    obtain ⟨n, kvs, rfl, e, rfl, k⟩ := dct_inv hp
    simp only [truV, truP, e]
    cases kvs <;> rfl
  | exo _ => obtain ⟨_, _, r, _⟩ := hp; cases r with | exo e => simp [truV, truP, e]
  | non => have := non_inv hp; subst this; rfl
  | bl _ => have := bl_inv hp; subst this; rfl
  | int _ => have := int_inv hp; subst this; rfl
  | str _ => have := str_inv hp; subst this; simp only [truV, truP, lineZ]; rfl
theorem ty_same {v : VV} {p : PV} {t : String} (hp : Ok1 vh f o vs vh' v p) : isiP p t = .stuck ∨ tyN v vh' = some (tyP p) ∧ isiP p t = .ok (.bl (subTy (tyP p) t)) := by
  obtain ⟨_, _, h1, _⟩ := hp
  cases h1 with
  | exo e => exact .inl rfl
  | _ => right; simp_all [tyN, tyP, isiP]
theorem ints_same {v : List VV} {p : List PV} {f1 o1 : List Nat} (h : Rs vh v p f1 o1) : allInts v = intsP p := by
  induction v generalizing p f1 o1 with
  | nil => cases h; rfl
  | cons x v ih => cases h with | cons a b => cases a <;> simp [ih b]
theorem bls_same {v : List VV} {p : List PV} {f1 o1 : List Nat} (h : Rs vh v p f1 o1) : allBls v = blsP p := by
  induction v generalizing p f1 o1 with
  | nil => cases h; rfl
  | cons x v ih => cases h with | cons a b => cases a <;> simp [ih b]
theorem strs_same {v : List VV} {p : List PV} {f1 o1 : List Nat} (h : Rs vh v p f1 o1) : allStrs v = strsP p := by
  induction v generalizing p f1 o1 with
  | nil => cases h; rfl
  | cons x v ih => cases h with | cons a b => cases a <;> simp [ih b]
theorem ints_fz (p : List PV) : intsP (fzs p) = intsP p := by
  induction p with
  | nil => rfl
  | cons x p ih => cases x <;> simp [ih]
theorem bls_fz (p : List PV) : blsP (fzs p) = blsP p := by
  induction p with
  | nil => rfl
  | cons x p ih => cases x <;> simp [ih]
theorem strs_fz (p : List PV) : strsP (fzs p) = strsP p := by
  induction p with
  | nil => rfl
  | cons x p ih => cases x <;> simp [ih]
theorem Oks.one_inv {v : List VV} {p : PV} (h : Oks vh f o vs vh' v [p]) : ∃ x, v = [x] ∧ Ok1 vh f o vs vh' x p := by
  obtain ⟨ft, ot, h1, h2⟩ := h
  cases h1 with
  | cons a b =>
    cases b
    exact ⟨_, rfl, _, _, a, by simpa using h2⟩
theorem Oks.nil_inv {v : List VV} (h : Oks vh f o vs vh' v []) : v = [] := by obtain ⟨_, _, h, _⟩ := h; cases h; rfl
theorem Oks.two_inv {v : List VV} {p q : PV} (h : Oks vh f o vs vh' v [p, q]) : ∃ x y, v = [x, y] ∧ Ok1 vh f o vs vh' x p ∧ Ok1 vh f o vs vh' y q := by
  obtain ⟨ft, ot, h1, h2, h3, h4, h5⟩ := h
  cases h1 with
  | cons a b =>
    cases b with
    | cons b c =>
      cases c
      simp only [List.append_nil, List.nodup_append, List.mem_append] at h2 h3 h4 h5
      exact ⟨_, _, rfl, ⟨_, _, a, h2.1, fun n hn hm => h3 n (.inl hn) (.inl hm), fun n hn => h4 n (.inl hn), fun n hn => h5 n (.inl hn)⟩, _, _, b, h2.2.1, fun n hn hm => h3 n (.inr hn) (.inr hm), fun n hn => h4 n (.inr hn), fun n hn => h5 n (.inr hn)⟩
theorem prs_fz : ∀ ps : List PV, prsP (fzs ps) = prsP ps
  | [] => rfl
  | p :: ps => by
    have ih := prs_fz ps
    cases p with
    | tup l =>
      match l with
      | [] => rfl
      | [a] => cases a <;> rfl
      | [a, b] => cases a <;> cases b <;> first | rfl | (simp only [fzs, fz, prsP]; rw [ih])
      | a :: b :: c :: l => cases a <;> cases b <;> rfl
    | _ => rfl
theorem prs_same {vh : VH} : ∀ {xs : List VV} {ps : List PV} {f o : List Nat}, Rs vh xs ps f o → allPrs xs = prsP ps
  | _, _, _, _, .nil => rfl
  | _, _, _, _, .cons r t => by
    have ih := prs_same t
    cases r with
    | tup q =>
      cases q with
      | nil => rfl
      | cons r1 q =>
        cases q with
        | nil => cases r1 <;> rfl
        | cons r2 q =>
          cases q with
          | nil => cases r1 <;> cases r2 <;> first | rfl | (simp only [allPrs, prsP]; rw [ih])
          | cons r3 q => cases r1 <;> cases r2 <;> rfl
    | _ => rfl
theorem Fz.maps {vh : VH} {α : Type} {f : α → VV} {g : α → PV} {fs : Nat → Prop} (h : ∀ a, R vh (f a) (g a) [] []) : ∀ l : List α, Fz vh (l.map f) (l.map g) fs
  | [] => Fz.nil
  | a :: l => Fz.cons (h a) (by simp) (Fz.maps h l)
theorem bi_ok (b : BI) {v : List VV} {p : List PV} (al : vh.length ≤ vh'.length) (hp : Oks vh f o vs vh' v p) : okX (Ok1 vh f o vs) vh' (biP b p) (sBI b v vh') := by
  have ll : ∀ {q : PV} {x : VV}, Ok1 vh f o vs vh' x q → ∀ {qs : List PV}, lsP q = some qs → ∃ n, x = .ref n ∧ ∃ xs, seqL vh' n = some xs ∧ allInts xs = intsP qs ∧ allBls xs = blsP qs ∧ allStrs xs = strsP qs := by
    intro q x h qs e
    obtain ⟨n, xs, rfl, h1, f1, h2, h3⟩ := ls_inv h e
    exact ⟨n, rfl, xs, h1, by rw [ints_same h2, ints_fz], by rw [bls_same h2, bls_fz], by rw [strs_same h2, strs_fz]⟩
  cases p with
  | nil => cases b <;> trivial
  | cons q ps =>
    cases ps with
    | nil =>
      obtain ⟨x, rfl, hx⟩ := hp.one_inv
      cases b with
      | len =>
        cases q with
        | str s => have := str_inv hx; subst this; simp only [biP, sBI, lineZ]; exact okX.ite fun _ => okX.sc (.int _)
        | tup ps =>
          obtain ⟨xs, rfl, k⟩ := tup_inv hx
          have el : xs.length = ps.length := by rw [k.len, fzs_len]
          simp only [biP, sBI, el]; exact okX.sc (.int _)
        | lst b ps =>
          obtain ⟨n, xs, rfl, e, k⟩ := lst_inv hx
          have el : xs.length = ps.length := by rw [k.len, fzs_len]
          simp only [biP, sBI, e, el]; exact okX.sc (.int _)
        | scr ps =>
          obtain ⟨n, xs, rfl, e, k⟩ := scr_inv hx
          have el : xs.length = ps.length := by rw [k.len, fzs_len]
          simp only [biP, sBI, e, el]; exact okX.sc (.int _)
        | dct b ks ps =>
          obtain ⟨n, kvs, rfl, e, rfl, k⟩ := dct_inv hx
          simp only [biP, sBI, e, List.length_map]; exact okX.sc (.int _)
        | _ => trivial
      | abs =>
        cases q with
        | int i => have := int_inv hx; subst this; exact okX.sc (.int _)
        | _ => trivial
      | int =>
        cases q with
        | int i => have := int_inv hx; subst this; exact okX.sc (.int _)
        | bl i => have := bl_inv hx; subst this; exact okX.sc (.int _)
        | _ => trivial
      | list =>
        simp only [biP, sBI]
        cases e : seqP q with
        | none => trivial
        | some qs =>
          obtain ⟨xs, e2, k⟩ := seq_inv hx e
          rw [e2]
          exact okX.new al k
      | tuple =>
        simp only [biP, sBI]
        cases e : seqP q with
        | none => trivial
        | some qs =>
          obtain ⟨xs, e2, k⟩ := seq_inv hx e
          rw [e2]
          exact okX.tupF k
      | sum =>
        simp only [biP]
        cases e : lsP q with
        | none => trivial
        | some qs =>
          obtain ⟨n, rfl, xs, e1, e2, e3, e4⟩ := ll hx e
          simp only [sBI, e1, e2]
          cases intsP qs with
          | none => trivial
          | some ns => exact okX.sc (.int _)
      | all =>
        simp only [biP]
        cases e : lsP q with
        | none => trivial
        | some qs =>
          obtain ⟨n, rfl, xs, e1, e2, e3, e4⟩ := ll hx e
          simp only [sBI, e1, e3]
          cases blsP qs with
          | none => trivial
          | some ns => exact okX.sc (.bl _)
      | any =>
        simp only [biP]
        cases e : lsP q with
        | none => trivial
        | some qs =>
          obtain ⟨n, rfl, xs, e1, e2, e3, e4⟩ := ll hx e
          simp only [sBI, e1, e3]
          cases blsP qs with
          | none => trivial
          | some ns => exact okX.sc (.bl _)
      | sorted =>
        simp only [biP]
        cases e : lsP q with
        | none => trivial
        | some qs =>
          obtain ⟨n, xs, rfl, e1, f1, e5, e6⟩ := ls_inv hx e
          have e2 : allInts xs = intsP qs := by rw [ints_same e5, ints_fz]
          have e3 : allPrs xs = prsP qs := by rw [prs_same e5, prs_fz]
          simp only [sBI, e1, e2, e3, srtdP]
          cases intsP qs with
          | some ns => exact okX.new al (Fz.maps (f := fun i => VV.int i) (g := fun i => PV.int i) (fun i => .int i) _)
          | none =>
            cases prsP qs with
            | none => trivial
            | some ps => exact okX.new al (Fz.maps (f := fun p : Int × Int => VV.tup [.int p.1, .int p.2]) (g := fun p : Int × Int => PV.tup [.int p.1, .int p.2]) (fun p => .tup (by simpa using Rs.cons (.int p.1) (Rs.cons (.int p.2) .nil))) _)
      | _ => cases q <;> trivial
    | cons r ps =>
      cases ps with
      | nil =>
        obtain ⟨x, y, rfl, hx, hy⟩ := hp.two_inv
        have mm : ∀ {g : Int → Int → Int} (b : BI), (∀ x y, sBI b [x, y] vh' = match x, y with | .int i, .int j => .ok (.int (g i j)) vh' | _, _ => .stuck) → (∀ x y, biP b [x, y] = match x, y with | .int i, .int j => .ok (.int (g i j)) | _, _ => .stuck) → okX (Ok1 vh f o vs) vh' (biP b [q, r]) (sBI b [x, y] vh') := by
          intro g b e1 e2
          rw [e1, e2]
          cases q with
          | int i =>
            have := int_inv hx; subst this
            cases r with
            | int j => have := int_inv hy; subst this; exact okX.sc (.int _)
            | _ => trivial
          | _ => trivial
        cases b with
        | min2 => exact mm .min2 (fun x y => by cases x <;> cases y <;> rfl) (fun x y => by cases x <;> cases y <;> rfl)
        | max2 => exact mm .max2 (fun x y => by cases x <;> cases y <;> rfl) (fun x y => by cases x <;> cases y <;> rfl)
        | _ => cases q <;> trivial
      | cons s ps => cases b <;> cases q <;> first | trivial | (cases r <;> trivial)
theorem me_ok (m : ME) {x : VV} {q : PV} {v : List VV} {p : List PV} (hx : Ok1 vh f o vs vh' x q) (hp : Oks vh f o vs vh' v p) : okX (Ok1 vh f o vs) vh' (meP m q p) (sME m x v vh') := by
  cases p with
  | nil => cases m <;> first | trivial | (cases q <;> trivial)
  | cons r ps =>
    cases ps with
    | nil =>
      obtain ⟨y, rfl, hy⟩ := hp.one_inv
      cases m with
      | count =>
        cases r with
        | int k =>
          have := int_inv hy; subst this
          simp only [meP]
          cases e : lsP q with
          | none => trivial
          | some qs =>
            obtain ⟨n, xs, rfl, h1, f1, h2, h3⟩ := ls_inv hx e
            simp only [sME, h1, ints_same h2, ints_fz]
            cases intsP qs with
            | none => trivial
            | some ns => exact okX.sc (.int _)
        | _ => cases lsP q <;> trivial
      | join =>
        cases q with
        | str a =>
          have := str_inv hx; subst this
          simp only [meP]
          cases e : lsP r with
          | none => trivial
          | some qs =>
            obtain ⟨n, xs, rfl, h1, f1, h2, h3⟩ := ls_inv hy e
            simp only [sME, h1, strs_same h2, strs_fz]
            cases strsP qs with
            | none => trivial
            | some ns => exact okX.ite fun _ => okX.sc (.str _)
        | _ => trivial
      | _ => trivial
    | cons s ps => cases m <;> first | trivial | (cases q <;> first | trivial | (cases r <;> trivial))
theorem tyM_same (m : ME) {x : VV} {q : PV} (hx : Ok1 vh f o vs vh' x q) : tyOk m x vh' = tyMP m q := by
  have l : isLst x vh' = (lsP q).isSome := by
    cases e : lsP q with
    | some qs =>
      obtain ⟨n, xs, rfl, h1, _⟩ := ls_inv hx e
      simp only [isLst, h1]; rfl
    | none =>
      obtain ⟨_, _, r, _⟩ := hx
      cases r with
      | flst e1 h => cases e
      | olst e1 h => cases e
      | scr e1 h => cases e
      | fdct e1 h => simp [isLst, seqL, e1]
      | odct e1 h => simp [isLst, seqL, e1]
      | exo e1 => simp [isLst, seqL, e1]
      | _ => rfl
  cases m with
  | join => obtain ⟨_, _, r, _⟩ := hx; cases r <;> rfl
  | setdef =>
    obtain ⟨_, _, r, _⟩ := hx
    cases r <;> first | rfl | (rename_i h1; simp [tyOk, isDct, h1, tyMP, isDctP]; done) | (rename_i h1 _; simp [tyOk, isDct, h1, tyMP, isDctP]; done) | (rename_i h1 h2; simp [tyOk, isDct, h1, tyMP, isDctP]; done) | (rename_i h1 h2 _; simp [tyOk, isDct, h1, h2, tyMP, isDctP]; done)
  | _ => exact l
end
end Fe
namespace Fe
open PySem PySem.Spec PyProof.Rows L2
def updL (f : HL) (i : Nat) (l : List Nat) : HL := fun j => if j = i then l else f j
theorem updL_same {f : HL} {i : Nat} {l : List Nat} : updL f i l i = l := by simp [updL]
theorem updL_ne {f : HL} {i j : Nat} {l : List Nat} (h : j ≠ i) : updL f i l j = f j := by simp [updL, h]
section
variable {vh vh1 vh' : VH} {f o : HL} {vs ws : List Nat} {σ : SSt} {σp : SV}
theorem Inv.lt (I : Inv vh σ σp f o) : ∀ i n, n ∈ f i ∨ n ∈ o i → n < vh.length := by
  intro i n h
  have := I.sr.2 i
  split at this
  · obtain ⟨v, _, r⟩ := this
    exact h.elim (r.lt.1 n) (r.lt.2 n)
  · obtain ⟨e1, e2⟩ := this
    rw [e1, e2] at h
    simp at h
theorem Inv.get (I : Inv vh σ σp f o) {i : Nat} {p : PV} (h : σp[i]? = some (some p)) : ∃ v, σ[i]? = some (some v) ∧ R vh v p (f i) (o i) := by
  have := I.sr.2 i
  rw [h] at this
  exact this
theorem Inv.same (I : Inv vh σ σp f o) (h : ∀ i n, n ∈ f i ∨ n ∈ o i → vh'[n]? = vh[n]?) : Inv vh' σ σp f o := by
  refine ⟨⟨I.sr.1, fun i => ?_⟩, I.sep⟩
  have := I.sr.2 i
  split at this
  · obtain ⟨v, e, r⟩ := this
    exact ⟨v, e, r.same fun n hn => h i n hn⟩
  · exact this
theorem Inv.agr (I : Inv vh σ σp f o) (a : Agr vh vh') : Inv vh' σ σp f o := I.same fun i n hn => by
  have hl := I.lt i n hn
  rw [a n _ (List.getElem?_eq_getElem hl), List.getElem?_eq_getElem hl]
/-- a slot is given a value -/
theorem Inv.set (I : Inv vh σ σp f o) (i : Nat) {x : VV} {p : PV} {fx ox : List Nat} (r : R vh x p fx ox) (nd : ox.Nodup) (d0 : ∀ n ∈ ox, n ∉ fx) (d1 : ∀ n ∈ ox, ∀ j, j ≠ i → n ∉ f j ∧ n ∉ o j) (d2 : ∀ j, j ≠ i → ∀ n ∈ o j, n ∉ fx) :
    ∃ f' o', Inv vh (σ.set i (some x)) (σp.set i (some p)) f' o' ∧ (∀ j, j ≠ i → f' j = f j ∧ o' j = o j) ∧ (∀ n, n ∈ f' i → n ∈ fx) ∧ ∀ n, n ∈ o' i → n ∈ ox := by
  have hl := I.sr.1
  by_cases hi : i < σp.length
  · refine ⟨updL f i fx, updL o i ox, ⟨⟨by simp [hl], fun j => ?_⟩, ⟨fun j => ?_, fun j k hjk n hn => ?_, fun j k n hn => ?_⟩⟩, fun j hj => ⟨updL_ne hj, updL_ne hj⟩, fun n hn => by rwa [updL_same] at hn, fun n hn => by rwa [updL_same] at hn⟩
    · by_cases e : j = i
      · subst e
        rw [List.getElem?_set_self hi]
        simp only [updL_same]
        exact ⟨x, by rw [List.getElem?_set_self (by omega)], r⟩
      · rw [List.getElem?_set_ne (fun z => e z.symm), List.getElem?_set_ne (fun z => e z.symm), updL_ne e, updL_ne e]
        exact I.sr.2 j
    · by_cases e : j = i
      · subst e; rw [updL_same]; exact nd
      · rw [updL_ne e]; exact I.sep.nd j
    · by_cases e : j = i
      · subst e
        rw [updL_same] at hn
        rw [updL_ne (fun z => hjk z.symm)]
        exact (d1 n hn k fun z => hjk z.symm).2
      · rw [updL_ne e] at hn
        by_cases e2 : k = i
        · subst e2
          rw [updL_same]
          exact fun z => (d1 n z j e).2 hn
        · rw [updL_ne e2]; exact I.sep.oo j k hjk n hn
    · by_cases e : j = i
      · subst e
        rw [updL_same] at hn
        by_cases e2 : k = j
        · subst e2; rw [updL_same]; exact d0 n hn
        · rw [updL_ne e2]; exact (d1 n hn k e2).1
      · rw [updL_ne e] at hn
        by_cases e2 : k = i
        · subst e2; rw [updL_same]; exact d2 j e n hn
        · rw [updL_ne e2]; exact I.sep.fo j k n hn
  · have e1 : σp.set i (some p) = σp := List.set_eq_of_length_le (by omega)
    have e2 : σ.set i (some x) = σ := List.set_eq_of_length_le (by omega)
    rw [e1, e2]
    have e3 := I.sr.2 i
    rw [List.getElem?_eq_none (by omega)] at e3
    simp only at e3
    exact ⟨f, o, I, fun j hj => ⟨rfl, rfl⟩, fun n hn => (by rw [e3.1] at hn; cases hn), fun n hn => (by rw [e3.2] at hn; cases hn)⟩
theorem Inv.unset (I : Inv vh σ σp f o) (i : Nat) : Inv vh (σ.set i none) (σp.set i none) (updL f i []) (updL o i []) := by
  have hl := I.sr.1
  refine ⟨⟨by simp [hl], fun j => ?_⟩, ⟨fun j => ?_, fun j k hjk n hn => ?_, fun j k n hn => ?_⟩⟩
  · by_cases e : j = i
    · subst e
      rw [updL_same, updL_same]
      by_cases hj : j < σp.length
      · rw [List.getElem?_set_self hj]; exact ⟨rfl, rfl⟩
      · rw [List.getElem?_eq_none (by simp; omega)]; exact ⟨rfl, rfl⟩
    · rw [List.getElem?_set_ne (fun z => e z.symm), List.getElem?_set_ne (fun z => e z.symm), updL_ne e, updL_ne e]
      exact I.sr.2 j
  · by_cases e : j = i
    · subst e; rw [updL_same]; exact List.nodup_nil
    · rw [updL_ne e]; exact I.sep.nd j
  · by_cases e : j = i
    · subst e; rw [updL_same] at hn; cases hn
    · rw [updL_ne e] at hn
      by_cases e2 : k = i
      · subst e2; rw [updL_same]; simp
      · rw [updL_ne e2]; exact I.sep.oo j k hjk n hn
  · by_cases e : j = i
    · subst e; rw [updL_same] at hn; cases hn
    · rw [updL_ne e] at hn
      by_cases e2 : k = i
      · subst e2; rw [updL_same]; simp
      · rw [updL_ne e2]; exact I.sep.fo j k n hn
theorem Inv.kill (I : Inv vh σ σp f o) (i : Nat) : Inv vh σ (σp.set i none) (updL f i []) (updL o i []) := by
  have J := I.unset i
  refine ⟨⟨by simp [I.sr.1], fun j => ?_⟩, J.sep⟩
  by_cases e : j = i
  · subst e
    rw [updL_same, updL_same]
    by_cases hj : j < σp.length
    · rw [List.getElem?_set_self hj]; exact ⟨rfl, rfl⟩
    · rw [List.getElem?_eq_none (by simp; omega)]; exact ⟨rfl, rfl⟩
  · rw [List.getElem?_set_ne (fun z => e z.symm), updL_ne e, updL_ne e]
    exact I.sr.2 j
theorem Inv.wipe (I : Inv vh σ σp f o) : ∀ ws : List Nat, ∃ f' o', Inv vh (wipeS σ ws) (wipeV σp ws) f' o' ∧ (∀ j n, n ∈ f' j → n ∈ f j) ∧ ∀ j n, n ∈ o' j → n ∈ o j
  | [] => ⟨f, o, I, fun _ _ h => h, fun _ _ h => h⟩
  | w :: ws => by
    obtain ⟨f', o', I', h1, h2⟩ := Inv.wipe I ws
    refine ⟨_, _, I'.unset w, fun j n hn => ?_, fun j n hn => ?_⟩
    · by_cases e : j = w
      · subst e; rw [updL_same] at hn; cases hn
      · rw [updL_ne e] at hn; exact h1 j n hn
    · by_cases e : j = w
      · subst e; rw [updL_same] at hn; cases hn
      · rw [updL_ne e] at hn; exact h2 j n hn
/-- slots frozen -/
theorem Inv.frz (I : Inv vh σ σp f o) : ∀ ws : List Nat, ∃ f' o', Inv vh σ (frzS σp ws) f' o' ∧ (∀ j ∈ ws, o' j = []) ∧ (∀ j n, n ∈ f' j → n ∈ f j ∨ n ∈ o j) ∧ ∀ j n, n ∈ o' j → n ∈ o j
  | [] => ⟨f, o, I, by simp, fun _ _ h => .inl h, fun _ _ h => h⟩
  | w :: ws => by
    obtain ⟨f', o', I', h0, h1, h2⟩ := Inv.frz I ws
    simp only [frzS]
    split
    · rename_i p e
      obtain ⟨v, e1, r⟩ := I'.get e
      obtain ⟨f1, r1, k1⟩ := r.fz
      obtain ⟨f2, o2, I2, a1, a2, a3⟩ := I'.set w r1 List.nodup_nil (by simp) (by simp) (fun j hj n hn hm => by
        rcases (k1 n).mp hm with z | z
        · exact I'.sep.fo j w n hn z
        · exact I'.sep.oo j w hj n hn z)
      have e3 : σ.set w (some v) = σ := by
        apply List.ext_getElem?
        intro j
        by_cases e4 : w = j
        · subst e4
          rw [List.getElem?_set_self (List.getElem?_eq_some_iff.mp e1).1, e1]
        · rw [List.getElem?_set_ne e4]
      rw [e3] at I2
      refine ⟨f2, o2, I2, fun j hj => ?_, fun j n hn => ?_, fun j n hn => ?_⟩
      · by_cases e4 : j = w
        · subst e4
          exact List.eq_nil_iff_forall_not_mem.mpr fun n hn => by have := a3 n hn; cases this
        · rw [(a1 j e4).2]
          exact h0 j ((List.mem_cons.mp hj).resolve_left e4)
      · by_cases e4 : j = w
        · subst e4
          rcases (k1 n).mp (a2 n hn) with z | z
          · exact h1 j n z
          · exact .inr (h2 j n z)
        · rw [(a1 j e4).1] at hn; exact h1 j n hn
      · by_cases e4 : j = w
        · subst e4; have := a3 n hn; cases this
        · rw [(a1 j e4).2] at hn; exact h2 j n hn
    · rename_i e
      refine ⟨f', o', I', fun j hj => ?_, h1, h2⟩
      rcases List.mem_cons.mp hj with rfl | hj
      · have := I'.sr.2 j
        split at this
        · rename_i p e2; exact absurd e2 (e p)
        · exact this.2
      · exact h0 j hj
theorem seqR {x : VV} {p : PV} {fx ox : List Nat} {ps : List PV} (r : R vh x p fx ox) (e : seqP p = some ps) : ∃ xs f1 o1, seqV vh x = some xs ∧ Rs vh xs ps f1 o1 ∧ (∀ n ∈ f1, n ∈ fx) ∧ List.Sublist o1 ox := by
  cases r with
  | tup h => cases e; exact ⟨_, _, _, rfl, h, fun _ h => h, List.Sublist.refl _⟩
  | flst e1 h => cases e; exact ⟨_, _, _, seqL_lst e1, h, fun _ h => List.mem_cons_of_mem _ h, List.Sublist.refl _⟩
  | olst e1 h => cases e; exact ⟨_, _, _, seqL_lst e1, h, fun _ h => h, List.sublist_cons_self _ _⟩
  | scr e1 h => cases e; exact ⟨_, _, _, seqL_rol e1, h, fun _ h => List.mem_cons_of_mem _ h, List.Sublist.refl _⟩
  | _ => cases e
end
mutual
theorem asg_ok (G : Gam) : ∀ (t : T) {vh : VH} {f o : HL} {σ : SSt} {σp σp' : SV} {x : VV} {p : PV} {fx ox : List Nat}, Inv vh σ σp f o → R vh x p fx ox → ox.Nodup → (∀ n ∈ ox, n ∉ fx) → (∀ n ∈ ox, ∀ j, n ∉ f j ∧ n ∉ o j) → (∀ j, ∀ n ∈ o j, n ∉ fx) → asgV t p σp = some σp' →
    ∃ σ' f' o', asgT G t x σ vh = .nx σ' vh ∧ Inv vh σ' σp' f' o' ∧ (∀ j n, n ∈ f' j → n ∈ f j ∨ n ∈ fx) ∧ ∀ j n, n ∈ o' j → n ∈ o j ∨ n ∈ ox
  | .nm i, vh, f, o, σ, σp, σp', x, p, fx, ox, I, r, nd, d0, d1, d2, e => by
    simp only [asgV, Option.some.injEq] at e
    subst e
    obtain ⟨f', o', I', a1, a2, a3⟩ := I.set i r nd d0 (fun n hn j _ => d1 n hn j) (fun j _ => d2 j)
    refine ⟨_, f', o', rfl, I', fun j n hn => ?_, fun j n hn => ?_⟩
    · by_cases e : j = i
      · subst e; exact .inr (a2 n hn)
      · rw [(a1 j e).1] at hn; exact .inl hn
    · by_cases e : j = i
      · subst e; exact .inr (a3 n hn)
      · rw [(a1 j e).2] at hn; exact .inl hn
  | .tup ts, vh, f, o, σ, σp, σp', x, p, fx, ox, I, r, nd, d0, d1, d2, e => by
    simp only [asgV] at e
    split at e
    · rename_i ps e1
      split at e
      · rename_i hl
        obtain ⟨xs, f1, o1, h1, h2, h3, h4⟩ := seqR r e1
        obtain ⟨σ', f', o', b1, b2, b3, b4⟩ := asgs_ok G ts I h2 (h4.nodup nd) (fun n hn hm => d0 n (h4.subset hn) (h3 n hm)) (fun n hn j => d1 n (h4.subset hn) j) (fun j n hn hm => d2 j n hn (h3 n hm)) e
        refine ⟨σ', f', o', ?_, b2, fun j n hn => (b3 j n hn).imp_right (h3 n), fun j n hn => (b4 j n hn).imp_right fun z => h4.subset z⟩
        simp only [asgT, h1]
        rw [if_pos (by rw [h2.len]; exact hl)]
        exact b1
      · cases e
    · cases e
  | .sub a b, vh, f, o, σ, σp, σp', x, p, fx, ox, I, r, nd, d0, d1, d2, e => by simp [asgV, asgVs] at e
theorem asgs_ok (G : Gam) : ∀ (t : Ts) {vh : VH} {f o : HL} {σ : SSt} {σp σp' : SV} {x : List VV} {p : List PV} {fx ox : List Nat}, Inv vh σ σp f o → Rs vh x p fx ox → ox.Nodup → (∀ n ∈ ox, n ∉ fx) → (∀ n ∈ ox, ∀ j, n ∉ f j ∧ n ∉ o j) → (∀ j, ∀ n ∈ o j, n ∉ fx) → asgVs t p σp = some σp' →
    ∃ σ' f' o', asgTs G t x σ vh = .nx σ' vh ∧ Inv vh σ' σp' f' o' ∧ (∀ j n, n ∈ f' j → n ∈ f j ∨ n ∈ fx) ∧ ∀ j n, n ∈ o' j → n ∈ o j ∨ n ∈ ox
  | .nil, vh, f, o, σ, σp, σp', _, _, _, _, I, .nil, nd, d0, d1, d2, e => by
    simp only [asgVs, Option.some.injEq] at e
    subst e
    exact ⟨σ, f, o, rfl, I, fun _ _ h => .inl h, fun _ _ h => .inl h⟩
  | .nil, vh, f, o, σ, σp, σp', _, _, _, _, I, .cons _ _, nd, d0, d1, d2, e => by simp [asgV, asgVs] at e
  | .cons _ _, vh, f, o, σ, σp, σp', _, _, _, _, I, .nil, nd, d0, d1, d2, e => by simp [asgV, asgVs] at e
  | .cons t ts, vh, f, o, σ, σp, σp', _, _, _, _, I, .cons (f1 := f1) (o1 := o1) (f2 := f2) (o2 := o2) r rs, nd, d0, d1, d2, e => by
    simp only [asgVs, Option.bind_eq_some_iff] at e
    obtain ⟨σ1, e1, e2⟩ := e
    obtain ⟨n1, n2, n3⟩ := List.nodup_append.mp nd
    obtain ⟨σ', f', o', b1, b2, b3, b4⟩ := asg_ok G t I r n1 (fun n hn hm => d0 n (List.mem_append_left _ hn) (List.mem_append_left _ hm)) (fun n hn j => d1 n (List.mem_append_left _ hn) j) (fun j n hn hm => d2 j n hn (List.mem_append_left _ hm)) e1
    obtain ⟨σ'', f'', o'', c1, c2, c3, c4⟩ := asgs_ok G ts b2 rs n2 (fun n hn hm => d0 n (List.mem_append_right _ hn) (List.mem_append_right _ hm))
      (fun n hn j => ⟨fun z => by
        rcases b3 j n z with z | z
        · exact (d1 n (List.mem_append_right _ hn) j).1 z
        · exact d0 n (List.mem_append_right _ hn) (List.mem_append_left _ z), fun z => by
        rcases b4 j n z with z | z
        · exact (d1 n (List.mem_append_right _ hn) j).2 z
        · exact n3 n z n hn rfl⟩)
      (fun j n hn hm => by
        rcases b4 j n hn with z | z
        · exact d2 j n z (List.mem_append_right _ hm)
        · exact d0 n (List.mem_append_left _ z) (List.mem_append_right _ hm)) e2
    refine ⟨σ'', f'', o'', by simp only [asgTs, b1, RS.seq_nx, c1], c2, fun j n hn => ?_, fun j n hn => ?_⟩
    · rcases c3 j n hn with z | z
      · exact (b3 j n z).imp_right fun z => List.mem_append_left _ z
      · exact .inr (List.mem_append_right _ z)
    · rcases c4 j n hn with z | z
      · exact (b4 j n z).imp_right fun z => List.mem_append_left _ z
      · exact .inr (List.mem_append_right _ z)
end
/-- a def and its picture -/
def FnV (F : List VV → VH → Res VV) (V : List PV → RP PV) : Prop := ∀ (vh : VH) (xs : List VV) (ps : List PV) (fs : List Nat), Rs vh xs ps fs [] →
  okX (fun vh' v p => ∃ ft ot, R vh' v p ft ot ∧ ot.Nodup ∧ (∀ n ∈ ot, n ∉ ft) ∧ (∀ n ∈ ft, n ∈ fs ∨ vh.length ≤ n) ∧ ∀ n ∈ ot, vh.length ≤ n) vh (V ps) (F xs vh)
structure GOk (G : Gam) (V : GV) : Prop where
  fn : ∀ g, FnV (G.fn g) (V.fn g)
  gl : ∀ j p, V.gl j = some p → ∃ v, G.gl j = some v ∧ ∀ vh : VH, R vh v p [] []
/-- what is walked, and its picture -/
def ItP (vh : VH) (f o : HL) (vs : List Nat) (vh' : VH) (it : Ito) (J : List PV × Bool) : Prop :=
  ∃ pr : List Nat, (∀ vh'' : VH, (∀ n ∈ pr, vh''[n]? = vh'[n]?) → (∀ i p, J.1[i]? = some p → ∃ x, it.nx i vh'' = some (some x) ∧ ∃ f1, R vh'' x p f1 [] ∧ ∀ n ∈ f1, n ∈ pr) ∧ it.nx J.1.length vh'' = some none) ∧
    (∀ n ∈ pr, n < vh'.length) ∧ (∀ n ∈ pr, Src vh f o vs n) ∧ (J.2 = true → clos J.1 = true → ∀ n ∈ pr, vh.length ≤ n)
end Fe
namespace Fe
open PySem PySem.Spec PyProof.Rows L2
section
variable {vh vh1 vh' : VH} {f o : HL} {vs ws : List Nat} {σ : SSt} {σp : SV}
theorem SRV.lt (I : SRV vh σ σp f o) : ∀ i n, n ∈ f i ∨ n ∈ o i → n < vh.length := by
  intro i n h
  have := I.2 i
  split at this
  · obtain ⟨v, _, r⟩ := this
    exact h.elim (r.lt.1 n) (r.lt.2 n)
  · obtain ⟨e1, e2⟩ := this
    rw [e1, e2] at h
    simp at h
theorem SRV.get (I : SRV vh σ σp f o) {i : Nat} {p : PV} (h : σp[i]? = some (some p)) : ∃ v, σ[i]? = some (some v) ∧ R vh v p (f i) (o i) := by
  have := I.2 i
  rw [h] at this
  exact this
theorem SRV.same (I : SRV vh σ σp f o) (h : ∀ i n, n ∈ f i ∨ n ∈ o i → vh'[n]? = vh[n]?) : SRV vh' σ σp f o := by
  refine ⟨I.1, fun i => ?_⟩
  have := I.2 i
  split at this
  · obtain ⟨v, e, r⟩ := this
    exact ⟨v, e, r.same fun n hn => h i n hn⟩
  · exact this
theorem SRV.agr (I : SRV vh σ σp f o) (a : Agr vh vh') : SRV vh' σ σp f o := I.same fun i n hn => by
  have hl := I.lt i n hn
  rw [a n _ (List.getElem?_eq_getElem hl), List.getElem?_eq_getElem hl]
theorem SRV.set (I : SRV vh σ σp f o) (i : Nat) {x : VV} {p : PV} {fx : List Nat} (r : R vh x p fx []) :
    ∃ f' o', SRV vh (σ.set i (some x)) (σp.set i (some p)) f' o' ∧ (∀ j n, n ∈ f' j → n ∈ f j ∨ n ∈ fx) ∧ ∀ j n, n ∈ o' j → n ∈ o j := by
  have hl := I.1
  by_cases hi : i < σp.length
  · refine ⟨updL f i fx, updL o i [], ⟨by simp [hl], fun j => ?_⟩, fun j n hn => ?_, fun j n hn => ?_⟩
    · by_cases e : j = i
      · subst e
        rw [List.getElem?_set_self hi]
        simp only [updL_same]
        exact ⟨x, by rw [List.getElem?_set_self (by omega)], r⟩
      · rw [List.getElem?_set_ne (fun z => e z.symm), List.getElem?_set_ne (fun z => e z.symm), updL_ne e, updL_ne e]
        exact I.2 j
    · by_cases e : j = i
      · subst e; rw [updL_same] at hn; exact .inr hn
      · rw [updL_ne e] at hn; exact .inl hn
    · by_cases e : j = i
      · subst e; rw [updL_same] at hn; cases hn
      · rw [updL_ne e] at hn; exact hn
  · have e1 : σp.set i (some p) = σp := List.set_eq_of_length_le (by omega)
    have e2 : σ.set i (some x) = σ := List.set_eq_of_length_le (by omega)
    rw [e1, e2]
    exact ⟨f, o, I, fun j n hn => .inl hn, fun j n hn => hn⟩
theorem SRV.unset (I : SRV vh σ σp f o) (i : Nat) : SRV vh (σ.set i none) (σp.set i none) (updL f i []) (updL o i []) := by
  have hl := I.1
  refine ⟨by simp [hl], fun j => ?_⟩
  by_cases e : j = i
  · subst e
    rw [updL_same, updL_same]
    by_cases hj : j < σp.length
    · rw [List.getElem?_set_self hj]; exact ⟨rfl, rfl⟩
    · rw [List.getElem?_eq_none (by simp; omega)]; exact ⟨rfl, rfl⟩
  · rw [List.getElem?_set_ne (fun z => e z.symm), List.getElem?_set_ne (fun z => e z.symm), updL_ne e, updL_ne e]
    exact I.2 j
theorem SRV.wipe (I : SRV vh σ σp f o) : ∀ ws : List Nat, ∃ f' o', SRV vh (wipeS σ ws) (wipeV σp ws) f' o' ∧ (∀ j n, n ∈ f' j → n ∈ f j) ∧ ∀ j n, n ∈ o' j → n ∈ o j
  | [] => ⟨f, o, I, fun _ _ h => h, fun _ _ h => h⟩
  | w :: ws => by
    obtain ⟨f', o', I', h1, h2⟩ := SRV.wipe I ws
    refine ⟨_, _, I'.unset w, fun j n hn => ?_, fun j n hn => ?_⟩
    · by_cases e : j = w
      · subst e; rw [updL_same] at hn; cases hn
      · rw [updL_ne e] at hn; exact h1 j n hn
    · by_cases e : j = w
      · subst e; rw [updL_same] at hn; cases hn
      · rw [updL_ne e] at hn; exact h2 j n hn
end
mutual
theorem asgF_ok (G : Gam) : ∀ (t : T) {vh : VH} {f o : HL} {σ : SSt} {σp σp' : SV} {x : VV} {p : PV} {fx : List Nat}, SRV vh σ σp f o → R vh x p fx [] → asgV t p σp = some σp' →
    ∃ σ' f' o', asgT G t x σ vh = .nx σ' vh ∧ SRV vh σ' σp' f' o' ∧ (∀ j n, n ∈ f' j → n ∈ f j ∨ n ∈ fx) ∧ ∀ j n, n ∈ o' j → n ∈ o j
  | .nm i, vh, f, o, σ, σp, σp', x, p, fx, I, r, e => by
    simp only [asgV, Option.some.injEq] at e
    subst e
    obtain ⟨f', o', I', a1, a2⟩ := I.set i r
    exact ⟨_, f', o', rfl, I', a1, a2⟩
  | .tup ts, vh, f, o, σ, σp, σp', x, p, fx, I, r, e => by
    simp only [asgV] at e
    split at e
    · rename_i ps e1
      split at e
      · rename_i hl
        obtain ⟨xs, f1, o1, h1, h2, h3, h4⟩ := seqR r e1
        have := List.sublist_nil.mp h4
        subst this
        obtain ⟨σ', f', o', b1, b2, b3, b4⟩ := asgsF_ok G ts I h2 e
        refine ⟨σ', f', o', ?_, b2, fun j n hn => (b3 j n hn).imp_right (h3 n), b4⟩
        simp only [asgT, h1]
        rw [if_pos (by rw [h2.len]; exact hl)]
        exact b1
      · cases e
    · cases e
  | .sub a b, vh, f, o, σ, σp, σp', x, p, fx, I, r, e => by simp [asgV, asgVs] at e
theorem asgsF_ok (G : Gam) : ∀ (t : Ts) {vh : VH} {f o : HL} {σ : SSt} {σp σp' : SV} {x : List VV} {p : List PV} {fx : List Nat}, SRV vh σ σp f o → Rs vh x p fx [] → asgVs t p σp = some σp' →
    ∃ σ' f' o', asgTs G t x σ vh = .nx σ' vh ∧ SRV vh σ' σp' f' o' ∧ (∀ j n, n ∈ f' j → n ∈ f j ∨ n ∈ fx) ∧ ∀ j n, n ∈ o' j → n ∈ o j
  | .nil, vh, f, o, σ, σp, σp', [], [], fx, I, r, e => by
    simp only [asgVs, Option.some.injEq] at e
    subst e
    exact ⟨σ, f, o, rfl, I, fun _ _ h => .inl h, fun _ _ h => h⟩
  | .nil, vh, f, o, σ, σp, σp', [], _ :: _, fx, I, r, e => by simp [asgV, asgVs] at e
  | .nil, vh, f, o, σ, σp, σp', _ :: _, [], fx, I, r, e => by have := r.len; simp at this
  | .nil, vh, f, o, σ, σp, σp', _ :: _, _ :: _, fx, I, r, e => by simp [asgV, asgVs] at e
  | .cons _ _, vh, f, o, σ, σp, σp', _, [], fx, I, r, e => by simp [asgV, asgVs] at e
  | .cons _ _, vh, f, o, σ, σp, σp', [], _ :: _, fx, I, r, e => by have := r.len; simp at this
  | .cons t ts, vh, f, o, σ, σp, σp', x :: xs, p :: ps, fx, I, r, e => by
    simp only [asgVs, Option.bind_eq_some_iff] at e
    obtain ⟨σ1, e1, e2⟩ := e
    obtain ⟨⟨f1, r1, k1⟩, f2, r2, k2⟩ := (show Fz vh (x :: xs) (p :: ps) (· ∈ fx) from ⟨fx, r, fun _ h => h⟩).cons_inv
    obtain ⟨σ', f', o', b1, b2, b3, b4⟩ := asgF_ok G t I r1 e1
    obtain ⟨σ'', f'', o'', c1, c2, c3, c4⟩ := asgsF_ok G ts b2 r2 e2
    refine ⟨σ'', f'', o'', by simp only [asgTs, b1, RS.seq_nx, c1], c2, fun j n hn => ?_, fun j n hn => b4 j n (c4 j n hn)⟩
    rcases c3 j n hn with z | z
    · exact (b3 j n z).imp_right (k1 n)
    · exact .inr (k2 n z)
end
section
variable {vh vh1 vh' : VH} {f o : HL} {vs ws : List Nat} {σ : SSt} {σp : SV}
/-- a list or a tuple that is walked: its items, its own handle -/
theorem it_core {it : Ito} {xs : List VV} {qs : List PV} {b : Bool} {hd f1 : List Nat} (h1 : Rs vh' xs qs f1 []) (hn : ∀ vh'' : VH, (∀ n ∈ hd, vh''[n]? = vh'[n]?) → ∀ i, it.nx i vh'' = some xs[i]?) (hh : ∀ n ∈ hd, n < vh'.length ∧ Src vh f o vs n) (hf : ∀ n ∈ f1, Src vh f o vs n)
    (hb : b = true → ∀ n ∈ hd, vh.length ≤ n) : ItP vh f o vs vh' it (qs, b) := by
  refine ⟨hd ++ f1, fun vh'' hs => ⟨fun i p hp => ?_, ?_⟩, fun n hn => ?_, fun n hn => ?_, fun hb1 hc n hn => ?_⟩
  · obtain ⟨x, f2, o2, g1, g2, g3, g4⟩ := h1.get hp
    have : o2 = [] := List.sublist_nil.mp g4
    subst this
    exact ⟨x, by rw [hn vh'' fun n z => hs n (List.mem_append_left _ z), g1], f2, g2.same fun n hn => hs n (List.mem_append_right _ (g3 n (by simpa using hn))), fun n hn => List.mem_append_right _ (g3 n hn)⟩
  · rw [hn vh'' fun n z => hs n (List.mem_append_left _ z), List.getElem?_eq_none (by rw [h1.len]; exact Nat.le_refl _)]
  · exact (List.mem_append.mp hn).elim (fun z => (hh n z).1) (h1.lt.1 n)
  · exact (List.mem_append.mp hn).elim (fun z => (hh n z).2) (hf n)
  · rcases List.mem_append.mp hn with z | z
    · exact hb hb1 n z
    · rw [h1.clo hc] at z; cases z
theorem it_tup {v : VV} {ps : List PV} (h : Ok1 vh f o vs vh' v (.tup ps)) : ∃ xs, v = .tup xs ∧ ItP vh f o vs vh' (.tup xs) (fzs ps, true) := by
  obtain ⟨xs, rfl, f1, h1, h2⟩ := tup_inv h
  exact ⟨xs, rfl, it_core (hd := []) h1 (fun _ _ _ => rfl) (by simp) h2 (by simp)⟩
theorem at_lst {v : VV} {b : Bool} {ps : List PV} (h : Ok1 vh f o vs vh' v (.lst b ps)) : ∃ n xs f1, v = .ref n ∧ vh'[n]? = some (.lst xs) ∧ Rs vh' xs (fzs ps) f1 [] ∧ (∀ n ∈ f1, Src vh f o vs n) ∧ n < vh'.length ∧ Src vh f o vs n ∧ (b = true → vh.length ≤ n) := by
  obtain ⟨n, xs, rfl, e, f1, h1, h2⟩ := lst_inv h
  refine ⟨n, xs, f1, rfl, e, h1, h2, (List.getElem?_eq_some_iff.mp e).1, ?_, fun hb => ?_⟩
  · obtain ⟨ft, ot, r, h2, h3, h4, h5⟩ := h
    cases r with
    | flst e r => exact h4 n List.mem_cons_self
    | olst e r => exact .inr (h5 n List.mem_cons_self)
  · subst hb
    obtain ⟨ft, ot, r, h2, h3, h4, h5⟩ := h
    cases r with
    | olst e r => exact h5 n List.mem_cons_self
theorem at_scr {v : VV} {ps : List PV} (h : Ok1 vh f o vs vh' v (.scr ps)) : ∃ n xs f1, v = .ref n ∧ vh'[n]? = some (.rol xs) ∧ Rs vh' xs (fzs ps) f1 [] ∧ (∀ n ∈ f1, Src vh f o vs n) ∧ n < vh'.length ∧ Src vh f o vs n := by
  obtain ⟨n, xs, rfl, e, f1, h1, h2⟩ := scr_inv h
  refine ⟨n, xs, f1, rfl, e, h1, h2, (List.getElem?_eq_some_iff.mp e).1, ?_⟩
  obtain ⟨ft, ot, r, h2, h3, h4, h5⟩ := h
  cases r with
  | scr e r => exact h4 n List.mem_cons_self
/-- a list that is read, at its handle -/
theorem at_ls {v : VV} {p : PV} {ps : List PV} (h : Ok1 vh f o vs vh' v p) (e : lsP p = some ps) : ∃ n xs f1, v = .ref n ∧ seqL vh' n = some xs ∧ Rs vh' xs (fzs ps) f1 [] ∧ (∀ n ∈ f1, Src vh f o vs n) ∧ n < vh'.length ∧ Src vh f o vs n := by
  cases p with
  | lst b qs =>
    cases e
    obtain ⟨n, xs, f1, rfl, h1, h2, h3, h4, h5, _⟩ := at_lst h
    exact ⟨n, xs, f1, rfl, seqL_lst h1, h2, h3, h4, h5⟩
  | scr qs =>
    cases e
    obtain ⟨n, xs, f1, rfl, h1, h2, h3, h4, h5⟩ := at_scr h
    exact ⟨n, xs, f1, rfl, seqL_rol h1, h2, h3, h4, h5⟩
  | _ => cases e
theorem seqL_hd {n : Nat} {xs : List VV} (e : seqL vh' n = some xs) {vh'' : VH} (h : ∀ m ∈ [n], vh''[m]? = vh'[m]?) : seqL vh'' n = some xs := by rw [seqL_same (h n (by simp)), e]
theorem Rs.rev : ∀ {v : List VV} {p : List PV} {f1 : List Nat}, Rs vh v p f1 [] → ∃ f2, Rs vh v.reverse p.reverse f2 [] ∧ ∀ n ∈ f2, n ∈ f1 := by
  intro v p f1 h
  obtain ⟨f2, h1, h2⟩ := (show Fz vh v p (· ∈ f1) from ⟨f1, h, fun _ h => h⟩).rev
  exact ⟨f2, h1, h2⟩
theorem Fz.zip : ∀ {v w : List VV} {p q : List PV} {fs : Nat → Prop}, Fz vh v p fs → Fz vh w q fs → Fz vh ((v.zip w).map fun z => .tup [z.1, z.2]) (zipP p q) fs
  | [], _, [], _, _, _, _ => by simpa [zipP] using Fz.nil
  | [], _, _ :: _, _, _, h, _ => by have := h.len; simp at this
  | _ :: _, _, [], _, _, h, _ => by have := h.len; simp at this
  | _ :: _, [], _ :: _, [], _, _, _ => by simpa [zipP] using Fz.nil
  | _ :: _, [], _ :: _, _ :: _, _, _, h => by have := h.len; simp at this
  | _ :: _, _ :: _, _ :: _, [], _, _, h => by have := h.len; simp at this
  | x :: v, y :: w, a :: p, b :: q, fs, h, k => by
    obtain ⟨⟨f1, r1, k1⟩, h'⟩ := h.cons_inv
    obtain ⟨⟨f2, r2, k2⟩, k'⟩ := k.cons_inv
    have := Fz.zip h' k'
    simp only [zipP, List.zip_cons_cons, List.map_cons] at this ⊢
    refine Fz.cons (.tup (by simpa using Rs.cons r1 (Rs.cons r2 .nil))) (fun n hn => ?_) this
    have hn' : n ∈ f1 ∨ n ∈ f2 := by simpa using hn
    exact hn'.elim (k1 n) (k2 n)
theorem Fz.enum : ∀ {v : List VV} {p : List PV} {fs : Nat → Prop} (m : Nat), Fz vh v p fs → Fz vh ((v.zipIdx m).map fun z => .tup [.int (z.2 : Nat), z.1]) ((p.zipIdx m).map fun z => .tup [.int (z.2 : Nat), z.1]) fs
  | [], [], _, _, _ => by simpa using Fz.nil
  | [], _ :: _, _, _, h => by have := h.len; simp at this
  | _ :: _, [], _, _, h => by have := h.len; simp at this
  | x :: v, a :: p, fs, m, h => by
    obtain ⟨⟨f1, r1, k1⟩, h'⟩ := h.cons_inv
    have := Fz.enum (m + 1) h'
    simp only [List.zipIdx_cons, List.map_cons]
    refine Fz.cons (.tup (by simpa using Rs.cons (.int _) (Rs.cons r1 .nil))) (fun n hn => ?_) this
    have hn' : n ∈ f1 := by simpa using hn
    exact k1 n hn'
theorem it_lst {v : VV} {b : Bool} {ps : List PV} (h : Ok1 vh f o vs vh' v (.lst b ps)) : ∃ n, v = .ref n ∧ (seqL vh' n).isSome ∧ ItP vh f o vs vh' (.lst n) (fzs ps, b) := by
  obtain ⟨n, xs, f1, rfl, h1, h2, h3, h4, h5, h6⟩ := at_lst h
  refine ⟨n, rfl, by rw [seqL_lst h1]; rfl, it_core (hd := [n]) h2 (fun vh'' hs i => ?_) (by simp [h4, h5]) h3 (by simpa using h6)⟩
  simp only [Ito.nx, seqL_hd (seqL_lst h1) hs, Option.map_some]
theorem it_scr {v : VV} {ps : List PV} (h : Ok1 vh f o vs vh' v (.scr ps)) : ∃ n, v = .ref n ∧ (seqL vh' n).isSome ∧ ItP vh f o vs vh' (.lst n) (fzs ps, false) := by
  obtain ⟨n, xs, f1, rfl, h1, h2, h3, h4, h5⟩ := at_scr h
  refine ⟨n, rfl, by rw [seqL_rol h1]; rfl, it_core (hd := [n]) h2 (fun vh'' hs i => ?_) (by simp [h4, h5]) h3 (by simp)⟩
  simp only [Ito.nx, seqL_hd (seqL_rol h1) hs, Option.map_some]
theorem it_rev {v : VV} {p : PV} {ps : List PV} {b : Bool} (h : Ok1 vh f o vs vh' v p) (e : lsP p = some ps) (hb : b = true → ∀ n, v = .ref n → vh.length ≤ n) : ∃ n xs, v = .ref n ∧ seqL vh' n = some xs ∧ ItP vh f o vs vh' (.revL n xs.length) ((fzs ps).reverse, b) := by
  obtain ⟨n, xs, f1, rfl, h1, h2, h3, h4, h5⟩ := at_ls h e
  obtain ⟨f2, h6, h7⟩ := h2.rev
  refine ⟨n, xs, rfl, h1, it_core (hd := [n]) h6 (fun vh'' hs i => ?_) (by simp [h4, h5]) (fun m hm => h3 m (h7 m hm)) (fun hb1 m hm => ?_)⟩
  · simp only [Ito.nx, seqL_hd h1 hs, Option.bind_some, if_true]
  · simp only [List.mem_singleton] at hm; subst hm; exact hb hb1 m rfl
theorem it_enum {v : VV} {p : PV} {ps : List PV} {b : Bool} (h : Ok1 vh f o vs vh' v p) (e : lsP p = some ps) (hb : b = true → ∀ n, v = .ref n → vh.length ≤ n) : ∃ n, v = .ref n ∧ (seqL vh' n).isSome ∧ ItP vh f o vs vh' (.enumL n) (enumP (fzs ps), b) := by
  obtain ⟨n, xs, f1, rfl, h1, h2, h3, h4, h5⟩ := at_ls h e
  obtain ⟨f2, h6, h7⟩ := Fz.enum 0 (show Fz vh' xs (fzs ps) (· ∈ f1) from ⟨f1, h2, fun _ h => h⟩)
  refine ⟨n, rfl, by rw [h1]; rfl, it_core (hd := [n]) h6 (fun vh'' hs i => ?_) (by simp [h4, h5]) (fun m hm => h3 m (h7 m hm)) (fun hb1 m hm => ?_)⟩
  · simp only [Ito.nx, seqL_hd h1 hs, Option.map_some, List.getElem?_map, List.getElem?_zipIdx, Option.map_map]
    congr 1
    cases xs[i]? with
    | none => rfl
    | some x => simp
  · simp only [List.mem_singleton] at hm; subst hm; exact hb hb1 m rfl
theorem it_zip {v u : VV} {p q : PV} {ps qs : List PV} (h : Ok1 vh f o vs vh' v p) (k : Ok1 vh f o vs vh' u q) (e : lsP p = some ps) (e2 : lsP q = some qs) : ∃ m n, v = .ref m ∧ u = .ref n ∧ (seqL vh' m).isSome ∧ (seqL vh' n).isSome ∧ ItP vh f o vs vh' (.zipL m n) (zipP (fzs ps) (fzs qs), false) := by
  obtain ⟨n, xs, f1, rfl, h1, h2, h3, h4, h5⟩ := at_ls h e
  obtain ⟨m, ys, f2, rfl, k1, k2, k3, k4, k5⟩ := at_ls k e2
  obtain ⟨f3, h6, h7⟩ := Fz.zip (show Fz vh' xs (fzs ps) (fun z => z ∈ f1 ∨ z ∈ f2) from ⟨f1, h2, fun _ h => .inl h⟩) (show Fz vh' ys (fzs qs) (fun z => z ∈ f1 ∨ z ∈ f2) from ⟨f2, k2, fun _ h => .inr h⟩)
  refine ⟨n, m, rfl, rfl, by rw [h1]; rfl, by rw [k1]; rfl, it_core (hd := [n, m]) h6 (fun vh'' hs i => ?_) (by simp [h4, h5, k4, k5]) (fun a ha => (h7 a ha).elim (h3 a) (k3 a)) (by simp)⟩
  simp only [Ito.nx, seqL_hd h1 (fun a ha => hs a (by simp at ha; simp [ha])), seqL_hd k1 (fun a ha => hs a (by simp at ha; simp [ha])), List.getElem?_map]
  congr 1
  by_cases hx : i < xs.length
  · by_cases hy : i < ys.length
    · rw [List.getElem?_eq_getElem hx, List.getElem?_eq_getElem hy, List.getElem?_eq_getElem (l := xs.zip ys) (by simp; omega)]
      simp
    · rw [List.getElem?_eq_none (l := ys) (by omega), List.getElem?_eq_none (l := xs.zip ys) (by simp; omega)]
      simp
  · rw [List.getElem?_eq_none (l := xs) (by omega), List.getElem?_eq_none (l := xs.zip ys) (by simp; omega)]
    simp
theorem it_zipT {v u : VV} {ps qs : List PV} (h : Ok1 vh f o vs vh' v (.tup ps)) (k : Ok1 vh f o vs vh' u (.tup qs)) : ∃ xs ys, v = .tup xs ∧ u = .tup ys ∧ ItP vh f o vs vh' (.zipT xs ys) (zipP (fzs ps) (fzs qs), true) := by
  obtain ⟨xs, rfl, f1, h1, h2⟩ := tup_inv h
  obtain ⟨ys, rfl, f2, k1, k2⟩ := tup_inv k
  obtain ⟨f3, h6, h7⟩ := Fz.zip (show Fz vh' xs (fzs ps) (fun z => z ∈ f1 ∨ z ∈ f2) from ⟨f1, h1, fun _ h => .inl h⟩) (show Fz vh' ys (fzs qs) (fun z => z ∈ f1 ∨ z ∈ f2) from ⟨f2, k1, fun _ h => .inr h⟩)
  refine ⟨xs, ys, rfl, rfl, it_core (hd := []) h6 (fun vh'' hs i => ?_) (by simp) (fun a ha => (h7 a ha).elim (h2 a) (k2 a)) (by simp)⟩
  simp only [Ito.nx, List.getElem?_map]
  congr 1
  by_cases hx : i < xs.length
  · by_cases hy : i < ys.length
    · rw [List.getElem?_eq_getElem hx, List.getElem?_eq_getElem hy, List.getElem?_eq_getElem (l := xs.zip ys) (by simp; omega)]
      simp
    · rw [List.getElem?_eq_none (l := ys) (by omega), List.getElem?_eq_none (l := xs.zip ys) (by simp; omega)]
      simp
  · rw [List.getElem?_eq_none (l := xs) (by omega), List.getElem?_eq_none (l := xs.zip ys) (by simp; omega)]
    simp
theorem rng_items (lo : Int) (n : Nat) : Rs vh ((List.range n).map fun k => .int (lo + (k : Nat))) (rngP lo n) [] [] := by
  unfold rngP
  induction (List.range n) with
  | nil => exact .nil
  | cons a l ih => simpa using Rs.cons (.int _) ih
theorem it_rng {lo : Int} {n : Nat} : ItP vh f o vs vh' (.rng lo n) (rngP lo n, true) := by
  refine it_core (hd := []) (rng_items lo n) (fun vh'' hs i => ?_) (by simp) (by simp) (by simp)
  simp only [Ito.nx, List.getElem?_map]
  by_cases h : i < n
  · simp [h]
  · rw [List.getElem?_eq_none (by simpa using h)]; simp [h]
end
end Fe
namespace Fe
open PySem PySem.Spec PyProof.Rows L2
section
variable {vh vh1 vh' : VH} {f o : HL} {vs ws : List Nat} {σ : SSt} {σp : SV}
/-- a comprehension's turns -/
theorem lc_ok {G : Gam} {it : Ito} {J : List PV × Bool} {own : List Nat} {t : T} {mf : SSt → VH → Res Bool} {me : SSt → VH → Res VV} {pf : SV → RP Bool} {pe : SV → RP PV} {ve : List Nat} (I : SRV vh σ σp f o) (a01 : Agr vh vh1) (hJ : ItP vh f o vs vh1 it J) (hve : ∀ i ∈ ve, i ∈ vs)
    (hf : ∀ {vh2 : VH} {σ2 : SSt} {σp2 : SV} {f2 o2 : HL}, SRV vh2 σ2 σp2 f2 o2 → okX (fun _ a b => a = b) vh2 (pf σp2) (mf σ2 vh2))
    (he : ∀ {vh2 : VH} {σ2 : SSt} {σp2 : SV} {f2 o2 : HL}, SRV vh2 σ2 σp2 f2 o2 → okX (Ok1 vh2 f2 o2 ve) vh2 (pe σp2) (me σ2 vh2)) :
    ∀ (l : Nat) (i m : Nat) (vh2 : VH) (acc : List VV) (accp ys : List PV), i + l = J.1.length → l < m → (∀ n, n < vh1.length → vh2[n]? = vh1[n]?) → vh2[vh1.length]? = some (.lst acc) → Fz vh2 acc accp (fun n => n ≠ vh1.length ∧ Src vh f o vs n) → acc.length + l ≤ 16777216 →
      lcV (fun x => asgV t x (wipeV σp own)) pf pe (J.1.drop i) = .ok ys → ∃ acc' vh3, lcF it own vh1.length (asgT G t) mf me σ m i vh2 = .ok (.ref vh1.length) vh3 ∧ (∀ n, n < vh1.length → vh3[n]? = vh1[n]?) ∧ vh3[vh1.length]? = some (.lst acc') ∧ Fz vh3 acc' (accp ++ ys) (fun n => n ≠ vh1.length ∧ Src vh f o vs n)
  | 0, i, m, vh2, acc, accp, ys, hl, hm, hs, hD, hF, hz, e => by
    obtain ⟨pr, h1, h2, h3, h4⟩ := hJ
    have hi : i = J.1.length := by omega
    subst hi
    rw [List.drop_length] at e
    simp only [lcV, RP.ok.injEq] at e
    subst e
    cases m with
    | zero => omega
    | succ m =>
      have := (h1 vh2 fun n hn => hs n (h2 n hn)).2
      refine ⟨acc, vh2, by simp only [lcF, this], hs, hD, by rw [List.append_nil]; exact hF⟩
  | l + 1, i, m, vh2, acc, accp, ys, hl, hm, hs, hD, hF, hz, e => by
    have hJ' := hJ
    obtain ⟨pr, h1, h2, h3, h4⟩ := hJ
    have hi : i < J.1.length := by omega
    have eD : J.1.drop i = J.1[i] :: J.1.drop (i + 1) := List.drop_eq_getElem_cons hi
    rw [eD] at e
    cases m with
    | zero => omega
    | succ m =>
      obtain ⟨x, g1, fx, g2, g3⟩ := (h1 vh2 fun n hn => hs n (h2 n hn)).1 i _ (List.getElem?_eq_getElem hi)
      have l01 := a01.len
      have I2 : SRV vh2 σ σp f o := (I.agr a01).same fun j n hn => hs n ((I.agr a01).lt j n hn)
      obtain ⟨fw, ow, Iw, w1, w2⟩ := I2.wipe own
      simp only [lcV] at e
      split at e
      · cases e
      · rename_i σp3 ea
        obtain ⟨σ3, f3, o3, b1, b2, b3, b4⟩ := asgF_ok G t Iw g2 ea
        have small : ∀ j n, n ∈ f3 j ∨ n ∈ o3 j → n < vh1.length := fun j n hn => by
          rcases hn with hn | hn
          · rcases b3 j n hn with z | z
            · exact Nat.lt_of_lt_of_le (I.lt j n (.inl (w1 j n z))) l01
            · exact h2 n (g3 n z)
          · exact Nat.lt_of_lt_of_le (I.lt j n (.inr (w2 j n (b4 j n hn)))) l01
        have hDl : vh1.length < vh2.length := (List.getElem?_eq_some_iff.mp hD).1
        have hF3 := hf b2
        split at e
        · rename_i et
          rw [et] at hF3
          obtain ⟨tb, vh4, k1, k2, k3⟩ := hF3
          subst k3
          have b2' := b2.agr k2
          have hE := he b2'
          split at e
          · rename_i y ey
            rw [ey] at hE
            obtain ⟨yv, vh5, m1, m2, m3⟩ := hE
            split at e
            · rename_i ys' eys
              simp only [RP.ok.injEq] at e
              subst e
              have a25 := k2.trans m2
              have hD5 : vh5[vh1.length]? = some (.lst acc) := a25 _ _ hD
              obtain ⟨fy, ry, ky⟩ := m3.fz
              have ky' : ∀ n ∈ fy, n ≠ vh1.length ∧ Src vh f o vs n := fun n hn => by
                rcases ky n hn with ⟨j, hj, z⟩ | z
                · refine ⟨Nat.ne_of_lt (small j n z), ?_⟩
                  rcases z with z | z
                  · rcases b3 j n z with z | z
                    · exact .inl ⟨j, hve j hj, .inl (w1 j n z)⟩
                    · exact h3 n (g3 n z)
                  · exact .inl ⟨j, hve j hj, .inr (w2 j n (b4 j n z))⟩
                · have := k2.len
                  exact ⟨by omega, .inr (by omega)⟩
              have hset : ∀ n, n ≠ vh1.length → (vh5.set vh1.length (.lst (acc ++ [yv])))[n]? = vh5[n]? := fun n hn => List.getElem?_set_ne fun z => hn z.symm
              have hF5 : Fz (vh5.set vh1.length (.lst (acc ++ [yv]))) (acc ++ [yv]) (accp ++ [fz y]) (fun n => n ≠ vh1.length ∧ Src vh f o vs n) := by
                obtain ⟨f6, r6, k6⟩ := (hF.agr a25).app (Fz.cons ry ky' Fz.nil)
                exact ⟨f6, r6.same fun n hn => hset n (k6 n (by simpa using hn)).1, k6⟩
              have low : ∀ n, n < vh1.length → (vh5.set vh1.length (.lst (acc ++ [yv])))[n]? = vh1[n]? := fun n hn => by
                rw [hset n (Nat.ne_of_lt hn)]
                have h6 : n < vh2.length := by omega
                rw [a25 n _ (List.getElem?_eq_getElem h6), ← List.getElem?_eq_getElem h6, hs n hn]
              have hlen : vh1.length < vh5.length := by have := a25.len; omega
              obtain ⟨acc', vh6, q1, q2, q3, q4⟩ := lc_ok I a01 hJ' hve hf he l (i + 1) m (vh5.set vh1.length (.lst (acc ++ [yv]))) (acc ++ [yv]) (accp ++ [fz y]) ys' (by omega) (by omega) low (by rw [List.getElem?_set_self hlen]) hF5 (by simp; omega) eys
              refine ⟨acc', vh6, ?_, q2, q3, by simpa [List.append_assoc] using q4⟩
              simp only [lcF, g1, b1, k1, Res.noexc_ok, Res.bind_ok, if_true, m1, hD5]
              rw [if_pos (by unfold lineZ; omega)]
              exact q1
            · cases e
          · cases e
        · rename_i et
          rw [et] at hF3
          obtain ⟨tb, vh4, k1, k2, k3⟩ := hF3
          subst k3
          have low : ∀ n, n < vh1.length → vh4[n]? = vh1[n]? := fun n hn => by
            have h6 : n < vh2.length := by omega
            rw [k2 n _ (List.getElem?_eq_getElem h6), ← List.getElem?_eq_getElem h6, hs n hn]
          obtain ⟨acc', vh6, q1, q2, q3, q4⟩ := lc_ok I a01 hJ' hve hf he l (i + 1) m vh4 acc accp ys (by omega) (by omega) low (k2 _ _ hD) (hF.agr k2) (by omega) e
          refine ⟨acc', vh6, ?_, q2, q3, q4⟩
          simp only [lcF, g1, b1, k1, Res.noexc_ok, Res.bind_ok]
          exact q1
        · cases e
theorem lc_all {G : Gam} {it : Ito} {J : List PV × Bool} {own : List Nat} {t : T} {mf : SSt → VH → Res Bool} {me : SSt → VH → Res VV} {pf : SV → RP Bool} {pe : SV → RP PV} {ve : List Nat} (I : SRV vh σ σp f o) (a01 : Agr vh vh1) (hJ : ItP vh f o vs vh1 it J) (hve : ∀ i ∈ ve, i ∈ vs)
    (hf : ∀ {vh2 : VH} {σ2 : SSt} {σp2 : SV} {f2 o2 : HL}, SRV vh2 σ2 σp2 f2 o2 → okX (fun _ a b => a = b) vh2 (pf σp2) (mf σ2 vh2))
    (he : ∀ {vh2 : VH} {σ2 : SSt} {σp2 : SV} {f2 o2 : HL}, SRV vh2 σ2 σp2 f2 o2 → okX (Ok1 vh2 f2 o2 ve) vh2 (pe σp2) (me σ2 vh2)) (N : Nat) :
    okX (Ok1 vh f o vs) vh1 (if J.1.length ≤ 16777216 ∧ J.1.length < N then (lcV (fun x => asgV t x (wipeV σp own)) pf pe J.1).bind fun ys => .ok (.lst true ys) else .stuck) (lcF it own vh1.length (asgT G t) mf me σ N 0 (vh1 ++ [.lst []])) := by
  by_cases hz : J.1.length ≤ 16777216 ∧ J.1.length < N
  · rw [if_pos hz]
    cases e : lcV (fun x => asgV t x (wipeV σp own)) pf pe J.1 with
    | ok ys =>
      obtain ⟨acc', vh3, q1, q2, q3, f3, q4, q5⟩ := lc_ok (G := G) I a01 hJ hve hf he J.1.length 0 N (vh1 ++ [.lst []]) [] [] ys (by omega) hz.2 (fun n hn => List.getElem?_append_left hn) (by simp) Fz.nil (by simpa using hz.1) (by simpa using e)
      refine ⟨_, vh3, q1, fun n x hx => ?_, f3, [vh1.length], .olst q3 (by simpa using q4), by simp, ?_, fun n hn => (q5 n hn).2, ?_⟩
      · rw [q2 n (List.getElem?_eq_some_iff.mp hx).1, hx]
      · intro n hn hm
        simp only [List.mem_singleton] at hn
        exact (q5 n hm).1 hn
      · intro n hn
        simp only [List.mem_singleton] at hn
        subst hn
        exact a01.len
    | exc c =>
      exfalso
      have : ∀ (l : List PV) c, lcV (fun x => asgV t x (wipeV σp own)) pf pe l ≠ .exc c := by
        intro l
        induction l with
        | nil => intro c h; cases h
        | cons x l ih =>
          intro c h
          simp only [lcV] at h
          split at h
          · cases h
          · split at h
            · split at h
              · split at h <;> cases h
              · cases h
            · exact ih c h
            · cases h
      exact this _ _ e
    | stuck => trivial
  · rw [if_neg hz]; trivial
end
end Fe
namespace Fe
open PySem PySem.Spec PyProof.Rows L2
section
variable {vh vh1 vh' : VH} {f o : HL} {vs ws : List Nat} {σ : SSt} {σp : SV}
theorem mem_l {a b : List Nat} : ∀ i ∈ a, i ∈ a ++ b := fun _ h => List.mem_append_left _ h
theorem mem_r {a b : List Nat} : ∀ i ∈ b, i ∈ a ++ b := fun _ h => List.mem_append_right _ h
theorem rngF {vh : VH} {fs : Nat → Prop} (n : Nat) : Fz vh (rngVV n) (rngP 0 n) fs := by
  unfold rngVV rngP
  exact Fz.maps (f := fun k : Nat => VV.int (0 + (k : Nat))) (g := fun k : Nat => PV.int (0 + (k : Nat))) (fun k => .int _) _
theorem o1_ok (k : O1) {v : VV} {p : PV} (al : vh.length ≤ vh'.length) (hp : Ok1 vh f o vs vh' v p) : okX (Ok1 vh f o vs) vh' (o1P k p) (sO1 k v vh') := by
  cases k with
  | lrev =>
    cases p with
    | lst b ps =>
      obtain ⟨n, xs, rfl, e, q⟩ := lst_inv hp
      simp only [o1P, sO1, seqL_lst e]
      exact okX.new al q.rev
    | scr ps =>
      obtain ⟨n, xs, rfl, e, q⟩ := scr_inv hp
      simp only [o1P, sO1, seqL_rol e]
      exact okX.new al q.rev
    | _ => trivial
  | lrg =>
    cases p with
    | int j =>
      have := int_inv hp; subst this
      simp only [o1P, sO1, lineZ]
      exact okX.ite fun _ => okX.new al (rngF _)
    | _ => trivial
  | lrr =>
    cases p with
    | int j =>
      have := int_inv hp; subst this
      simp only [o1P, sO1, lineZ]
      exact okX.ite fun _ => okX.new al (rngF _).rev
    | _ => trivial
  | lval =>
    cases p with
    | dct b ks ps =>
      obtain ⟨n, kvs, rfl, e, rfl, q⟩ := dct_inv hp
      simp only [o1P, sO1, e]
      exact okX.new al q
    | _ => trivial
  | nset =>
    cases p with
    | lst b ps =>
      obtain ⟨n, xs, rfl, e, q⟩ := lst_inv hp
      obtain ⟨f5, e5, _⟩ := q
      simp only [o1P, sO1, seqL_lst e, show allInts xs = intsP ps from by rw [ints_same e5, ints_fz]]
      cases intsP ps with
      | none => trivial
      | some ns => exact okX.ite fun _ => okX.sc (.int _)
    | _ => trivial
  | ev0 =>
    cases p with
    | lst b ps =>
      obtain ⟨n, xs, rfl, e, q⟩ := lst_inv hp
      simp only [o1P, sO1, seqL_lst e]
      exact okX.new al (q.drop 0).ev2
    | scr ps =>
      obtain ⟨n, xs, rfl, e, q⟩ := scr_inv hp
      simp only [o1P, sO1, seqL_rol e]
      exact okX.new al (q.drop 0).ev2
    | _ => trivial
  | ev1 =>
    cases p with
    | lst b ps =>
      obtain ⟨n, xs, rfl, e, q⟩ := lst_inv hp
      simp only [o1P, sO1, seqL_lst e]
      exact okX.new al (q.drop 1).ev2
    | scr ps =>
      obtain ⟨n, xs, rfl, e, q⟩ := scr_inv hp
      simp only [o1P, sO1, seqL_rol e]
      exact okX.new al (q.drop 1).ev2
    | _ => trivial
  | bits =>
    cases p with
    | int j => have := int_inv hp; subst this; exact okX.sc (.int _)
    | _ => trivial
/-- two operands, then an operation -/
theorem okX.op {ma mb : SSt → VH → Res VV} {pa pb : SV → RP PV} {va vb : List Nat} {g : PV → PV → RP PV} {h : VV → VV → VH → Res VV} (I : SRV vh σ σp f o)
    (ha : okX (Ok1 vh f o va) vh (pa σp) (ma σ vh)) (hb : ∀ vh1, SRV vh1 σ σp f o → okX (Ok1 vh1 f o vb) vh1 (pb σp) (mb σ vh1))
    (k : ∀ {vh'} {v u : VV} {p q : PV}, vh.length ≤ vh'.length → Ok1 vh f o (va ++ vb) vh' v p → Ok1 vh f o (va ++ vb) vh' u q → okX (Ok1 vh f o (va ++ vb)) vh' (g p q) (h v u vh')) :
    okX (Ok1 vh f o (va ++ vb)) vh ((pa σp).bind fun x => (pb σp).bind fun y => g x y) ((ma σ vh).bind fun x vh => (mb σ vh).bind fun y vh => h x y vh) := by
  refine ha.bind fun v p vh1 a1 h1 => (hb vh1 (I.agr a1)).bind fun u q vh2 a2 h2 => ?_
  exact k (a1.trans a2).len ((h1.mono (Nat.le_refl _) mem_l).agr a2) (h2.mono a1.len mem_r)
theorem okB.op {ma mb : SSt → VH → Res VV} {pa pb : SV → RP PV} {va vb : List Nat} {g : PV → PV → RP PV} {h : VV → VV → VH → Res VV} (I : SRV vh σ σp f o)
    (ha : okX (Ok1 vh f o va) vh (pa σp) (ma σ vh)) (hb : ∀ vh1, SRV vh1 σ σp f o → okX (Ok1 vh1 f o vb) vh1 (pb σp) (mb σ vh1))
    (k : ∀ {vh'} {v u : VV} {p q : PV}, vh.length ≤ vh'.length → Ok1 vh f o (va ++ vb) vh' v p → Ok1 vh f o (va ++ vb) vh' u q → okX (Ok1 vh f o (va ++ vb)) vh' (g p q) (h v u vh')) :
    okX (fun _ a b => a = b) vh ((pa σp).bind fun x => (pb σp).bind fun y => (g x y).bind fun z => match z with | .bl k => .ok k | _ => .stuck) ((ma σ vh).bind fun x vh => (mb σ vh).bind fun y vh => (h x y vh).bind fun z vh => match z with | .bl k => .ok k vh | _ => .stuck) := by
  refine ha.bind fun v p vh1 a1 h1 => (hb vh1 (I.agr a1)).bind fun u q vh2 a2 h2 => ?_
  refine (k (a1.trans a2).len ((h1.mono (Nat.le_refl _) mem_l).agr a2) (h2.mono a1.len mem_r)).bind fun z r vh3 a3 h3 => ?_
  cases r with
  | bl b => have := bl_inv h3; subst this; exact okX.here rfl
  | _ => trivial
end
section
variable {G : Gam} {V : GV} (hG : GOk G V) (hN : V.N = G.N)
include hG hN
mutual
theorem evV_ok : ∀ (e : E) {vh : VH} {f o : HL} {σ : SSt} {σp : SV}, SRV vh σ σp f o → okX (Ok1 vh f o (vE e)) vh (evV V e σp) (ev G e σ vh)
  | .nm i, vh, f, o, σ, σp, I => by
    simp only [evV, ev]
    cases e : σp[i]? with
    | none => trivial
    | some q =>
      cases q with
      | none => trivial
      | some p =>
        obtain ⟨v, e1, r⟩ := I.get e
        rw [e1]
        obtain ⟨f1, r1, k1⟩ := r.fz
        exact okX.here (Ok1.frz r1 fun n hn => .inl ⟨i, by simp, (k1 n).mp hn⟩)
  | .gl j, vh, f, o, σ, σp, I => by
    simp only [evV, ev]
    cases e : V.gl j with
    | none => trivial
    | some p =>
      obtain ⟨v, e1, r⟩ := hG.gl j p e
      rw [e1]
      exact okX.sc (r vh)
  | .cn c, vh, f, o, σ, σp, I => by
    cases c
    · exact okX.sc .non
    · exact okX.sc (.bl _)
    · exact okX.sc (.int _)
    · exact okX.sc (.str _)
  | .bin b x y, vh, f, o, σ, σp, I => by
    simp only [evV, ev, vE]
    exact okX.op I (evV_ok x I) (fun vh1 I1 => evV_ok y I1) fun al h1 h2 => bin_ok b al h1 h2
  | .neg x, vh, f, o, σ, σp, I => by
    simp only [evV, ev, vE]
    refine (evV_ok x I).bind fun v p vh1 a1 h1 => ?_
    cases p with
    | int i => have := int_inv h1; subst this; exact okX.sc (.int _)
    | _ => trivial
  | .cmp c x y, vh, f, o, σ, σp, I => by
    simp only [evV, ev, vE]
    exact okX.op I (evV_ok x I) (fun vh1 I1 => evV_ok y I1) fun al h1 h2 => cmp_ok c h1 h2
  | .chain o1 o2 x y z, vh, f, o, σ, σp, I => by
    simp only [evV, ev, vE]
    refine (evV_ok x I).bind fun v p vh1 a1 h1 => (evV_ok y (I.agr a1)).bind fun u q vh2 a2 h2 => ?_
    have h1' := (h1.mono (ws := vE x ++ (vE y ++ vE z)) (Nat.le_refl _) mem_l).agr a2
    have h2' := h2.mono (vh := vh) (ws := vE x ++ (vE y ++ vE z)) a1.len fun i hi => mem_r i (mem_l i hi)
    refine (cmp_ok o1 h1' h2').bind fun w r vh3 a3 h3 => ?_
    cases r with
    | bl b =>
      have := bl_inv h3; subst this
      cases b with
      | true =>
        have a03 := a1.trans (a2.trans a3)
        refine (evV_ok z (I.agr a03)).bind fun t s vh4 a4 h4 => ?_
        exact cmp_ok o2 (h2'.agr (a3.trans a4)) (h4.mono a03.len fun i hi => mem_r i (mem_r i hi))
      | false => exact okX.sc (.bl _)
    | _ => trivial
  | .one x, vh, f, o, σ, σp, I => by
    simp only [evV, ev, vE]
    exact evV_ok x I
  | .and x y, vh, f, o, σ, σp, I => by
    simp only [evV, ev, vE]
    refine (evV_ok x I).bind fun v p vh1 a1 h1 => ?_
    cases p with
    | bl b =>
      have := bl_inv h1; subst this
      cases b with
      | true => exact (evV_ok y (I.agr a1)).imp fun _ _ _ _ h => h.mono a1.len mem_r
      | false => exact okX.sc (.bl _)
    | _ => trivial
  | .or x y, vh, f, o, σ, σp, I => by
    simp only [evV, ev, vE]
    refine (evV_ok x I).bind fun v p vh1 a1 h1 => ?_
    cases p with
    | bl b =>
      have := bl_inv h1; subst this
      cases b with
      | false => exact (evV_ok y (I.agr a1)).imp fun _ _ _ _ h => h.mono a1.len mem_r
      | true => exact okX.sc (.bl _)
    | _ => trivial
  | .not x, vh, f, o, σ, σp, I => by
    simp only [evV, ev, vE]
    refine (evV_ok x I).bind fun v p vh1 a1 h1 => ?_
    cases p with
    | bl b => have := bl_inv h1; subst this; exact okX.sc (.bl _)
    | _ => trivial
  | .ife t x y, vh, f, o, σ, σp, I => by
    simp only [evV, ev, vE]
    refine (tstV_ok t I).bind fun b c vh1 a1 h1 => ?_
    subst h1
    cases b with
    | true => exact (evV_ok x (I.agr a1)).imp fun _ _ _ _ h => h.mono a1.len fun i hi => mem_r i (mem_l i hi)
    | false => exact (evV_ok y (I.agr a1)).imp fun _ _ _ _ h => h.mono a1.len fun i hi => mem_r i (mem_r i hi)
  | .tup es, vh, f, o, σ, σp, I => by
    simp only [evV, ev, vE]
    refine (evsV_ok es I).bind fun v p vh1 a1 h1 => ?_
    have el : v.length = p.length := by obtain ⟨_, _, r, _⟩ := h1; exact r.len
    rw [el]
    exact okX.ite fun _ => okX.here (Ok1.tup h1)
  | .lst es, vh, f, o, σ, σp, I => by
    simp only [evV, ev, vE]
    refine (evsV_ok es I).bind fun v p vh1 a1 h1 => ?_
    have el : v.length = p.length := by obtain ⟨_, _, r, _⟩ := h1; exact r.len
    rw [el]
    exact okX.ite fun _ => ⟨_, _, rfl, Agr.app _ _, Ok1.newO a1.len h1⟩
  | .dnew, vh, f, o, σ, σp, I => by
    refine ⟨_, _, rfl, Agr.app _ _, [], [vh.length], .odct (kvs := []) (by simp) .nil, by simp, by simp, by simp, by simp⟩
  | .ix x y, vh, f, o, σ, σp, I => by
    simp only [evV, ev, vE]
    exact okX.op I (evV_ok x I) (fun vh1 I1 => evV_ok y I1) fun al h1 h2 => ix_ok h1 h2
  | .slc x lo hi, vh, f, o, σ, σp, I => by
    simp only [evV, ev, vE]
    refine (evV_ok x I).bind fun v p vh1 a1 h1 => (evoV_ok lo (I.agr a1)).bind fun l l' vh2 a2 h2 => (evoV_ok hi (I.agr (a1.trans a2))).bind fun u u' vh3 a3 h3 => ?_
    subst h2; subst h3
    exact slc_ok (a1.trans (a2.trans a3)).len ((h1.mono (Nat.le_refl _) mem_l).agr (a2.trans a3))
  | .call g es, vh, f, o, σ, σp, I => by
    simp only [evV, ev, vE]
    refine (evsV_ok es I).bind fun v p vh1 a1 h1 => ?_
    obtain ⟨fs, r, k⟩ := h1.fz
    refine (hG.fn g vh1 v (fzs p) fs r).imp fun vh2 w q a2 h => ?_
    obtain ⟨ft, ot, r1, r2, r3, r4, r5⟩ := h
    exact ⟨ft, ot, r1, r2, r3, fun n hn => (r4 n hn).elim (k n) fun z => .inr (Nat.le_trans a1.len z), fun n hn => Nat.le_trans a1.len (r5 n hn)⟩
  | .bi b es, vh, f, o, σ, σp, I => by
    simp only [evV, ev, vE]
    exact (evsV_ok es I).bind fun v p vh1 a1 h1 => bi_ok b a1.len h1
  | .o1 k x, vh, f, o, σ, σp, I => by
    simp only [evV, ev, vE]
    exact (evV_ok x I).bind fun v p vh1 a1 h1 => o1_ok k a1.len h1
  | .me m x es, vh, f, o, σ, σp, I => by
    simp only [evV, ev, vE]
    refine (evV_ok x I).bind fun v p vh1 a1 h1 => ?_
    rw [tyM_same m h1]
    exact okX.ite fun _ => (evsV_ok es (I.agr a1)).bind fun u q vh2 a2 h2 => me_ok m ((h1.mono (Nat.le_refl _) mem_l).agr a2) (h2.mono a1.len mem_r)
  | .isi x t, vh, f, o, σ, σp, I => by
    simp only [evV, ev, vE]
    refine (evV_ok x I).bind fun v p vh1 a1 h1 => ?_
    rcases ty_same (t := t) h1 with e | ⟨e1, e2⟩
    · rw [e]; trivial
    · rw [e1, e2]
      exact okX.sc (.bl _)
  | .isv x cs, vh, f, o, σ, σp, I => by
    simp only [evV, ev, vE]
    refine (evV_ok x I).bind fun v p vh1 a1 h1 => ?_
    obtain ⟨_, _, r, _⟩ := h1
    cases r with
    | exo e => simp only [e]; exact okX.sc (.bl _)
    | _ => trivial
  | .lc elt t it ifs own, vh, f, o, σ, σp, I => by
    simp only [evV, ev, vE]
    refine (evIV_ok it I).bind fun J Jp vh1 a1 h1 => ?_
    rw [← hN]
    have h1' : ItP vh f o (vI it ++ (vBs ifs ++ vE elt)) vh1 J Jp := by
      obtain ⟨pr, k1, k2, k3, k4⟩ := h1
      exact ⟨pr, k1, k2, fun n hn => (k3 n hn).mono (Nat.le_refl _) mem_l, k4⟩
    exact lc_all I a1 h1' (fun i hi => mem_r i (mem_r i hi)) (fun I2 => tstsV_ok ifs I2) (fun I2 => evV_ok elt I2) V.N
  | .isx cs, vh, f, o, σ, σp, I => by
    simp only [evV, ev]
    have h := hG.fn hotF vh [] [] [] .nil
    cases e : V.fn hotF [] with
    | ok p =>
      rw [e] at h
      obtain ⟨v, vh', e1, ag, ft, ot, r, _⟩ := h
      cases p with
      | int d =>
        cases r
        rw [e1]
        exact okX.sc (.bl _)
      | _ => trivial
    | exc c => trivial
    | stuck => trivial
theorem evsV_ok : ∀ (es : Es) {vh : VH} {f o : HL} {σ : SSt} {σp : SV}, SRV vh σ σp f o → okX (Oks vh f o (vEs es)) vh (evsV V es σp) (evs G es σ vh)
  | .nil, vh, f, o, σ, σp, I => okX.here Oks.nil
  | .cons e es, vh, f, o, σ, σp, I => by
    simp only [evsV, evs, vEs]
    refine (evV_ok e I).bind fun v p vh1 a1 h1 => (evsV_ok es (I.agr a1)).bind fun u q vh2 a2 h2 => ?_
    exact okX.here (Oks.cons (fun i n hn => I.lt i n hn) h1 a2 a1.len h2)
theorem evoV_ok : ∀ (e : Oe) {vh : VH} {f o : HL} {σ : SSt} {σp : SV}, SRV vh σ σp f o → okX (fun _ a b => a = b) vh (evoV V e σp) (evo G e σ vh)
  | .none, vh, f, o, σ, σp, I => okX.here rfl
  | .some e, vh, f, o, σ, σp, I => by
    simp only [evoV, evo]
    refine (evV_ok e I).bind fun v p vh1 a1 h1 => ?_
    cases p with
    | int i => have := int_inv h1; subst this; exact okX.here rfl
    | _ => trivial
theorem tstV_ok : ∀ (b : B) {vh : VH} {f o : HL} {σ : SSt} {σp : SV}, SRV vh σ σp f o → okX (fun _ a b => a = b) vh (tstV V b σp) (tst G b σ vh)
  | .cmp c x y, vh, f, o, σ, σp, I => by
    simp only [tstV, tst]
    exact okB.op I (evV_ok x I) (fun vh1 I1 => evV_ok y I1) fun al h1 h2 => cmp_ok c h1 h2
  | .chain o1 o2 x y z, vh, f, o, σ, σp, I => by
    simp only [tstV, tst]
    refine (evV_ok x I).bind fun v p vh1 a1 h1 => (evV_ok y (I.agr a1)).bind fun u q vh2 a2 h2 => ?_
    have h1' := (h1.mono (ws := vE x ++ (vE y ++ vE z)) (Nat.le_refl _) mem_l).agr a2
    have h2' := h2.mono (vh := vh) (ws := vE x ++ (vE y ++ vE z)) a1.len fun i hi => mem_r i (mem_l i hi)
    refine (cmp_ok o1 h1' h2').bind fun w r vh3 a3 h3 => ?_
    cases r with
    | bl b =>
      have := bl_inv h3; subst this
      cases b with
      | true =>
        have a03 := a1.trans (a2.trans a3)
        refine (evV_ok z (I.agr a03)).bind fun t s vh4 a4 h4 => ?_
        refine (cmp_ok o2 (h2'.agr (a3.trans a4)) (h4.mono a03.len fun i hi => mem_r i (mem_r i hi))).bind fun w r vh5 a5 h5 => ?_
        cases r with
        | bl b => have := bl_inv h5; subst this; exact okX.here rfl
        | _ => trivial
      | false => exact okX.here rfl
    | _ => trivial
  | .one x, vh, f, o, σ, σp, I => by
    simp only [tstV, tst]
    exact tstV_ok x I
  | .and x y, vh, f, o, σ, σp, I => by
    simp only [tstV, tst]
    refine (tstV_ok x I).bind fun b c vh1 a1 h1 => ?_
    subst h1
    cases b with
    | true => exact tstV_ok y (I.agr a1)
    | false => exact okX.here rfl
  | .or x y, vh, f, o, σ, σp, I => by
    simp only [tstV, tst]
    refine (tstV_ok x I).bind fun b c vh1 a1 h1 => ?_
    subst h1
    cases b with
    | false => exact tstV_ok y (I.agr a1)
    | true => exact okX.here rfl
  | .not x, vh, f, o, σ, σp, I => by
    simp only [tstV, tst]
    refine (tstV_ok x I).bind fun b c vh1 a1 h1 => ?_
    subst h1
    exact okX.here rfl
  | .tr x, vh, f, o, σ, σp, I => by
    simp only [tstV, tst]
    refine (evV_ok x I).bind fun v p vh1 a1 h1 => ?_
    rw [tru_same h1]
    cases truP p with
    | none => trivial
    | some b => exact okX.here rfl
theorem tstsV_ok : ∀ (b : Bs) {vh : VH} {f o : HL} {σ : SSt} {σp : SV}, SRV vh σ σp f o → okX (fun _ a b => a = b) vh (tstsV V b σp) (tsts G b σ vh)
  | .nil, vh, f, o, σ, σp, I => okX.here rfl
  | .one b, vh, f, o, σ, σp, I => by
    simp only [tstsV, tsts]
    exact tstV_ok b I
theorem evIV_ok : ∀ (i : I) {vh : VH} {f o : HL} {σ : SSt} {σp : SV}, SRV vh σ σp f o → okX (fun vh' a b => ItP vh f o (vI i) vh' a b) vh (evIV V i σp) (evI G i σ vh)
  | .sq e, vh, f, o, σ, σp, I => by
    simp only [evIV, evI, vI]
    refine (evV_ok e I).bind fun v p vh1 a1 h1 => ?_
    cases p with
    | tup ps =>
      obtain ⟨xs, rfl, h⟩ := it_tup h1
      exact okX.here h
    | lst b ps =>
      obtain ⟨n, rfl, hs, h⟩ := it_lst h1
      simp only [hs, if_true]
      exact okX.here h
    | scr ps =>
      obtain ⟨n, rfl, hs, h⟩ := it_scr h1
      simp only [hs, if_true]
      exact okX.here h
    | _ => trivial
  | .rng1 e, vh, f, o, σ, σp, I => by
    simp only [evIV, evI, vI]
    refine (evV_ok e I).bind fun v p vh1 a1 h1 => ?_
    cases p with
    | int j =>
      have := int_inv h1; subst this
      simp only [rng1P, rng2P]; exact okX.ite fun _ => okX.here it_rng
    | _ => trivial
  | .rng2 x y, vh, f, o, σ, σp, I => by
    simp only [evIV, evI, vI]
    refine (evV_ok x I).bind fun v p vh1 a1 h1 => (evV_ok y (I.agr a1)).bind fun u q vh2 a2 h2 => ?_
    cases p with
    | int i =>
      have := int_inv h1; subst this
      cases q with
      | int j =>
        have := int_inv h2; subst this
        simp only [rng1P, rng2P]; exact okX.ite fun _ => okX.here it_rng
      | _ => trivial
    | _ => trivial
  | .rev e, vh, f, o, σ, σp, I => by
    simp only [evIV, evI, vI]
    refine (evV_ok e I).bind fun v p vh1 a1 h1 => ?_
    cases p with
    | lst b ps =>
      obtain ⟨n, xs, rfl, hs, h⟩ := it_rev (b := b) h1 rfl fun hb n hn => by
        obtain ⟨n', _, _, e, _, _, _, _, _, z⟩ := at_lst h1
        cases hn; cases e; exact z hb
      simp only [hs]
      exact okX.here h
    | scr ps =>
      obtain ⟨n, xs, rfl, hs, h⟩ := it_rev (b := false) h1 rfl (by simp)
      simp only [hs]
      exact okX.here h
    | _ => trivial
  | .zip x y, vh, f, o, σ, σp, I => by
    simp only [evIV, evI, vI]
    refine (evV_ok x I).bind fun v p vh1 a1 h1 => (evV_ok y (I.agr a1)).bind fun u q vh2 a2 h2 => ?_
    have hp := (h1.mono (ws := vE x ++ vE y) (Nat.le_refl _) mem_l).agr a2
    have hq := h2.mono (vh := vh) (ws := vE x ++ vE y) a1.len mem_r
    by_cases ht : ∃ ps qs, p = .tup ps ∧ q = .tup qs
    · obtain ⟨ps, qs, rfl, rfl⟩ := ht
      obtain ⟨xs, ys, rfl, rfl, h⟩ := it_zipT hp hq
      exact okX.here h
    · have ez : zippedP p q = match lsP p, lsP q with
          | some xs, some ys => .ok (zipP (fzs xs) (fzs ys), false)
          | _, _ => .stuck := by
        unfold zippedP
        split
        · exact absurd ⟨_, _, rfl, rfl⟩ ht
        · rfl
      rw [ez]
      cases e1 : lsP p with
      | none => trivial
      | some ps =>
        cases e2 : lsP q with
        | none => trivial
        | some qs =>
          obtain ⟨m, n, rfl, rfl, s1, s2, h⟩ := it_zip hp hq e1 e2
          simp only [s1, s2, and_self, if_true]
          exact okX.here h
  | .enum e, vh, f, o, σ, σp, I => by
    simp only [evIV, evI, vI]
    refine (evV_ok e I).bind fun v p vh1 a1 h1 => ?_
    cases p with
    | lst b ps =>
      obtain ⟨n, rfl, hs, h⟩ := it_enum (b := b) h1 rfl fun hb n hn => by
        obtain ⟨n', _, _, e, _, _, _, _, _, z⟩ := at_lst h1
        cases hn; cases e; exact z hb
      simp only [hs, if_true]
      exact okX.here h
    | scr ps =>
      obtain ⟨n, rfl, hs, h⟩ := it_enum (b := false) h1 rfl (by simp)
      simp only [hs, if_true]
      exact okX.here h
    | _ => trivial
end
end
end Fe
namespace Fe
open PySem PySem.Spec PyProof.Rows L2
section
variable {vh vh1 vh' : VH} {f o : HL} {vs ws : List Nat} {σ : SSt} {σp : SV}
theorem Rs.erase : ∀ {v : List VV} {p : List PV} {f o : List Nat} {k : Nat} {q : PV}, Rs vh v p f o → p[k]? = some q → ∃ x f1 o1 f2 o2, v[k]? = some x ∧ R vh x q f1 o1 ∧ Rs vh (v.eraseIdx k) (p.eraseIdx k) f2 o2 ∧ (∀ n ∈ f1, n ∈ f) ∧ (∀ n ∈ f2, n ∈ f) ∧ List.Perm (o1 ++ o2) o
  | _, _, _, _, _, _, .nil, h => by simp at h
  | _, _, _, _, 0, _, .cons h t, e => by
    simp at e; subst e
    exact ⟨_, _, _, _, _, rfl, h, t, fun n hn => List.mem_append_left _ hn, fun n hn => List.mem_append_right _ hn, List.Perm.refl _⟩
  | _, _, _, _, k + 1, _, .cons (f1 := fa) (o1 := oa) h t, e => by
    obtain ⟨x, f1, o1, f2, o2, h1, h2, h3, h4, h5, h6⟩ := Rs.erase (k := k) t (by simpa using e)
    refine ⟨x, f1, o1, fa ++ f2, oa ++ o2, by simpa using h1, h2, .cons h h3, fun n hn => List.mem_append_right _ (h4 n hn), fun n hn => (List.mem_append.mp hn).elim (fun z => List.mem_append_left _ z) fun z => List.mem_append_right _ (h5 n z), ?_⟩
    have e1 : List.Perm (o1 ++ (oa ++ o2)) (oa ++ (o1 ++ o2)) := by
      rw [← List.append_assoc, ← List.append_assoc]
      exact (List.perm_append_comm).append_right _
    exact e1.trans (h6.append_left _)
theorem Rs.cut : ∀ {v : List VV} {p : List PV} {f o : List Nat} (k : Nat), Rs vh v p f o → ∃ f1 o1 f2 o2, Rs vh (v.take k) (p.take k) f1 o1 ∧ Rs vh (v.drop k) (p.drop k) f2 o2 ∧ f = f1 ++ f2 ∧ o = o1 ++ o2
  | _, _, _, _, 0, h => ⟨[], [], _, _, .nil, h, rfl, rfl⟩
  | _, _, _, _, k + 1, .nil => ⟨[], [], [], [], .nil, .nil, rfl, rfl⟩
  | _, _, _, _, k + 1, .cons h t => by
    obtain ⟨f1, o1, f2, o2, h1, h2, rfl, rfl⟩ := Rs.cut k t
    exact ⟨_, _, _, _, .cons h h1, h2, by simp [List.append_assoc], by simp [List.append_assoc]⟩
theorem Rs.revO : ∀ {v : List VV} {p : List PV} {f o : List Nat}, Rs vh v p f o → ∃ f1 o1, Rs vh v.reverse p.reverse f1 o1 ∧ (∀ n ∈ f1, n ∈ f) ∧ List.Perm o1 o
  | _, _, _, _, .nil => ⟨[], [], .nil, by simp, List.Perm.refl _⟩
  | _, _, _, _, .cons (f1 := fa) (o1 := oa) h t => by
    obtain ⟨f1, o1, h1, h2, h3⟩ := Rs.revO t
    refine ⟨f1 ++ fa, o1 ++ oa, ?_, fun n hn => (List.mem_append.mp hn).elim (fun z => List.mem_append_right _ (h2 n z)) fun z => List.mem_append_left _ z, List.perm_append_comm.trans (h3.append_left _)⟩
    rw [List.reverse_cons, List.reverse_cons]
    simpa using h1.app (.cons h .nil)
theorem Rs.setAt {x : VV} {q : PV} {fx ox : List Nat} (r : R vh x q fx ox) : ∀ {v : List VV} {p : List PV} {f o : List Nat} (k : Nat), Rs vh v p f o → ∃ fl ol, Rs vh (v.set k x) (p.set k q) fl ol ∧ (∀ n ∈ fl, n ∈ f ∨ n ∈ fx) ∧ (∀ n ∈ ol, n ∈ o ∨ n ∈ ox) ∧ (o.Nodup → ox.Nodup → (∀ n ∈ o, n ∉ ox) → ol.Nodup)
  | _, _, _, _, _, .nil => ⟨[], [], .nil, by simp, by simp, fun _ _ _ => List.nodup_nil⟩
  | _, _, _, _, 0, .cons (f2 := fb) (o2 := ob) h t => by
    refine ⟨_, _, .cons r t, fun n hn => ?_, fun n hn => ?_, fun a b c => ?_⟩
    · exact (List.mem_append.mp hn).elim .inr fun z => .inl (List.mem_append_right _ z)
    · exact (List.mem_append.mp hn).elim .inr fun z => .inl (List.mem_append_right _ z)
    · exact List.nodup_append.mpr ⟨b, (List.nodup_append.mp a).2.1, fun y hy z hz e => c z (List.mem_append_right _ hz) (e ▸ hy)⟩
  | _, _, _, _, k + 1, .cons (f1 := fa) (o1 := oa) h t => by
    obtain ⟨fl, ol, h1, h2, h3, h4⟩ := Rs.setAt r k t
    refine ⟨_, _, .cons h h1, fun n hn => ?_, fun n hn => ?_, fun a b c => ?_⟩
    · rcases List.mem_append.mp hn with z | z
      · exact .inl (List.mem_append_left _ z)
      · exact (h2 n z).imp_left fun z => List.mem_append_right _ z
    · rcases List.mem_append.mp hn with z | z
      · exact .inl (List.mem_append_left _ z)
      · exact (h3 n z).imp_left fun z => List.mem_append_right _ z
    · obtain ⟨a1, a2, a3⟩ := List.nodup_append.mp a
      refine List.nodup_append.mpr ⟨a1, h4 a2 b fun n hn => c n (List.mem_append_right _ hn), fun y hy z hz e => ?_⟩
      subst e
      rcases h3 y hz with w | w
      · exact a3 y hy y w rfl
      · exact c y (List.mem_append_left _ hy) w
/-- what stands frozen of a list, put into a dict's values -/
theorem Rs.putK {x : VV} {q : PV} {fx : List Nat} {k : Key} (r : R vh x q fx []) {kvs : List (Key × VV)} {ps : List PV} {f o : List Nat} (h : Rs vh (kvs.map (·.2)) ps f o) :
    ∃ fl ol, (putKK kvs k x).map (·.1) = (putKK ((kvs.map (·.1)).zip ps) k q).map (·.1) ∧ Rs vh ((putKK kvs k x).map (·.2)) ((putKK ((kvs.map (·.1)).zip ps) k q).map (·.2)) fl ol ∧ (∀ n ∈ fl, n ∈ f ∨ n ∈ fx) ∧ List.Sublist ol o := by
  have any : ∀ {kvs : List (Key × VV)} {ps : List PV}, kvs.length = ps.length → (((kvs.map (·.1)).zip ps).any fun kv => decide (kv.1 = k)) = kvs.any fun kv => decide (kv.1 = k) := by
    intro kvs
    induction kvs with
    | nil => intro ps _; rfl
    | cons a kvs ih =>
      intro ps hl
      cases ps with
      | nil => simp at hl
      | cons p ps => simp only [List.map_cons, List.zip_cons_cons, List.any_cons, ih (by simpa using hl)]
  have hl : kvs.length = ps.length := by simpa using h.len
  unfold putKK
  rw [any hl]
  by_cases e : (kvs.any fun kv => decide (kv.1 = k)) = true
  · rw [if_pos e, if_pos e]
    clear e any
    induction kvs generalizing ps f o with
    | nil =>
      cases ps with
      | nil => exact ⟨[], [], rfl, .nil, by simp, List.nil_sublist _⟩
      | cons p ps => simp at hl
    | cons a kvs ih =>
      cases ps with
      | nil => simp at hl
      | cons p ps =>
        simp only [List.map_cons] at h
        cases h with
        | cons h1 h2 =>
          obtain ⟨fl, ol, g1, g2, g3, g4⟩ := ih h2 (by simpa using hl)
          simp only [List.map_cons, List.zip_cons_cons]
          by_cases e2 : a.1 = k
          · simp only [e2, if_true]
            refine ⟨_, _, by rw [← g1], .cons r g2, fun n hn => ?_, ?_⟩
            · rcases List.mem_append.mp hn with z | z
              · exact .inr z
              · exact (g3 n z).imp_left fun z => List.mem_append_right _ z
            · simpa using g4.trans (List.sublist_append_right _ _)
          · simp only [e2, if_false]
            refine ⟨_, _, by rw [← g1], .cons h1 g2, fun n hn => ?_, g4.append_left _⟩
            rcases List.mem_append.mp hn with z | z
            · exact .inl (List.mem_append_left _ z)
            · exact (g3 n z).imp_left fun z => List.mem_append_right _ z
  · rw [if_neg e, if_neg e]
    refine ⟨f ++ fx, o ++ [], ?_, ?_, fun n hn => List.mem_append.mp hn, by simp⟩
    · rw [List.map_append, List.map_append, List.map_fst_zip (by simp [hl])]; rfl
    · rw [List.map_append, List.map_append, List.map_snd_zip (by simp [hl])]
      simpa using h.app (.cons r .nil)
/-- what a statement keeps -/
structure Fr (vh : VH) (f o : HL) (vh' : VH) (f' o' : HL) : Prop where
  keep : ∀ (n : Nat) (x : VO), vh[n]? = some x → (∀ i, n ∉ o i) → vh'[n]? = some x
  len : vh.length ≤ vh'.length
  fb : ∀ j n, n ∈ f' j → (∃ i, n ∈ f i ∨ n ∈ o i) ∨ vh.length ≤ n
  ob : ∀ j n, n ∈ o' j → (∃ i, n ∈ o i) ∨ vh.length ≤ n
theorem Fr.refl : Fr vh f o vh f o := ⟨fun _ _ h _ => h, Nat.le_refl _, fun j n h => .inl ⟨j, .inl h⟩, fun j n h => .inl ⟨j, h⟩⟩
theorem Fr.of_agr (a : Agr vh vh') : Fr vh f o vh' f o := ⟨fun n x h _ => a n x h, a.len, fun j n h => .inl ⟨j, .inl h⟩, fun j n h => .inl ⟨j, h⟩⟩
theorem Fr.trans {vh2 : VH} {f1 o1 f2 o2 : HL} (a : Fr vh f o vh1 f1 o1) (b : Fr vh1 f1 o1 vh2 f2 o2) : Fr vh f o vh2 f2 o2 := by
  refine ⟨fun n x h k => b.keep n x (a.keep n x h k) fun i hi => ?_, Nat.le_trans a.len b.len, fun j n h => ?_, fun j n h => ?_⟩
  · rcases a.ob i n hi with ⟨j, z⟩ | z
    · exact k j z
    · have := (List.getElem?_eq_some_iff.mp h).1; omega
  · rcases b.fb j n h with ⟨i, z | z⟩ | z
    · exact a.fb i n z
    · exact (a.ob i n z).imp_left fun ⟨i, z⟩ => ⟨i, .inr z⟩
    · exact .inr (Nat.le_trans a.len z)
  · rcases b.ob j n h with ⟨i, z⟩ | z
    · exact a.ob i n z
    · exact .inr (Nat.le_trans a.len z)
/-- a new value beside the state -/
structure Nw (f o : HL) (ft ot : List Nat) : Prop where
  nd : ot.Nodup
  d0 : ∀ n ∈ ot, n ∉ ft
  d1 : ∀ n ∈ ot, ∀ j, n ∉ f j ∧ n ∉ o j
  d2 : ∀ j, ∀ n ∈ o j, n ∉ ft
theorem Fr.srcF {f1 o1 : HL} (a : Fr vh f o vh1 f1 o1) {n : Nat} (h : (∃ i, n ∈ f1 i ∨ n ∈ o1 i) ∨ vh1.length ≤ n) : (∃ i, n ∈ f i ∨ n ∈ o i) ∨ vh.length ≤ n := by
  rcases h with ⟨i, z | z⟩ | z
  · exact a.fb i n z
  · exact (a.ob i n z).imp_left fun ⟨i, z⟩ => ⟨i, .inr z⟩
  · exact .inr (Nat.le_trans a.len z)
theorem Fr.srcO {f1 o1 : HL} (a : Fr vh f o vh1 f1 o1) {n : Nat} (h : (∃ i, n ∈ o1 i) ∨ vh1.length ≤ n) : (∃ i, n ∈ o i) ∨ vh.length ≤ n := by
  rcases h with ⟨i, z⟩ | z
  · exact a.ob i n z
  · exact .inr (Nat.le_trans a.len z)
/-- a value given back -/
def RtP (vh : VH) (f o : HL) (vh' : VH) (v : VV) (p : PV) : Prop := ∃ ft ot, R vh' v p ft ot ∧ ot.Nodup ∧ (∀ n ∈ ot, n ∉ ft) ∧ (∀ (n : Nat) (x : VO), vh[n]? = some x → (∀ i, n ∉ o i) → vh'[n]? = some x) ∧ vh.length ≤ vh'.length ∧
  (∀ n ∈ ft, (∃ i, n ∈ f i ∨ n ∈ o i) ∨ vh.length ≤ n) ∧ ∀ n ∈ ot, (∃ i, n ∈ o i) ∨ vh.length ≤ n
def okZ (vh : VH) (f o : HL) (r : RSP) (s : RS) : Prop := match r with
  | .nx σp' => ∃ σ' vh' f' o', s = .nx σ' vh' ∧ Inv vh' σ' σp' f' o' ∧ Fr vh f o vh' f' o'
  | .bk σp' => ∃ σ' vh' f' o', s = .bk σ' vh' ∧ Inv vh' σ' σp' f' o' ∧ Fr vh f o vh' f' o'
  | .ct σp' => ∃ σ' vh' f' o', s = .ct σ' vh' ∧ Inv vh' σ' σp' f' o' ∧ Fr vh f o vh' f' o'
  | .exc c σp' => ∃ (_ : Unit) (σ' : SSt) (vh' : VH) (f' o' : HL), s = .exc c none σ' vh' ∧ Inv vh' σ' σp' f' o' ∧ Fr vh f o vh' f' o'
  | .rt p => ∃ v σ' vh', s = .rt v σ' vh' ∧ RtP vh f o vh' v p
  | .rx p σp' => ∃ v σ' vh' f' o' ft ot, s = .rt v σ' vh' ∧ Inv vh' σ' σp' f' o' ∧ Fr vh f o vh' f' o' ∧ R vh' v p ft ot ∧ Nw f' o' ft ot ∧ (∀ n ∈ ft, (∃ i, n ∈ f i ∨ n ∈ o i) ∨ vh.length ≤ n) ∧ ∀ n ∈ ot, (∃ i, n ∈ o i) ∨ vh.length ≤ n
  | .stuck => True
theorem okZ.lift {f1 o1 : HL} {r : RSP} {s : RS} (a : Fr vh f o vh1 f1 o1) (h : okZ vh1 f1 o1 r s) : okZ vh f o r s := by
  cases r with
  | nx σ => obtain ⟨x, y, z, w, e, i, b⟩ := h; exact ⟨x, y, z, w, e, i, a.trans b⟩
  | bk σ => obtain ⟨x, y, z, w, e, i, b⟩ := h; exact ⟨x, y, z, w, e, i, a.trans b⟩
  | ct σ => obtain ⟨x, y, z, w, e, i, b⟩ := h; exact ⟨x, y, z, w, e, i, a.trans b⟩
  | exc c σ => obtain ⟨u, x, y, z, w, e, i, b⟩ := h; exact ⟨u, x, y, z, w, e, i, a.trans b⟩
  | stuck => trivial
  | rx p σ =>
    obtain ⟨v, x, y, z, w, ft, ot, e, i, b, r, nw, s1, s2⟩ := h
    exact ⟨v, x, y, z, w, ft, ot, e, i, a.trans b, r, nw, fun n hn => a.srcF (s1 n hn), fun n hn => a.srcO (s2 n hn)⟩
  | rt p =>
    obtain ⟨v, σ', vh', e, ft, ot, h1, h2, h3, h4, h5, h6, h7⟩ := h
    refine ⟨v, σ', vh', e, ft, ot, h1, h2, h3, fun n x hx k => h4 n x (a.keep n x hx k) fun i hi => ?_, Nat.le_trans a.len h5, fun n hn => ?_, fun n hn => ?_⟩
    · rcases a.ob i n hi with ⟨j, z⟩ | z
      · exact k j z
      · have := (List.getElem?_eq_some_iff.mp hx).1; omega
    · rcases h6 n hn with ⟨i, z | z⟩ | z
      · exact a.fb i n z
      · exact (a.ob i n z).imp_left fun ⟨i, z⟩ => ⟨i, .inr z⟩
      · exact .inr (Nat.le_trans a.len z)
    · rcases h7 n hn with ⟨i, z⟩ | z
      · exact a.ob i n z
      · exact .inr (Nat.le_trans a.len z)
theorem okZ.seq {r : RSP} {s : RS} {g : SV → RSP} {h : SSt → VH → RS} (a : okZ vh f o r s) (k : ∀ {vh1 : VH} {σ : SSt} {σp : SV} {f1 o1 : HL}, Inv vh1 σ σp f1 o1 → okZ vh1 f1 o1 (g σp) (h σ vh1)) : okZ vh f o (r.seq g) (s.seq h) := by
  cases r with
  | nx σ => obtain ⟨x, y, z, w, rfl, i, b⟩ := a; exact (k i).lift b
  | bk σ => obtain ⟨x, y, z, w, rfl, i, b⟩ := a; exact ⟨x, y, z, w, rfl, i, b⟩
  | ct σ => obtain ⟨x, y, z, w, rfl, i, b⟩ := a; exact ⟨x, y, z, w, rfl, i, b⟩
  | exc c σ => obtain ⟨u, x, y, z, w, rfl, i, b⟩ := a; exact ⟨u, x, y, z, w, rfl, i, b⟩
  | stuck => trivial
  | rt p => obtain ⟨v, σ', vh', rfl, b⟩ := a; exact ⟨v, σ', vh', rfl, b⟩
  | rx p σ => obtain ⟨v, x, y, z, w, ft, ot, rfl, b⟩ := a; exact ⟨v, x, y, z, w, ft, ot, rfl, b⟩
/-- a def with in-out parameters, and its picture -/
def FnX (io : List Nat) (F : List VV → VH → Res VV) (X : List PV → RIO) : Prop := ∀ (vh : VH) (xs : List VV) (ps : List PV) (f o : HL), Inv vh (xs.map some) (ps.map some) f o → (∀ i, i ∉ io → o i = []) →
  match X ps with
  | .ok p ios => ∃ v vh' f' o' ft ot, F xs vh = .ok v vh' ∧ Inv vh' (xs.map some) ios f' o' ∧ Fr vh f o vh' f' o' ∧ R vh' v p ft ot ∧ Nw f' o' ft ot ∧ (∀ n ∈ ft, (∃ i, n ∈ f i ∨ n ∈ o i) ∨ vh.length ≤ n) ∧ ∀ n ∈ ot, (∃ i, n ∈ o i) ∨ vh.length ≤ n
  | .exc c ios => ∃ vh' f' o', F xs vh = .exc c none vh' ∧ Inv vh' (xs.map some) ios f' o' ∧ Fr vh f o vh' f' o'
  | .stuck => True
structure GX (G : Gam) (V : GV) : Prop where
  a : GOk G V
  fx : ∀ g, FnX (V.io g) (G.fn g) (V.fx g)
theorem okX.go {α β : Type} {P : VH → α → β → Prop} {r : RP β} {s : Res α} {g : β → RSP} {h : α → VH → RS} (I : Inv vh σ σp f o) (a : okX P vh r s) (k : ∀ v p vh1, Agr vh vh1 → P vh1 v p → okZ vh f o (g p) (h v vh1)) : okZ vh f o (r.go σp g) (s.go σ h) := by
  cases r with
  | ok p => obtain ⟨v, vh1, rfl, ag, hp⟩ := a; exact k v p vh1 ag hp
  | exc c => obtain ⟨fs, vh1, rfl, ag⟩ := a; exact ⟨fs, σ, vh1, f, o, rfl, I.agr ag, Fr.of_agr ag⟩
  | stuck => trivial
theorem settle_ok (I : Inv vh σ σp f o) (a : Agr vh vh1) {v : VV} {p : PV} (h : Ok1 vh f o vs vh1 v p) : ∃ f' o' ft ot, Inv vh1 σ (settle vs p σp) f' o' ∧ Fr vh f o vh1 f' o' ∧ R vh1 v p ft ot ∧ Nw f' o' ft ot ∧ (∀ n ∈ ft, (∃ i, n ∈ f i ∨ n ∈ o i) ∨ vh.length ≤ n) ∧ ∀ n ∈ ot, vh.length ≤ n := by
  obtain ⟨ft, ot, h1, h2, h3, h4, h5⟩ := h
  have hsrc : ∀ n ∈ ft, (∃ i, n ∈ f i ∨ n ∈ o i) ∨ vh.length ≤ n := fun n hn => (h4 n hn).imp_left fun ⟨i, _, z⟩ => ⟨i, z⟩
  have I1 := I.agr a
  simp only [settle]
  by_cases hc : clo p = true
  · rw [if_pos hc]
    have e := h1.clo hc
    subst e
    refine ⟨f, o, [], ot, I1, Fr.of_agr a, h1, ⟨h2, by simp, fun n hn j => ⟨fun z => ?_, fun z => ?_⟩, by simp⟩, by simp, h5⟩
    · have := I.lt j n (.inl z); have := h5 n hn; omega
    · have := I.lt j n (.inr z); have := h5 n hn; omega
  · rw [if_neg hc]
    obtain ⟨f', o', I', k0, k1, k2⟩ := I1.frz vs
    refine ⟨f', o', ft, ot, I', ⟨fun n x hx _ => a n x hx, a.len, fun j n hn => .inl ⟨j, k1 j n hn⟩, fun j n hn => .inl ⟨j, k2 j n hn⟩⟩, h1, ⟨h2, h3, fun n hn j => ⟨fun z => ?_, fun z => ?_⟩, fun j n hn hm => ?_⟩, hsrc, h5⟩
    · have := I.lt j n (k1 j n z); have := h5 n hn; omega
    · have := I.lt j n (.inr (k2 j n z)); have := h5 n hn; omega
    · have hj := k2 j n hn
      rcases h4 n hm with ⟨i, hi, z | z⟩ | z
      · exact I.sep.fo j i n hj z
      · by_cases e : i = j
        · subst e
          rw [k0 i hi] at hn; cases hn
        · exact I.sep.oo j i (fun z => e z.symm) n hj z
      · have := I.lt j n (.inr hj); omega
/-- an owned object that is changed in place -/
theorem Inv.upd (I : Inv vh σ σp f o) {j n : Nat} {o1 : List Nat} (e1 : σ[j]? = some (some (.ref n))) (ho : o j = n :: o1) {ob' : VO} {p' : PV} {fl ol : List Nat} (rr : R (vh.set n ob') (.ref n) p' fl (n :: ol)) (nd : ol.Nodup) (d0 : ∀ a ∈ ol, a ∉ fl) (n1 : n ∉ fl) (n2 : n ∉ ol)
    (d1 : ∀ a ∈ ol, ∀ i, i ≠ j → a ∉ f i ∧ a ∉ o i) (d2 : ∀ i, i ≠ j → ∀ a ∈ o i, a ∉ fl) :
      ∃ f' o', Inv (vh.set n ob') σ (σp.set j (some p')) f' o' ∧ (∀ i, i ≠ j → f' i = f i ∧ o' i = o i) ∧ (∀ a, a ∈ f' j → a ∈ fl) ∧ ∀ a, a ∈ o' j → a = n ∨ a ∈ ol := by
  have hne : ∀ i a, a ∈ f i ∨ a ∈ o i → i ≠ j → a ≠ n := fun i a ha hi z => by
    subst z
    have hn : a ∈ o j := by rw [ho]; exact List.mem_cons_self
    rcases ha with ha | ha
    · exact I.sep.fo j i a hn ha
    · exact I.sep.oo j i (fun z => hi z.symm) a hn ha
  have I0 := I.unset j
  have I1 : Inv (vh.set n ob') (σ.set j none) (σp.set j none) (updL f j []) (updL o j []) := I0.same fun i a ha => by
    by_cases hi : i = j
    · subst hi; rw [updL_same, updL_same] at ha; simp at ha
    · rw [updL_ne hi, updL_ne hi] at ha
      exact List.getElem?_set_ne fun z => hne i a ha hi z.symm
  obtain ⟨f', o', I2, g1, g2, g3⟩ := I1.set j rr (List.nodup_cons.mpr ⟨n2, nd⟩) (fun a ha hm => by
      rcases List.mem_cons.mp ha with z | z
      · subst z; exact n1 hm
      · exact d0 a z hm) (fun a ha i hi => by
      rw [updL_ne hi, updL_ne hi]
      rcases List.mem_cons.mp ha with z | z
      · subst z; exact ⟨fun z => hne i a (.inl z) hi rfl, fun z => hne i a (.inr z) hi rfl⟩
      · exact d1 a z i hi) (fun i hi a ha hm => by
      rw [updL_ne hi] at ha
      exact d2 i hi a ha hm)
  have s1 : (σ.set j none).set j (some (.ref n)) = σ := by
    rw [List.set_set]
    apply List.ext_getElem?
    intro i
    by_cases hi : j = i
    · subst hi; rw [List.getElem?_set_self (List.getElem?_eq_some_iff.mp e1).1, e1]
    · rw [List.getElem?_set_ne hi]
  rw [s1, List.set_set] at I2
  refine ⟨f', o', I2, fun i hi => ?_, g2, fun a ha => List.mem_cons.mp (g3 a ha)⟩
  obtain ⟨q1, q2⟩ := g1 i hi
  rw [updL_ne hi] at q1 q2
  exact ⟨q1, q2⟩
theorem own_get (I : Inv vh σ σp f o) {j : Nat} {l : List PV} (e : ownL σp j = some l) : σp[j]? = some (some (.lst true l)) ∧ ∃ n xs o1, σ[j]? = some (some (.ref n)) ∧ vh[n]? = some (.lst xs) ∧ Rs vh xs l (f j) o1 ∧ o j = n :: o1 ∧ o1.Nodup ∧ n ∉ o1 ∧ n ∉ f j ∧ ∀ a ∈ o1, a ∉ f j := by
  simp only [ownL] at e
  split at e
  · rename_i q e1
    cases e
    refine ⟨e1, ?_⟩
    obtain ⟨v, e2, r⟩ := I.get e1
    have nd := I.sep.nd j
    have fo := I.sep.fo j j
    generalize f j = fj at r fo ⊢
    generalize o j = oj at r nd fo ⊢
    cases r with
    | olst e3 rs => exact ⟨_, _, _, e2, e3, rs, rfl, (List.nodup_cons.mp nd).2, (List.nodup_cons.mp nd).1, fo _ List.mem_cons_self, fun a ha => fo a (List.mem_cons_of_mem _ ha)⟩
  · cases e
/-- what changes a list in place -/
theorem mut_ok (m : ME) {n : Nat} {xs : List VV} {l l' : List PV} {fj o1 fa oa : List Nat} {args : List VV} {ps : List PV} (e : vh[n]? = some (.lst xs)) (h : Rs vh xs l fj o1) (ha : Rs vh args ps fa oa) (nd : o1.Nodup) (dj : ∀ a ∈ o1, a ∉ fj) (nda : oa.Nodup) (dja : ∀ a ∈ oa, a ∉ fa)
    (cr : ∀ a ∈ oa, a ∉ fj ∧ a ∉ o1) (cr2 : ∀ a ∈ o1, a ∉ fa) (hm : mutP m l ps = some l') : ∃ xs' fl ol, sME m (.ref n) args vh = .ok .non (vh.set n (.lst xs')) ∧ tyOk m (.ref n) vh = true ∧ Rs vh xs' l' fl ol ∧ (∀ a ∈ fl, a ∈ fj ∨ a ∈ fa ∨ a ∈ oa) ∧ (∀ a ∈ ol, a ∈ o1 ∨ a ∈ oa) ∧ ol.Nodup ∧ ∀ a ∈ ol, a ∉ fl := by
  have el := h.len
  have ty : isLst (.ref n) vh = true := by simp [isLst, seqL, e]
  have one : ∀ {p : PV}, ps = [p] → ∃ x, args = [x] ∧ R vh x p fa oa := by
    rintro p rfl
    cases ha with
    | cons a b => cases b; simp only [List.append_nil]; exact ⟨_, rfl, a⟩
  unfold mutP at hm
  split at hm
  · rename_i y
    obtain ⟨x, rfl, r⟩ := one rfl
    split at hm
    · rename_i hz
      cases hm
      refine ⟨xs ++ [x], fj ++ fa, o1 ++ oa, ?_, ty, by simpa using h.app (.cons r .nil), fun a ha => by simpa using (List.mem_append.mp ha).imp_right Or.inl, fun a ha => List.mem_append.mp ha, ?_, ?_⟩
      · simp only [sME, e]; rw [if_pos (by unfold lineZ; omega)]
      · exact List.nodup_append.mpr ⟨nd, nda, fun a ha b hb z => (cr b hb).2 (z ▸ ha)⟩
      · intro a ha hb
        rcases List.mem_append.mp ha with ha | ha <;> rcases List.mem_append.mp hb with hb | hb
        · exact dj a ha hb
        · exact cr2 a ha hb
        · exact (cr a ha).1 hb
        · exact dja a ha hb
    · cases hm
  · rename_i i y
    cases ha with
    | cons a b =>
      cases b with
      | cons b c =>
        cases c
        cases a
        rename_i x fb ob
        simp only [List.nil_append, List.append_nil] at nda dja cr cr2 ⊢
        split at hm
        · rename_i hz
          cases hm
          obtain ⟨f1, p1, f2, p2, g1, g2, rfl, rfl⟩ := h.cut i.toNat
          refine ⟨xs.take i.toNat ++ [x] ++ xs.drop i.toNat, (f1 ++ fb) ++ f2, (p1 ++ ob) ++ p2, ?_, ty, (g1.app (by simpa using Rs.cons b .nil)).app g2, fun a ha => ?_, fun a ha => ?_, ?_, ?_⟩
          · simp only [sME, e]; rw [if_pos (by unfold lineZ; omega)]
          · simp only [List.mem_append] at ha ⊢
            rcases ha with (ha | ha) | ha
            · exact .inl (.inl ha)
            · exact .inr (.inl ha)
            · exact .inl (.inr ha)
          · simp only [List.mem_append] at ha ⊢
            rcases ha with (ha | ha) | ha
            · exact .inl (.inl ha)
            · exact .inr ha
            · exact .inl (.inr ha)
          · obtain ⟨n1, n2, n3⟩ := List.nodup_append.mp nd
            refine List.nodup_append.mpr ⟨List.nodup_append.mpr ⟨n1, nda, fun a ha b hb z => (cr b hb).2 (z ▸ List.mem_append_left _ ha)⟩, n2, fun a ha b hb z => ?_⟩
            rcases List.mem_append.mp ha with ha | ha
            · exact n3 a ha b hb z
            · exact (cr a ha).2 (z ▸ List.mem_append_right _ hb)
          · intro a ha hb
            simp only [List.mem_append] at ha hb dj cr cr2
            rcases ha with (ha | ha) | ha <;> rcases hb with (hb | hb) | hb
            · exact dj a (.inl ha) (.inl hb)
            · exact cr2 a (.inl ha) hb
            · exact dj a (.inl ha) (.inr hb)
            · exact (cr a ha).1 (.inl hb)
            · exact dja a ha hb
            · exact (cr a ha).1 (.inr hb)
            · exact dj a (.inr ha) (.inl hb)
            · exact cr2 a (.inr ha) hb
            · exact dj a (.inr ha) (.inr hb)
        · cases hm
  · cases ha
    cases hm
    obtain ⟨f1, p1, g1, g2, g3⟩ := h.revO
    refine ⟨xs.reverse, f1, p1, ?_, ty, g1, fun a ha => .inl (g2 a ha), fun a ha => .inl (g3.subset ha), g3.nodup_iff.mpr nd, fun a ha hb => dj a (g3.subset ha) (g2 a hb)⟩
    simp only [sME, e]
  · cases ha
    cases hm
    refine ⟨[], [], [], ?_, ty, .nil, by simp, by simp, by simp, by simp⟩
    simp only [sME, e]
  · rename_i b ys
    obtain ⟨x, rfl, r⟩ := one rfl
    split at hm
    · rename_i hz
      cases hm
      have hr : ∃ m zs, x = .ref m ∧ vh[m]? = some (.lst zs) ∧ Fz vh zs (fzs ys) (fun a => a ∈ fa ∨ a ∈ oa) := by
        cases r with
        | flst e r => exact ⟨_, _, rfl, e, r.toFz.imp fun a ha => ha.elim (fun z => .inl (List.mem_cons_of_mem _ z)) (by simp)⟩
        | olst e r => exact ⟨_, _, rfl, e, r.toFz.imp fun a ha => ha.elim .inl fun z => .inr (List.mem_cons_of_mem _ z)⟩
      obtain ⟨m, zs, rfl, e2, f3, g1, g2⟩ := hr
      have el2 : zs.length = ys.length := by rw [g1.len, fzs_len]
      refine ⟨xs ++ zs, fj ++ f3, o1 ++ [], ?_, ty, h.app g1, fun a ha => (List.mem_append.mp ha).imp_right (g2 a), fun a ha => .inl (by simpa using ha), by simpa using nd, fun a ha hb => ?_⟩
      · simp only [sME, e, e2]; rw [if_pos (by unfold lineZ; omega)]
      · simp only [List.append_nil] at ha
        rcases List.mem_append.mp hb with hb | hb
        · exact dj a ha hb
        · rcases g2 a hb with z | z
          · exact cr2 a ha z
          · exact (cr a z).2 ha
    · cases hm
  · cases hm
/-- what takes an item out of a list in place -/
theorem pop_ok (m : ME) {n : Nat} {xs : List VV} {l l' : List PV} {y : PV} {fj o1 : List Nat} {args : List VV} {ps : List PV} (e : vh[n]? = some (.lst xs)) (h : Rs vh xs l fj o1) (ha : Oks vh1 f o vs vh args ps) (hm : popP m l ps = some (y, l')) :
    ∃ x xs' f1 p1 f2 p2, sME m (.ref n) args vh = .ok x (vh.set n (.lst xs')) ∧ tyOk m (.ref n) vh = true ∧ R vh x y f1 p1 ∧ Rs vh xs' l' f2 p2 ∧ (∀ a ∈ f1, a ∈ fj) ∧ (∀ a ∈ f2, a ∈ fj) ∧ List.Perm (p1 ++ p2) o1 := by
  have el := h.len
  have ty : isLst (.ref n) vh = true := by simp [isLst, seqL, e]
  unfold popP at hm
  split at hm
  · have := ha.nil_inv; subst this
    split at hm
    · rename_i q eq
      cases hm
      obtain ⟨x, f1, p1, f2, p2, g1, g2, g3, g4, g5, g6⟩ := h.erase eq
      have hl : 0 < xs.length := by
        have := (List.getElem?_eq_some_iff.mp g1).1; omega
      refine ⟨x, xs.dropLast, f1, p1, f2, p2, ?_, ty, g2, ?_, g4, g5, g6⟩
      · simp only [sME, e, el, g1]
      · have e1 : xs.eraseIdx (l.length - 1) = xs.dropLast := by rw [← el]; exact List.eraseIdx_eq_dropLast (by omega)
        have e2 : l.eraseIdx (l.length - 1) = l.dropLast := List.eraseIdx_eq_dropLast (by omega)
        rw [e1, e2] at g3
        exact g3
    · cases hm
  · rename_i i
    obtain ⟨x0, rfl, h0⟩ := ha.one_inv
    have := int_inv h0; subst this
    split at hm
    · rename_i k ek
      split at hm
      · rename_i q eq
        split at hm
        · rename_i hz
          cases hm
          obtain ⟨x, f1, p1, f2, p2, g1, g2, g3, g4, g5, g6⟩ := h.erase eq
          refine ⟨x, xs.eraseIdx k, f1, p1, f2, p2, ?_, ty, g2, g3, g4, g5, g6⟩
          simp only [sME, e, el, ek, g1]
          rw [if_pos hz]
        · cases hm
      · cases hm
    · cases hm
  · cases hm
end
end Fe
namespace Fe
open PySem PySem.Spec PyProof.Rows L2
theorem Res.bind_go {α β : Type} (r : Res α) (g : α → VH → Res β) (σ : SSt) (h : β → VH → RS) : (r.bind g).go σ h = r.go σ fun a vh => (g a vh).go σ h := by cases r <;> rfl
section
variable {vh vh1 vh' : VH} {f o f1 o1 : HL} {vs ws : List Nat} {σ : SSt} {σp : SV}
/-- a slot is given a new value -/
theorem put_ok (I : Inv vh1 σ σp f1 o1) (F0 : Fr vh f o vh1 f1 o1) {v : VV} {p : PV} {ft ot : List Nat} (r : R vh1 v p ft ot) (nw : Nw f1 o1 ft ot) (bf : ∀ n ∈ ft, (∃ i, n ∈ f i ∨ n ∈ o i) ∨ vh.length ≤ n) (bo : ∀ n ∈ ot, (∃ i, n ∈ o i) ∨ vh.length ≤ n) (i : Nat) :
    ∃ f' o', Inv vh1 (σ.set i (some v)) (σp.set i (some p)) f' o' ∧ Fr vh f o vh1 f' o' ∧ (∀ j n, n ∈ f' j → n ∈ f1 j ∨ n ∈ ft) ∧ ∀ j n, n ∈ o' j → n ∈ o1 j ∨ n ∈ ot := by
  obtain ⟨f', o', I', a1, a2, a3⟩ := I.set i r nw.nd nw.d0 (fun n hn j _ => nw.d1 n hn j) (fun j _ => nw.d2 j)
  have q1 : ∀ j n, n ∈ f' j → n ∈ f1 j ∨ n ∈ ft := fun j n hn => by
    by_cases e : j = i
    · subst e; exact .inr (a2 n hn)
    · rw [(a1 j e).1] at hn; exact .inl hn
  have q2 : ∀ j n, n ∈ o' j → n ∈ o1 j ∨ n ∈ ot := fun j n hn => by
    by_cases e : j = i
    · subst e; exact .inr (a3 n hn)
    · rw [(a1 j e).2] at hn; exact .inl hn
  exact ⟨f', o', I', ⟨F0.keep, F0.len, fun j n hn => (q1 j n hn).elim (F0.fb j n) (bf n), fun j n hn => (q2 j n hn).elim (F0.ob j n) (bo n)⟩, q1, q2⟩
/-- an owned object is changed in place -/
theorem upd_ok (I : Inv vh1 σ σp f1 o1) (F0 : Fr vh f o vh1 f1 o1) {j n : Nat} {oo : List Nat} (e1 : σ[j]? = some (some (.ref n))) (ho : o1 j = n :: oo) {ob' : VO} {p' : PV} {fl ol : List Nat} (rr : R (vh1.set n ob') (.ref n) p' fl (n :: ol)) (nd : ol.Nodup) (d0 : ∀ a ∈ ol, a ∉ fl) (n1 : n ∉ fl) (n2 : n ∉ ol)
    (d1 : ∀ a ∈ ol, ∀ i, i ≠ j → a ∉ f1 i ∧ a ∉ o1 i) (d2 : ∀ i, i ≠ j → ∀ a ∈ o1 i, a ∉ fl) (bf : ∀ n ∈ fl, (∃ i, n ∈ f i ∨ n ∈ o i) ∨ vh.length ≤ n) (bo : ∀ n ∈ ol, (∃ i, n ∈ o i) ∨ vh.length ≤ n) :
    ∃ f' o', Inv (vh1.set n ob') σ (σp.set j (some p')) f' o' ∧ Fr vh f o (vh1.set n ob') f' o' ∧ (∀ i, i ≠ j → f' i = f1 i ∧ o' i = o1 i) ∧ (∀ a, a ∈ f' j → a ∈ fl) ∧ ∀ a, a ∈ o' j → a = n ∨ a ∈ ol := by
  obtain ⟨f', o', I', a1, a2, a3⟩ := I.upd e1 ho rr nd d0 n1 n2 d1 d2
  have hn : n ∈ o1 j := by rw [ho]; exact List.mem_cons_self
  refine ⟨f', o', I', ⟨fun m x hx k => ?_, by rw [List.length_set]; exact F0.len, fun i a ha => ?_, fun i a ha => ?_⟩, a1, a2, a3⟩
  · rw [List.getElem?_set_ne]
    · exact F0.keep m x hx k
    · rintro rfl
      rcases F0.ob j n hn with ⟨i, z⟩ | z
      · exact k i z
      · have := (List.getElem?_eq_some_iff.mp hx).1; omega
  · by_cases e : i = j
    · subst e; exact bf a (a2 a ha)
    · rw [(a1 i e).1] at ha; exact F0.fb i a ha
  · by_cases e : i = j
    · subst e
      rcases a3 a ha with z | z
      · subst z; exact F0.ob i a hn
      · exact bo a z
    · rw [(a1 i e).2] at ha; exact F0.ob i a ha
theorem okZ_nx {σ' : SSt} {σp' : SV} {f' o' : HL} (I : Inv vh' σ' σp' f' o') (F : Fr vh f o vh' f' o') : okZ vh f o (.nx σp') (.nx σ' vh') := ⟨_, _, _, _, rfl, I, F⟩
/-- a method that changes the list in slot i; the arguments have been settled -/
theorem mutS_ok (I : Inv vh1 σ σp f1 o1) (F0 : Fr vh f o vh1 f1 o1) (m : ME) {i : Nat} {l l' : List PV} {args : List VV} {ps : List PV} {fa oa : List Nat} (eo : ownL σp i = some l) (ha : Rs vh1 args ps fa oa) (nw : Nw f1 o1 fa oa) (bf : ∀ n ∈ fa, (∃ i, n ∈ f i ∨ n ∈ o i) ∨ vh.length ≤ n) (bo : ∀ n ∈ oa, (∃ i, n ∈ o i) ∨ vh.length ≤ n) (hm : mutP m l ps = some l') :
    ∃ n vh2, σ[i]? = some (some (.ref n)) ∧ tyOk m (.ref n) vh1 = true ∧ sME m (.ref n) args vh1 = .ok .non vh2 ∧ okZ vh f o (.nx (σp.set i (some (.lst true l')))) (.nx σ vh2) := by
  obtain ⟨e0, n, xs, oo, e1, e2, rs, ho, nd, n2, n1, dj⟩ := own_get I eo
  have hmem : ∀ a ∈ oo, a ∈ o1 i := fun a ha => by rw [ho]; exact List.mem_cons_of_mem _ ha
  obtain ⟨xs', fl, ol, g1, g2, g3, g4, g5, g6, g7⟩ := mut_ok m e2 rs ha nd dj nw.nd nw.d0 (fun a ha => ⟨(nw.d1 a ha i).1, fun z => (nw.d1 a ha i).2 (hmem a z)⟩) (fun a ha => nw.d2 i a (hmem a ha)) hm
  have hn : n ∈ o1 i := by rw [ho]; exact List.mem_cons_self
  have nfl : n ∉ fl := fun z => by
    rcases g4 n z with z | z | z
    · exact n1 z
    · exact nw.d2 i n hn z
    · exact (nw.d1 n z i).2 hn
  have nol : n ∉ ol := fun z => by
    rcases g5 n z with z | z
    · exact n2 z
    · exact (nw.d1 n z i).2 hn
  have rr : R (vh1.set n (.lst xs')) (.ref n) (.lst true l') fl (n :: ol) := .olst (List.getElem?_set_self (List.getElem?_eq_some_iff.mp e2).1) (g3.same fun a ha => List.getElem?_set_ne fun z => by
    subst z; exact ha.elim nfl nol)
  obtain ⟨f', o', I', F', _⟩ := upd_ok I F0 e1 ho rr g6 g7 nfl nol (fun a ha k hk => by
      rcases g5 a ha with z | z
      · exact ⟨I.sep.fo i k a (hmem a z), I.sep.oo i k (fun z => hk z.symm) a (hmem a z)⟩
      · exact nw.d1 a z k) (fun k hk a ha hm => by
      rcases g4 a hm with z | z | z
      · exact I.sep.fo k i a ha z
      · exact nw.d2 k a ha z
      · exact (nw.d1 a z k).2 ha) (fun a ha => by
      rcases g4 a ha with z | z | z
      · exact F0.fb i a z
      · exact bf a z
      · exact (bo a z).imp_left fun ⟨i, z⟩ => ⟨i, .inr z⟩) (fun a ha => by
      rcases g5 a ha with z | z
      · exact F0.ob i a (hmem a z)
      · exact bo a z)
  exact ⟨n, _, e1, g2, g1, okZ_nx I' F'⟩
/-- an item taken out of the list in slot j -/
theorem popS_ok (I : Inv vh1 σ σp f1 o1) (F0 : Fr vh f o vh1 f1 o1) (m : ME) {j : Nat} {l l' : List PV} {y : PV} {args : List VV} {ps : List PV} {vh0 : VH} {f0 o0 : HL} (eo : ownL σp j = some l) (ha : Oks vh0 f0 o0 vs vh1 args ps) (hm : popP m l ps = some (y, l')) :
    ∃ n x vh2 f' o' ft ot, σ[j]? = some (some (.ref n)) ∧ tyOk m (.ref n) vh1 = true ∧ sME m (.ref n) args vh1 = .ok x vh2 ∧ Inv vh2 σ (σp.set j (some (.lst true l'))) f' o' ∧ Fr vh f o vh2 f' o' ∧ R vh2 x y ft ot ∧ Nw f' o' ft ot ∧ (∀ n ∈ ft, (∃ i, n ∈ f i ∨ n ∈ o i) ∨ vh.length ≤ n) ∧ (∀ n ∈ ot, (∃ i, n ∈ o i) ∨ vh.length ≤ n) := by
  obtain ⟨e0, n, xs, oo, e1, e2, rs, ho, nd, n2, n1, dj⟩ := own_get I eo
  have hmem : ∀ a ∈ oo, a ∈ o1 j := fun a ha => by rw [ho]; exact List.mem_cons_of_mem _ ha
  obtain ⟨x, xs', fx, px, fl, ol, g1, g2, g3, g4, g5, g6, g7⟩ := pop_ok m e2 rs ha hm
  have hn : n ∈ o1 j := by rw [ho]; exact List.mem_cons_self
  have ndp : (px ++ ol).Nodup := g7.nodup_iff.mpr nd
  obtain ⟨p1, p2, p3⟩ := List.nodup_append.mp ndp
  have in1 : ∀ a ∈ px, a ∈ oo := fun a ha => g7.subset (List.mem_append_left _ ha)
  have in2 : ∀ a ∈ ol, a ∈ oo := fun a ha => g7.subset (List.mem_append_right _ ha)
  have nfl : n ∉ fl := fun z => n1 (g6 n z)
  have nol : n ∉ ol := fun z => n2 (in2 n z)
  have rr : R (vh1.set n (.lst xs')) (.ref n) (.lst true l') fl (n :: ol) := .olst (List.getElem?_set_self (List.getElem?_eq_some_iff.mp e2).1) (g4.same fun a ha => List.getElem?_set_ne fun z => by
    subst z; exact ha.elim nfl nol)
  obtain ⟨f', o', I', F', b1, b2, b3⟩ := upd_ok I F0 e1 ho rr p2 (fun a ha hb => dj a (in2 a ha) (g6 a hb)) nfl nol (fun a ha k hk => ⟨I.sep.fo j k a (hmem a (in2 a ha)), I.sep.oo j k (fun z => hk z.symm) a (hmem a (in2 a ha))⟩) (fun k hk a ha hm => I.sep.fo k j a ha (g6 a hm))
    (fun a ha => F0.fb j a (g6 a ha)) (fun a ha => F0.ob j a (hmem a (in2 a ha)))
  refine ⟨n, x, _, f', o', fx, px, e1, g2, g1, I', F', g3.same fun a ha => List.getElem?_set_ne fun z => ?_, ⟨p1, fun a ha hb => dj a (in1 a ha) (g5 a hb), fun a ha k => ?_, fun k a ha hb => ?_⟩, fun a ha => F0.fb j a (g5 a ha), fun a ha => F0.ob j a (hmem a (in1 a ha))⟩
  · subst z
    exact ha.elim (fun z => n1 (g5 n z)) fun z => n2 (in1 n z)
  · by_cases e : k = j
    · subst e
      refine ⟨fun z => dj a (in1 a ha) (g6 a (b2 a z)), fun z => ?_⟩
      rcases b3 a z with z | z
      · subst z; exact n2 (in1 a ha)
      · exact p3 a ha a z rfl
    · rw [(b1 k e).1, (b1 k e).2]
      exact ⟨I.sep.fo j k a (hmem a (in1 a ha)), I.sep.oo j k (fun z => e z.symm) a (hmem a (in1 a ha))⟩
  · by_cases e : k = j
    · subst e
      rcases b3 a ha with z | z
      · subst z; exact n1 (g5 a hb)
      · exact dj a (in2 a z) (g5 a hb)
    · rw [(b1 k e).2] at ha
      exact I.sep.fo k j a ha (g5 a hb)
/-- x[i] = v on an owned list or dict in slot i -/
theorem setS_ok (I : Inv vh1 σ σp f1 o1) (F0 : Fr vh f o vh1 f1 o1) {i : Nat} {p p' k v : PV} {kv vv : VV} {fk ok ft ot : List Nat} (ep : σp[i]? = some (some p)) (rk : R vh1 kv k fk ok) (r : R vh1 vv v ft ot) (nw : Nw f1 o1 ft ot) (bf : ∀ n ∈ ft, (∃ i, n ∈ f i ∨ n ∈ o i) ∨ vh.length ≤ n) (bo : ∀ n ∈ ot, (∃ i, n ∈ o i) ∨ vh.length ≤ n) (hm : setP p k v = some p') :
    ∃ x vh2, σ[i]? = some (some x) ∧ sSet x kv vv vh1 = .ok () vh2 ∧ okZ vh f o (.nx (σp.set i (some p'))) (.nx σ vh2) := by
  obtain ⟨x, ex, rx⟩ := I.get ep
  have nd := I.sep.nd i
  have fo := I.sep.fo i i
  generalize hfi : f1 i = fi at rx fo
  generalize hoi : o1 i = oi at rx nd fo
  unfold setP at hm
  split at hm
  · rename_i l
    cases rx with
    | olst e2 rs =>
      rename_i n xs oo
      split at hm
      · rename_i kk
        cases rk
        split at hm
        · rename_i jj ej
          cases hm
          have el := rs.len
          obtain ⟨fl, ol, g1, g2, g3, g4⟩ := rs.setAt r jj
          have hmem : ∀ a ∈ oo, a ∈ o1 i := fun a ha => by rw [hoi]; exact List.mem_cons_of_mem _ ha
          have hn : n ∈ o1 i := by rw [hoi]; exact List.mem_cons_self
          have nfl : n ∉ fl := fun z => by
            rcases g2 n z with z | z
            · exact fo n List.mem_cons_self z
            · exact nw.d2 i n hn z
          have nol : n ∉ ol := fun z => by
            rcases g3 n z with z | z
            · exact (List.nodup_cons.mp nd).1 z
            · exact (nw.d1 n z i).2 hn
          have rr : R (vh1.set n (.lst (xs.set jj vv))) (.ref n) (.lst true (l.set jj v)) fl (n :: ol) := .olst (List.getElem?_set_self (List.getElem?_eq_some_iff.mp e2).1) (g1.same fun a ha => List.getElem?_set_ne fun z => by
            subst z; exact ha.elim nfl nol)
          obtain ⟨f', o', I', F', _⟩ := upd_ok I F0 ex hoi rr (g4 (List.nodup_cons.mp nd).2 nw.nd fun a ha hb => (nw.d1 a hb i).2 (hmem a ha)) (fun a ha hb => by
              rcases g3 a ha with z | z <;> rcases g2 a hb with w | w
              · exact fo a (List.mem_cons_of_mem _ z) w
              · exact nw.d2 i a (hmem a z) w
              · exact (nw.d1 a z i).1 (by rw [hfi]; exact w)
              · exact nw.d0 a z w) nfl nol (fun a ha k hk => by
              rcases g3 a ha with z | z
              · exact ⟨I.sep.fo i k a (hmem a z), I.sep.oo i k (fun z => hk z.symm) a (hmem a z)⟩
              · exact nw.d1 a z k) (fun k hk a ha hm => by
              rcases g2 a hm with z | z
              · exact I.sep.fo k i a ha (by rw [hfi]; exact z)
              · exact nw.d2 k a ha z) (fun a ha => by
              rcases g2 a ha with z | z
              · exact F0.fb i a (by rw [hfi]; exact z)
              · exact bf a z) (fun a ha => by
              rcases g3 a ha with z | z
              · exact F0.ob i a (hmem a z)
              · exact bo a z)
          refine ⟨_, _, ex, ?_, okZ_nx I' F'⟩
          simp only [sSet, e2, ixP, el, ej]
        · cases hm
      · cases hm
  · rename_i ks l
    cases rx with
    | odct e2 rs =>
      rename_i n kvs oo
      split at hm
      · rename_i kk ek
        split at hm
        · rename_i hz
          cases hm
          obtain ⟨fz1, r1, k1⟩ := r.fz
          obtain ⟨fl, ol, g0, g1, g2, g3⟩ := Rs.putK (k := kk) r1 rs
          have hmem : ∀ a ∈ oo, a ∈ o1 i := fun a ha => by rw [hoi]; exact List.mem_cons_of_mem _ ha
          have hn : n ∈ o1 i := by rw [hoi]; exact List.mem_cons_self
          have g2' : ∀ a ∈ fl, a ∈ fi ∨ a ∈ ft ∨ a ∈ ot := fun a ha => (g2 a ha).imp_right fun z => (k1 a).mp z
          have nfl : n ∉ fl := fun z => by
            rcases g2' n z with z | z | z
            · exact fo n List.mem_cons_self z
            · exact nw.d2 i n hn z
            · exact (nw.d1 n z i).2 hn
          have nol : n ∉ ol := fun z => (List.nodup_cons.mp nd).1 (g3.subset z)
          have rr : R (vh1.set n (.dct (putKK kvs kk vv))) (.ref n) (.dct true ((putKK ((kvs.map (·.1)).zip l) kk (fz v)).map (·.1)) ((putKK ((kvs.map (·.1)).zip l) kk (fz v)).map (·.2))) fl (n :: ol) := by
            rw [← g0]
            exact .odct (List.getElem?_set_self (List.getElem?_eq_some_iff.mp e2).1) (g1.same fun a ha => List.getElem?_set_ne fun z => by
              subst z; exact ha.elim nfl nol)
          obtain ⟨f', o', I', F', _⟩ := upd_ok I F0 ex hoi rr (g3.nodup (List.nodup_cons.mp nd).2) (fun a ha hb => by
              have z := g3.subset ha
              rcases g2' a hb with w | w | w
              · exact fo a (List.mem_cons_of_mem _ z) w
              · exact nw.d2 i a (hmem a z) w
              · exact (nw.d1 a w i).2 (hmem a z)) nfl nol (fun a ha k hk => ⟨I.sep.fo i k a (hmem a (g3.subset ha)), I.sep.oo i k (fun z => hk z.symm) a (hmem a (g3.subset ha))⟩) (fun k hk a ha hm => by
              rcases g2' a hm with z | z | z
              · exact I.sep.fo k i a ha (by rw [hfi]; exact z)
              · exact nw.d2 k a ha z
              · exact (nw.d1 a z k).2 ha) (fun a ha => by
              rcases g2' a ha with z | z | z
              · exact F0.fb i a (by rw [hfi]; exact z)
              · exact bf a z
              · exact (bo a z).imp_left fun ⟨i, z⟩ => ⟨i, .inr z⟩) (fun a ha => F0.ob i a (hmem a (g3.subset ha)))
          refine ⟨_, _, ex, ?_, okZ_nx I' F'⟩
          simp only [sSet, e2, key_same rk, ek]
          rw [if_pos (by unfold lineZ; simpa using hz)]
        · cases hm
      · cases hm
  · cases hm
end
end Fe
namespace Fe
open PySem PySem.Spec PyProof.Rows L2
def ix1 (w : VV) (i : Int) (vh : VH) : Option VV := match w with
  | .tup xs => atI xs i
  | .ref n => match vh[n]? with
    | some (.lst xs) => atI xs i
    | _ => none
  | _ => none
def ixsV : List Int → VV → VH → Option VV
  | [], v, _ => some v
  | i :: r, v, vh => (ix1 v i vh).bind fun w => ixsV r w vh
theorem ixsV_snoc (vh : VH) (k : Int) : ∀ (l : List Int) (v : VV), ixsV (l ++ [k]) v vh = (ixsV l v vh).bind fun w => ix1 w k vh
  | [], v => by simp [ixsV]
  | i :: r, v => by
    simp only [List.cons_append, ixsV]
    cases ix1 v i vh with
    | none => rfl
    | some w => exact ixsV_snoc vh k r w
theorem ixsV_agr {vh vh1 : VH} (a : Agr vh vh1) : ∀ (l : List Int) {v w : VV}, ixsV l v vh = some w → ixsV l v vh1 = some w
  | [], v, w, h => h
  | i :: r, v, w, h => by
    simp only [ixsV] at h ⊢
    rw [Option.bind_eq_some_iff] at h ⊢
    obtain ⟨u, h1, h2⟩ := h
    refine ⟨u, ?_, ixsV_agr a r h2⟩
    unfold ix1 at h1 ⊢
    cases v with
    | tup xs => exact h1
    | ref n =>
      simp only at h1 ⊢
      split at h1
      · rename_i xs e; rw [a n _ e]; exact h1
      · cases h1
    | _ => cases h1
theorem sIx_1 {w u : VV} {k : Int} {vh : VH} (h : ix1 w k vh = some u) : sIx w (.int k) vh = .ok u vh := by
  unfold ix1 at h
  cases w with
  | tup xs => simp only [sIx, ixI, h, okO]
  | ref n =>
    simp only at h
    split at h
    · rename_i xs e; simp only [sIx, e, ixI, h, okO]
    · cases h
  | _ => cases h
theorem ev_path (G : Gam) {vh : VH} {σ : SSt} {v : VV} : ∀ (e : E) {i : Nat} {l : List Int} {w : VV}, pathE e = some (i, l) → σ[i]? = some (some v) → ixsV l v vh = some w → ev G e σ vh = .ok w vh
  | .nm j, i, l, w, h, hs, hi => by
    simp only [pathE, Option.some.injEq, Prod.mk.injEq] at h
    obtain ⟨rfl, rfl⟩ := h
    simp only [ixsV, Option.some.injEq] at hi
    subst hi
    simp only [ev, hs]
  | .ix a b, i, l, w, h, hs, hi => by
    cases b with
    | cn c =>
      cases c with
      | int k =>
        simp only [pathE] at h
        split at h
        · rename_i i' l' e
          cases h
          rw [ixsV_snoc] at hi
          rw [Option.bind_eq_some_iff] at hi
          obtain ⟨u, h1, h2⟩ := hi
          have ih := ev_path G a e hs h1
          simp only [ev, ih, Res.bind_ok, Cn.vv]
          exact sIx_1 h2
        · cases h
      | _ => cases h
    | _ => cases h
  | .gl _, _, _, _, h, _, _ => by cases h
  | .cn _, _, _, _, h, _, _ => by cases h
  | .bin _ _ _, _, _, _, h, _, _ => by cases h
  | .neg _, _, _, _, h, _, _ => by cases h
  | .cmp _ _ _, _, _, _, h, _, _ => by cases h
  | .chain _ _ _ _ _, _, _, _, h, _, _ => by cases h
  | .one _, _, _, _, h, _, _ => by cases h
  | .and _ _, _, _, _, h, _, _ => by cases h
  | .or _ _, _, _, _, h, _, _ => by cases h
  | .not _, _, _, _, h, _, _ => by cases h
  | .ife _ _ _, _, _, _, h, _, _ => by cases h
  | .tup _, _, _, _, h, _, _ => by cases h
  | .lst _, _, _, _, h, _, _ => by cases h
  | .dnew, _, _, _, h, _, _ => by cases h
  | .slc _ _ _, _, _, _, h, _, _ => by cases h
  | .call _ _, _, _, _, h, _, _ => by cases h
  | .bi _ _, _, _, _, h, _, _ => by cases h
  | .me _ _ _, _, _, _, h, _, _ => by cases h
  | .isi _ _, _, _, _, h, _, _ => by cases h
  | .isv _ _, _, _, _, h, _, _ => by cases h
  | .o1 _ _, _, _, _, h, _, _ => by cases h
  | .lc _ _ _ _ _, _, _, _, h, _, _ => by cases h
section
variable {vh vh1 : VH} {f o f1 o1 : HL} {σ : SSt} {σp : SV}
theorem Rs.putAt : ∀ {v : List VV} {p : List PV} {f o : List Nat} {k : Nat} {q : PV}, Rs vh v p f o → p[k]? = some q → o.Nodup → (∀ n ∈ o, n ∉ f) → ∃ x f1 o1, v[k]? = some x ∧ R vh x q f1 o1 ∧ (∀ n ∈ f1, n ∈ f) ∧ (∀ n ∈ o1, n ∈ o) ∧ o1.Nodup ∧
    ∀ (vh' : VH) (q' : PV) (f2 o2 : List Nat) (m : Nat), m ∈ o1 → (∀ n, n ≠ m → vh'[n]? = vh[n]?) → R vh' x q' f2 o2 → (∀ n ∈ f2, n ∈ f1) → (∀ n ∈ o2, n ∈ o1) → o2.Nodup → ∃ f3 o3, Rs vh' v (p.set k q') f3 o3 ∧ (∀ n ∈ f3, n ∈ f) ∧ (∀ n ∈ o3, n ∈ o) ∧ o3.Nodup
  | _, _, _, _, _, _, .nil, h, _, _ => by simp at h
  | _, _, _, _, 0, _, .cons (f1 := fa) (o1 := oa) (f2 := fb) (o2 := ob) h t, e, nd, dj => by
    simp at e; subst e
    obtain ⟨n1, n2, n3⟩ := List.nodup_append.mp nd
    refine ⟨_, fa, oa, rfl, h, fun n hn => List.mem_append_left _ hn, fun n hn => List.mem_append_left _ hn, n1, fun vh' q' f2 o2 m hm hv r hf ho hd => ?_⟩
    refine ⟨f2 ++ fb, o2 ++ ob, .cons r (t.same fun n hn => hv n fun z => ?_), fun n hn => ?_, fun n hn => ?_, ?_⟩
    · subst z
      rcases hn with hn | hn
      · exact dj n (List.mem_append_left _ hm) (List.mem_append_right _ hn)
      · exact n3 n hm n hn rfl
    · exact (List.mem_append.mp hn).elim (fun z => List.mem_append_left _ (hf n z)) fun z => List.mem_append_right _ z
    · exact (List.mem_append.mp hn).elim (fun z => List.mem_append_left _ (ho n z)) fun z => List.mem_append_right _ z
    · exact List.nodup_append.mpr ⟨hd, n2, fun a ha b hb => n3 a (ho a ha) b hb⟩
  | _, _, _, _, k + 1, _, .cons (f1 := fa) (o1 := oa) (f2 := fb) (o2 := ob) h t, e, nd, dj => by
    obtain ⟨n1, n2, n3⟩ := List.nodup_append.mp nd
    obtain ⟨x, f1, o1, g1, g2, g3, g4, g5, g6⟩ := Rs.putAt (k := k) t (by simpa using e) n2 (fun n hn hm => dj n (List.mem_append_right _ hn) (List.mem_append_right _ hm))
    refine ⟨x, f1, o1, by simpa using g1, g2, fun n hn => List.mem_append_right _ (g3 n hn), fun n hn => List.mem_append_right _ (g4 n hn), g5, fun vh' q' f2 o2 m hm hv r hf ho hd => ?_⟩
    obtain ⟨f3, o3, k1, k2, k3, k4⟩ := g6 vh' q' f2 o2 m hm hv r hf ho hd
    refine ⟨fa ++ f3, oa ++ o3, ?_, fun n hn => ?_, fun n hn => ?_, ?_⟩
    · rw [List.set_cons_succ]
      refine .cons (h.same fun n hn => hv n fun z => ?_) k1
      subst z
      rcases hn with hn | hn
      · exact dj n (List.mem_append_right _ (g4 n hm)) (List.mem_append_left _ hn)
      · exact n3 n hn n (g4 n hm) rfl
    · exact (List.mem_append.mp hn).elim (fun z => List.mem_append_left _ z) fun z => List.mem_append_right _ (k2 n z)
    · exact (List.mem_append.mp hn).elim (fun z => List.mem_append_left _ z) fun z => List.mem_append_right _ (k3 n z)
    · exact List.nodup_append.mpr ⟨n1, k4, fun a ha b hb => n3 a ha b (k3 b hb)⟩
/-- the owned list at the path's end -/
theorem upd_path {g : List PV → Option (List PV)} : ∀ (l : List Int) {p p' : PV} {v : VV} {f o : List Nat}, R vh v p f o → o.Nodup → (∀ n ∈ o, n ∉ f) → updP l g p = some p' →
    ∃ n xs qs ys fx ox, ixsV l v vh = some (.ref n) ∧ vh[n]? = some (.lst xs) ∧ Rs vh xs qs fx ox ∧ n ∈ o ∧ n ∉ ox ∧ n ∉ fx ∧ ox.Nodup ∧ (∀ a ∈ ox, a ∉ fx) ∧ g qs = some ys ∧
      ∀ (xs' : List VV) (fl ol : List Nat), Rs vh xs' ys fl ol → (∀ a ∈ fl, a ∈ fx) → (∀ a ∈ ol, a ∈ ox) → ol.Nodup → ∃ f' o', R (vh.set n (.lst xs')) v p' f' o' ∧ (∀ a ∈ f', a ∈ f) ∧ (∀ a ∈ o', a ∈ o) ∧ o'.Nodup
  | [], p, p', v, f, o, r, nd, dj, h => by
    cases p with
    | lst b qs =>
     cases b with
     | false => cases h
     | true =>
      simp only [updP] at h
      split at h
      · rename_i ys eg
        cases h
        cases r with
        | olst e rs =>
          rename_i n xs oo
          obtain ⟨n1, n2⟩ := List.nodup_cons.mp nd
          have nf := dj n List.mem_cons_self
          refine ⟨n, xs, qs, ys, f, oo, rfl, e, rs, List.mem_cons_self, n1, nf, n2, fun a ha => dj a (List.mem_cons_of_mem _ ha), eg, fun xs' fl ol h1 h2 h3 h4 => ?_⟩
          refine ⟨fl, n :: ol, .olst (List.getElem?_set_self (List.getElem?_eq_some_iff.mp e).1) (h1.same fun a ha => List.getElem?_set_ne fun z => ?_), h2, fun a ha => ?_, List.nodup_cons.mpr ⟨fun z => n1 (h3 n z), h4⟩⟩
          · subst z
            exact ha.elim (fun z => nf (h2 n z)) fun z => n1 (h3 n z)
          · rcases List.mem_cons.mp ha with z | z
            · subst z; exact List.mem_cons_self
            · exact List.mem_cons_of_mem _ (h3 a z)
      · cases h
    | _ => cases h
  | i :: r, p, p', v, f, o, rr, nd, dj, h => by
    cases p with
    | tup ps =>
      simp only [updP] at h
      split at h
      · rename_i k ek
        split at h
        · rename_i q eq
          split at h
          · rename_i q' eu
            cases h
            cases rr with
            | tup rs =>
              rename_i xs
              obtain ⟨x, f1, o1, g1, g2, g3, g4, g5, g6⟩ := rs.putAt eq nd dj
              obtain ⟨n, xn, qs, ys, fx, ox, a1, a2, a3, a4, a5, a6, a7, a8, a9, b⟩ := upd_path r g2 g5 (fun n hn hm => dj n (g4 n hn) (g3 n hm)) eu
              have ea : atI xs i = some x := by unfold atI; rw [rs.len, ek]; exact g1
              refine ⟨n, xn, qs, ys, fx, ox, by simp [ixsV, ix1, ea, a1], a2, a3, g4 n a4, a5, a6, a7, a8, a9, fun xs' fl ol h1 h2 h3 h4 => ?_⟩
              obtain ⟨f2, o2, c1, c2, c3, c4⟩ := b xs' fl ol h1 h2 h3 h4
              obtain ⟨f3, o3, d1, d2, d3, d4⟩ := g6 (vh.set n (.lst xs')) q' f2 o2 n a4 (fun a ha => List.getElem?_set_ne fun z => ha z.symm) c1 c2 c3 c4
              exact ⟨f3, o3, .tup d1, d2, d3, d4⟩
          · cases h
        · cases h
      · cases h
    | lst bb ps =>
     cases bb with
     | false => cases h
     | true =>
      simp only [updP] at h
      split at h
      · rename_i k ek
        split at h
        · rename_i q eq
          split at h
          · rename_i q' eu
            cases h
            cases rr with
            | olst e0 rs =>
              rename_i m xs oo
              obtain ⟨m1, m2⟩ := List.nodup_cons.mp nd
              obtain ⟨x, f1, o1, g1, g2, g3, g4, g5, g6⟩ := rs.putAt eq m2 fun a ha => dj a (List.mem_cons_of_mem _ ha)
              obtain ⟨n, xn, qs, ys, fx, ox, a1, a2, a3, a4, a5, a6, a7, a8, a9, b⟩ := upd_path r g2 g5 (fun n hn hm => dj n (List.mem_cons_of_mem _ (g4 n hn)) (g3 n hm)) eu
              have ea : atI xs i = some x := by unfold atI; rw [rs.len, ek]; exact g1
              refine ⟨n, xn, qs, ys, fx, ox, by simp [ixsV, ix1, e0, ea, a1], a2, a3, List.mem_cons_of_mem _ (g4 n a4), a5, a6, a7, a8, a9, fun xs' fl ol h1 h2 h3 h4 => ?_⟩
              obtain ⟨f2, o2, c1, c2, c3, c4⟩ := b xs' fl ol h1 h2 h3 h4
              obtain ⟨f3, o3, d1, d2, d3, d4⟩ := g6 (vh.set n (.lst xs')) q' f2 o2 n a4 (fun a ha => List.getElem?_set_ne fun z => ha z.symm) c1 c2 c3 c4
              have hmn : n ≠ m := fun z => m1 (z ▸ g4 n a4)
              refine ⟨f3, m :: o3, .olst (by rw [List.getElem?_set_ne hmn]; exact e0) d1, d2, fun a ha => ?_, List.nodup_cons.mpr ⟨fun z => m1 (d3 m z), d4⟩⟩
              rcases List.mem_cons.mp ha with z | z
              · subst z; exact List.mem_cons_self
              · exact List.mem_cons_of_mem _ (d3 a z)
          · cases h
        · cases h
      · cases h
    | _ => cases h
theorem flat_nil : ∀ {v : List VV} {p : List PV} {f o : List Nat}, Rs vh v p f o → p.all flatP = true → f = [] ∧ o = []
  | _, _, _, _, .nil, _ => ⟨rfl, rfl⟩
  | _, _, _, _, .cons r t, h => by
    rw [List.all_cons, Bool.and_eq_true] at h
    obtain ⟨e1, e2⟩ := flat_nil t h.2
    subst e1; subst e2
    cases r <;> first | (cases h.1; done) | exact ⟨rfl, rfl⟩
/-- an owned thing inside slot j is changed -/
theorem updN_ok (I : Inv vh1 σ σp f1 o1) (F0 : Fr vh f o vh1 f1 o1) {j n : Nat} {v : VV} (e1 : σ[j]? = some (some v)) (hn : n ∈ o1 j) {ob' : VO} {p' : PV} {fl ol : List Nat} (rr : R (vh1.set n ob') v p' fl ol) (nd : ol.Nodup) (hf : ∀ a ∈ fl, a ∈ f1 j) (ho : ∀ a ∈ ol, a ∈ o1 j) :
    okZ vh f o (.nx (σp.set j (some p'))) (.nx σ (vh1.set n ob')) := by
  have hne : ∀ i a, a ∈ f1 i ∨ a ∈ o1 i → i ≠ j → a ≠ n := fun i a ha hi z => by
    subst z
    rcases ha with ha | ha
    · exact I.sep.fo j i a hn ha
    · exact I.sep.oo j i (fun z => hi z.symm) a hn ha
  have I0 := I.unset j
  have I1 : Inv (vh1.set n ob') (σ.set j none) (σp.set j none) (updL f1 j []) (updL o1 j []) := I0.same fun i a ha => by
    by_cases hi : i = j
    · subst hi; rw [updL_same, updL_same] at ha; simp at ha
    · rw [updL_ne hi, updL_ne hi] at ha
      exact List.getElem?_set_ne fun z => hne i a ha hi z.symm
  obtain ⟨f', o', I2, g1, g2, g3⟩ := I1.set j rr nd (fun a ha hm => I.sep.fo j j a (ho a ha) (hf a hm)) (fun a ha i hi => by
      rw [updL_ne hi, updL_ne hi]
      exact ⟨I.sep.fo j i a (ho a ha), I.sep.oo j i (fun z => hi z.symm) a (ho a ha)⟩) (fun i hi a ha hm => by
      rw [updL_ne hi] at ha
      exact I.sep.fo i j a ha (hf a hm))
  have s1 : (σ.set j none).set j (some v) = σ := by
    rw [List.set_set]
    apply List.ext_getElem?
    intro i
    by_cases hi : j = i
    · subst hi; rw [List.getElem?_set_self (List.getElem?_eq_some_iff.mp e1).1, e1]
    · rw [List.getElem?_set_ne hi]
  rw [s1, List.set_set] at I2
  refine okZ_nx I2 ⟨fun m x hx k => ?_, by rw [List.length_set]; exact F0.len, fun i a ha => ?_, fun i a ha => ?_⟩
  · rw [List.getElem?_set_ne]
    · exact F0.keep m x hx k
    · rintro rfl
      rcases F0.ob j n hn with ⟨i, z⟩ | z
      · exact k i z
      · have := (List.getElem?_eq_some_iff.mp hx).1; omega
  · by_cases e : i = j
    · subst e; exact F0.fb i a (hf a (g2 a ha))
    · obtain ⟨q1, q2⟩ := g1 i e
      rw [q1, updL_ne e] at ha
      exact F0.fb i a ha
  · by_cases e : i = j
    · subst e; exact F0.ob i a (ho a (g3 a ha))
    · obtain ⟨q1, q2⟩ := g1 i e
      rw [q2, updL_ne e] at ha
      exact F0.ob i a ha
/-- a method that changes an owned list inside slot i; the arguments are scalars -/
theorem mutN_ok (I : Inv vh1 σ σp f1 o1) (F0 : Fr vh f o vh1 f1 o1) (G : Gam) (m : ME) {e : E} {i : Nat} {l : List Int} {p p' : PV} {args : List VV} {ps : List PV} {fa oa : List Nat} (hp : pathE e = some (i, l)) (ep : σp[i]? = some (some p)) (ha : Rs vh1 args ps fa oa) (hfl : ps.all flatP = true)
    (hm : updP l (fun q => mutP m q ps) p = some p') : ∃ n vh2, ev G e σ vh1 = .ok (.ref n) vh1 ∧ tyOk m (.ref n) vh1 = true ∧ sME m (.ref n) args vh1 = .ok .non vh2 ∧ okZ vh f o (.nx (σp.set i (some p'))) (.nx σ vh2) := by
  obtain ⟨v, ev1, r⟩ := I.get ep
  obtain ⟨rfl, rfl⟩ := flat_nil ha hfl
  obtain ⟨n, xs, qs, ys, fx, ox, a1, a2, a3, a4, a5, a6, a7, a8, a9, b⟩ := upd_path l r (I.sep.nd i) (I.sep.fo i i) hm
  obtain ⟨xs', fl, ol, c1, c2, c3, c4, c5, c6, c7⟩ := mut_ok m a2 a3 ha a7 a8 List.nodup_nil (by simp) (by simp) (by simp) a9
  obtain ⟨f', o', d1, d2, d3, d4⟩ := b xs' fl ol c3 (fun a ha => by simpa using c4 a ha) (fun a ha => by simpa using c5 a ha) c6
  exact ⟨n, _, ev_path G e hp ev1 a1, c2, c1, updN_ok I F0 ev1 a4 d1 d4 d2 d3⟩
end
end Fe
namespace Fe
open PySem PySem.Spec PyProof.Rows L2
section
variable {vh vh1 vh' : VH} {f o f1 o1 : HL} {vs ws : List Nat} {σ : SSt} {σp : SV}
theorem Inv.own_lt (I : Inv vh σ σp f o) {i n : Nat} (h : n ∈ o i) : n < vh.length := I.lt i n (.inr h)
/-- a value that goes along: owned things of its variables stay owned -/
def OkM (vh : VH) (f o : HL) (vs : List Nat) (vh' : VH) (v : VV) (p : PV) : Prop :=
  ∃ ft ot, R vh' v p ft ot ∧ ot.Nodup ∧ (∀ n ∈ ot, n ∉ ft) ∧ (∀ n ∈ ft, Src vh f o vs n) ∧ ∀ n ∈ ot, (∃ i ∈ vs, n ∈ o i) ∨ vh.length ≤ n
def OkMs (vh : VH) (f o : HL) (vs : List Nat) (vh' : VH) (v : List VV) (p : List PV) : Prop :=
  ∃ ft ot, Rs vh' v p ft ot ∧ ot.Nodup ∧ (∀ n ∈ ot, n ∉ ft) ∧ (∀ n ∈ ft, Src vh f o vs n) ∧ ∀ n ∈ ot, (∃ i ∈ vs, n ∈ o i) ∨ vh.length ≤ n
theorem Ok1.toM {v : VV} {p : PV} (h : Ok1 vh f o vs vh' v p) : OkM vh f o vs vh' v p := by
  obtain ⟨ft, ot, h1, h2, h3, h4, h5⟩ := h
  exact ⟨ft, ot, h1, h2, h3, h4, fun n hn => .inr (h5 n hn)⟩
theorem OkMs.cons (I : Inv vh σ σp f o) {x : VV} {p : PV} {v : List VV} {ps : List PV} (hd : ∀ i ∈ vs, i ∉ ws) (h : OkM vh f o vs vh1 x p) (a : Agr vh1 vh') (al : vh.length ≤ vh1.length) (t : OkMs vh1 f o ws vh' v ps) : OkMs vh f o (vs ++ ws) vh' (x :: v) (p :: ps) := by
  obtain ⟨ft, ot, h1, h2, h3, h4, h5⟩ := h
  obtain ⟨ft', ot', k1, k2, k3, k4, k5⟩ := t
  have l1 := h1.lt
  refine ⟨ft ++ ft', ot ++ ot', .cons (h1.agr a) k1, ?_, ?_, ?_, ?_⟩
  · refine List.nodup_append.mpr ⟨h2, k2, fun x hx y hy e => ?_⟩
    subst e
    have z1 := l1.2 x hx
    rcases k5 x hy with ⟨j, hj, w⟩ | w
    · rcases h5 x hx with ⟨i, hi, z⟩ | z
      · exact I.sep.oo i j (fun e => hd i hi (e ▸ hj)) x z w
      · have := I.own_lt w; omega
    · omega
  · intro n hn hm
    rcases List.mem_append.mp hn with hn | hn <;> rcases List.mem_append.mp hm with hm | hm
    · exact h3 n hn hm
    · have z1 := l1.2 n hn
      rcases k4 n hm with ⟨j, hj, w⟩ | w
      · have w' := I.lt j n w
        rcases h5 n hn with ⟨i, hi, z⟩ | z
        · rcases w with w | w
          · exact I.sep.fo i j n z w
          · exact I.sep.oo i j (fun e => hd i hi (e ▸ hj)) n z w
        · omega
      · omega
    · have z1 := l1.1 n hm
      rcases k5 n hn with ⟨j, hj, w⟩ | w
      · have w' := I.own_lt w
        rcases h4 n hm with ⟨i, hi, z⟩ | z
        · rcases z with z | z
          · exact I.sep.fo j i n w z
          · exact I.sep.oo i j (fun e => hd i hi (e ▸ hj)) n z w
        · omega
      · omega
    · exact k3 n hn hm
  · intro n hn
    rcases List.mem_append.mp hn with hn | hn
    · exact (h4 n hn).mono (Nat.le_refl _) mem_l
    · exact (k4 n hn).mono al mem_r
  · intro n hn
    rcases List.mem_append.mp hn with hn | hn
    · exact (h5 n hn).imp_left fun ⟨i, hi, z⟩ => ⟨i, mem_l i hi, z⟩
    · exact (k5 n hn).elim (fun ⟨i, hi, z⟩ => .inl ⟨i, mem_r i hi, z⟩) fun z => .inr (Nat.le_trans al z)
theorem OkM.rt (I : Inv vh σ σp f o) (a : Agr vh vh1) {v : VV} {p : PV} (h : OkM vh f o vs vh1 v p) : RtP vh f o vh1 v p := by
  obtain ⟨ft, ot, h1, h2, h3, h4, h5⟩ := h
  exact ⟨ft, ot, h1, h2, h3, fun n x hx _ => a n x hx, a.len, fun n hn => (h4 n hn).imp_left fun ⟨i, _, z⟩ => ⟨i, z⟩, fun n hn => (h5 n hn).imp_left fun ⟨i, _, z⟩ => ⟨i, z⟩⟩
end
section
variable {G : Gam} {V : GV} (hG : GOk G V) (hN : V.N = G.N)
include hG hN
mutual
theorem evM_ok : ∀ (e : E) {vh : VH} {f o : HL} {σ : SSt} {σp : SV}, (vE e).Nodup → Inv vh σ σp f o → okX (OkM vh f o (vE e)) vh (evM V e σp) (ev G e σ vh)
  | .nm i, vh, f, o, σ, σp, nd, I => by
    simp only [evM, ev]
    cases e : σp[i]? with
    | none => trivial
    | some q =>
      cases q with
      | none => trivial
      | some p =>
        obtain ⟨v, e1, r⟩ := I.get e
        rw [e1]
        exact okX.here ⟨f i, o i, r, I.sep.nd i, I.sep.fo i i, fun n hn => .inl ⟨i, by simp, .inl hn⟩, fun n hn => .inl ⟨i, by simp, hn⟩⟩
  | .tup es, vh, f, o, σ, σp, nd, I => by
    simp only [evM, ev, vE]
    refine (evMs_ok es (by simpa using nd) I).bind fun v p vh1 a1 h1 => ?_
    have el : v.length = p.length := by obtain ⟨_, _, r, _⟩ := h1; exact r.len
    rw [el]
    refine okX.ite fun _ => okX.here ?_
    obtain ⟨ft, ot, r, q⟩ := h1
    exact ⟨ft, ot, .tup r, q⟩
  | .gl j, vh, f, o, σ, σp, nd, I => (evV_ok hG hN _ I.sr).imp fun _ _ _ _ h => h.toM
  | .cn j, vh, f, o, σ, σp, nd, I => (evV_ok hG hN (.cn j) I.sr).imp fun _ _ _ _ h => h.toM
  | .bin _ _ _, vh, f, o, σ, σp, nd, I => by simp only [evM]; exact (evV_ok hG hN _ I.sr).imp fun _ _ _ _ h => h.toM
  | .neg _, vh, f, o, σ, σp, nd, I => by simp only [evM]; exact (evV_ok hG hN _ I.sr).imp fun _ _ _ _ h => h.toM
  | .cmp _ _ _, vh, f, o, σ, σp, nd, I => by simp only [evM]; exact (evV_ok hG hN _ I.sr).imp fun _ _ _ _ h => h.toM
  | .chain _ _ _ _ _, vh, f, o, σ, σp, nd, I => by simp only [evM]; exact (evV_ok hG hN _ I.sr).imp fun _ _ _ _ h => h.toM
  | .one _, vh, f, o, σ, σp, nd, I => by simp only [evM]; exact (evV_ok hG hN _ I.sr).imp fun _ _ _ _ h => h.toM
  | .and _ _, vh, f, o, σ, σp, nd, I => by simp only [evM]; exact (evV_ok hG hN _ I.sr).imp fun _ _ _ _ h => h.toM
  | .or _ _, vh, f, o, σ, σp, nd, I => by simp only [evM]; exact (evV_ok hG hN _ I.sr).imp fun _ _ _ _ h => h.toM
  | .not _, vh, f, o, σ, σp, nd, I => by simp only [evM]; exact (evV_ok hG hN _ I.sr).imp fun _ _ _ _ h => h.toM
  | .ife _ _ _, vh, f, o, σ, σp, nd, I => by simp only [evM]; exact (evV_ok hG hN _ I.sr).imp fun _ _ _ _ h => h.toM
  | .lst _, vh, f, o, σ, σp, nd, I => by simp only [evM]; exact (evV_ok hG hN _ I.sr).imp fun _ _ _ _ h => h.toM
  | .dnew, vh, f, o, σ, σp, nd, I => by simp only [evM]; exact (evV_ok hG hN _ I.sr).imp fun _ _ _ _ h => h.toM
  | .ix _ _, vh, f, o, σ, σp, nd, I => by simp only [evM]; exact (evV_ok hG hN _ I.sr).imp fun _ _ _ _ h => h.toM
  | .slc _ _ _, vh, f, o, σ, σp, nd, I => by simp only [evM]; exact (evV_ok hG hN _ I.sr).imp fun _ _ _ _ h => h.toM
  | .call _ _, vh, f, o, σ, σp, nd, I => by simp only [evM]; exact (evV_ok hG hN _ I.sr).imp fun _ _ _ _ h => h.toM
  | .bi _ _, vh, f, o, σ, σp, nd, I => by simp only [evM]; exact (evV_ok hG hN _ I.sr).imp fun _ _ _ _ h => h.toM
  | .me _ _ _, vh, f, o, σ, σp, nd, I => by simp only [evM]; exact (evV_ok hG hN _ I.sr).imp fun _ _ _ _ h => h.toM
  | .o1 _ _, vh, f, o, σ, σp, nd, I => by simp only [evM]; exact (evV_ok hG hN _ I.sr).imp fun _ _ _ _ h => h.toM
  | .isi _ _, vh, f, o, σ, σp, nd, I => by simp only [evM]; exact (evV_ok hG hN _ I.sr).imp fun _ _ _ _ h => h.toM
  | .isv _ _, vh, f, o, σ, σp, nd, I => by simp only [evM]; exact (evV_ok hG hN _ I.sr).imp fun _ _ _ _ h => h.toM
  | .isx _, vh, f, o, σ, σp, nd, I => by simp only [evM]; exact (evV_ok hG hN _ I.sr).imp fun _ _ _ _ h => h.toM
  | .lc _ _ _ _ _, vh, f, o, σ, σp, nd, I => by simp only [evM]; exact (evV_ok hG hN _ I.sr).imp fun _ _ _ _ h => h.toM
theorem evMs_ok : ∀ (es : Es) {vh : VH} {f o : HL} {σ : SSt} {σp : SV}, (vEs es).Nodup → Inv vh σ σp f o → okX (OkMs vh f o (vEs es)) vh (evMs V es σp) (evs G es σ vh)
  | .nil, vh, f, o, σ, σp, nd, I => okX.here ⟨[], [], .nil, by simp, by simp, by simp, by simp⟩
  | .cons e es, vh, f, o, σ, σp, nd, I => by
    simp only [vEs] at nd
    obtain ⟨n1, n2, n3⟩ := List.nodup_append.mp nd
    simp only [evMs, evs, vEs]
    refine (evM_ok e n1 I).bind fun v p vh1 a1 h1 => (evMs_ok es n2 (I.agr a1)).bind fun u q vh2 a2 h2 => ?_
    exact okX.here (OkMs.cons I (fun i hi hj => n3 i hi i hj rfl) h1 a2 a1.len h2)
end
theorem evR_ok (e : E) {vh : VH} {f o : HL} {σ : SSt} {σp : SV} (I : Inv vh σ σp f o) : okX (OkM vh f o (vE e)) vh (evR V e σp) (ev G e σ vh) := by
  simp only [evR]
  split
  · rename_i nd; exact evM_ok hG hN e nd I
  · exact (evV_ok hG hN e I.sr).imp fun _ _ _ _ h => h.toM
end
end Fe
namespace Fe
open PySem PySem.Spec PyProof.Rows L2
/-- a key over the heap -/
def kV (k : PV) : VV := match k with
  | .int i => .int i
  | .str s => .str s
  | _ => .non
theorem kV_of {vh : VH} {v : VV} {k : PV} {f o : List Nat} (r : R vh v k f o) (h : (keyP k).isSome = true) : v = kV k := by
  cases r <;> first | rfl | cases h
/-- one step into a thing -/
def stpV (v k : VV) (vh : VH) : Option VV := match v with
  | .tup xs => ixI xs k
  | .ref n => match vh[n]? with
    | some (.lst xs) => ixI xs k
    | some (.dct kvs) => (keyOf k).bind fun k => lookK kvs k
    | _ => none
  | _ => none
def stpsV : List PV → VV → VH → Option VV
  | [], v, _ => some v
  | k :: r, v, vh => (stpV v (kV k) vh).bind fun w => stpsV r w vh
theorem sIx_stp {v k w : VV} {vh : VH} (h : stpV v k vh = some w) : sIx v k vh = .ok w vh := by
  unfold stpV at h
  cases v with
  | tup xs => simp only [sIx, h, okO]
  | ref n =>
    simp only at h
    split at h
    · rename_i xs e; simp only [sIx, e, h, okO]
    · rename_i xs e; simp only [sIx, e, h, okO]
    · cases h
  | _ => cases h
theorem stpV_agr {vh vh1 : VH} (a : Agr vh vh1) {v k w : VV} (h : stpV v k vh = some w) : stpV v k vh1 = some w := by
  unfold stpV at h ⊢
  cases v with
  | tup xs => exact h
  | ref n =>
    simp only at h ⊢
    split at h
    · rename_i xs e; rw [a n _ e]; exact h
    · rename_i xs e; rw [a n _ e]; exact h
    · cases h
  | _ => cases h
theorem stpsV_agr {vh vh1 : VH} (a : Agr vh vh1) : ∀ (l : List PV) {v w : VV}, stpsV l v vh = some w → stpsV l v vh1 = some w
  | [], v, w, h => h
  | i :: r, v, w, h => by
    simp only [stpsV] at h ⊢
    rw [Option.bind_eq_some_iff] at h ⊢
    obtain ⟨u, h1, h2⟩ := h
    exact ⟨u, stpV_agr a h1, stpsV_agr a r h2⟩
theorem stpsV_snoc (vh : VH) (k : PV) : ∀ (l : List PV) (v : VV), stpsV (l ++ [k]) v vh = (stpsV l v vh).bind fun w => stpV w (kV k) vh
  | [], v => by simp [stpsV]
  | i :: r, v => by
    simp only [List.cons_append, stpsV]
    cases stpV v (kV i) vh with
    | none => rfl
    | some w => exact stpsV_snoc vh k r w
section
variable {vh vh1 vh' : VH} {f o f1 o1 : HL} {vs ws : List Nat} {σ : SSt} {σp : SV}
/-- one part of several, and how the others lie -/
theorem Rs.putA : ∀ {v : List VV} {p : List PV} {f o : List Nat} {k : Nat} {q : PV}, Rs vh v p f o → p[k]? = some q → ∃ (x : VV) (f1 o1 fr og : List Nat), v[k]? = some x ∧ R vh x q f1 o1 ∧ (∀ n ∈ f1, n ∈ f) ∧ (∀ n ∈ fr, n ∈ f) ∧ List.Perm (o1 ++ og) o ∧
    ∀ (vh' : VH) (q' : PV) (f2 o2 : List Nat), (∀ n, n ∈ fr ∨ n ∈ og → vh'[n]? = vh[n]?) → R vh' x q' f2 o2 → ∃ f3 o3, Rs vh' v (p.set k q') f3 o3 ∧ (∀ n ∈ f3, n ∈ fr ∨ n ∈ f2) ∧ List.Perm o3 (o2 ++ og)
  | _, _, _, _, _, _, .nil, h => by simp at h
  | _, _, _, _, 0, _, .cons (f1 := fa) (o1 := oa) (f2 := fb) (o2 := ob) h t, e => by
    simp at e; subst e
    refine ⟨_, fa, oa, fb, ob, rfl, h, fun n hn => List.mem_append_left _ hn, fun n hn => List.mem_append_right _ hn, List.Perm.refl _, fun vh' q' f2 o2 hv r => ?_⟩
    exact ⟨f2 ++ fb, o2 ++ ob, .cons r (t.same fun n hn => hv n hn), fun n hn => (List.mem_append.mp hn).symm, List.Perm.refl _⟩
  | _, _, _, _, k + 1, _, .cons (f1 := fa) (o1 := oa) (f2 := fb) (o2 := ob) h t, e => by
    obtain ⟨x, f1, o1, fr, og, g1, g2, g3, g4, g5, g6⟩ := Rs.putA (k := k) t (by simpa using e)
    refine ⟨x, f1, o1, fa ++ fr, oa ++ og, by simpa using g1, g2, fun n hn => List.mem_append_right _ (g3 n hn), fun n hn => ?_, ?_, fun vh' q' f2 o2 hv r => ?_⟩
    · exact (List.mem_append.mp hn).elim (fun z => List.mem_append_left _ z) fun z => List.mem_append_right _ (g4 n z)
    · have e1 : List.Perm (o1 ++ (oa ++ og)) (oa ++ (o1 ++ og)) := by
        rw [← List.append_assoc, ← List.append_assoc]
        exact (List.perm_append_comm).append_right _
      exact e1.trans (g5.append_left _)
    · obtain ⟨f3, o3, k1, k2, k3⟩ := g6 vh' q' f2 o2 (fun n hn => hv n (hn.imp (fun z => List.mem_append_right _ z) fun z => List.mem_append_right _ z)) r
      refine ⟨fa ++ f3, oa ++ o3, ?_, fun n hn => ?_, ?_⟩
      · rw [List.set_cons_succ]
        exact .cons (h.same fun n hn => hv n (hn.imp (fun z => List.mem_append_left _ z) fun z => List.mem_append_left _ z)) k1
      · rcases List.mem_append.mp hn with z | z
        · exact .inl (List.mem_append_left _ z)
        · exact (k2 n z).imp_left fun z => List.mem_append_right _ z
      · have e1 : List.Perm (oa ++ (o2 ++ og)) (o2 ++ (oa ++ og)) := by
          rw [← List.append_assoc, ← List.append_assoc]
          exact (List.perm_append_comm).append_right _
        exact (k3.append_left _).trans e1
theorem idx_ix {α : Type} {xs : List α} {k : PV} {j : Nat} (h : idxP xs.length k = some j) : ixI xs (kV k) = xs[j]? := by
  cases k with
  | int i => simp only [idxP] at h; simp only [kV, ixI]; unfold atI; rw [h]; rfl
  | _ => cases h
theorem find_look {β : Type} {key : Key} : ∀ {kvs : List (Key × β)} {j : Nat}, ((kvs.map (·.1)).findIdx? fun y => decide (y = key)) = some j → lookK kvs key = (kvs.map (·.2))[j]?
  | [], j, h => by cases h
  | a :: kvs, j, h => by
    simp only [List.map_cons, List.findIdx?_cons] at h
    by_cases e : a.1 = key
    · simp only [e, decide_true, if_true, Option.some.injEq] at h
      subst h
      simp [lookK, e]
    · simp only [e, decide_false, Bool.false_eq_true, if_false, Option.map_eq_some_iff] at h
      obtain ⟨i, h1, h2⟩ := h
      subst h2
      have ih := find_look h1
      unfold lookK at ih ⊢
      rw [List.find?_cons_of_neg (by simpa using e)]
      simpa using ih
theorem keyOf_kV {k : PV} {key : Key} (h : keyP k = some key) : keyOf (kV k) = some key := by
  cases k <;> first | exact h | cases h
/-- the thing at a path's end: what lies about it, and that it may be changed -/
theorem get_path : ∀ (ks : List PV) {p q : PV} {v : VV} {f o : List Nat}, R vh v p f o → getO ks p = some q → ∃ (x : VV) (fq oq fr og : List Nat), stpsV ks v vh = some x ∧ R vh x q fq oq ∧ (∀ n ∈ fq, n ∈ f) ∧ (∀ n ∈ fr, n ∈ f) ∧ List.Perm (oq ++ og) o ∧
    (∀ vh' : VH, (∀ n ∈ og, vh'[n]? = vh[n]?) → stpsV ks v vh' = some x) ∧
    ∀ (vh' : VH) (q' p' : PV) (f2 o2 : List Nat), (∀ n, n ∈ fr ∨ n ∈ og → vh'[n]? = vh[n]?) → R vh' x q' f2 o2 → putO ks q' p = some p' → ∃ f3 o3, R vh' v p' f3 o3 ∧ (∀ n ∈ f3, n ∈ fr ∨ n ∈ f2) ∧ List.Perm o3 (o2 ++ og)
  | [], p, q, v, f, o, r, h => by
    simp only [getO, Option.some.injEq] at h
    subst h
    refine ⟨v, f, o, [], [], rfl, r, fun _ h => h, by simp, by simp, fun _ _ => rfl, fun vh' q' p' f2 o2 hv r' hp => ?_⟩
    simp only [putO, Option.some.injEq] at hp
    subst hp
    exact ⟨f2, o2, r', fun n hn => .inr hn, by simp⟩
  | k :: ks, p, q, v, f, o, r, h => by
    simp only [getO] at h
    split at h
    · rename_i j ej
      split at h
      · rename_i s es
        cases r with
        | tup rs =>
          rename_i xs ps
          simp only [placeP] at ej
          simp only [partsP] at es
          obtain ⟨x1, f1, o1, fr1, og1, g1, g2, g3, g4, g5, g6⟩ := rs.putA es
          obtain ⟨x, fq, oq, fr, og, a1, a2, a3, a4, a5, a6, a7⟩ := get_path ks g2 h
          have st : ∀ vh' : VH, stpV (.tup xs) (kV k) vh' = some x1 := fun vh' => by
            simp only [stpV]
            rw [idx_ix (by rw [rs.len]; exact ej), g1]
          refine ⟨x, fq, oq, fr1 ++ fr, og ++ og1, ?_, a2, fun n hn => g3 n (a3 n hn), fun n hn => ?_, ?_, fun vh' hv => ?_, fun vh' q' p' f2 o2 hv r' hp => ?_⟩
          · simp only [stpsV, st, Option.bind_some]; exact a1
          · exact (List.mem_append.mp hn).elim (g4 n) fun z => g3 n (a4 n z)
          · rw [← List.append_assoc]
            exact (a5.append_right _).trans g5
          · simp only [stpsV, st, Option.bind_some]
            exact a6 vh' fun n hn => hv n (List.mem_append_left _ hn)
          · simp only [putO, placeP, ej, partsP, es, Option.map_eq_some_iff] at hp
            obtain ⟨s', e1, e2⟩ := hp
            subst e2
            obtain ⟨f3, o3, b1, b2, b3⟩ := a7 vh' q' s' f2 o2 (fun n hn => hv n (hn.imp (fun z => List.mem_append_right _ z) fun z => List.mem_append_left _ z)) r' e1
            obtain ⟨f4, o4, c1, c2, c3⟩ := g6 vh' s' f3 o3 (fun n hn => hv n (hn.imp (fun z => List.mem_append_left _ z) fun z => List.mem_append_right _ z)) b1
            refine ⟨f4, o4, .tup c1, fun n hn => ?_, ?_⟩
            · rcases c2 n hn with z | z
              · exact .inl (List.mem_append_left _ z)
              · exact (b2 n z).imp_left fun z => List.mem_append_right _ z
            · rw [← List.append_assoc]
              exact c3.trans (b3.append_right _)
        | olst e0 rs =>
          rename_i m xs ps oo
          simp only [placeP] at ej
          simp only [partsP] at es
          obtain ⟨x1, f1, o1, fr1, og1, g1, g2, g3, g4, g5, g6⟩ := rs.putA es
          obtain ⟨x, fq, oq, fr, og, a1, a2, a3, a4, a5, a6, a7⟩ := get_path ks g2 h
          have st : ∀ vh' : VH, vh'[m]? = vh[m]? → stpV (.ref m) (kV k) vh' = some x1 := fun vh' e => by
            simp only [stpV, e, e0]
            rw [idx_ix (by rw [rs.len]; exact ej), g1]
          refine ⟨x, fq, oq, fr1 ++ fr, m :: (og ++ og1), ?_, a2, fun n hn => g3 n (a3 n hn), fun n hn => ?_, ?_, fun vh' hv => ?_, fun vh' q' p' f2 o2 hv r' hp => ?_⟩
          · simp only [stpsV, st vh rfl, Option.bind_some]; exact a1
          · exact (List.mem_append.mp hn).elim (g4 n) fun z => g3 n (a4 n z)
          · refine List.perm_middle.trans (List.Perm.cons m ?_)
            rw [← List.append_assoc]
            exact (a5.append_right _).trans g5
          · simp only [stpsV, st vh' (hv m List.mem_cons_self), Option.bind_some]
            exact a6 vh' fun n hn => hv n (List.mem_cons_of_mem _ (List.mem_append_left _ hn))
          · simp only [putO, placeP, ej, partsP, es, Option.map_eq_some_iff] at hp
            obtain ⟨s', e1, e2⟩ := hp
            subst e2
            obtain ⟨f3, o3, b1, b2, b3⟩ := a7 vh' q' s' f2 o2 (fun n hn => hv n (hn.imp (fun z => List.mem_append_right _ z) fun z => List.mem_cons_of_mem _ (List.mem_append_left _ z))) r' e1
            obtain ⟨f4, o4, c1, c2, c3⟩ := g6 vh' s' f3 o3 (fun n hn => hv n (hn.imp (fun z => List.mem_append_left _ z) fun z => List.mem_cons_of_mem _ (List.mem_append_right _ z))) b1
            refine ⟨f4, m :: o4, .olst (by rw [hv m (.inr List.mem_cons_self)]; exact e0) c1, fun n hn => ?_, ?_⟩
            · rcases c2 n hn with z | z
              · exact .inl (List.mem_append_left _ z)
              · exact (b2 n z).imp_left fun z => List.mem_append_right _ z
            · refine List.Perm.trans (List.Perm.cons m ?_) List.perm_middle.symm
              rw [← List.append_assoc]
              exact c3.trans (b3.append_right _)
        | odct e0 rs =>
          rename_i m kvs ps oo
          simp only [placeP, Option.bind_eq_some_iff] at ej
          obtain ⟨key, ek, ej'⟩ := ej
          simp only [partsP] at es
          obtain ⟨x1, f1, o1, fr1, og1, g1, g2, g3, g4, g5, g6⟩ := rs.putA es
          obtain ⟨x, fq, oq, fr, og, a1, a2, a3, a4, a5, a6, a7⟩ := get_path ks g2 h
          have st : ∀ vh' : VH, vh'[m]? = vh[m]? → stpV (.ref m) (kV k) vh' = some x1 := fun vh' e => by
            simp only [stpV, e, e0]
            rw [keyOf_kV ek]
            simp only [Option.bind_some]
            rw [find_look ej', g1]
          refine ⟨x, fq, oq, fr1 ++ fr, m :: (og ++ og1), ?_, a2, fun n hn => g3 n (a3 n hn), fun n hn => ?_, ?_, fun vh' hv => ?_, fun vh' q' p' f2 o2 hv r' hp => ?_⟩
          · simp only [stpsV, st vh rfl, Option.bind_some]; exact a1
          · exact (List.mem_append.mp hn).elim (g4 n) fun z => g3 n (a4 n z)
          · refine List.perm_middle.trans (List.Perm.cons m ?_)
            rw [← List.append_assoc]
            exact (a5.append_right _).trans g5
          · simp only [stpsV, st vh' (hv m List.mem_cons_self), Option.bind_some]
            exact a6 vh' fun n hn => hv n (List.mem_cons_of_mem _ (List.mem_append_left _ hn))
          · simp only [putO, placeP, ek, Option.bind_some, ej', partsP, es, Option.map_eq_some_iff] at hp
            obtain ⟨s', e1, e2⟩ := hp
            subst e2
            obtain ⟨f3, o3, b1, b2, b3⟩ := a7 vh' q' s' f2 o2 (fun n hn => hv n (hn.imp (fun z => List.mem_append_right _ z) fun z => List.mem_cons_of_mem _ (List.mem_append_left _ z))) r' e1
            obtain ⟨f4, o4, c1, c2, c3⟩ := g6 vh' s' f3 o3 (fun n hn => hv n (hn.imp (fun z => List.mem_append_left _ z) fun z => List.mem_cons_of_mem _ (List.mem_append_right _ z))) b1
            refine ⟨f4, m :: o4, .odct (by rw [hv m (.inr List.mem_cons_self)]; exact e0) c1, fun n hn => ?_, ?_⟩
            · rcases c2 n hn with z | z
              · exact .inl (List.mem_append_left _ z)
              · exact (b2 n z).imp_left fun z => List.mem_append_right _ z
            · refine List.Perm.trans (List.Perm.cons m ?_) List.perm_middle.symm
              rw [← List.append_assoc]
              exact c3.trans (b3.append_right _)
        | _ => simp [placeP] at ej
      · cases h
    · cases h
end
section
variable {G : Gam} {V : GV} (hG : GOk G V) (hN : V.N = G.N)
include hG hN
theorem path_ok : ∀ (e : E) {j : Nat} {ks : List PV} {vh : VH} {f o : HL} {σ : SSt} {σp : SV}, SRV vh σ σp f o → pathV V e σp = some (j, ks) →
    ∃ vh1, Agr vh vh1 ∧ ∀ v x, σ[j]? = some (some v) → stpsV ks v vh = some x → ev G e σ vh = .ok x vh1
  | .nm i, j, ks, vh, f, o, σ, σp, I, h => by
    simp only [pathV, Option.some.injEq, Prod.mk.injEq] at h
    obtain ⟨rfl, rfl⟩ := h
    refine ⟨vh, Agr.refl _, fun v x hv hx => ?_⟩
    simp only [stpsV, Option.some.injEq] at hx
    subst hx
    simp only [ev, hv]
  | .ix a b, j, ks, vh, f, o, σ, σp, I, h => by
    simp only [pathV] at h
    split at h
    · rename_i r k e1 e2
      simp only [Option.some.injEq, Prod.mk.injEq] at h
      obtain ⟨rfl, rfl⟩ := h
      obtain ⟨vh1, ag, h1⟩ := path_ok a I (show pathV V a σp = some (r.1, r.2) from e1)
      have hb := evV_ok hG hN b (I.agr ag)
      unfold keyR at e2
      split at e2
      · rename_i kk ek
        split at e2
        · rename_i hk
          cases e2
          rw [ek] at hb
          obtain ⟨kv, vh2, e3, ag2, ft, ot, rk, _⟩ := hb
          have := kV_of rk hk
          subst this
          refine ⟨vh2, ag.trans ag2, fun v x hv hx => ?_⟩
          rw [stpsV_snoc, Option.bind_eq_some_iff] at hx
          obtain ⟨w, hw, hx⟩ := hx
          simp only [ev, h1 v w hv hw, Res.bind_ok, e3]
          exact sIx_stp (stpV_agr (ag.trans ag2) hx)
        · cases e2
      · cases e2
    · cases h
  | .gl _, _, _, _, _, _, _, _, _, h => by cases h
  | .cn _, _, _, _, _, _, _, _, _, h => by cases h
  | .bin _ _ _, _, _, _, _, _, _, _, _, h => by cases h
  | .neg _, _, _, _, _, _, _, _, _, h => by cases h
  | .cmp _ _ _, _, _, _, _, _, _, _, _, h => by cases h
  | .chain _ _ _ _ _, _, _, _, _, _, _, _, _, h => by cases h
  | .one _, _, _, _, _, _, _, _, _, h => by cases h
  | .and _ _, _, _, _, _, _, _, _, _, h => by cases h
  | .or _ _, _, _, _, _, _, _, _, _, h => by cases h
  | .not _, _, _, _, _, _, _, _, _, h => by cases h
  | .ife _ _ _, _, _, _, _, _, _, _, _, h => by cases h
  | .tup _, _, _, _, _, _, _, _, _, h => by cases h
  | .lst _, _, _, _, _, _, _, _, _, h => by cases h
  | .dnew, _, _, _, _, _, _, _, _, h => by cases h
  | .slc _ _ _, _, _, _, _, _, _, _, _, h => by cases h
  | .call _ _, _, _, _, _, _, _, _, _, h => by cases h
  | .bi _ _, _, _, _, _, _, _, _, _, h => by cases h
  | .me _ _ _, _, _, _, _, _, _, _, _, h => by cases h
  | .isi _ _, _, _, _, _, _, _, _, _, h => by cases h
  | .isv _ _, _, _, _, _, _, _, _, _, h => by cases h
  | .o1 _ _, _, _, _, _, _, _, _, _, h => by cases h
  | .lc _ _ _ _ _, _, _, _, _, _, _, _, _, h => by cases h
  | .isx _, _, _, _, _, _, _, _, _, h => by cases h
theorem path_root : ∀ (e : E) {j : Nat} {ks : List PV} {σp : SV}, pathV V e σp = some (j, ks) → j ∈ rootE e
  | .nm i, j, ks, σp, h => by
    simp only [pathV, Option.some.injEq, Prod.mk.injEq] at h
    obtain ⟨rfl, rfl⟩ := h
    simp [rootE]
  | .ix a b, j, ks, σp, h => by
    simp only [pathV] at h
    split at h
    · rename_i r k e1 e2
      simp only [Option.some.injEq, Prod.mk.injEq] at h
      obtain ⟨rfl, rfl⟩ := h
      exact path_root a (show pathV V a σp = some (r.1, r.2) from e1)
    · cases h
  | .gl _, _, _, _, h => by cases h
  | .cn _, _, _, _, h => by cases h
  | .bin _ _ _, _, _, _, h => by cases h
  | .neg _, _, _, _, h => by cases h
  | .cmp _ _ _, _, _, _, h => by cases h
  | .chain _ _ _ _ _, _, _, _, h => by cases h
  | .one _, _, _, _, h => by cases h
  | .and _ _, _, _, _, h => by cases h
  | .or _ _, _, _, _, h => by cases h
  | .not _, _, _, _, h => by cases h
  | .ife _ _ _, _, _, _, h => by cases h
  | .tup _, _, _, _, h => by cases h
  | .lst _, _, _, _, h => by cases h
  | .dnew, _, _, _, h => by cases h
  | .slc _ _ _, _, _, _, h => by cases h
  | .call _ _, _, _, _, h => by cases h
  | .bi _ _, _, _, _, h => by cases h
  | .me _ _ _, _, _, _, h => by cases h
  | .isi _ _, _, _, _, h => by cases h
  | .isv _ _, _, _, _, h => by cases h
  | .o1 _ _, _, _, _, h => by cases h
  | .lc _ _ _ _ _, _, _, _, h => by cases h
  | .isx _, _, _, _, h => by cases h
end
end Fe
namespace Fe
open PySem PySem.Spec PyProof.Rows L2
/-- only things of the slots W are changed -/
structure FrW (W : List Nat) (vh : VH) (f o : HL) (vh' : VH) (f' o' : HL) : Prop where
  keep : ∀ (n : Nat) (x : VO), vh[n]? = some x → (∀ i ∈ W, n ∉ o i) → vh'[n]? = some x
  len : vh.length ≤ vh'.length
  fb : ∀ j n, n ∈ f' j → (∃ i, n ∈ f i ∨ n ∈ o i) ∨ vh.length ≤ n
  ob : ∀ j n, n ∈ o' j → n ∈ o j ∨ (∃ i ∈ W, n ∈ o i) ∨ vh.length ≤ n
/-- a new value beside the state; what it reads may be owned by the slots vs -/
structure Nx (vs : List Nat) (f o : HL) (ft ot : List Nat) : Prop where
  nd : ot.Nodup
  d0 : ∀ n ∈ ot, n ∉ ft
  d1 : ∀ n ∈ ot, ∀ j, n ∉ f j ∧ n ∉ o j
  d2 : ∀ j, ∀ n ∈ o j, n ∈ ft → j ∈ vs
section
variable {vh vh1 vh2 vh' : VH} {f o f1 o1 f2 o2 f' o' : HL} {vs ws W W1 W2 : List Nat} {σ : SSt} {σp σp1 : SV} {ft ot : List Nat}
theorem FrW.fr (a : FrW W vh f o vh' f' o') : Fr vh f o vh' f' o' :=
  ⟨fun n x h k => a.keep n x h fun i _ => k i, a.len, a.fb, fun j n hn => by
    rcases a.ob j n hn with z | ⟨i, _, z⟩ | z
    · exact .inl ⟨j, z⟩
    · exact .inl ⟨i, z⟩
    · exact .inr z⟩
theorem FrW.of_agr (a : Agr vh vh') : FrW W vh f o vh' f o := ⟨fun n x h _ => a n x h, a.len, fun j n h => .inl ⟨j, .inl h⟩, fun j n h => .inl h⟩
theorem FrW.refl : FrW W vh f o vh f o := FrW.of_agr (Agr.refl _)
theorem FrW.mono (a : FrW W vh f o vh' f' o') (h : ∀ i ∈ W, i ∈ W1) : FrW W1 vh f o vh' f' o' :=
  ⟨fun n x hx k => a.keep n x hx fun i hi => k i (h i hi), a.len, a.fb, fun j n hn => (a.ob j n hn).imp_right fun z => z.imp_left fun ⟨i, hi, z⟩ => ⟨i, h i hi, z⟩⟩
theorem FrW.trans (a : FrW W vh f o vh1 f1 o1) (b : FrW W vh1 f1 o1 vh2 f2 o2) : FrW W vh f o vh2 f2 o2 := by
  refine ⟨fun n x h k => b.keep n x (a.keep n x h k) fun i hi hn => ?_, Nat.le_trans a.len b.len, fun j n h => ?_, fun j n h => ?_⟩
  · rcases a.ob i n hn with z | ⟨l, hl, z⟩ | z
    · exact k i hi z
    · exact k l hl z
    · have := (List.getElem?_eq_some_iff.mp h).1; omega
  · exact a.fr.srcF (b.fb j n h)
  · rcases b.ob j n h with z | ⟨i, hi, z⟩ | z
    · exact a.ob j n z
    · rcases a.ob i n z with z | z
      · exact .inr (.inl ⟨i, hi, z⟩)
      · exact .inr z
    · exact .inr (.inr (Nat.le_trans a.len z))
theorem FrW.srcO (a : FrW W vh f o vh1 f1 o1) {n : Nat} (h : (∃ i ∈ W, n ∈ o1 i) ∨ vh1.length ≤ n) : (∃ i ∈ W, n ∈ o i) ∨ vh.length ≤ n := by
  rcases h with ⟨i, hi, z⟩ | z
  · rcases a.ob i n z with w | w | w
    · exact .inl ⟨i, hi, w⟩
    · exact .inl w
    · exact .inr w
  · exact .inr (Nat.le_trans a.len z)
theorem src_w {n : Nat} (h : (∃ i ∈ W, n ∈ o i) ∨ vh.length ≤ n) : (∃ i, n ∈ o i) ∨ vh.length ≤ n := h.imp_left fun ⟨i, _, z⟩ => ⟨i, z⟩
theorem src_m {n : Nat} (k : ∀ i ∈ W, i ∈ W1) (h : (∃ i ∈ W, n ∈ o i) ∨ vh.length ≤ n) : (∃ i ∈ W1, n ∈ o i) ∨ vh.length ≤ n := h.imp_left fun ⟨i, hi, z⟩ => ⟨i, k i hi, z⟩
theorem Nx.mono (h : Nx vs f o ft ot) (k : ∀ i ∈ vs, i ∈ ws) : Nx ws f o ft ot := ⟨h.nd, h.d0, h.d1, fun j n a b => k j (h.d2 j n a b)⟩
theorem Nw.nx (h : Nw f o ft ot) : Nx vs f o ft ot := ⟨h.nd, h.d0, h.d1, fun j n a b => absurd b (h.d2 j n a)⟩
theorem Nx.none : Nx vs f o [] [] := ⟨List.nodup_nil, by simp, by simp, by simp⟩
/-- a value that is held -/
theorem Nx.held (nx : Nx vs f1 o1 ft ot) (lt : ∀ n, n ∈ ft ∨ n ∈ ot → n < vh1.length) (F : FrW W vh1 f1 o1 vh2 f2 o2) (hd : ft = [] ∨ ∀ i ∈ vs, i ∉ W) :
    (∀ n, n ∈ ft ∨ n ∈ ot → vh2[n]? = vh1[n]?) ∧ Nx vs f2 o2 ft ot := by
  have no : ∀ n ∈ ft, ∀ i ∈ W, n ∉ o1 i := fun n hn i hi z => by
    rcases hd with e | e
    · rw [e] at hn; cases hn
    · exact e i (nx.d2 i n z hn) hi
  have same : ∀ n, n < vh1.length → (∀ i ∈ W, n ∉ o1 i) → vh2[n]? = vh1[n]? := fun n hn k => by
    rw [F.keep n _ (List.getElem?_eq_getElem hn) k, List.getElem?_eq_getElem hn]
  refine ⟨fun n hn => same n (lt n hn) fun i hi => ?_, nx.nd, nx.d0, fun n hn j => ⟨fun z => ?_, fun z => ?_⟩, fun j n hn hm => ?_⟩
  · rcases hn with hn | hn
    · exact no n hn i hi
    · exact (nx.d1 n hn i).2
  · rcases F.fb j n z with ⟨i, w | w⟩ | w
    · exact (nx.d1 n hn i).1 w
    · exact (nx.d1 n hn i).2 w
    · have := lt n (.inr hn); omega
  · rcases F.ob j n z with w | ⟨i, _, w⟩ | w
    · exact (nx.d1 n hn j).2 w
    · exact (nx.d1 n hn i).2 w
    · have := lt n (.inr hn); omega
  · rcases F.ob j n hn with w | ⟨i, hi, w⟩ | w
    · exact nx.d2 j n w hm
    · exact absurd w (no n hm i hi)
    · have := lt n (.inl hm); omega
theorem hold_of {x : PV} {v : VV} (h : hold x vs ws = true) (r : R vh v x ft ot) : ft = [] ∨ ∀ i ∈ vs, i ∉ ws := by
  unfold hold at h
  simp only [Bool.or_eq_true, List.all_eq_true, Bool.not_eq_true', List.contains_eq_mem, decide_eq_false_iff_not] at h
  exact h.imp (fun z => r.clo z) fun z => z
def clsE (x : List PV) : Bool := clos x
/-- a pure result -/
theorem Ok1.nx (I : Inv vh1 σ σp f o) (l : ∀ j n, n ∈ f j ∨ n ∈ o j → n < vh.length) {v : VV} {p : PV} (h : Ok1 vh f o vs vh1 v p) : ∃ ft ot, R vh1 v p ft ot ∧ Nx vs f o ft ot ∧ (∀ n ∈ ft, (∃ i, n ∈ f i ∨ n ∈ o i) ∨ vh.length ≤ n) ∧ ∀ n ∈ ot, vh.length ≤ n := by
  obtain ⟨ft, ot, h1, h2, h3, h4, h5⟩ := h
  refine ⟨ft, ot, h1, ⟨h2, h3, fun n hn j => ⟨fun z => ?_, fun z => ?_⟩, fun j n hn hm => ?_⟩, fun n hn => (h4 n hn).imp_left fun ⟨i, _, z⟩ => ⟨i, z⟩, h5⟩
  · have := l j n (.inl z); have := h5 n hn; omega
  · have := l j n (.inr z); have := h5 n hn; omega
  · rcases h4 n hm with ⟨i, hi, z | z⟩ | z
    · exact absurd z (I.sep.fo j i n hn)
    · by_cases e : i = j
      · subst e; exact hi
      · exact absurd z (I.sep.oo j i (fun z => e z.symm) n hn)
    · have := l j n (.inr hn); omega
/-- what a value needs to be put into a slot -/
theorem settleW (I : Inv vh1 σ σp f1 o1) {v : VV} {p : PV} (r : R vh1 v p ft ot) (nx : Nx vs f1 o1 ft ot) : ∃ f' o', Inv vh1 σ (settle vs p σp) f' o' ∧ FrW W vh1 f1 o1 vh1 f' o' ∧ Nw f' o' ft ot ∧ ∀ j n, n ∈ o' j → n ∈ o1 j := by
  simp only [settle]
  by_cases hc : clo p = true
  · rw [if_pos hc]
    have e := r.clo hc
    subst e
    exact ⟨f1, o1, I, FrW.refl, ⟨nx.nd, nx.d0, nx.d1, by simp⟩, fun _ _ h => h⟩
  · rw [if_neg hc]
    obtain ⟨f', o', I', k0, k1, k2⟩ := I.frz vs
    refine ⟨f', o', I', ⟨fun n x hx _ => hx, Nat.le_refl _, fun j n hn => .inl ⟨j, k1 j n hn⟩, fun j n hn => .inl (k2 j n hn)⟩, ⟨nx.nd, nx.d0, fun n hn j => ⟨fun z => ?_, fun z => ?_⟩, fun j n hn hm => ?_⟩, k2⟩
    · exact (k1 j n z).elim (nx.d1 n hn j).1 (nx.d1 n hn j).2
    · exact (nx.d1 n hn j).2 (k2 j n z)
    · have := nx.d2 j n (k2 j n hn) hm
      rw [k0 j this] at hn; cases hn
end
/-- an expression's outcome and its picture -/
def EO {α β : Type} (W vs : List Nat) (vh : VH) (σ : SSt) (f o : HL) (rel : VH → α → β → List Nat → List Nat → Prop) (r : RX β) (s : Res α) : Prop := match r with
  | .ok p σp' => ∃ v vh' f' o' ft ot, s = .ok v vh' ∧ Inv vh' σ σp' f' o' ∧ FrW W vh f o vh' f' o' ∧ rel vh' v p ft ot ∧ Nx vs f' o' ft ot ∧ (∀ n ∈ ft, (∃ i, n ∈ f i ∨ n ∈ o i) ∨ vh.length ≤ n) ∧ ∀ n ∈ ot, (∃ i ∈ W, n ∈ o i) ∨ vh.length ≤ n
  | .exc c σp' => ∃ vh' f' o', s = .exc c none vh' ∧ Inv vh' σ σp' f' o' ∧ FrW W vh f o vh' f' o'
  | .stuck => True
section
variable {α β α' β' : Type} {vh vh1 vh2 vh' : VH} {f o f1 o1 f2 o2 f' o' : HL} {vs ws W W1 W2 : List Nat} {σ : SSt} {σp σp1 : SV} {ft ot : List Nat}
variable {rel : VH → α → β → List Nat → List Nat → Prop} {rel' : VH → α' → β' → List Nat → List Nat → Prop}
theorem EO.bind {r : RX β} {s : Res α} {g : β → SV → RX β'} {h : α → VH → Res α'} (a : EO W1 ws vh σ f o rel r s) (hW : ∀ i ∈ W1, i ∈ W)
    (k : ∀ (v : α) (p : β) (vh1 : VH) (σp1 : SV) (f1 o1 : HL) (ft ot : List Nat), Inv vh1 σ σp1 f1 o1 → FrW W vh f o vh1 f1 o1 → rel vh1 v p ft ot → Nx ws f1 o1 ft ot → (∀ n ∈ ft, (∃ i, n ∈ f i ∨ n ∈ o i) ∨ vh.length ≤ n) → (∀ n ∈ ot, (∃ i ∈ W, n ∈ o i) ∨ vh.length ≤ n) → EO W vs vh σ f o rel' (g p σp1) (h v vh1)) :
    EO W vs vh σ f o rel' (r.bind g) (s.bind h) := by
  cases r with
  | ok p σp' => obtain ⟨v, vh1, f1, o1, ft, ot, rfl, i, F, r, nx, s1, s2⟩ := a; exact k v p vh1 σp' f1 o1 ft ot i (F.mono hW) r nx s1 fun n hn => src_m hW (s2 n hn)
  | exc c σp' => obtain ⟨vh1, f1, o1, rfl, i, F⟩ := a; exact ⟨vh1, f1, o1, rfl, i, F.mono hW⟩
  | stuck => trivial
theorem EO.lift {r : RX β} {s : Res α} (F : FrW W vh f o vh1 f1 o1) (a : EO W1 vs vh1 σ f1 o1 rel r s) (hW : ∀ i ∈ W1, i ∈ W) : EO W vs vh σ f o rel r s := by
  cases r with
  | ok p σp' => obtain ⟨v, vh2, f2, o2, ft, ot, rfl, i, F2, r, nx, s1, s2⟩ := a; exact ⟨v, vh2, f2, o2, ft, ot, rfl, i, F.trans (F2.mono hW), r, nx, fun n hn => F.fr.srcF (s1 n hn), fun n hn => F.srcO (src_m hW (s2 n hn))⟩
  | exc c σp' => obtain ⟨vh2, f2, o2, rfl, i, F2⟩ := a; exact ⟨vh2, f2, o2, rfl, i, F.trans (F2.mono hW)⟩
  | stuck => trivial
theorem EO.mono {r : RX β} {s : Res α} (a : EO W ws vh σ f o rel r s) (hv : ∀ i ∈ ws, i ∈ vs) : EO W vs vh σ f o rel r s := by
  cases r with
  | ok p σp' => obtain ⟨v, vh2, f2, o2, ft, ot, rfl, i, F2, r, nx, s⟩ := a; exact ⟨v, vh2, f2, o2, ft, ot, rfl, i, F2, r, nx.mono hv, s⟩
  | exc c σp' => exact a
  | stuck => trivial
theorem EO.ite {c : Prop} {i1 i2 : Decidable c} {r : RX β} {s s' : Res α} (k : c → EO W vs vh σ f o rel r s) : EO W vs vh σ f o rel (@_root_.ite (RX β) c i1 r RX.stuck) (@_root_.ite (Res α) c i2 s s') := by
  by_cases h : c
  · rw [if_pos h, if_pos h]; exact k h
  · rw [if_neg h]; trivial
theorem EO.ite0 {c : Prop} {i1 : Decidable c} {r : RX β} {s : Res α} (k : c → EO W vs vh σ f o rel r s) : EO W vs vh σ f o rel (@_root_.ite (RX β) c i1 r RX.stuck) s := by
  by_cases h : c
  · rw [if_pos h]; exact k h
  · rw [if_neg h]; trivial
theorem EO.go {r : RX β} {s : Res α} {g : β → SV → RSP} {h : α → VH → RS} (a : EO W vs vh σ f o rel r s)
    (k : ∀ (v : α) (p : β) (vh1 : VH) (σp1 : SV) (f1 o1 : HL) (ft ot : List Nat), Inv vh1 σ σp1 f1 o1 → FrW W vh f o vh1 f1 o1 → rel vh1 v p ft ot → Nx vs f1 o1 ft ot → (∀ n ∈ ft, (∃ i, n ∈ f i ∨ n ∈ o i) ∨ vh.length ≤ n) → (∀ n ∈ ot, (∃ i ∈ W, n ∈ o i) ∨ vh.length ≤ n) → okZ vh f o (g p σp1) (h v vh1)) :
    okZ vh f o (r.go g) (s.go σ h) := by
  cases r with
  | ok p σp' => obtain ⟨v, vh1, f1, o1, ft, ot, rfl, i, F, r, nx, s1, s2⟩ := a; exact k v p vh1 σp' f1 o1 ft ot i F r nx s1 s2
  | exc c σp' => obtain ⟨vh1, f1, o1, rfl, i, F⟩ := a; exact ⟨(), σ, vh1, f1, o1, rfl, i, F.fr⟩
  | stuck => trivial
/-- a pure expression -/
theorem EO.pure (I : Inv vh σ σp f o) {r : RP PV} {s : Res VV} (h : okX (Ok1 vh f o vs) vh r s) : EO W vs vh σ f o R (r.at σp) s := by
  cases r with
  | ok p =>
    obtain ⟨v, vh1, rfl, ag, h⟩ := h
    obtain ⟨ft, ot, h1, h2, h3, h4⟩ := Ok1.nx (I.agr ag) I.lt h
    exact ⟨v, vh1, f, o, ft, ot, rfl, I.agr ag, FrW.of_agr ag, h1, h2, h3, fun n hn => .inr (h4 n hn)⟩
  | exc c =>
    obtain ⟨_, vh1, rfl, ag⟩ := h
    exact ⟨vh1, f, o, rfl, I.agr ag, FrW.of_agr ag⟩
  | stuck => trivial
/-- an operation on values that are read -/
theorem EO.op (I2 : Inv vh2 σ σp f2 o2) (F : FrW W vh f o vh2 f2 o2) {L : List Nat} (hL : ∀ n ∈ L, (∀ j, n ∈ o2 j → j ∈ vs) ∧ ((∃ i, n ∈ f i ∨ n ∈ o i) ∨ vh.length ≤ n)) {r : RP PV} {s : Res VV} (h : okX (Ok1 vh2 (fun _ => L) (fun _ => []) [0]) vh2 r s) : EO W vs vh σ f o R (r.at σp) s := by
  cases r with
  | ok p =>
    obtain ⟨v, vh3, rfl, ag, ft, ot, h1, h2, h3, h4, h5⟩ := h
    have k4 : ∀ n ∈ ft, n ∈ L ∨ vh2.length ≤ n := fun n hn => by
      rcases h4 n hn with ⟨i, _, z | z⟩ | z
      · exact .inl z
      · cases z
      · exact .inr z
    refine ⟨v, vh3, f2, o2, ft, ot, rfl, I2.agr ag, F.trans (FrW.of_agr ag), h1, ⟨h2, h3, fun n hn j => ⟨fun z => ?_, fun z => ?_⟩, fun j n hn hm => ?_⟩, fun n hn => ?_, fun n hn => .inr (Nat.le_trans F.len (h5 n hn))⟩
    · have := I2.lt j n (.inl z); have := h5 n hn; omega
    · have := I2.lt j n (.inr z); have := h5 n hn; omega
    · rcases k4 n hm with z | z
      · exact (hL n z).1 j hn
      · have := I2.lt j n (.inr hn); omega
    · rcases k4 n hn with z | z
      · exact (hL n z).2
      · exact .inr (Nat.le_trans F.len z)
  | exc c =>
    obtain ⟨_, vh3, rfl, ag⟩ := h
    exact ⟨vh3, f2, o2, rfl, I2.agr ag, F.trans (FrW.of_agr ag)⟩
  | stuck => trivial
theorem Ok1.ofR {v : VV} {p : PV} {L : List Nat} (r : R vh2 v p ft ot) (h : ∀ n, n ∈ ft ∨ n ∈ ot → n ∈ L) : Ok1 vh2 (fun _ => L) (fun _ => []) [0] vh2 v (Fe.fz p) := by
  obtain ⟨g, r1, k⟩ := r.fz
  exact Ok1.frz r1 fun n hn => .inl ⟨0, by simp, .inl (h n ((k n).mp hn))⟩
theorem Oks.ofR {v : List VV} {p : List PV} {L : List Nat} (r : Rs vh2 v p ft ot) (h : ∀ n, n ∈ ft ∨ n ∈ ot → n ∈ L) : Oks vh2 (fun _ => L) (fun _ => []) [0] vh2 v (fzs p) := by
  obtain ⟨g, r1, k⟩ := r.fz
  exact ⟨g, [], r1, List.nodup_nil, by simp, fun n hn => .inl ⟨0, by simp, .inl (h n ((k n).mp hn))⟩, by simp⟩
theorem Nx.src (nx : Nx vs f2 o2 ft ot) (s1 : ∀ n ∈ ft, (∃ i, n ∈ f i ∨ n ∈ o i) ∨ vh.length ≤ n) (s2 : ∀ n ∈ ot, (∃ i ∈ W, n ∈ o i) ∨ vh.length ≤ n) : ∀ n ∈ ft ++ ot, (∀ j, n ∈ o2 j → j ∈ vs) ∧ ((∃ i, n ∈ f i ∨ n ∈ o i) ∨ vh.length ≤ n) := fun n hn => by
  rcases List.mem_append.mp hn with z | z
  · exact ⟨fun j w => nx.d2 j n w z, s1 n z⟩
  · exact ⟨fun j w => absurd w (nx.d1 n z j).2, (s2 n z).imp_left fun ⟨i, _, z⟩ => ⟨i, .inr z⟩⟩
end
end Fe
namespace Fe
open PySem PySem.Spec PyProof.Rows L2
section
variable {vh vh1 vh2 vh' : VH} {f o f1 o1 f2 o2 f' o' : HL} {vs ws W W1 W2 : List Nat} {σ : SSt} {σp σp1 : SV}
theorem Rs.oks0 {args : List VV} {ps : List PV} {fa oa : List Nat} (ha : Rs vh args ps fa oa) (nda : oa.Nodup) (dja : ∀ n ∈ oa, n ∉ fa) : Oks [] (fun _ => []) (fun _ => []) [] vh args ps := ⟨fa, oa, ha, nda, dja, fun n _ => .inr (Nat.zero_le _), fun n _ => Nat.zero_le _⟩
theorem key_R {v : VV} {k : PV} {key : Key} {f o : List Nat} (r : R vh v k f o) (h : keyP k = some key) : keyOf v = some key := by
  cases r <;> first | exact h | cases h
theorem flat_R {v : VV} {q : PV} {f o : List Nat} (r : R vh v q f o) (h : flatP q = true) : f = [] ∧ o = [] := by
  cases r <;> first | exact ⟨rfl, rfl⟩ | cases h
theorem look_R {k : Key} : ∀ {kvs : List (Key × VV)} {ps : List PV} {f o : List Nat}, Rs vh (kvs.map (·.2)) ps f o → (lookK kvs k = none ∧ lookK ((kvs.map (·.1)).zip ps) k = none) ∨ ∃ x u f1 o1, lookK kvs k = some x ∧ lookK ((kvs.map (·.1)).zip ps) k = some u ∧ R vh x u f1 o1
  | [], [], _, _, _ => .inl ⟨rfl, rfl⟩
  | [], _ :: _, _, _, h => by have := h.len; simp at this
  | _ :: _, [], _, _, h => by have := h.len; simp at this
  | (a, x) :: kvs, p :: ps, _, _, h => by
    simp only [List.map_cons] at h
    cases h with
    | cons r t =>
      by_cases e : a = k
      · refine .inr ⟨x, p, _, _, ?_, ?_, r⟩
        · unfold lookK; rw [List.find?_cons_of_pos (by simpa using e)]; rfl
        · unfold lookK; rw [List.map_cons, List.zip_cons_cons, List.find?_cons_of_pos (by simpa using e)]; rfl
      · have := look_R (k := k) t
        unfold lookK at this ⊢
        rw [List.find?_cons_of_neg (by simpa using e), List.map_cons, List.zip_cons_cons, List.find?_cons_of_neg (by simpa using e)]
        exact this
theorem mutC_ok (m : ME) {q y q' : PV} {x : VV} {fq oq fa oa : List Nat} {args : List VV} {ps : List PV} (r : R vh x q fq oq) (nd : oq.Nodup) (dj : ∀ n ∈ oq, n ∉ fq) (ha : Rs vh args ps fa oa) (nda : oa.Nodup) (dja : ∀ n ∈ oa, n ∉ fa)
    (cr : ∀ n ∈ oa, n ∉ fq ∧ n ∉ oq) (cr2 : ∀ n ∈ oq, n ∉ fa) (hm : mutC m q ps = some (y, q')) : ∃ (w : VV) (vh2 : VH) (fy oy f' o' : List Nat), sME m x args vh = .ok w vh2 ∧ (∀ vh0 : VH, (∀ n ∈ oq, vh0[n]? = vh[n]?) → tyOk m x vh0 = true) ∧ vh2.length = vh.length ∧
      (∀ n, n ∉ oq → vh2[n]? = vh[n]?) ∧ R vh2 w y fy oy ∧ R vh2 x q' f' o' ∧ (∀ n ∈ fy, n ∈ fq) ∧ (∀ n ∈ f', n ∈ fq ∨ n ∈ fa ∨ n ∈ oa) ∧ (∀ n ∈ oy, n ∈ oq) ∧ (∀ n ∈ o', n ∈ oq ∨ n ∈ oa) ∧ (oy ++ o').Nodup ∧ (∀ n ∈ oy, n ∉ fy ∧ n ∉ f') ∧ (∀ n ∈ o', n ∉ fy ∧ n ∉ f') := by
  unfold mutC at hm
  split at hm
  · rename_i l
    cases r with
    | olst e rs =>
      rename_i n xs oo
      obtain ⟨n1, n2⟩ := List.nodup_cons.mp nd
      have nf := dj n List.mem_cons_self
      have ty : ∀ vh0 : VH, (∀ a ∈ n :: oo, vh0[a]? = vh[a]?) → isLst (.ref n) vh0 = true := fun vh0 h0 => by
        simp [isLst, seqL, h0 n List.mem_cons_self, e]
      have dj' : ∀ a ∈ oo, a ∉ fq := fun a ha => dj a (List.mem_cons_of_mem _ ha)
      split at hm
      · rename_i hp
        simp only [Option.map_eq_some_iff, Prod.mk.injEq] at hm
        obtain ⟨⟨y0, l'⟩, hm, rfl, rfl⟩ := hm
        obtain ⟨w, xs', f1, p1, f2, p2, g1, g2, g3, g4, g5, g6, g7⟩ := pop_ok m e rs (ha.oks0 nda dja) hm
        obtain ⟨q1, q2, q3⟩ := List.nodup_append.mp (g7.nodup_iff.mpr n2)
        have i1 : ∀ a ∈ p1, a ∈ oo := fun a ha => g7.subset (List.mem_append_left _ ha)
        have i2 : ∀ a ∈ p2, a ∈ oo := fun a ha => g7.subset (List.mem_append_right _ ha)
        have ne1 : ∀ a, a ∈ f1 ∨ a ∈ p1 → n ≠ a := fun a ha z => by
          subst z; exact ha.elim (fun z => nf (g5 n z)) fun z => n1 (i1 n z)
        have ne2 : ∀ a, a ∈ f2 ∨ a ∈ p2 → n ≠ a := fun a ha z => by
          subst z; exact ha.elim (fun z => nf (g6 n z)) fun z => n1 (i2 n z)
        refine ⟨w, vh.set n (.lst xs'), f1, p1, f2, n :: p2, g1, fun vh0 h0 => ?_, List.length_set, fun a ha => List.getElem?_set_ne (fun z => by subst z; exact ha List.mem_cons_self), g3.same fun a ha => List.getElem?_set_ne (ne1 a ha), ?_, g5, fun a ha => .inl (g6 a ha), fun a ha => List.mem_cons_of_mem _ (i1 a ha), fun a ha => .inl ?_, ?_, fun a ha => ⟨fun z => dj' a (i1 a ha) (g5 a z), fun z => dj' a (i1 a ha) (g6 a z)⟩, fun a ha => ?_⟩
        · have := ty vh0 h0
          cases m <;> first | exact this | cases hp
        · exact .olst (List.getElem?_set_self (List.getElem?_eq_some_iff.mp e).1) (g4.same fun a ha => List.getElem?_set_ne (ne2 a ha))
        · rcases List.mem_cons.mp ha with z | z
          · subst z; exact List.mem_cons_self
          · exact List.mem_cons_of_mem _ (i2 a z)
        · refine List.nodup_append.mpr ⟨q1, List.nodup_cons.mpr ⟨fun z => n1 (i2 n z), q2⟩, fun a ha b hb z => ?_⟩
          subst z
          rcases List.mem_cons.mp hb with z | z
          · subst z; exact n1 (i1 a ha)
          · exact q3 a ha a z rfl
        · rcases List.mem_cons.mp ha with z | z
          · subst z; exact ⟨fun z => nf (g5 a z), fun z => nf (g6 a z)⟩
          · exact ⟨fun w => dj' a (i2 a z) (g5 a w), fun w => dj' a (i2 a z) (g6 a w)⟩
      · rename_i hp
        simp only [Option.map_eq_some_iff, Prod.mk.injEq] at hm
        obtain ⟨l', hm, rfl, rfl⟩ := hm
        obtain ⟨xs', fl, ol, g1, g2, g3, g4, g5, g6, g7⟩ := mut_ok m e rs ha n2 dj' nda dja (fun a ha => ⟨(cr a ha).1, fun z => (cr a ha).2 (List.mem_cons_of_mem _ z)⟩) (fun a ha => cr2 a (List.mem_cons_of_mem _ ha)) hm
        have nfl : n ∉ fl := fun z => by
          rcases g4 n z with z | z | z
          · exact nf z
          · exact cr2 n List.mem_cons_self z
          · exact (cr n z).2 List.mem_cons_self
        have nol : n ∉ ol := fun z => by
          rcases g5 n z with z | z
          · exact n1 z
          · exact (cr n z).2 List.mem_cons_self
        refine ⟨.non, vh.set n (.lst xs'), [], [], fl, n :: ol, g1, fun vh0 h0 => ?_, List.length_set, fun a ha => List.getElem?_set_ne (fun z => by subst z; exact ha List.mem_cons_self), .non, ?_, by simp, g4, by simp, fun a ha => ?_, by simpa using ⟨nol, g6⟩, by simp, fun a ha => ⟨by simp, ?_⟩⟩
        · have := ty vh0 h0
          have hn : isLst (.ref n) vh = true := by simp [isLst, seqL, e]
          cases m <;> first | exact this | (simp [mutP] at hm; done) | (unfold mutP at hm; cases hm)
        · exact .olst (List.getElem?_set_self (List.getElem?_eq_some_iff.mp e).1) (g3.same fun a ha => List.getElem?_set_ne fun z => by
            subst z; exact ha.elim nfl nol)
        · rcases List.mem_cons.mp ha with z | z
          · subst z; exact .inl List.mem_cons_self
          · exact (g5 a z).imp_left fun w => List.mem_cons_of_mem _ w
        · rcases List.mem_cons.mp ha with z | z
          · subst z; exact nfl
          · exact g7 a z
  · rename_i ks l
    cases r with
    | odct e rs =>
      rename_i n kvs oo
      obtain ⟨n1, n2⟩ := List.nodup_cons.mp nd
      have nf := dj n List.mem_cons_self
      have dj' : ∀ a ∈ oo, a ∉ fq := fun a ha => dj a (List.mem_cons_of_mem _ ha)
      split at hm
      · unfold sdP at hm
        split at hm
        · rename_i k v
          split at hm
          · rename_i key ek
            split at hm
            · rename_i hz
              cases ha with
              | cons rk ha =>
                cases ha with
                | cons rv ha =>
                  cases ha
                  rename_i kx fk ok' vx fv ov
                  have ek' := key_R rk ek
                  obtain ⟨e1, e2⟩ := flat_R rv hz.2
                  subst e1; subst e2
                  have hl : kvs.length < lineZ := by have := hz.1; rw [List.length_map] at this; unfold lineZ; exact this
                  have ty : ∀ vh0 : VH, (∀ a ∈ n :: oo, vh0[a]? = vh[a]?) → tyOk .setdef (.ref n) vh0 = true := fun vh0 h0 => by
                    simp [tyOk, isDct, h0 n List.mem_cons_self, e]
                  rcases look_R (k := key) rs with ⟨z1, z2⟩ | ⟨x, u, f1, o1, z1, z2, z3⟩
                  · rw [z2] at hm
                    simp only [Option.some.injEq, Prod.mk.injEq] at hm
                    obtain ⟨rfl, rfl⟩ := hm
                    obtain ⟨fl, ol, g1, g2, g3, g4⟩ := Rs.putK (k := key) rv rs
                    have g3' : ∀ a ∈ fl, a ∈ fq := fun a ha => (g3 a ha).elim id (by simp)
                    have os : ∀ a ∈ ol, a ∈ oo := fun a ha => g4.subset ha
                    have nb : ∀ a, a ∈ fl ∨ a ∈ ol → n ≠ a := fun a ha z => by
                      subst z; exact ha.elim (fun z => nf (g3' n z)) fun z => n1 (os n z)
                    refine ⟨vx, vh.set n (.dct (putKK kvs key vx)), [], [], fl, n :: ol, ?_, ty, List.length_set, fun a ha => List.getElem?_set_ne (fun z => by subst z; exact ha List.mem_cons_self), rv.same (by simp), ?_, by simp, fun a ha => .inl (g3' a ha), by simp, fun a ha => ?_, by simpa using ⟨fun z => n1 (os n z), g4.nodup n2⟩, by simp, fun a ha => ⟨by simp, ?_⟩⟩
                    · simp only [sME, e, ek', z1, hl, if_true]
                    · have := R.odct (vh := vh.set n (.dct (putKK kvs key vx))) (n := n) (kvs := putKK kvs key vx) (List.getElem?_set_self (List.getElem?_eq_some_iff.mp e).1) (g2.same fun a ha => List.getElem?_set_ne (nb a ha))
                      rw [g1] at this
                      exact this
                    · rcases List.mem_cons.mp ha with z | z
                      · subst z; exact .inl List.mem_cons_self
                      · exact .inl (List.mem_cons_of_mem _ (os a z))
                    · rcases List.mem_cons.mp ha with z | z
                      · subst z; exact fun w => nf (g3' a w)
                      · exact fun w => dj' a (os a z) (g3' a w)
                  · rw [z2] at hm
                    simp only at hm
                    split at hm
                    · rename_i hfu
                      simp only [Option.some.injEq, Prod.mk.injEq] at hm
                      obtain ⟨rfl, rfl⟩ := hm
                      obtain ⟨e1, e2⟩ := flat_R z3 hfu
                      subst e1; subst e2
                      refine ⟨x, vh, [], [], fq, n :: oo, ?_, ty, rfl, fun _ _ => rfl, z3, .odct e rs, by simp, fun a ha => .inl ha, by simp, fun a ha => .inl ha, by simpa using ⟨n1, n2⟩, by simp, fun a ha => ⟨by simp, dj a ha⟩⟩
                      simp only [sME, e, ek', z1, hl, if_true]
                    · cases hm
            · cases hm
          · cases hm
        · cases hm
      · cases hm
  · cases hm
/-- a thing in slot j has been changed -/
theorem Inv.back (I : Inv vh1 σ σp f1 o1) {j : Nat} {p' : PV} {v : VV} (ev : σ[j]? = some (some v)) {f3 o3 : List Nat} (r3 : R vh2 v p' f3 o3) (nd : o3.Nodup) (d0 : ∀ n ∈ o3, n ∉ f3) (same : ∀ n, n ∉ o1 j → n < vh1.length → vh2[n]? = vh1[n]?)
    (d1 : ∀ n ∈ o3, ∀ i, i ≠ j → n ∉ f1 i ∧ n ∉ o1 i) (d2 : ∀ i, i ≠ j → ∀ n ∈ o1 i, n ∉ f3) : ∃ f' o', Inv vh2 σ (σp.set j (some p')) f' o' ∧ (∀ i, i ≠ j → f' i = f1 i ∧ o' i = o1 i) ∧ (∀ n ∈ f' j, n ∈ f3) ∧ ∀ n ∈ o' j, n ∈ o3 := by
  have I0 := I.unset j
  have I1 : Inv vh2 (σ.set j none) (σp.set j none) (updL f1 j []) (updL o1 j []) := I0.same fun i a ha => by
    by_cases hi : i = j
    · subst hi; rw [updL_same, updL_same] at ha; simp at ha
    · rw [updL_ne hi, updL_ne hi] at ha
      refine same a (fun z => ?_) (I.lt i a ha)
      rcases ha with ha | ha
      · exact I.sep.fo j i a z ha
      · exact I.sep.oo j i (fun z => hi z.symm) a z ha
  obtain ⟨f', o', I2, g1, g2, g3⟩ := I1.set j r3 nd d0 (fun a ha i hi => by
      rw [updL_ne hi, updL_ne hi]
      exact d1 a ha i hi) (fun i hi a ha => by
      rw [updL_ne hi] at ha
      exact d2 i hi a ha)
  have s1 : (σ.set j none).set j (some v) = σ := by
    rw [List.set_set]
    apply List.ext_getElem?
    intro i
    by_cases hi : j = i
    · subst hi; rw [List.getElem?_set_self (List.getElem?_eq_some_iff.mp ev).1, ev]
    · rw [List.getElem?_set_ne hi]
  rw [s1, List.set_set] at I2
  refine ⟨f', o', I2, fun i hi => ?_, g2, g3⟩
  obtain ⟨q1, q2⟩ := g1 i hi
  rw [updL_ne hi] at q1 q2
  exact ⟨q1, q2⟩
/-- what has been put in the place of a part: separate from all else -/
theorem back_path (I : Inv vh1 σ σp f1 o1) {j : Nat} {v : VV} (ev : σ[j]? = some (some v)) {oq fr og f2' o2' f3 o3 : List Nat} (hfr : ∀ n ∈ fr, n ∈ f1 j) (hpm : List.Perm (oq ++ og) (o1 j)) {p' : PV} (r3 : R vh2 v p' f3 o3) (h3 : ∀ n ∈ f3, n ∈ fr ∨ n ∈ f2') (hp3 : List.Perm o3 (o2' ++ og))
    (nd2 : o2'.Nodup) (d02 : ∀ n ∈ o2', n ∉ f2') (same : ∀ n, n ∉ oq → n < vh1.length → vh2[n]? = vh1[n]?) (e1 : ∀ n ∈ o2', (∀ i, i ≠ j → n ∉ f1 i ∧ n ∉ o1 i) ∧ n ∉ og ∧ n ∉ f1 j) (e2 : ∀ n ∈ f2', (∀ i, i ≠ j → n ∉ o1 i) ∧ n ∉ og) :
    ∃ f' o', Inv vh2 σ (σp.set j (some p')) f' o' ∧ (∀ i, i ≠ j → f' i = f1 i ∧ o' i = o1 i) ∧ (∀ n ∈ f' j, n ∈ f1 j ∨ n ∈ f2') ∧ (∀ n ∈ o' j, n ∈ og ∨ n ∈ o2') := by
  have nd1 := I.sep.nd j
  obtain ⟨n1, n2, n3⟩ := List.nodup_append.mp (hpm.nodup_iff.mpr nd1)
  have ogm : ∀ n ∈ og, n ∈ o1 j := fun n hn => hpm.subset (List.mem_append_right _ hn)
  have oqm : ∀ n ∈ oq, n ∈ o1 j := fun n hn => hpm.subset (List.mem_append_left _ hn)
  have m3 : ∀ n ∈ o3, n ∈ o2' ∨ n ∈ og := fun n hn => List.mem_append.mp (hp3.subset hn)
  obtain ⟨f', o', q1, q2, q3, q4⟩ := I.back ev r3 (hp3.nodup_iff.mpr (List.nodup_append.mpr ⟨nd2, n2, fun a ha b hb z => (e1 a ha).2.1 (z ▸ hb)⟩)) (fun n hn hm => by
      rcases m3 n hn with z | z <;> rcases h3 n hm with w | w
      · exact (e1 n z).2.2 (hfr n w)
      · exact d02 n z w
      · exact I.sep.fo j j n (ogm n z) (hfr n w)
      · exact (e2 n w).2 z) (fun n hn hl => same n (fun z => hn (oqm n z)) hl) (fun n hn i hi => by
      rcases m3 n hn with z | z
      · exact (e1 n z).1 i hi
      · exact ⟨I.sep.fo j i n (ogm n z), I.sep.oo j i (fun z => hi z.symm) n (ogm n z)⟩) (fun i hi n hn hm => by
      rcases h3 n hm with w | w
      · exact I.sep.fo i j n hn (hfr n w)
      · exact (e2 n w).1 i hi hn)
  exact ⟨f', o', q1, q2, fun n hn => (h3 n (q3 n hn)).imp_left (hfr n), fun n hn => (m3 n (q4 n hn)).symm⟩
theorem mutAt_ok (I : Inv vh1 σ σp f1 o1) (F : FrW W vh f o vh1 f1 o1) (m : ME) {j : Nat} {ks : List PV} (hj : j ∈ W) {args : List VV} {ps : List PV} {fa oa : List Nat} (ha : Rs vh1 args ps fa oa) (nw : Nw f1 o1 fa oa) (s1 : ∀ n ∈ fa, (∃ i, n ∈ f i ∨ n ∈ o i) ∨ vh.length ≤ n) (s2 : ∀ n ∈ oa, vh.length ≤ n) :
    mutAt m j ks ps σp = .stuck ∨ ∃ v x, σ[j]? = some (some v) ∧ (∀ vh0 : VH, (∀ n ∈ o1 j, vh0[n]? = vh1[n]?) → stpsV ks v vh0 = some x ∧ tyOk m x vh0 = true) ∧ EO W vs vh σ f o R (mutAt m j ks ps σp) (sME m x args vh1) := by
  unfold mutAt
  split
  · rename_i p ep
    split
    · rename_i q eq
      split
      · rename_i y q' em
        split
        · rename_i p' ep'
          refine .inr ?_
          obtain ⟨v, ev1, r⟩ := I.get ep
          obtain ⟨x, fq, oq, fr, og, a1, a2, a3, a4, a5, a6, a7⟩ := get_path ks r eq
          obtain ⟨n1, n2, n3⟩ := List.nodup_append.mp (a5.nodup_iff.mpr (I.sep.nd j))
          have ogm : ∀ n ∈ og, n ∈ o1 j := fun n hn => a5.subset (List.mem_append_right _ hn)
          have oqm : ∀ n ∈ oq, n ∈ o1 j := fun n hn => a5.subset (List.mem_append_left _ hn)
          obtain ⟨w, vh2, fy, oy, f', o', b1, b2, b3, b4, b5, b6, b7, b8, b9, b10, b11, b12, b13⟩ := mutC_ok m a2 n1 (fun n hn hm => I.sep.fo j j n (oqm n hn) (a3 n hm)) ha nw.nd nw.d0 (fun n hn => ⟨fun z => (nw.d1 n hn j).1 (a3 n z), fun z => (nw.d1 n hn j).2 (oqm n z)⟩) (fun n hn => nw.d2 j n (oqm n hn)) em
          refine ⟨v, x, ev1, fun vh0 h0 => ⟨a6 vh0 fun n hn => h0 n (ogm n hn), b2 vh0 fun n hn => h0 n (oqm n hn)⟩, ?_⟩
          have noq : ∀ n ∈ og, n ∉ oq := fun n hn z => n3 n z n hn rfl
          have frq : ∀ n ∈ fr, n ∉ oq := fun n hn z => I.sep.fo j j n (oqm n z) (a4 n hn)
          obtain ⟨f3, o3, c1, c2, c3⟩ := a7 vh2 q' p' f' o' (fun n hn => b4 n (hn.elim (frq n) (noq n))) b6 ep'
          obtain ⟨b11a, b11b, b11c⟩ := List.nodup_append.mp b11
          have e1 : ∀ n ∈ o', (∀ i, i ≠ j → n ∉ f1 i ∧ n ∉ o1 i) ∧ n ∉ og ∧ n ∉ f1 j := fun n hn => by
            rcases b10 n hn with z | z
            · exact ⟨fun i hi => ⟨I.sep.fo j i n (oqm n z), I.sep.oo j i (fun z => hi z.symm) n (oqm n z)⟩, fun w => noq n w z, I.sep.fo j j n (oqm n z)⟩
            · exact ⟨fun i _ => nw.d1 n z i, fun w => (nw.d1 n z j).2 (ogm n w), (nw.d1 n z j).1⟩
          have e2 : ∀ n ∈ f', (∀ i, i ≠ j → n ∉ o1 i) ∧ n ∉ og := fun n hn => by
            rcases b8 n hn with z | z | z
            · exact ⟨fun i hi w => I.sep.fo i j n w (a3 n z), fun w => I.sep.fo j j n (ogm n w) (a3 n z)⟩
            · exact ⟨fun i hi w => nw.d2 i n w z, fun w => nw.d2 j n (ogm n w) z⟩
            · exact ⟨fun i hi => (nw.d1 n z i).2, fun w => (nw.d1 n z j).2 (ogm n w)⟩
          obtain ⟨g', h', d1, d2, d3, d4⟩ := back_path I ev1 a4 a5 c1 c2 c3 b11b (fun n hn => (b13 n hn).2) (fun n hn _ => b4 n hn) e1 e2
          have yO : ∀ n ∈ oy, n ∈ o1 j := fun n hn => oqm n (b9 n hn)
          refine ⟨w, vh2, g', h', fy, oy, b1, d1, ⟨fun n x0 hx k => ?_, by rw [b3]; exact F.len, fun i n hn => ?_, fun i n hn => ?_⟩, b5, ⟨b11a, fun n hn => (b12 n hn).1, fun n hn i => ?_, fun i n hn hm => ?_⟩, fun n hn => F.fb j n (a3 n (b7 n hn)), fun n hn => F.srcO (.inl ⟨j, hj, yO n hn⟩)⟩
          · rw [b4 n fun z => ?_]
            · exact F.keep n x0 hx k
            · rcases F.ob j n (oqm n z) with w | ⟨i, hi, w⟩ | w
              · exact k j hj w
              · exact k i hi w
              · have := (List.getElem?_eq_some_iff.mp hx).1; omega
          · by_cases e : i = j
            · subst e
              rcases d3 n hn with z | z
              · exact F.fb i n z
              · rcases b8 n z with z | z | z
                · exact F.fb i n (a3 n z)
                · exact s1 n z
                · exact .inr (s2 n z)
            · rw [(d2 i e).1] at hn; exact F.fb i n hn
          · by_cases e : i = j
            · subst e
              rcases d4 n hn with z | z
              · exact F.ob i n (ogm n z)
              · rcases b10 n z with z | z
                · exact F.ob i n (oqm n z)
                · exact .inr (.inr (s2 n z))
            · rw [(d2 i e).2] at hn; exact F.ob i n hn
          · by_cases e : i = j
            · subst e
              refine ⟨fun z => ?_, fun z => ?_⟩
              · rcases d3 n z with z | z
                · exact I.sep.fo i i n (yO n hn) z
                · exact (b12 n hn).2 z
              · rcases d4 n z with z | z
                · exact noq n z (b9 n hn)
                · exact b11c n hn n z rfl
            · rw [(d2 i e).1, (d2 i e).2]
              exact ⟨I.sep.fo j i n (yO n hn), I.sep.oo j i (fun z => e z.symm) n (yO n hn)⟩
          · exfalso
            by_cases e : i = j
            · subst e
              rcases d4 n hn with z | z
              · exact I.sep.fo i i n (ogm n z) (a3 n (b7 n hm))
              · exact (b13 n z).1 hm
            · rw [(d2 i e).2] at hn
              exact I.sep.fo i j n hn (a3 n (b7 n hm))
        · exact .inl rfl
      · exact .inl rfl
    · exact .inl rfl
  · exact .inl rfl
end
section
variable {G : Gam} {V : GV} (hG : GOk G V) (hN : V.N = G.N)
include hG hN
theorem mutX_ok (m : ME) (e : E) (es : Es) {vh : VH} {f o : HL} {σ : SSt} {σp : SV} (I : Inv vh σ σp f o) : EO (rootE e) (vE e ++ vEs es) vh σ f o R (mutX V m e es σp) (ev G (.me m e es) σ vh) := by
  unfold mutX
  split
  · rename_i a ps e1 e2
    obtain ⟨j, ks⟩ := a
    have hr := path_root hG hN e e1
    obtain ⟨vh1, ag1, h1⟩ := path_ok hG hN e I.sr e1
    have ha := evsV_ok hG hN es (I.agr ag1).sr
    unfold okR at e2
    split at e2
    · rename_i xs ex
      cases e2
      rw [ex] at ha
      obtain ⟨args, vh2, ea, ag2, hh⟩ := ha
      have I2 := (I.agr ag1).agr ag2
      obtain ⟨ft, ot, r, nx, s1, s2⟩ := Ok1.nx I2 (I.agr ag1).lt (Ok1.tup hh)
      obtain ⟨f', o', I3, F3, nw, k2⟩ := settleW (W := []) I2 r nx
      cases r with
      | tup rs =>
        have F : FrW (rootE e) vh f o vh2 f' o' := (FrW.of_agr (ag1.trans ag2)).trans (F3.mono (by simp))
        rcases mutAt_ok (vs := vE e ++ vEs es) I3 F m (j := j) (ks := ks) hr rs nw (fun n hn => (s1 n hn).imp_right fun z => Nat.le_trans ag1.len z) (fun n hn => Nat.le_trans ag1.len (s2 n hn)) with h | ⟨v, x, ev1, hv, h⟩
        · rw [h]; trivial
        · have lt : ∀ n ∈ o' j, n < vh.length := fun n hn => I.lt j n (.inr (k2 j n hn))
          have at0 := hv vh fun n hn => by rw [(ag1.trans ag2) n _ (List.getElem?_eq_getElem (lt n hn)), List.getElem?_eq_getElem (lt n hn)]
          have at1 := hv vh1 fun n hn => by
            have h1 := lt n hn
            have h2 : n < vh1.length := Nat.lt_of_lt_of_le h1 ag1.len
            rw [ag2 n _ (List.getElem?_eq_getElem h2), List.getElem?_eq_getElem h2]
          have e3 : ev G (.me m e es) σ vh = sME m x args vh2 := by
            simp only [ev, h1 v x ev1 at0.1, Res.bind_ok, at1.2, if_true, ea]
          rw [e3]
          exact h
    · cases e2
  · trivial
end
end Fe
namespace Fe
open PySem PySem.Spec PyProof.Rows L2
inductive AR (vh0 vh : VH) (σ : SSt) (f o : HL) (vs : List Nat) : List VV → List AV → Prop
  | nil : AR vh0 vh σ f o vs [] []
  | v {x : VV} {p : PV} {f1 : List Nat} {xs : List VV} {as : List AV} : R vh x p f1 [] → (∀ n ∈ f1, Src vh0 f o vs n) → AR vh0 vh σ f o vs xs as → AR vh0 vh σ f o vs (x :: xs) (.v p :: as)
  | io {x v : VV} {j : Nat} {ks : List PV} {xs : List VV} {as : List AV} : σ[j]? = some (some v) → stpsV ks v vh0 = some x → AR vh0 vh σ f o vs xs as → AR vh0 vh σ f o vs (x :: xs) (.io j ks :: as)
inductive AB (vh1 : VH) (σ : SSt) (σ1 : SV) (f1 o1 : HL) (S : Nat → Prop) : VV → PV → AV → List Nat → List Nat → Prop
  | v {x : VV} {p : PV} {fe : List Nat} : R vh1 x p fe [] → (∀ n ∈ fe, S n ∧ ∀ j, n ∉ o1 j) → AB vh1 σ σ1 f1 o1 S x p (.v p) fe []
  | io {x v : VV} {q pj : PV} {j : Nat} {ks : List PV} {fq oq fr og : List Nat} : σ[j]? = some (some v) → σ1[j]? = some (some pj) → R vh1 x q fq oq → (∀ n ∈ fq, n ∈ f1 j) → (∀ n ∈ fr, n ∈ f1 j) → List.Perm (oq ++ og) (o1 j) →
      (∀ (vh' : VH) (q' p' : PV) (f2 o2 : List Nat), (∀ n, n ∈ fr ∨ n ∈ og → vh'[n]? = vh1[n]?) → R vh' x q' f2 o2 → putO ks q' pj = some p' → ∃ f3 o3, R vh' v p' f3 o3 ∧ (∀ n ∈ f3, n ∈ fr ∨ n ∈ f2) ∧ List.Perm o3 (o2 ++ og)) → AB vh1 σ σ1 f1 o1 S x q (.io j ks) fq oq
section
variable {vh vh0 vh1 vh2 vh' : VH} {f o f1 o1 f2 o2 f' o' : HL} {vs ws W W1 W2 : List Nat} {σ : SSt} {σp σ1 : SV}
theorem AR.len {xs : List VV} {as : List AV} (h : AR vh0 vh σ f o vs xs as) : xs.length = as.length := by
  induction h with
  | nil => rfl
  | v _ _ _ ih => simp [ih]
  | io _ _ _ ih => simp [ih]
theorem AR.mono {xs : List VV} {as : List AV} (h : AR vh0 vh σ f o vs xs as) (k : ∀ i ∈ vs, i ∈ ws) : AR vh0 vh σ f o ws xs as := by
  induction h with
  | nil => exact .nil
  | v a b _ ih => exact .v a (fun n hn => (b n hn).mono (Nat.le_refl _) k) ih
  | io a b _ ih => exact .io a b ih
/-- the base goes back to an elder heap -/
theorem AR.base {xs : List VV} {as : List AV} (h : AR vh1 vh2 σ f o vs xs as) (ag : Agr vh vh1) (hp : ∀ j ks, AV.io j ks ∈ as → ∃ v x, σ[j]? = some (some v) ∧ stpsV ks v vh = some x) : AR vh vh2 σ f o vs xs as := by
  induction h with
  | nil => exact .nil
  | v a b _ ih => exact .v a (fun n hn => (b n hn).mono ag.len fun _ h => h) (ih fun j ks hm => hp j ks (List.mem_cons_of_mem _ hm))
  | io a b _ ih =>
    rename_i x v j ks xs as _
    obtain ⟨v', x', e1, e2⟩ := hp j ks List.mem_cons_self
    rw [a] at e1; cases e1
    have := stpsV_agr ag ks e2
    rw [b] at this; cases this
    exact .io a e2 (ih fun j ks hm => hp j ks (List.mem_cons_of_mem _ hm))
/-- what stands of the arguments when the frozen ones are settled -/
theorem AR.ab {xs : List VV} {as : List AV} {ps : List PV} {S : Nat → Prop} (h : AR vh vh1 σ f o vs xs as) (I : Inv vh1 σ σ1 f1 o1) (ag : Agr vh vh1) (hS : ∀ n, Src vh f o vs n → S n) (hz : clos (valsA as) = true ∨ ∀ n, Src vh f o vs n → ∀ j, n ∉ o1 j) (hr : resA σ1 as = some ps) :
    ps.length = as.length ∧ ∀ (i : Nat) (x : VV) (a : AV), xs[i]? = some x → as[i]? = some a → ∃ p fi oi, ps[i]? = some p ∧ AB vh1 σ σ1 f1 o1 S x p a fi oi := by
  induction h generalizing ps with
  | nil =>
    simp only [resA, Option.some.injEq] at hr
    subst hr
    exact ⟨rfl, fun i x a h => by simp at h⟩
  | v a b _ ih =>
    simp only [resA, Option.map_eq_some_iff] at hr
    obtain ⟨ps', hr, rfl⟩ := hr
    obtain ⟨k1, k2⟩ := ih (hz.imp_left fun z => by simp only [valsA, clos, Bool.and_eq_true] at z; exact z.2) hr
    refine ⟨by simp [k1], fun i x a' hx ha => ?_⟩
    cases i with
    | zero =>
      simp only [List.getElem?_cons_zero, Option.some.injEq] at hx ha
      subst hx; subst ha
      refine ⟨_, _, [], rfl, .v a fun n hn => ⟨hS n (b n hn), ?_⟩⟩
      rcases hz with z | z
      · simp only [valsA, clos, Bool.and_eq_true] at z
        rw [a.clo z.1] at hn; cases hn
      · exact z n (b n hn)
    | succ i => simpa using k2 i x a' (by simpa using hx) (by simpa using ha)
  | io a b _ ih =>
    rename_i x0 v j ks xs as _
    simp only [resA] at hr
    split at hr
    · rename_i pj ej
      split at hr
      · rename_i q eq
        simp only [Option.map_eq_some_iff] at hr
        obtain ⟨ps', hr, rfl⟩ := hr
        obtain ⟨k1, k2⟩ := ih hz hr
        refine ⟨by simp [k1], fun i x a' hx ha => ?_⟩
        cases i with
        | zero =>
          simp only [List.getElem?_cons_zero, Option.some.injEq] at hx ha
          subst hx; subst ha
          obtain ⟨v', e1, r⟩ := I.get ej
          rw [a] at e1; cases e1
          obtain ⟨x, fq, oq, fr, og, a1, a2, a3, a4, a5, a6, a7⟩ := get_path ks r eq
          have hx : x = x0 := by
            have := stpsV_agr ag ks b
            rw [a1] at this; cases this; rfl
          subst hx
          exact ⟨q, fq, oq, rfl, .io a ej a2 a3 a4 a5 a7⟩
        | succ i => simpa using k2 i x a' (by simpa using hx) (by simpa using ha)
      · cases hr
    · cases hr
theorem roots_mem : ∀ {as : List AV} {i j : Nat} {ks : List PV}, as[i]? = some (.io j ks) → j ∈ rootsA as
  | [], i, j, ks, h => by simp at h
  | .v p :: as, 0, j, ks, h => by simp at h
  | .io _ _ :: as, 0, j, ks, h => by simp at h; simp [rootsA, h]
  | .v p :: as, i + 1, j, ks, h => by simp only [rootsA]; exact roots_mem (i := i) (ks := ks) (by simpa using h)
  | .io _ _ :: as, i + 1, j, ks, h => by simp only [rootsA]; exact List.mem_cons_of_mem _ (roots_mem (i := i) (ks := ks) (by simpa using h))
theorem mem_roots : ∀ {as : List AV} {j : Nat}, j ∈ rootsA as → ∃ (i : Nat) (ks : List PV), as[i]? = some (AV.io j ks)
  | [], j, h => by simp [rootsA] at h
  | .v p :: as, j, h => by
    obtain ⟨i, ks, e⟩ := mem_roots (as := as) (j := j) (by simpa [rootsA] using h)
    exact ⟨i + 1, ks, by simpa using e⟩
  | .io l ks :: as, j, h => by
    simp only [rootsA] at h
    rcases List.mem_cons.mp h with z | z
    · subst z; exact ⟨0, ks, rfl⟩
    · obtain ⟨i, ks, e⟩ := mem_roots (as := as) (j := j) z
      exact ⟨i + 1, ks, by simpa using e⟩
theorem roots_ne : ∀ {as : List AV} {i i' j j' : Nat} {ks ks' : List PV}, (rootsA as).Nodup → as[i]? = some (.io j ks) → as[i']? = some (.io j' ks') → i ≠ i' → j ≠ j'
  | [], i, i', j, j', ks, ks', _, h, _, _ => by simp at h
  | .v p :: as, 0, i', j, j', ks, ks', _, h, _, _ => by simp at h
  | .v p :: as, i + 1, 0, j, j', ks, ks', _, _, h, _ => by simp at h
  | .v p :: as, i + 1, i' + 1, j, j', ks, ks', nd, h, h', ne => roots_ne (i := i) (i' := i') (ks := ks) (ks' := ks') (show (rootsA as).Nodup from nd) (by simpa using h) (by simpa using h') (by omega)
  | .io l k :: as, 0, 0, j, j', ks, ks', nd, h, h', ne => absurd rfl ne
  | .io l k :: as, 0, i' + 1, j, j', ks, ks', nd, h, h', ne => by
    simp at h
    obtain ⟨rfl, rfl⟩ := h
    simp only [rootsA] at nd
    have := roots_mem (as := as) (i := i') (j := j') (ks := ks') (by simpa using h')
    rintro rfl
    exact (List.nodup_cons.mp nd).1 this
  | .io l k :: as, i + 1, 0, j, j', ks, ks', nd, h, h', ne => by
    simp at h'
    obtain ⟨rfl, rfl⟩ := h'
    simp only [rootsA] at nd
    have := roots_mem (as := as) (i := i) (j := j) (ks := ks) (by simpa using h)
    rintro rfl
    exact (List.nodup_cons.mp nd).1 this
  | .io l k :: as, i + 1, i' + 1, j, j', ks, ks', nd, h, h', ne => by
    simp only [rootsA] at nd
    exact roots_ne (i := i) (i' := i') (ks := ks) (ks' := ks') (List.nodup_cons.mp nd).2 (by simpa using h) (by simpa using h') (by omega)
theorem kill_get : ∀ {as : List AV} {σp : SV}, (killA σp as).length = σp.length ∧ ∀ j, j ∉ rootsA as → (killA σp as)[j]? = σp[j]?
  | [], σp => ⟨rfl, fun _ _ => rfl⟩
  | .v p :: as, σp => kill_get (as := as)
  | .io l ks :: as, σp => by
    obtain ⟨h1, h2⟩ := kill_get (as := as) (σp := σp)
    refine ⟨by simp [killA, h1], fun j hj => ?_⟩
    simp only [rootsA, List.mem_cons, not_or] at hj
    simp only [killA]
    rw [List.getElem?_set_ne fun z => hj.1 z.symm]
    exact h2 j hj.2
theorem back_get {σ1 : SV} : ∀ (as : List AV) (ios σc σ2 : SV), backA σ1 as ios σc = some σ2 → (rootsA as).Nodup → σ2.length = σc.length ∧ (∀ j, j ∉ rootsA as → σ2[j]? = σc[j]?) ∧
    ∀ (i j : Nat) (ks : List PV), as[i]? = some (AV.io j ks) → ∃ q pj p', ios[i]? = some (some q) ∧ σ1[j]? = some (some pj) ∧ putO ks q pj = some p' ∧ (j < σc.length → σ2[j]? = some (some p'))
  | [], ios, σc, σ2, h, nd => by
    simp only [backA, Option.some.injEq] at h
    subst h
    exact ⟨rfl, fun _ _ => rfl, fun i j ks h => by simp at h⟩
  | .v p :: as, [], σc, σ2, h, nd => by simp [backA] at h
  | .v p :: as, x :: ios, σc, σ2, h, nd => by
    simp only [backA] at h
    obtain ⟨h1, h2, h3⟩ := back_get as ios σc σ2 h nd
    refine ⟨h1, h2, fun i j ks e => ?_⟩
    cases i with
    | zero => simp at e
    | succ i => simpa using h3 i j ks (by simpa using e)
  | .io l ks :: as, [], σc, σ2, h, nd => by simp [backA] at h
  | .io l ks :: as, none :: ios, σc, σ2, h, nd => by simp [backA] at h
  | .io l ks :: as, some q :: ios, σc, σ2, h, nd => by
    simp only [backA] at h
    split at h
    · rename_i pj ej
      split at h
      · rename_i p' ep
        simp only [rootsA] at nd
        obtain ⟨nd1, nd2⟩ := List.nodup_cons.mp nd
        obtain ⟨h1, h2, h3⟩ := back_get as ios _ σ2 h nd2
        refine ⟨by rw [h1, List.length_set], fun j hj => ?_, fun i j ks' e => ?_⟩
        · simp only [rootsA, List.mem_cons, not_or] at hj
          rw [h2 j hj.2, List.getElem?_set_ne fun z => hj.1 z.symm]
        · cases i with
          | zero =>
            simp only [List.getElem?_cons_zero, Option.some.injEq, AV.io.injEq] at e
            obtain ⟨rfl, rfl⟩ := e
            refine ⟨q, pj, p', rfl, ej, ep, fun hl => ?_⟩
            rw [h2 l nd1, List.getElem?_set_self hl]
          | succ i =>
            obtain ⟨q', pj', p'', g1, g2, g3, g4⟩ := h3 i j ks' (by simpa using e)
            exact ⟨q', pj', p'', by simpa using g1, g2, g3, fun hl => g4 (by rw [List.length_set]; exact hl)⟩
      · cases h
    · cases h
end
section
variable {G : Gam} {V : GV} (hG : GOk G V) (hN : V.N = G.N)
include hG hN
theorem argsV_ok (io : List Nat) : ∀ (es : Es) (i : Nat) {as : List AV} {vh : VH} {f o : HL} {σ : SSt} {σp : SV}, Inv vh σ σp f o → argsV V io i es σp = some as → (∀ j ks, AV.io j ks ∈ as → ∃ v x, σ[j]? = some (some v) ∧ stpsV ks v vh = some x) →
    ∃ xs vh1, evs G es σ vh = .ok xs vh1 ∧ Agr vh vh1 ∧ AR vh vh1 σ f o (vNE io i es) xs as
  | .nil, i, as, vh, f, o, σ, σp, I, h, hp => by
    simp only [argsV, Option.some.injEq] at h
    subst h
    exact ⟨[], vh, rfl, Agr.refl _, .nil⟩
  | .cons e es, i, as, vh, f, o, σ, σp, I, h, hp => by
    simp only [argsV] at h
    split at h
    · rename_i hi
      split at h
      · rename_i r as' e1 e2
        cases h
        obtain ⟨vh1, ag, h1⟩ := path_ok hG hN e I.sr (show pathV V e σp = some (r.1, r.2) from e1)
        obtain ⟨v, x, ev1, hx⟩ := hp r.1 r.2 List.mem_cons_self
        obtain ⟨xs, vh2, g1, g2, g3⟩ := argsV_ok io es (i + 1) (I.agr ag) e2 fun j ks hm => by
          obtain ⟨v, x, a, b⟩ := hp j ks (List.mem_cons_of_mem _ hm)
          exact ⟨v, x, a, stpsV_agr ag ks b⟩
        refine ⟨x :: xs, vh2, by simp only [evs, h1 v x ev1 hx, Res.bind_ok, g1], ag.trans g2, ?_⟩
        simp only [vNE, hi, if_true]
        exact .io ev1 hx (g3.base ag fun j ks hm => hp j ks (List.mem_cons_of_mem _ hm))
      · cases h
    · rename_i hi
      split at h
      · rename_i x as' e1 e2
        cases h
        have hb := evV_ok hG hN e I.sr
        unfold okR at e1
        split at e1
        · rename_i p ep
          cases e1
          rw [ep] at hb
          obtain ⟨v, vh1, e3, ag, hv⟩ := hb
          obtain ⟨xs, vh2, g1, g2, g3⟩ := argsV_ok io es (i + 1) (I.agr ag) e2 fun j ks hm => by
            obtain ⟨v, x, a, b⟩ := hp j ks (List.mem_cons_of_mem _ hm)
            exact ⟨v, x, a, stpsV_agr ag ks b⟩
          obtain ⟨f1, r1, k1⟩ := hv.fz
          refine ⟨v :: xs, vh2, by simp only [evs, e3, Res.bind_ok, g1], ag.trans g2, ?_⟩
          simp only [vNE, hi]
          exact .v (r1.agr g2) (fun n hn => (k1 n hn).mono (Nat.le_refl _) mem_l) ((g3.base ag fun j ks hm => hp j ks (List.mem_cons_of_mem _ hm)).mono mem_r)
        · cases e1
      · cases h
omit hN in
theorem args_io (io : List Nat) : ∀ (es : Es) (i : Nat) {as : List AV} {σp : SV}, argsV V io i es σp = some as → (∀ (k j : Nat) (ks : List PV), as[k]? = some (AV.io j ks) → i + k ∈ io) ∧ ∀ (k : Nat) (p : PV), as[k]? = some (AV.v p) → i + k ∉ io
  | .nil, i, as, σp, h => by
    simp only [argsV, Option.some.injEq] at h
    subst h
    exact ⟨fun k j ks h => by simp at h, fun k p h => by simp at h⟩
  | .cons e es, i, as, σp, h => by
    simp only [argsV] at h
    split at h
    · rename_i hi
      split at h
      · rename_i r as' e1 e2
        cases h
        obtain ⟨g1, g2⟩ := args_io io es (i + 1) e2
        refine ⟨fun k j ks e => ?_, fun k p e => ?_⟩
        · cases k with
          | zero => simpa using hi
          | succ k => have := g1 k j ks (by simpa using e); rwa [Nat.add_right_comm] at this
        · cases k with
          | zero => simp at e
          | succ k => have := g2 k p (by simpa using e); rwa [Nat.add_right_comm] at this
      · cases h
    · rename_i hi
      split at h
      · rename_i r as' e1 e2
        cases h
        obtain ⟨g1, g2⟩ := args_io io es (i + 1) e2
        refine ⟨fun k j ks e => ?_, fun k p e => ?_⟩
        · cases k with
          | zero => simp at e
          | succ k => have := g1 k j ks (by simpa using e); rwa [Nat.add_right_comm] at this
        · cases k with
          | zero => simpa using hi
          | succ k => have := g2 k p (by simpa using e); rwa [Nat.add_right_comm] at this
      · cases h
theorem args_root (io : List Nat) : ∀ (es : Es) (i : Nat) {as : List AV} {σp : SV}, argsV V io i es σp = some as → ∀ j ∈ rootsA as, j ∈ rootsE io i es
  | .nil, i, as, σp, h, j, hj => by
    simp only [argsV, Option.some.injEq] at h
    subst h
    simp [rootsA] at hj
  | .cons e es, i, as, σp, h, j, hj => by
    simp only [argsV] at h
    split at h
    · rename_i hi
      split at h
      · rename_i r as' e1 e2
        cases h
        simp only [rootsE, hi, if_true]
        simp only [rootsA] at hj
        rcases List.mem_cons.mp hj with z | z
        · subst z; exact List.mem_append_left _ (path_root hG hN e (show pathV V e σp = some (r.1, r.2) from e1))
        · exact List.mem_append_right _ (args_root io es (i + 1) e2 j z)
      · cases h
    · rename_i hi
      split at h
      · rename_i r as' e1 e2
        cases h
        simp only [rootsE, hi]
        exact args_root io es (i + 1) e2 j (by simpa [rootsA] using hj)
      · cases h
end
end Fe
namespace Fe
open PySem PySem.Spec PyProof.Rows L2
section
variable {vh vh1 vh2 : VH} {f o f1 o1 fa oa f' o' : HL} {W : List Nat} {σ : SSt} {σp σ1 σ2 ios : SV} {xs : List VV} {ps : List PV} {as : List AV} {S : Nat → Prop}
/-- the arguments as a state of their own -/
theorem args_inv (I : Inv vh1 σ σ1 f1 o1) (nd : (rootsA as).Nodup) (hx : xs.length = as.length) (hp : ps.length = as.length) (hab : ∀ (i : Nat) (x : VV) (a : AV), xs[i]? = some x → as[i]? = some a → ∃ p fi oi, ps[i]? = some p ∧ AB vh1 σ σ1 f1 o1 S x p a fi oi) :
    ∃ fa oa : HL, Inv vh1 (xs.map some) (ps.map some) fa oa ∧ (∀ i x a, xs[i]? = some x → as[i]? = some a → ∃ p, ps[i]? = some p ∧ AB vh1 σ σ1 f1 o1 S x p a (fa i) (oa i)) ∧ ∀ i, as.length ≤ i → fa i = [] ∧ oa i = [] := by
  have h : ∀ i : Nat, ∃ z : List Nat × List Nat, (∀ x a, xs[i]? = some x → as[i]? = some a → ∃ p, ps[i]? = some p ∧ AB vh1 σ σ1 f1 o1 S x p a z.1 z.2) ∧ (as.length ≤ i → z.1 = [] ∧ z.2 = []) := fun i => by
    by_cases hi : i < as.length
    · obtain ⟨p, fi, oi, e, q⟩ := hab i _ _ (List.getElem?_eq_getElem (by omega)) (List.getElem?_eq_getElem hi)
      refine ⟨(fi, oi), fun x a hx ha => ?_, fun z => by omega⟩
      rw [List.getElem?_eq_getElem (by omega)] at hx
      rw [List.getElem?_eq_getElem hi] at ha
      cases hx; cases ha
      exact ⟨p, e, q⟩
    · exact ⟨([], []), (fun x a _ ha => by rw [List.getElem?_eq_none (by omega)] at ha; cases ha), fun _ => ⟨rfl, rfl⟩⟩
  obtain ⟨z, hz⟩ := Classical.axiomOfChoice h
  have own : ∀ i n, n ∈ (z i).2 → ∃ j ks, as[i]? = some (.io j ks) ∧ n ∈ o1 j := fun i n hn => by
    by_cases hi : i < as.length
    · obtain ⟨p, e, q⟩ := (hz i).1 _ _ (List.getElem?_eq_getElem (by omega)) (List.getElem?_eq_getElem hi)
      cases ea : as[i] with
      | v p0 => rw [ea] at q; generalize (z i).2 = o2 at q hn; cases q; cases hn
      | io j ks =>
        rw [ea] at q
        generalize (z i).2 = o2 at q hn
        generalize (z i).1 = f2 at q
        cases q with
        | io a b c d e f g => exact ⟨j, ks, by rw [List.getElem?_eq_getElem hi, ea], f.subset (List.mem_append_left _ hn)⟩
    · rw [((hz i).2 (by omega)).2] at hn; cases hn
  have rd : ∀ i n, n ∈ (z i).1 → (∀ j, n ∉ o1 j) ∨ ∃ j ks, as[i]? = some (.io j ks) ∧ n ∈ f1 j := fun i n hn => by
    by_cases hi : i < as.length
    · obtain ⟨p, e, q⟩ := (hz i).1 _ _ (List.getElem?_eq_getElem (by omega)) (List.getElem?_eq_getElem hi)
      cases ea : as[i] with
      | v p0 =>
        rw [ea] at q
        generalize (z i).2 = o2 at q
        generalize (z i).1 = f2 at q hn
        cases q with
        | v r h => exact .inl (h n hn).2
      | io j ks =>
        rw [ea] at q
        generalize (z i).2 = o2 at q
        generalize (z i).1 = f2 at q hn
        cases q with
        | io a b c d e f g => exact .inr ⟨j, ks, by rw [List.getElem?_eq_getElem hi, ea], d n hn⟩
    · rw [((hz i).2 (by omega)).1] at hn; cases hn
  refine ⟨fun i => (z i).1, fun i => (z i).2, ⟨⟨by simp [hx, hp], fun i => ?_⟩, ⟨fun i => ?_, fun i j hij n hn hm => ?_, fun i j n hn hm => ?_⟩⟩, fun i x a h1 h2 => (hz i).1 x a h1 h2, fun i => (hz i).2⟩
  · by_cases hi : i < as.length
    · obtain ⟨p, e, q⟩ := (hz i).1 _ _ (List.getElem?_eq_getElem (by omega)) (List.getElem?_eq_getElem hi)
      rw [List.getElem?_map, e]
      refine ⟨xs[i], by rw [List.getElem?_map, List.getElem?_eq_getElem (by omega)]; rfl, ?_⟩
      show R vh1 xs[i] p (z i).1 (z i).2
      generalize (z i).1 = f2 at q ⊢
      generalize (z i).2 = o2 at q ⊢
      generalize as[i] = a at q
      cases q with
      | v r _ => exact r
      | io _ _ r _ _ _ _ => exact r
    · rw [List.getElem?_map, List.getElem?_eq_none (by omega)]
      exact (hz i).2 (by omega)
  · by_cases hi : i < as.length
    · obtain ⟨p, e, q⟩ := (hz i).1 _ _ (List.getElem?_eq_getElem (by omega)) (List.getElem?_eq_getElem hi)
      show (z i).2.Nodup
      generalize (z i).1 = f2 at q ⊢
      generalize (z i).2 = o2 at q ⊢
      generalize as[i] = a at q
      cases q with
      | v r _ => exact List.nodup_nil
      | io _ _ r _ _ h _ => exact (List.nodup_append.mp (h.nodup_iff.mpr (I.sep.nd _))).1
    · show (z i).2.Nodup
      rw [((hz i).2 (by omega)).2]; exact List.nodup_nil
  · obtain ⟨j1, k1, a1, b1⟩ := own i n hn
    obtain ⟨j2, k2, a2, b2⟩ := own j n hm
    exact I.sep.oo j1 j2 (roots_ne nd a1 a2 hij) n b1 b2
  · obtain ⟨j1, k1, a1, b1⟩ := own i n hn
    rcases rd j n hm with h | ⟨j2, k2, a2, b2⟩
    · exact h j1 b1
    · exact I.sep.fo j1 j2 n b1 b2
/-- what has become of the arguments is put back -/
theorem back_inv (I : Inv vh1 σ σ1 f1 o1) (nd : (rootsA as).Nodup) (hx : xs.length = as.length) (hab : ∀ i x a, xs[i]? = some x → as[i]? = some a → ∃ p, ps[i]? = some p ∧ AB vh1 σ σ1 f1 o1 S x p a (fa i) (oa i)) (hout : ∀ i, as.length ≤ i → fa i = [] ∧ oa i = [])
    (I2 : Inv vh2 (xs.map some) ios f' o') (F2 : Fr vh1 fa oa vh2 f' o') (hb : backA σ1 as ios (killA σ1 as) = some σ2) :
    (∀ n, (∃ j, n ∈ o1 j ∧ ∀ k, n ∉ oa k) → ∀ k, n ∉ fa k) ∧ (∀ k n, n ∈ oa k → ∃ j ∈ rootsA as, n ∈ o1 j) ∧ (∀ k n, n ∈ fa k → S n ∨ ∃ j, n ∈ f1 j) ∧
    ∃ F O : HL, Inv vh2 σ σ2 F O ∧ (∀ j n, n ∈ O j → (∃ i, n ∈ o' i ∧ j ∈ rootsA as) ∨ (n ∈ o1 j ∧ ∀ k, n ∉ oa k)) ∧ ∀ j n, n ∈ F j → n ∈ f1 j ∨ ∃ i, n ∈ f' i := by
  have own : ∀ i n, n ∈ oa i → ∃ j ks, as[i]? = some (.io j ks) ∧ n ∈ o1 j := fun i n hn => by
    by_cases hi : i < as.length
    · obtain ⟨p, e, q⟩ := hab i _ _ (List.getElem?_eq_getElem (by omega)) (List.getElem?_eq_getElem hi)
      cases ea : as[i] with
      | v p0 => rw [ea] at q; generalize oa i = o2 at q hn; cases q; cases hn
      | io j ks =>
        rw [ea] at q
        generalize oa i = o2 at q hn
        generalize fa i = f2 at q
        cases q with
        | io a b c d e f g => exact ⟨j, ks, by rw [List.getElem?_eq_getElem hi, ea], f.subset (List.mem_append_left _ hn)⟩
    · rw [(hout i (by omega)).2] at hn; cases hn
  have rd : ∀ i n, n ∈ fa i → (S n ∧ ∀ j, n ∉ o1 j) ∨ ∃ j ks, as[i]? = some (.io j ks) ∧ n ∈ f1 j := fun i n hn => by
    by_cases hi : i < as.length
    · obtain ⟨p, e, q⟩ := hab i _ _ (List.getElem?_eq_getElem (by omega)) (List.getElem?_eq_getElem hi)
      cases ea : as[i] with
      | v p0 =>
        rw [ea] at q
        generalize oa i = o2 at q
        generalize fa i = f2 at q hn
        cases q with
        | v r h => exact .inl (h n hn)
      | io j ks =>
        rw [ea] at q
        generalize oa i = o2 at q
        generalize fa i = f2 at q hn
        cases q with
        | io a b c d e f g => exact .inr ⟨j, ks, by rw [List.getElem?_eq_getElem hi, ea], d n hn⟩
    · rw [(hout i (by omega)).1] at hn; cases hn
  have hB1 : ∀ n, (∃ j, n ∈ o1 j ∧ ∀ k, n ∉ oa k) → ∀ k, n ∉ fa k := fun n ⟨j, hj, _⟩ k hn => by
    rcases rd k n hn with h | ⟨j2, _, _, h⟩
    · exact h.2 j hj
    · exact I.sep.fo j j2 n hj h
  have lt1 : ∀ j n, n ∈ o1 j → n < vh1.length := fun j n hn => I.lt j n (.inr hn)
  -- what the callee leaves
  have A2 : ∀ i n, n ∈ o' i → (∃ k, n ∈ oa k) ∨ vh1.length ≤ n := fun i n hn => F2.ob i n hn
  have A1 : ∀ i n, n ∈ f' i → (∃ k, n ∈ fa k ∨ n ∈ oa k) ∨ vh1.length ≤ n := fun i n hn => F2.fb i n hn
  have nB2 : ∀ i n, n ∈ o' i → ∀ j, n ∈ o1 j → (∀ k, n ∉ oa k) → False := fun i n hn j hj hk => by
    rcases A2 i n hn with ⟨k, z⟩ | z
    · exact hk k z
    · have := lt1 j n hj; omega
  have nB1 : ∀ i n, n ∈ f' i → ∀ j, n ∈ o1 j → (∀ k, n ∉ oa k) → False := fun i n hn j hj hk => by
    rcases A1 i n hn with ⟨k, z | z⟩ | z
    · exact hB1 n ⟨j, hj, hk⟩ k z
    · exact hk k z
    · have := lt1 j n hj; omega
  have nF : ∀ i n, n ∈ o' i → ∀ j, n ∉ f1 j := fun i n hn j hm => by
    rcases A2 i n hn with ⟨k, z⟩ | z
    · obtain ⟨j2, _, _, h⟩ := own k n z
      exact I.sep.fo j2 j n h hm
    · have := I.lt j n (.inl hm); omega
  obtain ⟨bl, bn, br⟩ := back_get as ios _ σ2 hb nd
  obtain ⟨kl, kn⟩ := kill_get (as := as) (σp := σ1)
  have keep2 : ∀ n, n < vh1.length → (∀ k, n ∉ oa k) → vh2[n]? = vh1[n]? := fun n hn hk => by
    rw [F2.keep n _ (List.getElem?_eq_getElem hn) hk, List.getElem?_eq_getElem hn]
  have h : ∀ j : Nat, ∃ z : List Nat × List Nat, (match σ2[j]? with
      | some (some p) => ∃ v, σ[j]? = some (some v) ∧ R vh2 v p z.1 z.2
      | _ => z.1 = [] ∧ z.2 = []) ∧ z.2.Nodup ∧ (∀ n ∈ z.2, (∃ i ks, as[i]? = some (AV.io j ks) ∧ n ∈ o' i) ∨ (n ∈ o1 j ∧ ∀ k, n ∉ oa k)) ∧ ∀ n ∈ z.1, n ∈ f1 j ∨ ∃ i ks, as[i]? = some (AV.io j ks) ∧ n ∈ f' i := fun j => by
    by_cases hj : j ∈ rootsA as
    · obtain ⟨i, ks, ei⟩ := mem_roots hj
      obtain ⟨q, pj, p', e1, e2, e3, e4⟩ := br i j ks ei
      have hi : i < as.length := (List.getElem?_eq_some_iff.mp ei).1
      have hjl : j < σ1.length := (List.getElem?_eq_some_iff.mp e2).1
      obtain ⟨p, e, qq⟩ := hab i _ _ (List.getElem?_eq_getElem (by omega)) ei
      have i2 := I2.sr.2 i
      rw [e1] at i2
      obtain ⟨v2, ev2, r2⟩ := i2
      have hoi : ∀ n, n ∈ oa i → True := fun _ _ => trivial
      generalize hoa : oa i = oi at qq
      generalize hfa : fa i = fi at qq
      cases qq with
      | io a b c d g h k =>
        rename_i v pj' fr og
        rw [e2] at b; cases b
        rw [List.getElem?_map, List.getElem?_eq_getElem (by omega)] at ev2
        simp only [Option.map_some, Option.some.injEq] at ev2
        subst ev2
        have ogm : ∀ n ∈ og, n ∈ o1 j := fun n hn => h.subset (List.mem_append_right _ hn)
        obtain ⟨n1, n2, n3⟩ := List.nodup_append.mp (h.nodup_iff.mpr (I.sep.nd j))
        have ogk : ∀ n ∈ og, ∀ k, n ∉ oa k := fun n hn k hk => by
          by_cases e5 : k = i
          · subst e5
            rw [hoa] at hk
            exact n3 n hk n hn rfl
          · obtain ⟨j2, k2, a2, b2⟩ := own k n hk
            exact I.sep.oo j j2 (roots_ne nd ei a2 fun z => e5 z.symm) n (ogm n hn) b2
        have frk : ∀ n ∈ fr, ∀ k, n ∉ oa k := fun n hn k hk => by
          obtain ⟨j2, k2, a2, b2⟩ := own k n hk
          exact I.sep.fo j2 j n b2 (g n hn)
        obtain ⟨f3, o3, c1, c2, c3⟩ := k vh2 q p' (f' i) (o' i) (fun n hn => by
          rcases hn with hn | hn
          · exact keep2 n (I.lt j n (.inl (g n hn))) (frk n hn)
          · exact keep2 n (lt1 j n (ogm n hn)) (ogk n hn)) r2 e3
        refine ⟨(f3, o3), ?_, ?_, fun n hn => ?_, fun n hn => ?_⟩
        · rw [e4 (by rw [kl]; exact hjl)]
          exact ⟨v, a, c1⟩
        · exact c3.nodup_iff.mpr (List.nodup_append.mpr ⟨I2.sep.nd i, n2, fun x hx' y hy e5 => by
            subst e5; exact nB2 i x hx' j (ogm x hy) (ogk x hy)⟩)
        · rcases List.mem_append.mp (c3.subset hn) with z | z
          · exact .inl ⟨i, ks, ei, z⟩
          · exact .inr ⟨ogm n z, ogk n z⟩
        · rcases c2 n hn with z | z
          · exact .inl (g n z)
          · exact .inr ⟨i, ks, ei, z⟩
    · have nk : ∀ n, n ∈ o1 j → ∀ k, n ∉ oa k := fun n hn k hk => by
        obtain ⟨j2, k2, a2, b2⟩ := own k n hk
        exact I.sep.oo j j2 (fun z => hj (z ▸ roots_mem a2)) n hn b2
      refine ⟨(f1 j, o1 j), ?_, I.sep.nd j, fun n hn => .inr ⟨hn, nk n hn⟩, fun n hn => .inl hn⟩
      rw [bn j hj, kn j hj]
      have := I.sr.2 j
      revert this
      generalize σ1[j]? = zz
      intro this
      have fin : ∀ {v : VV} {p : PV}, R vh1 v p (f1 j) (o1 j) → R vh2 v p (f1 j) (o1 j) := fun r => r.same fun n hn => by
        rcases hn with hn | hn
        · refine keep2 n (I.lt j n (.inl hn)) fun k hk => ?_
          obtain ⟨j2, k2, a2, b2⟩ := own k n hk
          exact I.sep.fo j2 j n b2 hn
        · exact keep2 n (lt1 j n hn) (nk n hn)
      cases zz with
      | none => exact this
      | some y =>
        cases y with
        | none => exact this
        | some p =>
          obtain ⟨v, ev1, r⟩ := this
          exact ⟨v, ev1, fin r⟩
  obtain ⟨z, hz⟩ := Classical.axiomOfChoice h
  have idx : ∀ {i i' j j' : Nat} {ks ks' : List PV}, as[i]? = some (AV.io j ks) → as[i']? = some (AV.io j' ks') → j ≠ j' → i ≠ i' := fun {i i' j j' ks ks'} h1 h2 hn e => by
    subst e; rw [h1] at h2; cases h2; exact hn rfl
  refine ⟨hB1, fun k n hn => ?_, fun k n hn => (rd k n hn).imp And.left fun ⟨j, _, _, h⟩ => ⟨j, h⟩, fun j => (z j).1, fun j => (z j).2, ⟨⟨by rw [bl, kl]; exact I.sr.1, fun j => (hz j).1⟩, ⟨fun j => (hz j).2.1, fun j j2 hjj n hn hm => ?_, fun j j2 n hn hm => ?_⟩⟩, fun j n hn => ?_, fun j n hn => ?_⟩
  · obtain ⟨j, ks, e, h⟩ := own k n hn
    exact ⟨j, roots_mem e, h⟩
  · rcases (hz j).2.2.1 n hn with ⟨i, ks, ei, a⟩ | ⟨a, b⟩ <;> rcases (hz j2).2.2.1 n hm with ⟨i2, ks2, ei2, c⟩ | ⟨c, d⟩
    · exact I2.sep.oo i i2 (idx ei ei2 hjj) n a c
    · exact nB2 i n a j2 c d
    · exact nB2 i2 n c j a b
    · exact I.sep.oo j j2 hjj n a c
  · rcases (hz j).2.2.1 n hn with ⟨i, ks, ei, a⟩ | ⟨a, b⟩ <;> rcases (hz j2).2.2.2 n hm with c | ⟨i2, ks2, ei2, c⟩
    · exact nF i n a j2 c
    · exact I2.sep.fo i i2 n a c
    · exact I.sep.fo j j2 n a c
    · exact nB1 i2 n c j a b
  · rcases (hz j).2.2.1 n hn with ⟨i, ks, ei, a⟩ | a
    · exact .inl ⟨i, a, roots_mem ei⟩
    · exact .inr a
  · rcases (hz j).2.2.2 n hn with a | ⟨i, ks, ei, a⟩
    · exact .inl a
    · exact .inr ⟨i, a⟩
end
section
variable {G : Gam} {V : GV} (hG : GX G V) (hN : V.N = G.N)
include hG hN
theorem callSp_ok (g : Nat) {vh vh1 : VH} {f o : HL} {σ : SSt} {σp : SV} (I1 : Inv vh1 σ σp f o) (ag : Agr vh vh1) (W vs : List Nat) {as : List AV} {xs : List VV} {ws : List Nat} (har : AR vh vh1 σ f o ws xs as) (hW : ∀ j ∈ rootsA as, j ∈ W) (hio : ∀ (k j : Nat) (ks : List PV), as[k]? = some (AV.io j ks) → k ∈ V.io g) : EO W vs vh σ f o R (callSp V g σp as) (G.fn g xs vh1) := by
  unfold callSp
  split
  · rename_i j a j' b
    split
    · rename_i ps ej
      split
      · rename_i m n em en
        split
        · rename_i hc
          obtain ⟨hj, hmn⟩ := hc
          subst hj
          split
          · rename_i p q ep eq
            cases har with
            | io e1 s1 har =>
              cases har with
              | io e2 s2 har =>
                cases har
                rename_i x0 v0 x1 v1
                rw [e1] at e2; cases e2
                have hjW : j ∈ W := hW j (by simp [rootsA])
                obtain ⟨v, e3, r⟩ := I1.get ej
                rw [e1] at e3; cases e3
                have sfo := I1.sep.fo
                have soo := I1.sep.oo
                have snd := I1.sep.nd j
                generalize hfj : f j = fj at r
                generalize hoj : o j = oj at r
                cases r with
                | tup rs =>
                  rename_i ys
                  obtain ⟨x, f1, o1, f2, o2, g1, g2, g3, g4, g5, g6⟩ := rs.erase ep
                  have eq' : (ps.eraseIdx m)[n - 1]? = some q := by
                    rw [List.getElem?_eraseIdx_of_ge (by omega), show n - 1 + 1 = n by omega]; exact eq
                  obtain ⟨y, f3, o3, f4, o4, k1, k2, k3, k4, k5, k6⟩ := g3.erase eq'
                  rw [List.getElem?_eraseIdx_of_ge (by omega), show n - 1 + 1 = n by omega] at k1
                  have ex : x = x0 := by
                    have := stpsV_agr ag [a] s1
                    simp only [stpsV, stpV] at this
                    rw [idx_ix (by rw [rs.len]; exact em), g1] at this
                    simpa using this
                  have ey : y = x1 := by
                    have := stpsV_agr ag [b] s2
                    simp only [stpsV, stpV] at this
                    rw [idx_ix (by rw [rs.len]; exact en), k1] at this
                    simpa using this
                  subst ex; subst ey
                  have nd1 : (o1 ++ o2).Nodup := g6.nodup_iff.mpr (hoj ▸ snd)
                  have nd2 : (o3 ++ o4).Nodup := k6.nodup_iff.mpr (List.nodup_append.mp nd1).2.1
                  have in1 : ∀ n ∈ o1, n ∈ o j := fun n hn => hoj ▸ g6.mem_iff.mp (List.mem_append_left _ hn)
                  have in2 : ∀ n ∈ o2, n ∈ o j := fun n hn => hoj ▸ g6.mem_iff.mp (List.mem_append_right _ hn)
                  have in3 : ∀ n ∈ o3, n ∈ o2 := fun n hn => k6.mem_iff.mp (List.mem_append_left _ hn)
                  have dj : ∀ n ∈ o1, n ∉ o3 := fun n hn hm => (List.nodup_append.mp nd1).2.2 n hn n (in3 n hm) rfl
                  have fi1 : ∀ n ∈ f1, n ∈ f j := fun n hn => hfj ▸ g4 n hn
                  have fi3 : ∀ n ∈ f3, n ∈ f j := fun n hn => hfj ▸ g5 n (k4 n hn)
                  let fa : HL := fun i => match i with
                    | 0 => f1
                    | 1 => f3
                    | _ => []
                  let oa : HL := fun i => match i with
                    | 0 => o1
                    | 1 => o3
                    | _ => []
                  have fas : ∀ i n, n ∈ fa i → n ∈ f j := fun i n hn => by
                    match i with
                    | 0 => exact fi1 n hn
                    | 1 => exact fi3 n hn
                    | i + 2 => cases hn
                  have oas : ∀ i n, n ∈ oa i → n ∈ o j := fun i n hn => by
                    match i with
                    | 0 => exact in1 n hn
                    | 1 => exact in2 n (in3 n hn)
                    | i + 2 => cases hn
                  have IA : Inv vh1 ([x, y].map some) ([p, q].map some) fa oa := by
                    refine ⟨⟨rfl, fun i => ?_⟩, ⟨fun i => ?_, fun i k hik n hn hm => ?_, fun i k n hn hm => sfo j j n (oas i n hn) (fas k n hm)⟩⟩
                    · match i with
                      | 0 => exact ⟨x, rfl, g2⟩
                      | 1 => exact ⟨y, rfl, k2⟩
                      | i + 2 => exact ⟨rfl, rfl⟩
                    · match i with
                      | 0 => exact (List.nodup_append.mp nd1).1
                      | 1 => exact (List.nodup_append.mp nd2).1
                      | i + 2 => exact List.nodup_nil
                    · match i, k with
                      | 0, 0 => exact hik rfl
                      | 0, 1 => exact dj n hn hm
                      | 1, 0 => exact dj n hm hn
                      | 1, 1 => exact hik rfl
                      | i + 2, _ => cases hn
                      | 0, k + 2 => cases hm
                      | 1, k + 2 => cases hm
                  have hno : ∀ i, i ∉ V.io g → oa i = [] := fun i hi => by
                    match i with
                    | 0 => exact absurd (hio 0 j [a] rfl) hi
                    | 1 => exact absurd (hio 1 j [b] rfl) hi
                    | i + 2 => rfl
                  have hc := hG.fx g vh1 [x, y] [p, q] fa oa IA hno
                  have lt1 := I1.lt
                  have back : ∀ {vh2 : VH} {f' o' : HL}, Fr vh1 fa oa vh2 f' o' → Inv vh2 σ (σp.set j none) (updL f j []) (updL o j []) ∧ FrW W vh f o vh2 (updL f j []) (updL o j []) := fun {vh2 f' o'} F2 => by
                    refine ⟨(I1.kill j).same fun i n hn => ?_, ⟨fun n z hz k => F2.keep n z (ag n z hz) fun i hi => k j hjW (oas i n hi), Nat.le_trans ag.len F2.len, fun i n hn => ?_, fun i n hn => ?_⟩⟩
                    · have hl := (I1.kill j).lt i n hn
                      rw [F2.keep n _ (List.getElem?_eq_getElem hl) fun k hk => ?_, List.getElem?_eq_getElem hl]
                      have h1 := oas k n hk
                      by_cases e : i = j
                      · subst e; rw [updL_same, updL_same] at hn; simp at hn
                      · rw [updL_ne e, updL_ne e] at hn
                        exact hn.elim (sfo j i n h1) (soo j i (fun z => e z.symm) n h1)
                    · by_cases e : i = j
                      · subst e; rw [updL_same] at hn; cases hn
                      · rw [updL_ne e] at hn; exact .inl ⟨i, .inl hn⟩
                    · by_cases e : i = j
                      · subst e; rw [updL_same] at hn; cases hn
                      · rw [updL_ne e] at hn; exact .inl hn
                  cases ex : V.fx g [p, q] with
                  | ok pr ios =>
                    rw [ex] at hc
                    obtain ⟨v, vh2, f', o', ft, ot, d1, d2, d3, d4, d5, d6, d7⟩ := hc
                    obtain ⟨b1, b2⟩ := back d3
                    simp only [spX]
                    refine ⟨v, vh2, _, _, ft, ot, d1, b1, b2, d4, ⟨d5.nd, d5.d0, fun n hn i => ?_, fun i n hn hm => ?_⟩, fun n hn => ?_, fun n hn => ?_⟩
                    · by_cases e : i = j
                      · subst e; rw [updL_same, updL_same]; simp
                      · rw [updL_ne e, updL_ne e]
                        rcases d7 n hn with ⟨k, u⟩ | u
                        · exact ⟨sfo j i n (oas k n u), soo j i (fun z => e z.symm) n (oas k n u)⟩
                        · exact ⟨fun z => by have := lt1 i n (.inl z); omega, fun z => by have := lt1 i n (.inr z); omega⟩
                    · by_cases e : i = j
                      · subst e; rw [updL_same] at hn; cases hn
                      · rw [updL_ne e] at hn
                        rcases d6 n hm with ⟨k, u | u⟩ | u
                        · exact absurd (fas k n u) (sfo i j n hn)
                        · exact absurd (oas k n u) (soo i j e n hn)
                        · have := lt1 i n (.inr hn); omega
                    · rcases d6 n hn with ⟨k, u | u⟩ | u
                      · exact .inl ⟨j, .inl (fas k n u)⟩
                      · exact .inl ⟨j, .inr (oas k n u)⟩
                      · exact .inr (Nat.le_trans ag.len u)
                    · rcases d7 n hn with ⟨k, u⟩ | u
                      · exact .inl ⟨j, hjW, oas k n u⟩
                      · exact .inr (Nat.le_trans ag.len u)
                  | exc c ios =>
                    rw [ex] at hc
                    obtain ⟨vh2, f', o', d1, d2, d3⟩ := hc
                    obtain ⟨b1, b2⟩ := back d3
                    exact ⟨vh2, _, _, d1, b1, b2⟩
                  | stuck => trivial
          · trivial
        · trivial
      · trivial
    · trivial
  · trivial
theorem callIO_ok (g : Nat) (es : Es) {vh : VH} {f o : HL} {σ : SSt} {σp : SV} (I : Inv vh σ σp f o) (W vs : List Nat) (hW : ∀ j ∈ rootsE (V.io g) 0 es, j ∈ W) : EO W vs vh σ f o R (callIO V g es σp) (ev G (.call g es) σ vh) := by
  unfold callIO
  split
  · rename_i as ea
    split
    · rename_i nd
      split
      · rename_i ps er
        -- the frozen arguments are settled
        have settled : ∃ f1 o1, Inv vh σ (frzA as (vNE (V.io g) 0 es) σp) f1 o1 ∧ (∀ j n, n ∈ f1 j → n ∈ f j ∨ n ∈ o j) ∧ (∀ j n, n ∈ o1 j → n ∈ o j) ∧ (clos (valsA as) = true ∨ ∀ n, Src vh f o (vNE (V.io g) 0 es) n → ∀ j, n ∉ o1 j) := by
          unfold frzA
          by_cases hc : clos (valsA as) = true
          · rw [if_pos hc]
            exact ⟨f, o, I, fun _ _ h => .inl h, fun _ _ h => h, .inl hc⟩
          · rw [if_neg hc]
            obtain ⟨f', o', I', k0, k1, k2⟩ := I.frz (vNE (V.io g) 0 es)
            refine ⟨f', o', I', k1, k2, .inr fun n hn j hm => ?_⟩
            rcases hn with ⟨i, hi, z | z⟩ | z
            · exact I.sep.fo j i n (k2 j n hm) z
            · by_cases e : i = j
              · subst e; rw [k0 i hi] at hm; cases hm
              · exact I.sep.oo i j e n z (k2 j n hm)
            · have := I.lt j n (.inr (k2 j n hm)); omega
        obtain ⟨f1, o1, I1, b1, b2, hz⟩ := settled
        generalize hσ1 : frzA as (vNE (V.io g) 0 es) σp = σ1 at I1 er ⊢
        -- the paths lead somewhere
        have hp : ∀ j ks, AV.io j ks ∈ as → ∃ v x, σ[j]? = some (some v) ∧ stpsV ks v vh = some x := by
          clear hz ea nd hσ1
          intro j ks hm
          induction as generalizing ps with
          | nil => cases hm
          | cons a as ih =>
            cases a with
            | v p =>
              simp only [resA, Option.map_eq_some_iff] at er
              obtain ⟨ps', er, _⟩ := er
              exact ih ps' er ((List.mem_cons.mp hm).resolve_left fun z => by cases z)
            | io l kk =>
              simp only [resA] at er
              split at er
              · rename_i pj ej
                split at er
                · rename_i q eq
                  simp only [Option.map_eq_some_iff] at er
                  obtain ⟨ps', er, _⟩ := er
                  rcases List.mem_cons.mp hm with z | z
                  · cases z
                    obtain ⟨v, e1, r⟩ := I1.get ej
                    obtain ⟨x, _, _, _, _, a1, _⟩ := get_path ks r eq
                    exact ⟨v, x, e1, a1⟩
                  · exact ih ps' er z
                · cases er
              · cases er
        obtain ⟨xs, vh1, ev1, ag, har⟩ := argsV_ok hG.a hN (V.io g) es 0 I ea hp
        have I1' := I1.agr ag
        have hx := har.len
        obtain ⟨pl, hab⟩ := har.ab (S := fun n => (∃ i, n ∈ f i ∨ n ∈ o i) ∨ vh.length ≤ n) I1' ag (fun n hn => hn.imp_left fun ⟨i, _, z⟩ => ⟨i, z⟩) hz er
        obtain ⟨fa, oa, IA, hab2, hout⟩ := args_inv I1' nd hx pl hab
        obtain ⟨io1, io2⟩ := args_io hG.a (V.io g) es 0 ea
        have hno : ∀ i, i ∉ V.io g → oa i = [] := fun i hi => by
          by_cases hl : i < as.length
          · obtain ⟨p, e, q⟩ := hab2 i _ _ (List.getElem?_eq_getElem (by omega)) (List.getElem?_eq_getElem hl)
            cases ek : as[i] with
            | v p0 => rw [ek] at q; generalize oa i = o2 at q ⊢; cases q; rfl
            | io j ks =>
              have := io1 i j ks (by rw [List.getElem?_eq_getElem hl, ek])
              rw [Nat.zero_add] at this
              exact absurd this hi
          · exact (hout i (by omega)).2
        have hc := hG.fx g vh1 xs ps fa oa IA hno
        have e0 : ev G (.call g es) σ vh = G.fn g xs vh1 := by simp only [ev, ev1, Res.bind_ok]
        rw [e0]
        have hr := args_root hG.a hN (V.io g) es 0 ea
        have core : ∀ {vh2 : VH} {ios σ2 : SV} {f' o' : HL}, Inv vh2 (xs.map some) ios f' o' → Fr vh1 fa oa vh2 f' o' → backA σ1 as ios (killA σ1 as) = some σ2 →
            (∀ n, (∃ j, n ∈ o1 j ∧ ∀ k, n ∉ oa k) → ∀ k, n ∉ fa k) ∧ (∀ k n, n ∈ oa k → ∃ j ∈ rootsA as, n ∈ o1 j) ∧ (∀ k n, n ∈ fa k → ((∃ i, n ∈ f i ∨ n ∈ o i) ∨ vh.length ≤ n)) ∧
            ∃ F O : HL, Inv vh2 σ σ2 F O ∧ FrW W vh f o vh2 F O ∧ (∀ j n, n ∈ O j → (∃ i, n ∈ o' i ∧ j ∈ rootsA as) ∨ (n ∈ o1 j ∧ ∀ k, n ∉ oa k)) ∧ ∀ j n, n ∈ F j → n ∈ f1 j ∨ ∃ i, n ∈ f' i := by
          intro vh2 ios σ2 f' o' I2 F2 hb
          obtain ⟨c1, c2, c3, F, O, c4, c5, c6⟩ := back_inv I1' nd hx hab2 hout I2 F2 hb
          have c3' : ∀ k n, n ∈ fa k → ((∃ i, n ∈ f i ∨ n ∈ o i) ∨ vh.length ≤ n) := fun k n hn => by
            rcases c3 k n hn with z | ⟨j, z⟩
            · exact z
            · exact .inl ⟨j, b1 j n z⟩
          refine ⟨c1, c2, c3', F, O, c4, ⟨fun n x hx k => ?_, Nat.le_trans ag.len F2.len, fun j n hn => ?_, fun j n hn => ?_⟩, c5, c6⟩
          · refine F2.keep n x (ag n x hx) fun i hi => ?_
            obtain ⟨j, hj, z⟩ := c2 i n hi
            exact k j (hW j (hr j hj)) (b2 j n z)
          · rcases c6 j n hn with z | ⟨i, z⟩
            · exact .inl ⟨j, b1 j n z⟩
            · rcases F2.fb i n z with ⟨k, w | w⟩ | w
              · exact c3' k n w
              · obtain ⟨j2, _, z⟩ := c2 k n w
                exact .inl ⟨j2, .inr (b2 j2 n z)⟩
              · exact .inr (Nat.le_trans ag.len w)
          · rcases c5 j n hn with ⟨i, z, hj⟩ | ⟨z, _⟩
            · rcases F2.ob i n z with ⟨k, w⟩ | w
              · obtain ⟨j2, hj2, z⟩ := c2 k n w
                exact .inr (.inl ⟨j2, hW j2 (hr j2 hj2), b2 j2 n z⟩)
              · exact .inr (.inr (Nat.le_trans ag.len w))
            · exact .inl (b2 j n z)
        cases ex : V.fx g ps with
        | ok p ios =>
          rw [ex] at hc
          obtain ⟨v, vh2, f', o', ft, ot, d1, d2, d3, d4, d5, d6, d7⟩ := hc
          simp only [backX]
          cases hb : backA σ1 as ios (killA σ1 as) with
          | none => trivial
          | some σ2 =>
            obtain ⟨c1, c2, c3, F, O, c4, c5, c6, c7⟩ := core d2 d3 hb
            have lt1 : ∀ j n, n ∈ o1 j → n < vh1.length := fun j n hn => I1'.lt j n (.inr hn)
            refine ⟨v, vh2, F, O, ft, ot, d1, c4, c5, d4, Nw.nx ⟨d5.nd, d5.d0, fun n hn j => ⟨fun z => ?_, fun z => ?_⟩, fun j n hn hm => ?_⟩, fun n hn => ?_, fun n hn => ?_⟩
            · rcases c7 j n z with w | ⟨i, w⟩
              · rcases d7 n hn with ⟨k, u⟩ | u
                · obtain ⟨j2, _, u⟩ := c2 k n u
                  exact I1'.sep.fo j2 j n u w
                · have := I1'.lt j n (.inl w); omega
              · exact (d5.d1 n hn i).1 w
            · rcases c6 j n z with ⟨i, w, _⟩ | ⟨w, w2⟩
              · exact (d5.d1 n hn i).2 w
              · rcases d7 n hn with ⟨k, u⟩ | u
                · exact w2 k u
                · have := lt1 j n w; omega
            · rcases c6 j n hn with ⟨i, w, _⟩ | ⟨w, w2⟩
              · exact d5.d2 i n w hm
              · rcases d6 n hm with ⟨k, u | u⟩ | u
                · exact c1 n ⟨j, w, w2⟩ k u
                · exact w2 k u
                · have := lt1 j n w; omega
            · rcases d6 n hn with ⟨k, u | u⟩ | u
              · exact c3 k n u
              · obtain ⟨j, _, u⟩ := c2 k n u
                exact .inl ⟨j, .inr (b2 j n u)⟩
              · exact .inr (Nat.le_trans ag.len u)
            · rcases d7 n hn with ⟨k, u⟩ | u
              · obtain ⟨j, hj, u⟩ := c2 k n u
                exact .inl ⟨j, hW j (hr j hj), b2 j n u⟩
              · exact .inr (Nat.le_trans ag.len u)
        | exc c ios =>
          rw [ex] at hc
          obtain ⟨vh2, f', o', d1, d2, d3⟩ := hc
          simp only [backX]
          cases hb : backA σ1 as ios (killA σ1 as) with
          | none => trivial
          | some σ2 =>
            obtain ⟨c1, c2, c3, F, O, c4, c5, _⟩ := core d2 d3 hb
            exact ⟨vh2, F, O, d1, c4, c5⟩
        | stuck => trivial
      · trivial
    · rename_i hnd
      clear hnd
      by_cases hp : ∀ j ks, AV.io j ks ∈ as → ∃ v x, σ[j]? = some (some v) ∧ stpsV ks v vh = some x
      · obtain ⟨xs, vh1, ev1, ag, har⟩ := argsV_ok hG.a hN (V.io g) es 0 I ea hp
        have e0 : ev G (.call g es) σ vh = G.fn g xs vh1 := by simp only [ev, ev1, Res.bind_ok]
        rw [e0]
        exact callSp_ok hG hN g (I.agr ag) ag W vs har (fun j hj => hW j (args_root hG.a hN (V.io g) es 0 ea j hj)) fun k j ks h => by
          have := (args_io hG.a (V.io g) es 0 ea).1 k j ks h
          rwa [Nat.zero_add] at this
      · have : callSp V g σp as = .stuck := by
          unfold callSp
          split
          · rename_i j a j' b
            split
            · rename_i ps ej
              split
              · rename_i m n em en
                split
                · rename_i hc
                  obtain ⟨rfl, hmn⟩ := hc
                  split
                  · rename_i p q ep eq
                    exfalso
                    apply hp
                    intro l ks hm
                    obtain ⟨v, e1, r⟩ := I.get ej
                    rcases List.mem_cons.mp hm with z | z
                    · cases z
                      obtain ⟨x, _, _, _, _, a1, _⟩ := get_path [a] r (q := p) (by simp only [getO, placeP, em, partsP, ep])
                      exact ⟨v, x, e1, a1⟩
                    · rw [List.mem_singleton] at z
                      cases z
                      obtain ⟨x, _, _, _, _, a1, _⟩ := get_path [b] r (q := q) (by simp only [getO, placeP, en, partsP, eq])
                      exact ⟨v, x, e1, a1⟩
                  · rfl
                · rfl
              · rfl
            · rfl
          · rfl
        rw [this]; trivial
  · trivial
end
end Fe
namespace Fe
open PySem PySem.Spec PyProof.Rows L2
section
variable {vh vh1 vh2 : VH} {f o f1 o1 f2 o2 : HL} {vs ws W W1 W2 : List Nat} {σ : SSt} {σp : SV}
theorem Nx.rlt {v : VV} {p : PV} {ft ot : List Nat} (r : R vh1 v p ft ot) : ∀ n, n ∈ ft ∨ n ∈ ot → n < vh1.length := fun n hn => hn.elim (r.lt.1 n) (r.lt.2 n)
/-- two values, the first held while the second is reckoned -/
theorem EO.two {α : Type} {rel : VH → α → PV → List Nat → List Nat → Prop} {va vb wa wb : List Nat} {ra : RX PV} {sa : Res VV} {rb : PV → SV → RX PV} {sb : VV → VH → Res VV} {g : PV → PV → SV → RX PV} {h : VV → VV → VH → Res α}
    (ha : EO wa va vh σ f o R ra sa) (hb : ∀ (v : VV) (x : PV) (vh1 : VH) (σp1 : SV) (f1 o1 : HL), Inv vh1 σ σp1 f1 o1 → EO wb vb vh1 σ f1 o1 R (rb x σp1) (sb v vh1))
    (k : ∀ (v u : VV) (x y : PV) (vh2 : VH) (σp2 : SV) (f2 o2 : HL) (L : List Nat), hold x va wb = true → Inv vh2 σ σp2 f2 o2 → FrW (wa ++ wb) vh f o vh2 f2 o2 → Ok1 vh2 (fun _ => L) (fun _ => []) [0] vh2 v (fz x) → Ok1 vh2 (fun _ => L) (fun _ => []) [0] vh2 u (fz y) →
      (∀ n ∈ L, (∀ j, n ∈ o2 j → j ∈ va ++ vb) ∧ ((∃ i, n ∈ f i ∨ n ∈ o i) ∨ vh.length ≤ n)) → EO (wa ++ wb) (va ++ vb) vh σ f o rel (g x y σp2) (h v u vh2)) :
    EO (wa ++ wb) (va ++ vb) vh σ f o rel (ra.bind fun x σ1 => (rb x σ1).bind fun y σ2 => if hold x va wb = true then g x y σ2 else .stuck) (sa.bind fun v vh => (sb v vh).bind fun u vh => h v u vh) := by
  refine ha.bind mem_l fun v x vh1 σp1 f1 o1 ft ot I1 F1 r nx s1 s2 => ?_
  have hb' := hb v x vh1 σp1 f1 o1 I1
  cases er : rb x σp1 with
  | stuck => trivial
  | exc c σp2 =>
    rw [er] at hb'
    obtain ⟨vh2, f2, o2, e, I2, F2⟩ := hb'
    rw [e]
    exact ⟨vh2, f2, o2, rfl, I2, F1.trans (F2.mono mem_r)⟩
  | ok y σp2 =>
    rw [er] at hb'
    obtain ⟨u, vh2, f2, o2, ft2, ot2, e, I2, F2, r2, nx2, t1, t2⟩ := hb'
    rw [e]
    simp only [RX.bind_ok, Res.bind_ok]
    refine EO.ite0 fun hh => ?_
    obtain ⟨same, nx'⟩ := nx.held (Nx.rlt r) F2 (hold_of hh r)
    have r' := r.same same
    refine k v u x y vh2 σp2 f2 o2 ((ft ++ ot) ++ (ft2 ++ ot2)) hh I2 (F1.trans (F2.mono mem_r)) (Ok1.ofR r' fun n hn => ?_) (Ok1.ofR r2 fun n hn => ?_) fun n hn => ?_
    · exact List.mem_append_left _ (List.mem_append.mpr hn)
    · exact List.mem_append_right _ (List.mem_append.mpr hn)
    · rcases List.mem_append.mp hn with z | z
      · obtain ⟨a, b⟩ := nx'.src s1 s2 n z
        exact ⟨fun j hj => mem_l _ (a j hj), b⟩
      · obtain ⟨a, b⟩ := nx2.src (f := f) (o := o) (vh := vh) (W := wa ++ wb) (fun n hn => F1.fr.srcF (t1 n hn)) (fun n hn => F1.srcO (src_m mem_r (t2 n hn))) n z
        exact ⟨fun j hj => mem_r _ (a j hj), b⟩
theorem EO.here {α β : Type} {rel : VH → α → β → List Nat → List Nat → Prop} {v : α} {p : β} (I : Inv vh1 σ σp f1 o1) (F : FrW W vh f o vh1 f1 o1) (r : rel vh1 v p [] []) : EO W vs vh σ f o rel (.ok p σp) (.ok v vh1) :=
  ⟨v, vh1, f1, o1, [], [], rfl, I, F, r, Nx.none, by simp, by simp⟩
end
section
variable {G : Gam} {V : GV} (hG : GX G V) (hN : V.N = G.N)
include hG hN
mutual
theorem evX_ok : ∀ (e : E) {vh : VH} {f o : HL} {σ : SSt} {σp : SV}, Inv vh σ σp f o → EO (wE V e) (vE e) vh σ f o R (evX V e σp) (ev G e σ vh)
  | .bin b x y, vh, f, o, σ, σp, I => by
    simp only [evX, ev, vE, wE]
    exact EO.two (evX_ok x I) (fun _ _ _ _ _ _ I1 => evX_ok y I1) fun v u p q vh2 σp2 f2 o2 L hh I2 F2 h1 h2 hL => EO.op I2 F2 hL (bin_ok b (Nat.le_refl _) h1 h2)
  | .cmp c x y, vh, f, o, σ, σp, I => by
    simp only [evX, ev, vE, wE]
    exact EO.two (evX_ok x I) (fun _ _ _ _ _ _ I1 => evX_ok y I1) fun v u p q vh2 σp2 f2 o2 L hh I2 F2 h1 h2 hL => EO.op I2 F2 hL (cmp_ok c h1 h2)
  | .ix x y, vh, f, o, σ, σp, I => by
    simp only [evX, ev, vE, wE]
    exact EO.two (evX_ok x I) (fun _ _ _ _ _ _ I1 => evX_ok y I1) fun v u p q vh2 σp2 f2 o2 L hh I2 F2 h1 h2 hL => EO.op I2 F2 hL (ix_ok h1 h2)
  | .neg x, vh, f, o, σ, σp, I => by
    simp only [evX, ev, vE, wE]
    refine (evX_ok x I).bind (fun _ h => h) fun v p vh1 σp1 f1 o1 ft ot I1 F1 r nx s1 s2 => ?_
    cases p with
    | int i => cases r; exact EO.here I1 F1 (.int _)
    | _ => trivial
  | .one x, vh, f, o, σ, σp, I => by
    simp only [evX, ev, vE, wE]
    exact evX_ok x I
  | .not x, vh, f, o, σ, σp, I => by
    simp only [evX, ev, vE, wE]
    refine (evX_ok x I).bind (fun _ h => h) fun v p vh1 σp1 f1 o1 ft ot I1 F1 r nx s1 s2 => ?_
    cases p with
    | bl i => cases r; exact EO.here I1 F1 (.bl _)
    | _ => trivial
  | .and x y, vh, f, o, σ, σp, I => by
    simp only [evX, ev, vE, wE]
    refine (evX_ok x I).bind mem_l fun v p vh1 σp1 f1 o1 ft ot I1 F1 r nx s1 s2 => ?_
    cases p with
    | bl b =>
      cases r
      cases b with
      | true => exact ((evX_ok y I1).mono mem_r).lift F1 mem_r
      | false => exact EO.here I1 F1 (.bl _)
    | _ => trivial
  | .or x y, vh, f, o, σ, σp, I => by
    simp only [evX, ev, vE, wE]
    refine (evX_ok x I).bind mem_l fun v p vh1 σp1 f1 o1 ft ot I1 F1 r nx s1 s2 => ?_
    cases p with
    | bl b =>
      cases r
      cases b with
      | false => exact ((evX_ok y I1).mono mem_r).lift F1 mem_r
      | true => exact EO.here I1 F1 (.bl _)
    | _ => trivial
  | .tup es, vh, f, o, σ, σp, I => by
    simp only [evX, ev, vE, wE]
    refine (evsX_ok es I).bind (fun _ h => h) fun v p vh1 σp1 f1 o1 ft ot I1 F1 r nx s1 s2 => ?_
    rw [r.len]
    exact EO.ite fun _ => ⟨_, vh1, f1, o1, ft, ot, rfl, I1, F1, .tup r, nx, s1, s2⟩
  | .lst es, vh, f, o, σ, σp, I => by
    simp only [evX, ev, vE, wE]
    refine (evsX_ok es I).bind (fun _ h => h) fun v p vh1 σp1 f1 o1 ft ot I1 F1 r nx s1 s2 => ?_
    rw [r.len]
    refine EO.ite fun _ => ?_
    have l := r.lt
    refine ⟨_, _, f1, o1, ft, vh1.length :: ot, rfl, I1.agr (Agr.app _ _), F1.trans (FrW.of_agr (Agr.app _ _)), .olst (by simp) (r.agr (Agr.app _ _)), ⟨List.nodup_cons.mpr ⟨fun z => ?_, nx.nd⟩, fun n hn hm => ?_, fun n hn j => ?_, nx.d2⟩, s1, fun n hn => ?_⟩
    · have := l.2 _ z; omega
    · rcases List.mem_cons.mp hn with z | z
      · subst z; have := l.1 _ hm; omega
      · exact nx.d0 n z hm
    · rcases List.mem_cons.mp hn with z | z
      · subst z
        exact ⟨fun w => by have := I1.lt j _ (.inl w); omega, fun w => by have := I1.lt j _ (.inr w); omega⟩
      · exact nx.d1 n z j
    · rcases List.mem_cons.mp hn with z | z
      · subst z; exact .inr F1.len
      · exact s2 n z
  | .bi b es, vh, f, o, σ, σp, I => by
    simp only [evX, ev, vE, wE]
    refine (evsX_ok es I).bind (fun _ h => h) fun v p vh1 σp1 f1 o1 ft ot I1 F1 r nx s1 s2 => ?_
    exact EO.op I1 F1 (nx.src s1 s2) (bi_ok b (Nat.le_refl _) (Oks.ofR r fun n hn => List.mem_append.mpr hn))
  | .o1 k x, vh, f, o, σ, σp, I => by
    simp only [evX, ev, vE, wE]
    refine (evX_ok x I).bind (fun _ h => h) fun v p vh1 σp1 f1 o1 ft ot I1 F1 r nx s1 s2 => ?_
    exact EO.op I1 F1 (nx.src s1 s2) (o1_ok k (Nat.le_refl _) (Ok1.ofR r fun n hn => List.mem_append.mpr hn))
  | .isi x t, vh, f, o, σ, σp, I => by
    simp only [evX, ev, vE, wE]
    refine (evX_ok x I).bind (fun _ h => h) fun v p vh1 σp1 f1 o1 ft ot I1 F1 r nx s1 s2 => ?_
    rcases ty_same (t := t) (Ok1.ofR (L := ft ++ ot) r fun n hn => List.mem_append.mpr hn) with e | ⟨e1, e2⟩
    · rw [e]; trivial
    · rw [e1, e2]
      exact EO.here I1 F1 (.bl _)
  | .call g es, vh, f, o, σ, σp, I => by
    simp only [evX]
    split
    · rename_i hio
      simp only [ev, vE, wE]
      refine (evsX_ok es I).bind mem_r fun v p vh1 σp1 f1 o1 ft ot I1 F1 r nx s1 s2 => ?_
      obtain ⟨gs, r1, k⟩ := r.fz
      refine EO.op I1 F1 (nx.src s1 s2) ((hG.a.fn g vh1 v (fzs p) gs r1).imp fun vh2 w q a2 h => ?_)
      obtain ⟨ft2, ot2, q1, q2, q3, q4, q5⟩ := h
      exact ⟨ft2, ot2, q1, q2, q3, fun n hn => (q4 n hn).imp (fun z => ⟨0, by simp, .inl (List.mem_append.mpr ((k n).mp z))⟩) fun z => z, q5⟩
    · simp only [vE, wE]
      exact callIO_ok hG hN g es I _ _ mem_l
  | .me m x es, vh, f, o, σ, σp, I => by
    simp only [evX]
    split
    · rename_i hm
      simp only [vE, wE]
      rw [if_pos hm]
      exact mutX_ok hG.a hN m x es I
    · rename_i hm
      simp only [ev, vE, wE]
      rw [if_neg hm]
      refine (evX_ok x I).bind mem_l fun v p vh1 σp1 f1 o1 ft ot I1 F1 r nx s1 s2 => ?_
      rw [tyM_same m (Ok1.ofR (L := ft ++ ot) r fun n hn => List.mem_append.mpr hn)]
      refine EO.ite fun _ => ?_
      have hb := evsX_ok es I1
      cases er : evsX V es σp1 with
      | stuck => trivial
      | exc c σp2 =>
        rw [er] at hb
        obtain ⟨vh2, f2, o2, e, I2, F2⟩ := hb
        rw [e]
        exact ⟨vh2, f2, o2, rfl, I2, F1.trans (F2.mono mem_r)⟩
      | ok q σp2 =>
        rw [er] at hb
        obtain ⟨u, vh2, f2, o2, ft2, ot2, e, I2, F2, r2, nx2, t1, t2⟩ := hb
        rw [e]
        simp only [RX.bind_ok, Res.bind_ok]
        refine EO.ite0 fun hh => ?_
        obtain ⟨same, nx'⟩ := nx.held (Nx.rlt r) F2 (hold_of hh r)
        have r' := r.same same
        refine EO.op (L := (ft ++ ot) ++ (ft2 ++ ot2)) I2 (F1.trans (F2.mono mem_r)) (fun n hn => ?_) (me_ok m (Ok1.ofR r' fun n hn => ?_) (Oks.ofR r2 fun n hn => ?_))
        · rcases List.mem_append.mp hn with z | z
          · obtain ⟨a, b⟩ := nx'.src s1 s2 n z
            exact ⟨fun j hj => mem_l _ (a j hj), b⟩
          · obtain ⟨a, b⟩ := nx2.src (f := f) (o := o) (vh := vh) (W := wE V x ++ wEs V es) (fun n hn => F1.fr.srcF (t1 n hn)) (fun n hn => F1.srcO (src_m mem_r (t2 n hn))) n z
            exact ⟨fun j hj => mem_r _ (a j hj), b⟩
        · exact List.mem_append_left _ (List.mem_append.mpr hn)
        · exact List.mem_append_right _ (List.mem_append.mpr hn)
  | .nm i, vh, f, o, σ, σp, I => by simp only [evX]; exact EO.pure I (evV_ok hG.a hN _ I.sr)
  | .gl i, vh, f, o, σ, σp, I => by simp only [evX]; exact EO.pure I (evV_ok hG.a hN _ I.sr)
  | .cn i, vh, f, o, σ, σp, I => by simp only [evX]; exact EO.pure I (evV_ok hG.a hN _ I.sr)
  | .chain _ _ _ _ _, vh, f, o, σ, σp, I => by simp only [evX]; exact EO.pure I (evV_ok hG.a hN _ I.sr)
  | .ife _ _ _, vh, f, o, σ, σp, I => by simp only [evX]; exact EO.pure I (evV_ok hG.a hN _ I.sr)
  | .dnew, vh, f, o, σ, σp, I => by simp only [evX]; exact EO.pure I (evV_ok hG.a hN _ I.sr)
  | .slc _ _ _, vh, f, o, σ, σp, I => by simp only [evX]; exact EO.pure I (evV_ok hG.a hN _ I.sr)
  | .lc _ _ _ _ _, vh, f, o, σ, σp, I => by simp only [evX]; exact EO.pure I (evV_ok hG.a hN _ I.sr)
  | .isv _ _, vh, f, o, σ, σp, I => by simp only [evX]; exact EO.pure I (evV_ok hG.a hN _ I.sr)
  | .isx _, vh, f, o, σ, σp, I => by simp only [evX]; exact EO.pure I (evV_ok hG.a hN _ I.sr)
theorem evsX_ok : ∀ (es : Es) {vh : VH} {f o : HL} {σ : SSt} {σp : SV}, Inv vh σ σp f o → EO (wEs V es) (vEs es) vh σ f o Rs (evsX V es σp) (evs G es σ vh)
  | .nil, vh, f, o, σ, σp, I => by
    simp only [evsX, evs]
    exact EO.here I FrW.refl .nil
  | .cons e es, vh, f, o, σ, σp, I => by
    simp only [evsX, evs, vEs, wEs]
    refine (evX_ok e I).bind mem_l fun v p vh1 σp1 f1 o1 ft ot I1 F1 r nx s1 s2 => ?_
    have hb := evsX_ok es I1
    cases er : evsX V es σp1 with
    | stuck => trivial
    | exc c σp2 =>
      rw [er] at hb
      obtain ⟨vh2, f2, o2, e, I2, F2⟩ := hb
      rw [e]
      exact ⟨vh2, f2, o2, rfl, I2, F1.trans (F2.mono mem_r)⟩
    | ok q σp2 =>
      rw [er] at hb
      obtain ⟨u, vh2, f2, o2, ft2, ot2, e, I2, F2, r2, nx2, t1, t2⟩ := hb
      rw [e]
      simp only [RX.bind_ok, Res.bind_ok]
      refine EO.ite0 fun hh => ?_
      obtain ⟨same, nx'⟩ := nx.held (Nx.rlt r) F2 (hold_of hh r)
      have l1 := Nx.rlt r
      refine ⟨v :: u, vh2, f2, o2, ft ++ ft2, ot ++ ot2, rfl, I2, F1.trans (F2.mono mem_r), .cons (r.same same) r2, ⟨List.nodup_append.mpr ⟨nx'.nd, nx2.nd, fun a ha b hb z => ?_⟩, fun n hn hm => ?_, fun n hn j => ?_, fun j n hn hm => ?_⟩, fun n hn => ?_, fun n hn => ?_⟩
      · subst z
        rcases t2 a hb with ⟨i, _, w⟩ | w
        · exact (nx.d1 a ha i).2 w
        · have := l1 a (.inr ha); omega
      · rcases List.mem_append.mp hn with hn | hn <;> rcases List.mem_append.mp hm with hm | hm
        · exact nx'.d0 n hn hm
        · rcases t1 n hm with ⟨i, w | w⟩ | w
          · exact (nx.d1 n hn i).1 w
          · exact (nx.d1 n hn i).2 w
          · have := l1 n (.inr hn); omega
        · rcases t2 n hn with ⟨i, hi, w⟩ | w
          · have h1 := nx.d2 i n w hm
            rcases hold_of hh r with z | z
            · rw [z] at hm; cases hm
            · exact z i h1 hi
          · have := l1 n (.inl hm); omega
        · exact nx2.d0 n hn hm
      · rcases List.mem_append.mp hn with z | z
        · exact nx'.d1 n z j
        · exact nx2.d1 n z j
      · rcases List.mem_append.mp hm with z | z
        · exact mem_l _ (nx'.d2 j n hn z)
        · exact mem_r _ (nx2.d2 j n hn z)
      · rcases List.mem_append.mp hn with z | z
        · exact s1 n z
        · exact F1.fr.srcF (t1 n z)
      · rcases List.mem_append.mp hn with z | z
        · exact s2 n z
        · exact F1.srcO (src_m mem_r (t2 n z))
end
end
end Fe
namespace Fe
open PySem PySem.Spec PyProof.Rows L2
section
variable {G : Gam} {V : GV} (hG : GX G V) (hN : V.N = G.N)
include hG hN
theorem tstX_ok : ∀ (b : B) {vh : VH} {f o : HL} {σ : SSt} {σp : SV}, Inv vh σ σp f o → ∃ W vs, EO W vs vh σ f o (fun _ a b ft ot => a = b ∧ ft = [] ∧ ot = []) (tstX V b σp) (tst G b σ vh)
  | .cmp c x y, vh, f, o, σ, σp, I => by
    refine ⟨wE V (.cmp c x y), [], ?_⟩
    simp only [tstX]
    have e : tst G (.cmp c x y) σ vh = (ev G (.cmp c x y) σ vh).bind fun z vh => match z with
      | .bl k => .ok k vh
      | _ => .stuck := by simp only [tst, ev, Res.bind_assoc] <;> rfl
    rw [e]
    refine (evX_ok hG hN (.cmp c x y) I).bind (fun _ h => h) fun v p vh1 σp1 f1 o1 ft ot I1 F1 r nx s1 s2 => ?_
    cases p with
    | bl i => cases r; exact EO.here I1 F1 ⟨rfl, rfl, rfl⟩
    | _ => trivial
  | .one x, vh, f, o, σ, σp, I => by
    simp only [tstX, tst]
    exact tstX_ok x I
  | .and x y, vh, f, o, σ, σp, I => by
    obtain ⟨W1, v1, h1⟩ := tstX_ok x I
    simp only [tstX, tst]
    cases er : tstX V x σp with
    | stuck => exact ⟨[], [], trivial⟩
    | exc c σp1 =>
      rw [er] at h1
      obtain ⟨vh1, f1, o1, e, I1, F1⟩ := h1
      rw [e]
      exact ⟨W1, [], vh1, f1, o1, rfl, I1, F1⟩
    | ok c σp1 =>
      rw [er] at h1
      obtain ⟨c', vh1, f1, o1, ft, ot, e, I1, F1, ⟨rfl, rfl, rfl⟩, _⟩ := h1
      rw [e]
      simp only [RX.bind_ok, Res.bind_ok]
      cases c' with
      | true =>
        obtain ⟨W2, v2, h2⟩ := tstX_ok y I1
        exact ⟨W1 ++ W2, v2, h2.lift (F1.mono mem_l) mem_r⟩
      | false => exact ⟨W1, [], EO.here I1 F1 ⟨rfl, rfl, rfl⟩⟩
  | .or x y, vh, f, o, σ, σp, I => by
    obtain ⟨W1, v1, h1⟩ := tstX_ok x I
    simp only [tstX, tst]
    cases er : tstX V x σp with
    | stuck => exact ⟨[], [], trivial⟩
    | exc c σp1 =>
      rw [er] at h1
      obtain ⟨vh1, f1, o1, e, I1, F1⟩ := h1
      rw [e]
      exact ⟨W1, [], vh1, f1, o1, rfl, I1, F1⟩
    | ok c σp1 =>
      rw [er] at h1
      obtain ⟨c', vh1, f1, o1, ft, ot, e, I1, F1, ⟨rfl, rfl, rfl⟩, _⟩ := h1
      rw [e]
      simp only [RX.bind_ok, Res.bind_ok]
      cases c' with
      | false =>
        obtain ⟨W2, v2, h2⟩ := tstX_ok y I1
        exact ⟨W1 ++ W2, v2, h2.lift (F1.mono mem_l) mem_r⟩
      | true => exact ⟨W1, [], EO.here I1 F1 ⟨rfl, rfl, rfl⟩⟩
  | .not x, vh, f, o, σ, σp, I => by
    obtain ⟨W1, v1, h1⟩ := tstX_ok x I
    simp only [tstX, tst]
    refine ⟨W1, [], h1.bind (fun _ h => h) fun v p vh1 σp1 f1 o1 ft ot I1 F1 r nx s1 s2 => ?_⟩
    obtain ⟨rfl, rfl, rfl⟩ := r
    exact EO.here I1 F1 ⟨rfl, rfl, rfl⟩
  | .tr e, vh, f, o, σ, σp, I => by
    simp only [tstX, tst]
    refine ⟨wE V e, [], (evX_ok hG hN e I).bind (fun _ h => h) fun v p vh1 σp1 f1 o1 ft ot I1 F1 r nx s1 s2 => ?_⟩
    rw [tru_same (Ok1.ofR (L := ft ++ ot) r fun n hn => List.mem_append.mpr hn)]
    cases truP (fz p) with
    | none => trivial
    | some k => exact EO.here I1 F1 ⟨rfl, rfl, rfl⟩
  | .chain o1 o2 x y z, vh, f, o, σ, σp, I => by
    simp only [tstX]
    have h := tstV_ok hG.a hN (.chain o1 o2 x y z) I.sr
    refine ⟨[], [], ?_⟩
    cases er : tstV V (.chain o1 o2 x y z) σp with
    | stuck => trivial
    | exc c =>
      rw [er] at h
      obtain ⟨_, vh1, e, ag⟩ := h
      exact ⟨vh1, f, o, e, I.agr ag, FrW.of_agr ag⟩
    | ok c =>
      rw [er] at h
      obtain ⟨c', vh1, e, ag, rfl⟩ := h
      rw [e]
      exact EO.here (I.agr ag) (FrW.of_agr ag) ⟨rfl, rfl, rfl⟩
end
section
variable {vh vh1 vh2 : VH} {f o f1 o1 f2 o2 : HL} {vs ws W : List Nat} {σ : SSt} {σp : SV}
/-- x[i] = v on an owned list or dict -/
theorem setC_ok {q q' k v : PV} {y kv vv : VV} {fq oq fk ok ft ot : List Nat} (r : R vh y q fq oq) (nd : oq.Nodup) (dj : ∀ n ∈ oq, n ∉ fq) (rk : R vh kv k fk ok) (rv : R vh vv v ft ot) (ndv : ot.Nodup) (djv : ∀ n ∈ ot, n ∉ ft) (c1 : ∀ n ∈ ot, n ∉ fq ∧ n ∉ oq) (c2 : ∀ n ∈ oq, n ∉ ft)
    (hm : setP q k v = some q') : ∃ (vh2 : VH) (f' o' : List Nat), sSet y kv vv vh = .ok () vh2 ∧ vh2.length = vh.length ∧ (∀ n, n ∉ oq → vh2[n]? = vh[n]?) ∧ R vh2 y q' f' o' ∧ (∀ n ∈ f', n ∈ fq ∨ n ∈ ft ∨ n ∈ ot) ∧ (∀ n ∈ o', n ∈ oq ∨ n ∈ ot) ∧ o'.Nodup ∧ ∀ n ∈ o', n ∉ f' := by
  unfold setP at hm
  split at hm
  · rename_i l
    cases r with
    | olst e2 rs =>
      rename_i n xs oo
      obtain ⟨n1, n2⟩ := List.nodup_cons.mp nd
      split at hm
      · rename_i kk
        cases rk
        split at hm
        · rename_i jj ej
          cases hm
          obtain ⟨fl, ol, g1, g2, g3, g4⟩ := rs.setAt rv jj
          have nfl : n ∉ fl := fun z => by
            rcases g2 n z with z | z
            · exact dj n List.mem_cons_self z
            · exact c2 n List.mem_cons_self z
          have nol : n ∉ ol := fun z => by
            rcases g3 n z with z | z
            · exact n1 z
            · exact (c1 n z).2 List.mem_cons_self
          refine ⟨vh.set n (.lst (xs.set jj vv)), fl, n :: ol, ?_, List.length_set, fun a ha => List.getElem?_set_ne (fun z => by subst z; exact ha List.mem_cons_self), ?_, fun a ha => (g2 a ha).imp_right .inl, fun a ha => ?_, List.nodup_cons.mpr ⟨nol, g4 n2 ndv fun a ha hb => (c1 a hb).2 (List.mem_cons_of_mem _ ha)⟩, fun a ha hb => ?_⟩
          · simp only [sSet, e2, ixP, rs.len, ej]
          · exact .olst (List.getElem?_set_self (List.getElem?_eq_some_iff.mp e2).1) (g1.same fun a ha => List.getElem?_set_ne fun z => by
              subst z; exact ha.elim nfl nol)
          · rcases List.mem_cons.mp ha with z | z
            · subst z; exact .inl List.mem_cons_self
            · exact (g3 a z).imp_left fun w => List.mem_cons_of_mem _ w
          · rcases List.mem_cons.mp ha with z | z
            · subst z; exact nfl hb
            · rcases g3 a z with w | w <;> rcases g2 a hb with u | u
              · exact dj a (List.mem_cons_of_mem _ w) u
              · exact c2 a (List.mem_cons_of_mem _ w) u
              · exact (c1 a w).1 u
              · exact djv a w u
        · cases hm
      · cases hm
  · rename_i ks l
    cases r with
    | odct e2 rs =>
      rename_i n kvs oo
      obtain ⟨n1, n2⟩ := List.nodup_cons.mp nd
      split at hm
      · rename_i kk ek
        split at hm
        · rename_i hz
          cases hm
          obtain ⟨fz1, r1, k1⟩ := rv.fz
          obtain ⟨fl, ol, g0, g1, g2, g3⟩ := Rs.putK (k := kk) r1 rs
          have g2' : ∀ a ∈ fl, a ∈ fq ∨ a ∈ ft ∨ a ∈ ot := fun a ha => (g2 a ha).imp_right fun z => (k1 a).mp z
          have nfl : n ∉ fl := fun z => by
            rcases g2' n z with z | z | z
            · exact dj n List.mem_cons_self z
            · exact c2 n List.mem_cons_self z
            · exact (c1 n z).2 List.mem_cons_self
          have nol : n ∉ ol := fun z => n1 (g3.subset z)
          refine ⟨vh.set n (.dct (putKK kvs kk vv)), fl, n :: ol, ?_, List.length_set, fun a ha => List.getElem?_set_ne (fun z => by subst z; exact ha List.mem_cons_self), ?_, g2', fun a ha => .inl ?_, List.nodup_cons.mpr ⟨nol, g3.nodup n2⟩, fun a ha hb => ?_⟩
          · simp only [sSet, e2, key_same rk, ek]
            rw [if_pos (by unfold lineZ; simpa using hz)]
          · rw [← g0]
            exact .odct (List.getElem?_set_self (List.getElem?_eq_some_iff.mp e2).1) (g1.same fun a ha => List.getElem?_set_ne fun z => by
              subst z; exact ha.elim nfl nol)
          · rcases List.mem_cons.mp ha with z | z
            · subst z; exact List.mem_cons_self
            · exact List.mem_cons_of_mem _ (g3.subset z)
          · rcases List.mem_cons.mp ha with z | z
            · subst z; exact nfl hb
            · have w := g3.subset z
              rcases g2' a hb with u | u | u
              · exact dj a (List.mem_cons_of_mem _ w) u
              · exact c2 a (List.mem_cons_of_mem _ w) u
              · exact (c1 a u).2 (List.mem_cons_of_mem _ w)
        · cases hm
      · cases hm
  · cases hm
/-- what a target leaves -/
def TgP (vh1 : VH) (f1 o1 : HL) (ft ot : List Nat) (vh' : VH) (f' o' : HL) : Prop :=
  (∀ n, n < vh1.length → (∀ j, n ∉ o1 j) → n ∉ ot → vh'[n]? = vh1[n]?) ∧ vh1.length ≤ vh'.length ∧ (∀ j n, n ∈ f' j → (∃ i, n ∈ f1 i) ∨ n ∈ ft ∨ n ∈ ot ∨ vh1.length ≤ n) ∧ ∀ j n, n ∈ o' j → n ∈ o1 j ∨ n ∈ ot ∨ vh1.length ≤ n
theorem setAt_ok (I : Inv vh1 σ σp f1 o1) {j : Nat} {ks : List PV} {k x : PV} {kv vv : VV} {fk ok ft ot : List Nat} {σp' : SV} (rk : R vh1 kv k fk ok) (rv : R vh1 vv x ft ot) (nw : Nw f1 o1 ft ot) (h : setAt j ks k x σp = .nx σp') :
    ∃ v y vh2 f' o', σ[j]? = some (some v) ∧ (∀ vh0 : VH, (∀ n ∈ o1 j, vh0[n]? = vh1[n]?) → stpsV ks v vh0 = some y) ∧ sSet y kv vv vh1 = .ok () vh2 ∧ Inv vh2 σ σp' f' o' ∧ TgP vh1 f1 o1 ft ot vh2 f' o' := by
  unfold setAt at h
  split at h
  · rename_i p ep
    split at h
    · rename_i q eq
      split at h
      · rename_i q' em
        split at h
        · rename_i p' ep'
          cases h
          obtain ⟨v, ev1, r⟩ := I.get ep
          obtain ⟨y, fq, oq, fr, og, a1, a2, a3, a4, a5, a6, a7⟩ := get_path ks r eq
          obtain ⟨n1, n2, n3⟩ := List.nodup_append.mp (a5.nodup_iff.mpr (I.sep.nd j))
          have ogm : ∀ n ∈ og, n ∈ o1 j := fun n hn => a5.subset (List.mem_append_right _ hn)
          have oqm : ∀ n ∈ oq, n ∈ o1 j := fun n hn => a5.subset (List.mem_append_left _ hn)
          obtain ⟨vh2, f', o', b1, b2, b3, b4, b5, b6, b7, b8⟩ := setC_ok a2 n1 (fun n hn hm => I.sep.fo j j n (oqm n hn) (a3 n hm)) rk rv nw.nd nw.d0 (fun n hn => ⟨fun z => (nw.d1 n hn j).1 (a3 n z), fun z => (nw.d1 n hn j).2 (oqm n z)⟩) (fun n hn => nw.d2 j n (oqm n hn)) em
          have noq : ∀ n ∈ og, n ∉ oq := fun n hn z => n3 n z n hn rfl
          have frq : ∀ n ∈ fr, n ∉ oq := fun n hn z => I.sep.fo j j n (oqm n z) (a4 n hn)
          obtain ⟨f3, o3, c1, c2, c3⟩ := a7 vh2 q' p' f' o' (fun n hn => b3 n (hn.elim (frq n) (noq n))) b4 ep'
          obtain ⟨g', h', d1, d2, d3, d4⟩ := back_path I ev1 a4 a5 c1 c2 c3 b7 b8 (fun n hn _ => b3 n hn) (fun n hn => by
            rcases b6 n hn with z | z
            · exact ⟨fun i hi => ⟨I.sep.fo j i n (oqm n z), I.sep.oo j i (fun z => hi z.symm) n (oqm n z)⟩, fun w => noq n w z, I.sep.fo j j n (oqm n z)⟩
            · exact ⟨fun i _ => nw.d1 n z i, fun w => (nw.d1 n z j).2 (ogm n w), (nw.d1 n z j).1⟩) (fun n hn => by
            rcases b5 n hn with z | z | z
            · exact ⟨fun i hi w => I.sep.fo i j n w (a3 n z), fun w => I.sep.fo j j n (ogm n w) (a3 n z)⟩
            · exact ⟨fun i hi w => nw.d2 i n w z, fun w => nw.d2 j n (ogm n w) z⟩
            · exact ⟨fun i hi => (nw.d1 n z i).2, fun w => (nw.d1 n z j).2 (ogm n w)⟩)
          refine ⟨v, y, vh2, g', h', ev1, fun vh0 h0 => a6 vh0 fun n hn => h0 n (ogm n hn), b1, d1, fun n _ hn _ => b3 n fun z => hn j (oqm n z), by omega, fun i n hn => ?_, fun i n hn => ?_⟩
          · by_cases e : i = j
            · subst e
              rcases d3 n hn with z | z
              · exact .inl ⟨i, z⟩
              · rcases b5 n z with z | z | z
                · exact .inl ⟨i, a3 n z⟩
                · exact .inr (.inl z)
                · exact .inr (.inr (.inl z))
            · rw [(d2 i e).1] at hn; exact .inl ⟨i, hn⟩
          · by_cases e : i = j
            · subst e
              rcases d4 n hn with z | z
              · exact .inl (ogm n z)
              · rcases b6 n z with z | z
                · exact .inl (oqm n z)
                · exact .inr (.inl z)
            · rw [(d2 i e).2] at hn; exact .inl hn
        · cases h
      · cases h
    · cases h
  · cases h
theorem TgP.fr {ft ot : List Nat} {vh' : VH} {f' o' : HL} (F : Fr vh f o vh1 f1 o1) (t : TgP vh1 f1 o1 ft ot vh' f' o') (bf : ∀ n ∈ ft, (∃ i, n ∈ f i ∨ n ∈ o i) ∨ vh.length ≤ n) (bo : ∀ n ∈ ot, (∃ i, n ∈ o i) ∨ vh.length ≤ n) : Fr vh f o vh' f' o' := by
  obtain ⟨t1, t2, t3, t4⟩ := t
  refine ⟨fun n x hx k => ?_, Nat.le_trans F.len t2, fun j n hn => ?_, fun j n hn => ?_⟩
  · have h1 := F.keep n x hx k
    have hl := (List.getElem?_eq_some_iff.mp hx).1
    rw [t1 n (List.getElem?_eq_some_iff.mp h1).1 (fun j z => ?_) (fun z => ?_), h1]
    · rcases F.ob j n z with ⟨i, w⟩ | w
      · exact k i w
      · omega
    · rcases bo n z with ⟨i, w⟩ | w
      · exact k i w
      · omega
  · rcases t3 j n hn with ⟨i, z⟩ | z | z | z
    · exact F.fb i n z
    · exact bf n z
    · exact (bo n z).imp_left fun ⟨i, w⟩ => ⟨i, .inr w⟩
    · exact .inr (Nat.le_trans F.len z)
  · rcases t4 j n hn with z | z | z
    · exact F.ob j n z
    · exact bo n z
    · exact .inr (Nat.le_trans F.len z)
end
section
variable {G : Gam} {V : GV} (hG : GOk G V) (hN : V.N = G.N)
include hG hN
mutual
theorem tgtX_ok : ∀ (t : T) {vh1 : VH} {f1 o1 : HL} {σ : SSt} {σp : SV} {v : VV} {p : PV} {ft ot : List Nat}, Inv vh1 σ σp f1 o1 → R vh1 v p ft ot → Nw f1 o1 ft ot → match tgtX V t p σp with
    | .nx σp' => ∃ σ' vh' f' o', asgT G t v σ vh1 = .nx σ' vh' ∧ Inv vh' σ' σp' f' o' ∧ TgP vh1 f1 o1 ft ot vh' f' o'
    | .stuck => True
    | _ => False
  | .nm i, vh1, f1, o1, σ, σp, v, p, ft, ot, I, r, nw => by
    simp only [tgtX]
    obtain ⟨f', o', I', a1, a2, a3⟩ := I.set i r nw.nd nw.d0 (fun n hn j _ => nw.d1 n hn j) (fun j _ => nw.d2 j)
    refine ⟨_, vh1, f', o', rfl, I', fun _ _ _ _ => rfl, Nat.le_refl _, fun j n hn => ?_, fun j n hn => ?_⟩
    · by_cases e : j = i
      · subst e; exact .inr (.inl (a2 n hn))
      · rw [(a1 j e).1] at hn; exact .inl ⟨j, hn⟩
    · by_cases e : j = i
      · subst e; exact .inr (.inl (a3 n hn))
      · rw [(a1 j e).2] at hn; exact .inl hn
  | .tup ts, vh1, f1, o1, σ, σp, v, p, ft, ot, I, r, nw => by
    simp only [tgtX]
    cases e1 : seqP p with
    | none => trivial
    | some ps =>
      simp only
      obtain ⟨xs, f2, o2, h1, h2, h3, h4⟩ := seqR r e1
      by_cases hl : ps.length = Ts.len ts
      · rw [if_pos hl]
        have ih := tgtsX_ok ts I h2 ⟨h4.nodup nw.nd, fun n hn hm => nw.d0 n (h4.subset hn) (h3 n hm), fun n hn j => nw.d1 n (h4.subset hn) j, fun j n hn hm => nw.d2 j n hn (h3 n hm)⟩
        cases er : tgtsX V ts ps σp with
        | nx σp' =>
          rw [er] at ih
          obtain ⟨σ', vh', f', o', b1, b2, b3, b4, b5, b6⟩ := ih
          refine ⟨σ', vh', f', o', ?_, b2, fun n hn hj hno => b3 n hn hj fun z => hno (h4.subset z), b4, fun j n hn => ?_, fun j n hn => ?_⟩
          · simp only [asgT, h1]
            rw [if_pos (by rw [h2.len]; exact hl)]
            exact b1
          · rcases b5 j n hn with z | z | z | z
            · exact .inl z
            · exact .inr (.inl (h3 n z))
            · exact .inr (.inr (.inl (h4.subset z)))
            · exact .inr (.inr (.inr z))
          · rcases b6 j n hn with z | z | z
            · exact .inl z
            · exact .inr (.inl (h4.subset z))
            · exact .inr (.inr z)
        | stuck => trivial
        | _ => rw [er] at ih; exact ih.elim
      · rw [if_neg hl]; trivial
  | .sub a k, vh1, f1, o1, σ, σp, v, p, ft, ot, I, r, nw => by
    simp only [tgtX]
    cases e1 : pathV V a σp with
    | none => trivial
    | some c =>
      obtain ⟨j, ks⟩ := c
      cases e2 : keyR (evV V k σp) with
      | none => trivial
      | some kk =>
        simp only
        unfold keyR at e2
        cases e3 : evV V k σp with
        | ok k0 =>
          rw [e3] at e2
          simp only at e2
          by_cases hk : (keyP k0).isSome = true
          · rw [if_pos hk] at e2
            cases e2
            obtain ⟨vha, aga, ha⟩ := path_ok hG hN a I.sr e1
            have hb := evV_ok hG hN k (I.agr aga).sr
            rw [e3] at hb
            obtain ⟨kv, vhb, e4, agb, fk, ok, rk, _⟩ := hb
            have ag := aga.trans agb
            cases er : setAt j ks kk p σp with
            | nx σp' =>
              obtain ⟨w, y, vh2, f', o', c1, c2, c3, c4, c5, c6, c7, c8⟩ := setAt_ok (I.agr ag) rk (r.agr ag) nw er
              have lt : ∀ n ∈ o1 j, n < vh1.length := fun n hn => I.lt j n (.inr hn)
              have hy := c2 vh1 fun n hn => by rw [ag n _ (List.getElem?_eq_getElem (lt n hn)), List.getElem?_eq_getElem (lt n hn)]
              refine ⟨σ, vh2, f', o', by simp only [asgT, ha w y c1 hy, Res.go_ok, e4, c3], c4, fun n hn hj hno => ?_, Nat.le_trans ag.len c6, fun i n hn => ?_, fun i n hn => ?_⟩
              · rw [c5 n (Nat.lt_of_lt_of_le hn ag.len) hj hno, ag n _ (List.getElem?_eq_getElem hn), List.getElem?_eq_getElem hn]
              · rcases c7 i n hn with z | z | z | z
                · exact .inl z
                · exact .inr (.inl z)
                · exact .inr (.inr (.inl z))
                · exact .inr (.inr (.inr (Nat.le_trans ag.len z)))
              · rcases c8 i n hn with z | z | z
                · exact .inl z
                · exact .inr (.inl z)
                · exact .inr (.inr (Nat.le_trans ag.len z))
            | stuck => trivial
            | _ => unfold setAt at er; (repeat' split at er) <;> cases er
          · rw [if_neg hk] at e2; cases e2
        | exc c => rw [e3] at e2; cases e2
        | stuck => rw [e3] at e2; cases e2
theorem tgtsX_ok : ∀ (t : Ts) {vh1 : VH} {f1 o1 : HL} {σ : SSt} {σp : SV} {v : List VV} {p : List PV} {ft ot : List Nat}, Inv vh1 σ σp f1 o1 → Rs vh1 v p ft ot → Nw f1 o1 ft ot → match tgtsX V t p σp with
    | .nx σp' => ∃ σ' vh' f' o', asgTs G t v σ vh1 = .nx σ' vh' ∧ Inv vh' σ' σp' f' o' ∧ TgP vh1 f1 o1 ft ot vh' f' o'
    | .stuck => True
    | _ => False
  | .nil, vh1, f1, o1, σ, σp, _, _, _, _, I, .nil, nw => by
    simp only [tgtsX]
    exact ⟨σ, vh1, f1, o1, rfl, I, fun _ _ _ _ => rfl, Nat.le_refl _, fun j n hn => .inl ⟨j, hn⟩, fun j n hn => .inl hn⟩
  | .nil, vh1, f1, o1, σ, σp, _, _, _, _, I, .cons _ _, nw => by simp only [tgtsX]
  | .cons _ _, vh1, f1, o1, σ, σp, _, _, _, _, I, .nil, nw => by simp only [tgtsX]
  | .cons t ts, vh1, f1, o1, σ, σp, _, _, _, _, I, .cons (x := x) (p := p) (xs := xs) (ps := ps) (f1 := fa) (o1 := oa) (f2 := fb) (o2 := ob) r rs, nw => by
    simp only [tgtsX]
    obtain ⟨n1, n2, n3⟩ := List.nodup_append.mp nw.nd
    have ih := tgtX_ok t I r ⟨n1, fun n hn hm => nw.d0 n (List.mem_append_left _ hn) (List.mem_append_left _ hm), fun n hn j => nw.d1 n (List.mem_append_left _ hn) j, fun j n hn hm => nw.d2 j n hn (List.mem_append_left _ hm)⟩
    cases er : tgtX V t p σp with
    | nx σp1 =>
      rw [er] at ih
      obtain ⟨σ1, vh2, f2, o2, a1, a2, a3, a4, a5, a6⟩ := ih
      simp only [RSP.seq_nx]
      have lt := rs.lt
      have ltf : ∀ n, n ∈ fb → n < vh1.length := lt.1
      have lto : ∀ n, n ∈ ob → n < vh1.length := lt.2
      have rs' : Rs vh2 xs ps fb ob := rs.same fun n hn => by
        rcases hn with hn | hn
        · exact a3 n (ltf n hn) (fun j z => nw.d2 j n z (List.mem_append_right _ hn)) fun z => nw.d0 n (List.mem_append_left _ z) (List.mem_append_right _ hn)
        · exact a3 n (lto n hn) (fun j => (nw.d1 n (List.mem_append_right _ hn) j).2) fun z => n3 n z n hn rfl
      have ih2 := tgtsX_ok ts a2 rs' ⟨n2, fun n hn hm => nw.d0 n (List.mem_append_right _ hn) (List.mem_append_right _ hm), fun n hn j => ⟨fun z => by
          rcases a5 j n z with ⟨i, w⟩ | w | w | w
          · exact (nw.d1 n (List.mem_append_right _ hn) i).1 w
          · exact nw.d0 n (List.mem_append_right _ hn) (List.mem_append_left _ w)
          · exact n3 n w n hn rfl
          · have := lto n hn; omega, fun z => by
          rcases a6 j n z with w | w | w
          · exact (nw.d1 n (List.mem_append_right _ hn) j).2 w
          · exact n3 n w n hn rfl
          · have := lto n hn; omega⟩, fun j n hn hm => by
          rcases a6 j n hn with w | w | w
          · exact nw.d2 j n w (List.mem_append_right _ hm)
          · exact nw.d0 n (List.mem_append_left _ w) (List.mem_append_right _ hm)
          · have := ltf n hm; omega⟩
      cases er2 : tgtsX V ts ps σp1 with
      | nx σp2 =>
        rw [er2] at ih2
        obtain ⟨σ2, vh3, f3, o3, b1, b2, b3, b4, b5, b6⟩ := ih2
        refine ⟨σ2, vh3, f3, o3, by simp only [asgTs, a1, RS.seq_nx, b1], b2, fun n hn hj hno => ?_, Nat.le_trans a4 b4, fun j n hn => ?_, fun j n hn => ?_⟩
        · rw [b3 n (Nat.lt_of_lt_of_le hn a4) (fun j z => ?_) (fun z => hno (List.mem_append_right _ z)), a3 n hn hj fun z => hno (List.mem_append_left _ z)]
          rcases a6 j n z with w | w | w
          · exact hj j w
          · exact hno (List.mem_append_left _ w)
          · omega
        · rcases b5 j n hn with ⟨i, z⟩ | z | z | z
          · rcases a5 i n z with w | w | w | w
            · exact .inl w
            · exact .inr (.inl (List.mem_append_left _ w))
            · exact .inr (.inr (.inl (List.mem_append_left _ w)))
            · exact .inr (.inr (.inr w))
          · exact .inr (.inl (List.mem_append_right _ z))
          · exact .inr (.inr (.inl (List.mem_append_right _ z)))
          · exact .inr (.inr (.inr (Nat.le_trans a4 z)))
        · rcases b6 j n hn with z | z | z
          · rcases a6 j n z with w | w | w
            · exact .inl w
            · exact .inr (.inl (List.mem_append_left _ w))
            · exact .inr (.inr w)
          · exact .inr (.inl (List.mem_append_right _ z))
          · exact .inr (.inr (Nat.le_trans a4 z))
      | stuck => trivial
      | _ => rw [er2] at ih2; exact ih2.elim
    | stuck => trivial
    | _ => rw [er] at ih; exact ih.elim
end
end
end Fe
namespace Fe
open PySem PySem.Spec PyProof.Rows L2
section
variable {vh vh1 vh2 : VH} {f o f1 o1 f2 o2 : HL} {vs ws W : List Nat} {σ : SSt} {σp : SV}
/-- an item told apart from the thing it is of -/
theorem part_ok {v : VV} {p : PV} {ff oo : List Nat} (r : R vh v p ff oo) (nd : oo.Nodup) (dj : ∀ n ∈ oo, n ∉ ff) {kv : VV} {k x : PV} {fk ok : List Nat} (rk : R vh kv k fk ok) (h : ixOP p k = .ok x) :
    ∃ w f1, sIx v kv vh = .ok w vh ∧ R vh w x f1 [] ∧ ∃ f' o', R vh v (fzD p) f' o' ∧ (∀ n ∈ f', n ∈ ff ∨ n ∈ oo) ∧ (∀ n ∈ o', n ∈ oo) ∧ o'.Nodup ∧ (∀ n ∈ o', n ∉ f') ∧ ∀ n ∈ f1, n ∈ f' := by
  have at1 : ∀ {xs : List VV} {ps : List PV} {g q : List Nat} {y : PV}, Rs vh xs ps g q → ooP (ixIP ps k) = .ok y → ∃ w f1, okO (ixI xs kv) vh = .ok w vh ∧ R vh w y f1 [] ∧ ∀ (f' : List Nat), (∀ n, n ∈ g ∨ n ∈ q → n ∈ f') → ∀ n ∈ f1, n ∈ f' := by
    intro xs ps g q y rs hy
    cases k with
    | int i =>
      cases rk
      simp only [ixIP] at hy
      cases e : atI ps i with
      | none => rw [e] at hy; cases hy
      | some p0 =>
        rw [e] at hy
        cases hy
        unfold atI at e
        rw [Option.bind_eq_some_iff] at e
        obtain ⟨j, e1, e2⟩ := e
        obtain ⟨w, g1, q1, a1, a2, a3, a4⟩ := rs.get e2
        obtain ⟨f1, r1, k1⟩ := a2.fz
        refine ⟨w, f1, ?_, r1, fun f' hf n hn => hf n (((k1 n).mp hn).imp (a3 n) fun z => a4.subset z)⟩
        simp only [ixI, atI, rs.len, e1, Option.bind_some, a1, okO]
    | _ => cases hy
  cases r with
  | tup rs =>
    obtain ⟨w, f1, a1, a2, a3⟩ := at1 rs h
    obtain ⟨f', b1, b2⟩ := rs.fz
    exact ⟨w, f1, a1, a2, f', [], .tup b1, fun n hn => (b2 n).mp hn, by simp, by simp, by simp, a3 f' fun n hn => (b2 n).mpr hn⟩
  | flst e rs =>
    obtain ⟨w, f1, a1, a2, a3⟩ := at1 rs h
    obtain ⟨f', b1, b2⟩ := rs.fz
    refine ⟨w, f1, by simp only [sIx, e]; exact a1, a2, _ :: f', [], .flst e b1, fun n hn => ?_, by simp, by simp, by simp, fun n hn => List.mem_cons_of_mem _ (a3 f' (fun n hn => (b2 n).mpr hn) n hn)⟩
    rcases List.mem_cons.mp hn with z | z
    · subst z; exact .inl List.mem_cons_self
    · exact ((b2 n).mp z).imp (fun z => List.mem_cons_of_mem _ z) fun z => z
  | olst e rs =>
    obtain ⟨n1, n2⟩ := List.nodup_cons.mp nd
    obtain ⟨w, f1, a1, a2, a3⟩ := at1 rs h
    obtain ⟨f', b1, b2⟩ := rs.fz
    refine ⟨w, f1, by simp only [sIx, e]; exact a1, a2, f', [_], .olst e b1, fun n hn => ((b2 n).mp hn).imp_right fun z => List.mem_cons_of_mem _ z, by simp, by simp, fun n hn hm => ?_, a3 f' fun n hn => (b2 n).mpr hn⟩
    simp only [List.mem_singleton] at hn
    subst hn
    rcases (b2 n).mp hm with z | z
    · exact dj n List.mem_cons_self z
    · exact n1 z
  | scr e rs =>
    obtain ⟨w, f1, a1, a2, a3⟩ := at1 rs h
    obtain ⟨f', b1, b2⟩ := rs.fz
    refine ⟨w, f1, by simp only [sIx, e]; exact a1, a2, _ :: f', [], by simp only [fzD, fz]; exact .scr e b1, fun n hn => ?_, by simp, by simp, by simp, fun n hn => List.mem_cons_of_mem _ (a3 f' (fun n hn => (b2 n).mpr hn) n hn)⟩
    rcases List.mem_cons.mp hn with z | z
    · subst z; exact .inl List.mem_cons_self
    · exact ((b2 n).mp z).imp (fun z => List.mem_cons_of_mem _ z) fun z => z
  | fdct e rs =>
    rename_i n kvs ps g
    obtain ⟨f', b1, b2⟩ := rs.fz
    simp only [ixOP] at h
    cases ek : keyP k with
    | none => rw [ek] at h; cases h
    | some key =>
      rw [ek] at h
      simp only [Option.bind_some] at h
      rcases look_same (k := key) (fs := fun n => n ∈ f') ⟨f', b1, fun _ h => h⟩ with ⟨c1, c2⟩ | ⟨x0, q, g1, c1, c2, c3, c4⟩
      · rw [look_fz, Option.map_eq_none_iff] at c2
        rw [c2] at h; cases h
      · rw [look_fz, Option.map_eq_some_iff] at c2
        obtain ⟨q0, c2, rfl⟩ := c2
        rw [c2] at h
        cases h
        refine ⟨x0, g1, by simp only [sIx, e, key_same rk, ek, Option.bind_some, c1, okO], c3, n :: f', [], .fdct e b1, fun a ha => ?_, by simp, by simp, by simp, fun a ha => List.mem_cons_of_mem _ (c4 a ha)⟩
        rcases List.mem_cons.mp ha with z | z
        · subst z; exact .inl List.mem_cons_self
        · exact ((b2 a).mp z).imp (fun z => List.mem_cons_of_mem _ z) fun z => z
  | odct e rs =>
    rename_i n kvs ps oq
    obtain ⟨n1, n2⟩ := List.nodup_cons.mp nd
    obtain ⟨f', b1, b2⟩ := rs.fz
    simp only [ixOP] at h
    cases ek : keyP k with
    | none => rw [ek] at h; cases h
    | some key =>
      rw [ek] at h
      simp only [Option.bind_some] at h
      rcases look_same (k := key) (fs := fun n => n ∈ f') ⟨f', b1, fun _ h => h⟩ with ⟨c1, c2⟩ | ⟨x0, q, g1, c1, c2, c3, c4⟩
      · rw [look_fz, Option.map_eq_none_iff] at c2
        rw [c2] at h; cases h
      · rw [look_fz, Option.map_eq_some_iff] at c2
        obtain ⟨q0, c2, rfl⟩ := c2
        rw [c2] at h
        cases h
        refine ⟨x0, g1, by simp only [sIx, e, key_same rk, ek, Option.bind_some, c1, okO], c3, f', [n], .odct e b1, fun a ha => ((b2 a).mp ha).imp_right fun z => List.mem_cons_of_mem _ z, by simp, by simp, fun a ha hm => ?_, c4⟩
        simp only [List.mem_singleton] at ha
        subst ha
        rcases (b2 a).mp hm with z | z
        · exact dj a List.mem_cons_self z
        · exact n1 z
  | str s =>
    simp only [ixOP] at h
    split at h
    · rename_i hz
      cases k with
      | int i =>
        cases rk
        simp only at h
        cases e : atI s.cps.toList i with
        | none => rw [e] at h; cases h
        | some c =>
          rw [e] at h
          cases h
          refine ⟨.str ⟨#[c]⟩, [], ?_, .str _, [], [], .str s, by simp, by simp, by simp, by simp, by simp⟩
          simp only [sIx, ixI, e, Option.map_some, okO]
          rw [if_pos (by unfold lineZ; exact hz)]
      | _ => cases h
    · cases h
  | _ => cases h
theorem set_same {σ : SSt} {j : Nat} {v : VV} (h : σ[j]? = some (some v)) : σ.set j (some v) = σ := by
  apply List.ext_getElem?
  intro i
  by_cases e : j = i
  · subst e; rw [List.getElem?_set_self (List.getElem?_eq_some_iff.mp h).1, h]
  · rw [List.getElem?_set_ne e]
theorem kills_ok (I : Inv vh σ σp f o) : ∀ ws : List Nat, ∃ f' o', Inv vh σ (killsV σp ws) f' o' ∧ (∀ j, f' j = f j ∧ o' j = o j ∨ f' j = [] ∧ o' j = []) ∧ ∀ j ∈ ws, f' j = [] ∧ o' j = []
  | [] => ⟨f, o, I, fun j => .inl ⟨rfl, rfl⟩, by simp⟩
  | w :: ws => by
    obtain ⟨f', o', I', h1, h2⟩ := kills_ok I ws
    refine ⟨_, _, I'.kill w, fun j => ?_, fun j hj => ?_⟩
    · by_cases e : j = w
      · subst e; rw [updL_same, updL_same]; exact .inr ⟨rfl, rfl⟩
      · rw [updL_ne e, updL_ne e]; exact h1 j
    · by_cases e : j = w
      · subst e; rw [updL_same, updL_same]; exact ⟨rfl, rfl⟩
      · rw [updL_ne e, updL_ne e]
        exact h2 j ((List.mem_cons.mp hj).resolve_left e)
end
section
variable {G : Gam} {V : GV} (hG : GX G V) (hN : V.N = G.N)
include hG hN
theorem itemX_ok {t : T} {j : Nat} {b : E} {vh : VH} {f o : HL} {σ : SSt} {σp : SV} (I : Inv vh σ σp f o) : okZ vh f o (itemX V t j b σp) ((ev G (.ix (.nm j) b) σ vh).go σ fun x vh => asgT G t x σ vh) := by
  unfold itemX
  cases ep : σp[j]? with
  | none => trivial
  | some q =>
    cases q with
    | none => trivial
    | some p =>
      obtain ⟨v, ev1, r⟩ := I.get ep
      simp only [ev, ev1, Res.bind_ok, Res.bind_go]
      refine okX.go I (evV_ok hG.a hN b I.sr) fun kv k vh1 ag h1 => ?_
      obtain ⟨fk, ok, rk, _⟩ := h1
      cases ex : ixOP p k with
      | stuck => trivial
      | exc c => trivial
      | ok x =>
        simp only [okGo_ok]
        have I1 := I.agr ag
        obtain ⟨w, g1, a1, a2, f', o', a3, a4, a5, a6, a7, a8⟩ := part_ok (r.agr ag) (I.sep.nd j) (I.sep.fo j j) rk ex
        rw [a1]
        simp only [Res.go_ok]
        -- the state with the parts frozen
        have st : ∃ f1 o1, Inv vh1 σ (if clo x = true then σp else σp.set j (some (fzD p))) f1 o1 ∧ (∀ i n, n ∈ f1 i → n ∈ f i ∨ n ∈ o i) ∧ (∀ i n, n ∈ o1 i → n ∈ o i) ∧ ∀ i, ∀ n ∈ o1 i, n ∉ g1 := by
          by_cases hc : clo x = true
          · rw [if_pos hc]
            have e := a2.clo hc
            subst e
            exact ⟨f, o, I1, fun _ _ h => .inl h, fun _ _ h => h, by simp⟩
          · rw [if_neg hc]
            obtain ⟨f1, o1, b1, b2, b3, b4⟩ := I1.set j a3 a6 a7 (fun n hn i hi => ⟨I.sep.fo j i n (a5 n hn), I.sep.oo j i (fun z => hi z.symm) n (a5 n hn)⟩) (fun i hi n hn hm => by
              rcases a4 n hm with z | z
              · exact I.sep.fo i j n hn z
              · exact I.sep.oo i j hi n hn z)
            rw [set_same ev1] at b1
            refine ⟨f1, o1, b1, fun i n hn => ?_, fun i n hn => ?_, fun i n hn hm => ?_⟩
            · by_cases e : i = j
              · subst e; exact a4 n (b3 n hn)
              · rw [(b2 i e).1] at hn; exact .inl hn
            · by_cases e : i = j
              · subst e; exact a5 n (b4 n hn)
              · rw [(b2 i e).2] at hn; exact hn
            · have h2 := a8 n hm
              by_cases e : i = j
              · subst e; exact a7 n (b4 n hn) h2
              · rw [(b2 i e).2] at hn
                rcases a4 n h2 with z | z
                · exact I.sep.fo i j n hn z
                · exact I.sep.oo i j e n hn z
        obtain ⟨f1, o1, c1, c2, c3, c4⟩ := st
        have sg : ∀ n ∈ g1, (∃ i, n ∈ f i ∨ n ∈ o i) ∨ vh.length ≤ n := fun n hn => .inl ⟨j, a4 n (a8 n hn)⟩
        split
        · rename_i σ2 ea
          obtain ⟨σ', f2, o2, b1, b2, b3, b4⟩ := asg_ok G t c1 a2 List.nodup_nil (by simp) (by simp) c4 ea
          rw [b1]
          exact okZ_nx b2 ⟨fun n x hx _ => ag n x hx, ag.len, fun i n hn => (b3 i n hn).elim (fun z => .inl ⟨i, c2 i n z⟩) (sg n), fun i n hn => (b4 i n hn).elim (fun z => .inl ⟨i, c3 i n z⟩) (by simp)⟩
        · trivial
theorem evZ_ok (e : E) {vh : VH} {f o : HL} {σ : SSt} {σp : SV} (I : Inv vh σ σp f o) : EO (wE V e) (vR V e) vh σ f o R (evX V e σp) (ev G e σ vh) := by
  cases e with
  | call g es =>
    simp only [vR]
    split
    · exact evX_ok hG hN _ I
    · rename_i a b h
      have e1 : evX V (.call g es) σp = callIO V g es σp := by simp only [evX, h]
      rw [e1]
      simp only [wE]
      exact callIO_ok hG hN g es I _ _ mem_l
  | _ => exact evX_ok hG hN _ I
theorem setX_ok {i : Nat} {e : E} {vh : VH} {f o : HL} {σ : SSt} {σp : SV} (I : Inv vh σ σp f o) : okZ vh f o (setX V i e σp) (exec G (.set i e) σ vh) := by
  unfold setX
  split
  · rename_i j b
    exact itemX_ok hG hN I
  · simp only [exec]
    refine (evZ_ok hG hN e I).go fun v p vh1 σp1 f1 o1 ft ot I1 F1 r nx s1 s2 => ?_
    obtain ⟨f', o', q1, q2, q3, q4⟩ := settleW (W := wE V e) I1 r nx
    obtain ⟨f2, o2, k1, k2, _⟩ := put_ok q1 (F1.trans q2).fr r q3 s1 (fun n hn => src_w (s2 n hn)) i
    exact okZ_nx k1 k2
theorem asgX_ok {t : T} {e : E} {vh : VH} {f o : HL} {σ : SSt} {σp : SV} (I : Inv vh σ σp f o) : okZ vh f o (asgX V t e σp) (exec G (.asg t e) σ vh) := by
  unfold asgX
  split
  · rename_i j b
    exact itemX_ok hG hN I
  · simp only [exec]
    refine (evZ_ok hG hN e I).go fun v p vh1 σp1 f1 o1 ft ot I1 F1 r nx s1 s2 => ?_
    obtain ⟨f', o', q1, q2, q3, q4⟩ := settleW (W := wE V e) I1 r nx
    have h := tgtX_ok hG.a hN t q1 r q3
    cases er : tgtX V t p (settle (vR V e) p σp1) with
    | nx σp' =>
      rw [er] at h
      obtain ⟨σ', vh', f2, o2, a1, a2, a3⟩ := h
      rw [a1]
      exact okZ_nx a2 (a3.fr (F1.trans q2).fr s1 fun n hn => src_w (s2 n hn))
    | stuck => trivial
    | _ => rw [er] at h; exact h.elim
theorem retX_ok {e : E} {vh : VH} {f o : HL} {σ : SSt} {σp : SV} (I : Inv vh σ σp f o) : okZ vh f o (retX V e σp) (exec G (.ret e) σ vh) := by
  unfold retX
  simp only [exec]
  have fin : ∀ {r : RX PV} {W vs : List Nat}, EO W vs vh σ f o R r (ev G e σ vh) → okZ vh f o (r.go fun x σ1 => .rx x (settle vs x σ1)) ((ev G e σ vh).go σ fun x vh => .rt x σ vh) := fun h => by
    refine h.go fun v p vh1 σp1 f1 o1 ft ot I1 F1 r nx s1 s2 => ?_
    obtain ⟨f', o', q1, q2, q3, q4⟩ := settleW I1 r nx
    exact ⟨v, σ, vh1, f', o', ft, ot, rfl, q1, (F1.trans q2).fr, r, q3, s1, fun n hn => src_w (s2 n hn)⟩
  split
  · split
    · rename_i hc
      refine okX.go I (evM_ok hG.a hN e hc.1 I) fun v p vh1 ag h1 => ?_
      obtain ⟨ft, ot, h1, h2, h3, h4, h5⟩ := h1
      obtain ⟨f', o', k1, k2, k3⟩ := kills_ok (I.agr ag) (vE e)
      have kf : ∀ j n, n ∈ f' j → n ∈ f j ∧ j ∉ vE e := fun j n hn => by
        by_cases hj : j ∈ vE e
        · rw [(k3 j hj).1] at hn; cases hn
        · rcases k2 j with z | z
          · rw [z.1] at hn; exact ⟨hn, hj⟩
          · rw [z.1] at hn; cases hn
      have ko : ∀ j n, n ∈ o' j → n ∈ o j ∧ j ∉ vE e := fun j n hn => by
        by_cases hj : j ∈ vE e
        · rw [(k3 j hj).2] at hn; cases hn
        · rcases k2 j with z | z
          · rw [z.2] at hn; exact ⟨hn, hj⟩
          · rw [z.2] at hn; cases hn
      refine ⟨v, σ, vh1, f', o', ft, ot, rfl, k1, ⟨fun n x hx _ => ag n x hx, ag.len, fun j n hn => .inl ⟨j, .inl (kf j n hn).1⟩, fun j n hn => .inl ⟨j, (ko j n hn).1⟩⟩, h1, ⟨h2, h3, fun n hn j => ⟨fun z => ?_, fun z => ?_⟩, fun j n hn hm => ?_⟩, fun n hn => (h4 n hn).imp_left fun ⟨i, _, z⟩ => ⟨i, z⟩, fun n hn => (h5 n hn).imp_left fun ⟨i, _, z⟩ => ⟨i, z⟩⟩
      · obtain ⟨z, hj⟩ := kf j n z
        rcases h5 n hn with ⟨i, hi, w⟩ | w
        · exact I.sep.fo i j n w z
        · have := I.lt j n (.inl z); omega
      · obtain ⟨z, hj⟩ := ko j n z
        rcases h5 n hn with ⟨i, hi, w⟩ | w
        · exact I.sep.oo i j (fun e => hj (e ▸ hi)) n w z
        · have := I.lt j n (.inr z); omega
      · obtain ⟨z, hj⟩ := ko j n hn
        rcases h4 n hm with ⟨i, hi, w | w⟩ | w
        · exact I.sep.fo j i n z w
        · exact I.sep.oo i j (fun e => hj (e ▸ hi)) n w z
        · have := I.lt j n (.inr z); omega
    · have h := EO.pure (W := []) I (evV_ok hG.a hN e I.sr)
      have h2 := fin h
      cases er : evV V e σp <;> rw [er] at h2 <;> exact h2
  · exact fin (evZ_ok hG hN e I)
end
def KeepR (io : List Nat) (σ : SSt) : RS → Prop
  | .nx σ' _ => ∀ i ∈ io, σ'[i]? = σ[i]?
  | .rt _ σ' _ => ∀ i ∈ io, σ'[i]? = σ[i]?
  | .bk σ' _ => ∀ i ∈ io, σ'[i]? = σ[i]?
  | .ct σ' _ => ∀ i ∈ io, σ'[i]? = σ[i]?
  | .exc _ _ σ' _ => ∀ i ∈ io, σ'[i]? = σ[i]?
  | .stuck => True
section
variable {io : List Nat} {σ σ1 : SSt}
theorem KeepR.lift {r : RS} (h : ∀ i ∈ io, σ1[i]? = σ[i]?) (k : KeepR io σ1 r) : KeepR io σ r := by
  cases r <;> first | trivial | exact fun i hi => (k i hi).trans (h i hi)
theorem KeepR.seq {r : RS} {f : SSt → VH → RS} (h : KeepR io σ r) (k : ∀ σ vh, KeepR io σ (f σ vh)) : KeepR io σ (r.seq f) := by
  cases r with
  | nx σ' vh => exact KeepR.lift h (k σ' vh)
  | _ => exact h
theorem KeepR.go {α : Type} {r : Res α} {f : α → VH → RS} (k : ∀ a vh, KeepR io σ (f a vh)) : KeepR io σ (r.go σ f) := by
  cases r with
  | ok a vh => exact k a vh
  | exc c fs vh => exact fun _ _ => rfl
  | stuck => trivial
theorem keep_set {i : Nat} {x : Option VV} (h : (!io.contains i) = true) : ∀ j ∈ io, (σ.set i x)[j]? = σ[j]? := fun j hj => by
  rw [List.getElem?_set_ne]
  rintro rfl
  simp at h
  exact h hj
mutual
theorem keepT (G : Gam) : ∀ (t : T) (v : VV) (σ : SSt) (vh : VH), ((T.slots t).all fun i => !io.contains i) = true → KeepR io σ (asgT G t v σ vh)
  | .nm i, v, σ, vh, h => by
    simp only [T.slots, List.all_cons, List.all_nil, Bool.and_true] at h
    exact keep_set h
  | .tup ts, v, σ, vh, h => by
    simp only [asgT]
    split
    · split
      · exact keepTs G ts _ σ vh h
      · trivial
    · trivial
  | .sub a b, v, σ, vh, h => by
    simp only [asgT]
    exact KeepR.go fun _ _ => KeepR.go fun _ _ => KeepR.go fun _ _ => fun _ _ => rfl
theorem keepTs (G : Gam) : ∀ (t : Ts) (v : List VV) (σ : SSt) (vh : VH), ((Ts.slots t).all fun i => !io.contains i) = true → KeepR io σ (asgTs G t v σ vh)
  | .nil, [], σ, vh, h => fun _ _ => rfl
  | .nil, _ :: _, σ, vh, h => trivial
  | .cons _ _, [], σ, vh, h => trivial
  | .cons t ts, x :: xs, σ, vh, h => by
    simp only [Ts.slots, List.all_append, Bool.and_eq_true] at h
    simp only [asgTs]
    exact (keepT G t x σ vh h.1).seq fun σ vh => keepTs G ts xs σ vh h.2
end
theorem keepF {it : Ito} {body : VV → SSt → VH → RS} (h : ∀ x σ vh, KeepR io σ (body x σ vh)) : ∀ (n i : Nat) (σ : SSt) (vh : VH), KeepR io σ (forF it body n i σ vh)
  | 0, i, σ, vh => trivial
  | n + 1, i, σ, vh => by
    simp only [forF]
    split
    · trivial
    · exact fun _ _ => rfl
    · rename_i x _
      have hb := h x σ vh
      cases er : body x σ vh <;> rw [er] at hb <;> first | exact KeepR.lift hb (keepF h n (i + 1) _ _) | exact hb
theorem keepW {t : SSt → VH → Res Bool} {body : SSt → VH → RS} (h : ∀ σ vh, KeepR io σ (body σ vh)) : ∀ (n : Nat) (σ : SSt) (vh : VH), KeepR io σ (whlF t body n σ vh)
  | 0, σ, vh => trivial
  | n + 1, σ, vh => by
    simp only [whlF]
    refine KeepR.go fun a vh => ?_
    split
    · have hb := h σ vh
      cases er : body σ vh <;> rw [er] at hb <;> first | exact KeepR.lift hb (keepW h n _ _) | exact hb
    · exact fun _ _ => rfl
mutual
theorem keepX : ∀ (s : S) (G : Gam) (σ : SSt) (vh : VH), noasS io s = true → KeepR io σ (exec G s σ vh)
  | .expr e, G, σ, vh, h => by simp only [exec]; exact KeepR.go fun _ _ => fun _ _ => rfl
  | .asg t e, G, σ, vh, h => by simp only [exec]; exact KeepR.go fun x vh => keepT G t x σ vh h
  | .set i e, G, σ, vh, h => by simp only [exec]; exact KeepR.go fun x vh => keep_set h
  | .setLc i _ _ _ _ _, G, σ, vh, h => by simp only [exec]; exact KeepR.go fun x vh => keep_set h
  | .par i j a b, G, σ, vh, h => by
    simp only [noasS, Bool.and_eq_true] at h
    simp only [exec]
    exact KeepR.go fun x vh => KeepR.go fun y vh => fun l hl => (keep_set h.2 l hl).trans (keep_set h.1 l hl)
  | .aug i b e, G, σ, vh, h => by
    simp only [exec]
    split
    · exact KeepR.go fun x vh => KeepR.go fun y vh => keep_set h
    · trivial
  | .ret e, G, σ, vh, h => by simp only [exec]; exact KeepR.go fun _ _ => fun _ _ => rfl
  | .ret0, G, σ, vh, h => fun _ _ => rfl
  | .ife t a b, G, σ, vh, h => by
    simp only [noasS, Bool.and_eq_true] at h
    simp only [exec]
    refine KeepR.go fun c vh => ?_
    split
    · exact keepXs a G σ vh h.1
    · exact keepXs b G σ vh h.2
  | .whl t b, G, σ, vh, h => by simp only [exec]; exact keepW (fun σ vh => keepXs b G σ vh h) _ σ vh
  | .fr t it b, G, σ, vh, h => by
    simp only [noasS, Bool.and_eq_true] at h
    simp only [exec]
    exact KeepR.go fun J vh => keepF (fun x σ vh => (keepT G t x σ vh h.1).seq fun σ vh => keepXs b G σ vh h.2) _ _ σ vh
  | .augS a b j e, G, σ, vh, h => by
    simp only [exec]
    exact KeepR.go fun _ _ => KeepR.go fun _ _ => KeepR.go fun _ _ => KeepR.go fun _ _ => KeepR.go fun _ _ => KeepR.go fun _ _ => fun _ _ => rfl
  | .any, G, σ, vh, h => trivial
  | .pass, G, σ, vh, h => fun _ _ => rfl
  | .brk, G, σ, vh, h => fun _ _ => rfl
  | .cont, G, σ, vh, h => fun _ _ => rfl
  | .raise d, G, σ, vh, h => fun _ _ => rfl
  | .tryc i e b g, G, σ, vh, h => by
    simp only [noasS, Bool.and_eq_true] at h
    obtain ⟨h0, h1, h2⟩ := h
    have kk : ∀ σ : SSt, ∀ l ∈ io, (killS i σ)[l]? = σ[l]? := fun σ => by
      cases i with
      | none => exact fun _ _ => rfl
      | some i => exact keep_set h0
    rw [exec_try]
    have hb := keepXs b G σ vh h1
    cases er : execs G b σ vh with
    | exc d fs σ' vh' =>
      rw [er] at hb
      cases fs with
      | some fs => trivial
      | none =>
        simp only
        split
        · have hg := (keepXs g (G.heat d) (killS i σ') vh' h2).lift (σ := σ) fun l hl => (kk σ' l hl).trans (hb l hl)
          cases eg : execs (G.heat d) g (killS i σ') vh' with
          | nx σ2 _ => rw [eg] at hg; exact fun l hl => (kk σ2 l hl).trans (hg l hl)
          | bk σ2 _ => rw [eg] at hg; exact fun l hl => (kk σ2 l hl).trans (hg l hl)
          | ct σ2 _ => rw [eg] at hg; exact fun l hl => (kk σ2 l hl).trans (hg l hl)
          | rt v σ2 _ => rw [eg] at hg; exact hg
          | exc _ _ _ _ => trivial
          | stuck => trivial
        · exact hb
    | nx _ _ => rw [er] at hb; exact hb
    | bk _ _ => rw [er] at hb; exact hb
    | ct _ _ => rw [er] at hb; exact hb
    | rt _ _ _ => rw [er] at hb; exact hb
    | stuck => trivial
  | .tryk i e b j, G, σ, vh, h => by
    simp only [noasS, Bool.and_eq_true] at h
    obtain ⟨⟨h0, h1⟩, h2⟩ := h
    rw [exec_tryk]
    have hb := keepXs b G σ vh h2
    cases er : execs G b σ vh with
    | exc d fs σ' vh' =>
      rw [er] at hb
      cases fs with
      | some fs => trivial
      | none =>
        simp only
        split
        · exact fun l hl => ((keep_set h0 l hl).trans (keep_set h1 l hl)).trans (hb l hl)
        · exact hb
    | nx _ _ => rw [er] at hb; exact hb
    | bk _ _ => rw [er] at hb; exact hb
    | ct _ _ => rw [er] at hb; exact hb
    | rt _ _ _ => rw [er] at hb; exact hb
    | stuck => trivial
  | .fx s, G, σ, vh, h => by simp only [exec]; exact keepX s G σ vh h
theorem keepXs : ∀ (s : Ss) (G : Gam) (σ : SSt) (vh : VH), noasSs io s = true → KeepR io σ (execs G s σ vh)
  | .nil, G, σ, vh, h => fun _ _ => rfl
  | .cons s r, G, σ, vh, h => by
    simp only [noasSs, Bool.and_eq_true] at h
    simp only [execs]
    exact (keepX s G σ vh h.1).seq fun σ vh => keepXs r G σ vh h.2
end
end
def LenR (m : Nat) : RS → Prop
  | .nx σ' _ => σ'.length = m
  | .rt _ σ' _ => σ'.length = m
  | .bk σ' _ => σ'.length = m
  | .ct σ' _ => σ'.length = m
  | .exc _ _ σ' _ => σ'.length = m
  | .stuck => True
section
variable {m : Nat}
theorem LenR.seq {r : RS} {f : SSt → VH → RS} (h : LenR m r) (k : ∀ (σ : SSt) vh, σ.length = m → LenR m (f σ vh)) : LenR m (r.seq f) := by
  cases r with
  | nx σ' vh => exact k σ' vh h
  | _ => exact h
theorem LenR.go {α : Type} {σ : SSt} {r : Res α} {f : α → VH → RS} (hl : σ.length = m) (k : ∀ a vh, LenR m (f a vh)) : LenR m (r.go σ f) := by
  cases r with
  | ok a vh => exact k a vh
  | exc c fs vh => exact hl
  | stuck => trivial
mutual
theorem lenT (G : Gam) : ∀ (t : T) (v : VV) (σ : SSt) (vh : VH), σ.length = m → LenR m (asgT G t v σ vh)
  | .nm i, v, σ, vh, h => by simp only [asgT, LenR, List.length_set]; exact h
  | .tup ts, v, σ, vh, h => by
    simp only [asgT]
    split
    · split
      · exact lenTs G ts _ σ vh h
      · trivial
    · trivial
  | .sub a b, v, σ, vh, h => by
    simp only [asgT]
    exact LenR.go h fun _ _ => LenR.go h fun _ _ => LenR.go h fun _ _ => h
theorem lenTs (G : Gam) : ∀ (t : Ts) (v : List VV) (σ : SSt) (vh : VH), σ.length = m → LenR m (asgTs G t v σ vh)
  | .nil, [], σ, vh, h => h
  | .nil, _ :: _, σ, vh, h => trivial
  | .cons _ _, [], σ, vh, h => trivial
  | .cons t ts, x :: xs, σ, vh, h => by
    simp only [asgTs]
    exact (lenT G t x σ vh h).seq fun σ vh h => lenTs G ts xs σ vh h
end
theorem lenF {it : Ito} {body : VV → SSt → VH → RS} (h : ∀ x (σ : SSt) vh, σ.length = m → LenR m (body x σ vh)) : ∀ (n i : Nat) (σ : SSt) (vh : VH), σ.length = m → LenR m (forF it body n i σ vh)
  | 0, i, σ, vh, hl => trivial
  | n + 1, i, σ, vh, hl => by
    simp only [forF]
    split
    · trivial
    · exact hl
    · rename_i x _
      have hb := h x σ vh hl
      cases er : body x σ vh <;> rw [er] at hb <;> first | exact lenF h n (i + 1) _ _ hb | exact hb
theorem lenW {t : SSt → VH → Res Bool} {body : SSt → VH → RS} (h : ∀ (σ : SSt) vh, σ.length = m → LenR m (body σ vh)) : ∀ (n : Nat) (σ : SSt) (vh : VH), σ.length = m → LenR m (whlF t body n σ vh)
  | 0, σ, vh, hl => trivial
  | n + 1, σ, vh, hl => by
    simp only [whlF]
    refine LenR.go hl fun a vh => ?_
    split
    · have hb := h σ vh hl
      cases er : body σ vh <;> rw [er] at hb <;> first | exact lenW h n _ _ hb | exact hb
    · exact hl
theorem kill_len {i : Option Nat} {σ : SSt} : (killS i σ).length = σ.length := by cases i <;> simp [killS]
mutual
theorem lenS : ∀ (s : S) (G : Gam) (σ : SSt) (vh : VH), σ.length = m → LenR m (exec G s σ vh)
  | .expr e, G, σ, vh, h => by simp only [exec]; exact LenR.go h fun _ _ => h
  | .asg t e, G, σ, vh, h => by simp only [exec]; exact LenR.go h fun x vh => lenT G t x σ vh h
  | .set i e, G, σ, vh, h => by simp only [exec]; exact LenR.go h fun x vh => by simp only [LenR, List.length_set]; exact h
  | .setLc i _ _ _ _ _, G, σ, vh, h => by simp only [exec]; exact LenR.go h fun x vh => by simp only [LenR, List.length_set]; exact h
  | .par i j a b, G, σ, vh, h => by
    simp only [exec]
    exact LenR.go h fun x vh => LenR.go h fun y vh => by simp only [LenR, List.length_set]; exact h
  | .aug i b e, G, σ, vh, h => by
    simp only [exec]
    split
    · exact LenR.go h fun x vh => LenR.go h fun y vh => by simp only [LenR, List.length_set]; exact h
    · trivial
  | .ret e, G, σ, vh, h => by simp only [exec]; exact LenR.go h fun _ _ => h
  | .ret0, G, σ, vh, h => h
  | .ife t a b, G, σ, vh, h => by
    simp only [exec]
    refine LenR.go h fun c vh => ?_
    split
    · exact lenSs a G σ vh h
    · exact lenSs b G σ vh h
  | .whl t b, G, σ, vh, h => by simp only [exec]; exact lenW (fun σ vh => lenSs b G σ vh) _ σ vh h
  | .fr t it b, G, σ, vh, h => by
    simp only [exec]
    exact LenR.go h fun J vh => lenF (fun x σ vh hl => (lenT G t x σ vh hl).seq fun σ vh => lenSs b G σ vh) _ _ σ vh h
  | .augS a b j e, G, σ, vh, h => by
    simp only [exec]
    exact LenR.go h fun _ _ => LenR.go h fun _ _ => LenR.go h fun _ _ => LenR.go h fun _ _ => LenR.go h fun _ _ => LenR.go h fun _ _ => h
  | .any, G, σ, vh, h => trivial
  | .pass, G, σ, vh, h => h
  | .brk, G, σ, vh, h => h
  | .cont, G, σ, vh, h => h
  | .raise d, G, σ, vh, h => h
  | .tryc i e b g, G, σ, vh, h => by
    rw [exec_try]
    have hb := lenSs b G σ vh h
    cases er : execs G b σ vh with
    | exc d fs σ' vh' =>
      rw [er] at hb
      cases fs with
      | some fs => trivial
      | none =>
        simp only
        split
        · have hg := lenSs g (G.heat d) (killS i σ') vh' (kill_len.trans hb)
          cases eg : execs (G.heat d) g (killS i σ') vh' with
          | nx σ2 _ => rw [eg] at hg; exact kill_len.trans hg
          | bk σ2 _ => rw [eg] at hg; exact kill_len.trans hg
          | ct σ2 _ => rw [eg] at hg; exact kill_len.trans hg
          | rt v σ2 _ => rw [eg] at hg; exact hg
          | exc _ _ _ _ => trivial
          | stuck => trivial
        · exact hb
    | nx _ _ => rw [er] at hb; exact hb
    | bk _ _ => rw [er] at hb; exact hb
    | ct _ _ => rw [er] at hb; exact hb
    | rt _ _ _ => rw [er] at hb; exact hb
    | stuck => trivial
  | .tryk i e b j, G, σ, vh, h => by
    rw [exec_tryk]
    have hb := lenSs b G σ vh h
    cases er : execs G b σ vh with
    | exc d fs σ' vh' =>
      rw [er] at hb
      cases fs with
      | some fs => trivial
      | none =>
        simp only
        split
        · simp only [LenR, List.length_set]; exact hb
        · exact hb
    | nx _ _ => rw [er] at hb; exact hb
    | bk _ _ => rw [er] at hb; exact hb
    | ct _ _ => rw [er] at hb; exact hb
    | rt _ _ _ => rw [er] at hb; exact hb
    | stuck => trivial
  | .fx s, G, σ, vh, h => by simp only [exec]; exact lenS s G σ vh h
theorem lenSs : ∀ (s : Ss) (G : Gam) (σ : SSt) (vh : VH), σ.length = m → LenR m (execs G s σ vh)
  | .nil, G, σ, vh, h => h
  | .cons s r, G, σ, vh, h => by
    simp only [execs]
    exact (lenS s G σ vh h).seq fun σ vh => lenSs r G σ vh
end
end
theorem execs_len (s : Ss) (G : Gam) (σ : SSt) (vh : VH) : LenR σ.length (execs G s σ vh) := lenSs s G σ vh rfl
end Fe
namespace Fe
open PySem PySem.Spec PyProof.Rows L2
section
variable {vh vh1 vh' : VH} {f o f1 o1 : HL} {vs ws : List Nat} {σ : SSt} {σp : SV}
theorem aug_okV (b : BO) {v u : VV} {p q : PV} (hp : Ok1 vh f o vs vh' v p) (hq : Ok1 vh f o vs vh' u q) : okX (fun vh' v p => R vh' v p [] []) vh' (augP b p q) (sAug b v u vh') := by
  cases p with
  | int i =>
    have := int_inv hp; subst this
    cases q with
    | int j =>
      have := int_inv hq; subst this
      cases b <;> simp only [augP, sAug] <;> first | trivial | exact okX.here (.int _) | exact okX.ite fun _ => okX.here (.int _)
    | _ => cases b <;> trivial
  | str i =>
    have := str_inv hp; subst this
    cases q with
    | str j =>
      have := str_inv hq; subst this
      cases b <;> simp only [augP, sAug, lineZ] <;> first | trivial | exact okX.ite fun _ => okX.here (.str _)
    | _ => cases b <;> trivial
  | _ => cases b <;> cases q <;> trivial
theorem okX.go0 {α β : Type} {P : VH → α → β → Prop} {r : RP β} {s : Res α} {g : β → RSP} {h : α → VH → RS} (F0 : Fr vh f o vh1 f1 o1) (I : Inv vh1 σ σp f1 o1) (a : okX P vh1 r s) (k : ∀ v p vh2, Agr vh1 vh2 → P vh2 v p → okZ vh f o (g p) (h v vh2)) : okZ vh f o (r.go σp g) (s.go σ h) := by
  cases r with
  | ok p => obtain ⟨v, vh1, rfl, ag, hp⟩ := a; exact k v p vh1 ag hp
  | exc c => obtain ⟨fs, vh1, rfl, ag⟩ := a; exact ⟨fs, σ, vh1, _, _, rfl, I.agr ag, F0.trans (Fr.of_agr ag)⟩
  | stuck => trivial
theorem okZ.loop {vh0 : VH} {f0 o0 : HL} {r : RSP} {s : RS} {g : SV → RSP} {h : SSt → VH → RS} : okZ vh f o r s → Fr vh0 f0 o0 vh f o → (∀ {vh1 : VH} {σ : SSt} {σp : SV} {f1 o1 : HL}, Inv vh1 σ σp f1 o1 → Fr vh f o vh1 f1 o1 → okZ vh0 f0 o0 (g σp) (h σ vh1)) →
    okZ vh0 f0 o0 (match r with | .nx σ => g σ | .ct σ => g σ | .bk σ => .nx σ | r => r) (match s with | .nx σ vh => h σ vh | .ct σ vh => h σ vh | .bk σ vh => .nx σ vh | r => r) := by
  intro a F0 k
  have a0 := a.lift F0
  cases r with
  | nx σ => obtain ⟨x, y, z, w, rfl, i, b⟩ := a; exact k i b
  | bk σ => obtain ⟨x, y, z, w, rfl, i, b⟩ := a0; exact ⟨x, y, z, w, rfl, i, b⟩
  | ct σ => obtain ⟨x, y, z, w, rfl, i, b⟩ := a; exact k i b
  | exc c σ => obtain ⟨u, x, y, z, w, rfl, i, b⟩ := a0; exact ⟨u, x, y, z, w, rfl, i, b⟩
  | stuck => trivial
  | rt p => obtain ⟨v, σ', vh', rfl, b⟩ := a0; exact ⟨v, σ', vh', rfl, b⟩
  | rx p σ => obtain ⟨v, x, y, z, w, ft, ot, rfl, b⟩ := a0; exact ⟨v, x, y, z, w, ft, ot, rfl, b⟩
theorem whl_ok {pt : SV → RP Bool} {pb : SV → RSP} {mt : SSt → VH → Res Bool} {mb : SSt → VH → RS} (ht : ∀ {vh : VH} {f o : HL} {σ : SSt} {σp : SV}, Inv vh σ σp f o → okX (fun _ a b => a = b) vh (pt σp) (mt σ vh)) (hb : ∀ {vh : VH} {f o : HL} {σ : SSt} {σp : SV}, Inv vh σ σp f o → okZ vh f o (pb σp) (mb σ vh)) :
    ∀ (n : Nat) {vh : VH} {f o : HL} {σ : SSt} {σp : SV}, Inv vh σ σp f o → okZ vh f o (whlV pt pb n σp) (whlF mt mb n σ vh)
  | 0, vh, f, o, σ, σp, I => trivial
  | n + 1, vh, f, o, σ, σp, I => by
    simp only [whlV, whlF]
    refine okX.go I (ht I) fun v p vh1 a1 h1 => ?_
    subst h1
    cases v with
    | true =>
      simp only [if_true]
      exact (hb (I.agr a1)).loop (Fr.of_agr a1) fun I2 F2 => (whl_ok ht hb n I2).lift ((Fr.of_agr a1).trans F2)
    | false =>
      exact okZ_nx (I.agr a1) (Fr.of_agr a1)
/-- a for loop's turns -/
theorem for_ok {G : Gam} {it : Ito} {items : List PV} {pr : List Nat} {vhs vh0 : VH} {f0 o0 : HL} {t : T} {pb : SV → RSP} {mb : SSt → VH → RS} (h1 : ∀ vh'' : VH, (∀ n ∈ pr, vh''[n]? = vhs[n]?) → (∀ i p, items[i]? = some p → ∃ x, it.nx i vh'' = some (some x) ∧ ∃ f1, R vh'' x p f1 [] ∧ ∀ n ∈ f1, n ∈ pr) ∧ it.nx items.length vh'' = some none)
    (hl : ∀ n ∈ pr, n < vhs.length) (hs : ∀ n ∈ pr, (∃ i, n ∈ f0 i ∨ n ∈ o0 i) ∨ vh0.length ≤ n) (hb : ∀ {vh : VH} {f o : HL} {σ : SSt} {σp : SV}, Inv vh σ σp f o → okZ vh f o (pb σp) (mb σ vh)) :
    ∀ (l i m : Nat) {vh : VH} {f o : HL} {σ : SSt} {σp : SV}, i + l = items.length → l < m → Inv vh σ σp f o → Fr vh0 f0 o0 vh f o → vhs.length ≤ vh.length → (∀ n ∈ pr, vh[n]? = vhs[n]? ∧ ∀ j, n ∉ o j) →
      okZ vh0 f0 o0 (forV (frV (asgV t) pb) (items.drop i) σp) (forF it (frB (asgT G t) mb) m i σ vh)
  | 0, i, m, vh, f, o, σ, σp, e, hm, I, F0, ll, hp => by
    have hi : i = items.length := by omega
    subst hi
    rw [List.drop_length]
    cases m with
    | zero => omega
    | succ m =>
      simp only [forV, forF, (h1 vh fun n hn => (hp n hn).1).2]
      exact okZ_nx I F0
  | l + 1, i, m, vh, f, o, σ, σp, e, hm, I, F0, ll, hp => by
    have hi : i < items.length := by omega
    rw [List.drop_eq_getElem_cons hi]
    cases m with
    | zero => omega
    | succ m =>
      obtain ⟨x, g1, fx, g2, g3⟩ := (h1 vh fun n hn => (hp n hn).1).1 i _ (List.getElem?_eq_getElem hi)
      simp only [forV, forF, g1, frB, frV]
      cases ea : asgV t items[i] σp with
      | none => trivial
      | some σp1 =>
        simp only
        obtain ⟨σ1, f1, o1, b1, b2, b3, b4⟩ := asg_ok G t I g2 List.nodup_nil (by simp) (by simp) (fun j n hn hm => (hp n (g3 n hm)).2 j hn) ea
        have b4' : ∀ j n, n ∈ o1 j → n ∈ o j := fun j n hn => by simpa using b4 j n hn
        have F1 : Fr vh0 f0 o0 vh f1 o1 := ⟨F0.keep, F0.len, fun j n hn => (b3 j n hn).elim (F0.fb j n) fun z => hs n (g3 n z), fun j n hn => F0.ob j n (b4' j n hn)⟩
        rw [b1]
        simp only [RS.seq_nx]
        refine (hb b2).loop F1 fun {vh2 σ2 σp2 f2 o2} I2 F2 => ?_
        refine for_ok h1 hl hs hb l (i + 1) m (by omega) (by omega) I2 (F1.trans F2) (Nat.le_trans ll F2.len) fun n hn => ?_
        have hn' := hl n hn
        have hno : ∀ j, n ∉ o1 j := fun j z => (hp n hn).2 j (b4' j n z)
        have hlt : n < vh.length := by omega
        refine ⟨?_, fun j z => ?_⟩
        · rw [F2.keep n _ (List.getElem?_eq_getElem hlt) hno, ← (hp n hn).1, List.getElem?_eq_getElem hlt]
        · rcases F2.ob j n z with ⟨k, w⟩ | w
          · exact hno k w
          · omega
/-- a loop over an owned list that its body does not assign -/
theorem forO_ok {G : Gam} {j r : Nat} {t : T} {pb : SV → RSP} {mb : SSt → VH → RS} (hb : ∀ {vh : VH} {f o : HL} {σ : SSt} {σp : SV}, Inv vh σ σp f o → okZ vh f o (pb σp) (mb σ vh)) (hk : ∀ x σ vh, KeepR [j] σ (frB (asgT G t) mb x σ vh)) :
    ∀ (m i : Nat) {vh0 vh : VH} {f0 o0 f o : HL} {σ : SSt} {σp : SV}, σ[j]? = some (some (.ref r)) → Inv vh σ σp f o → Fr vh0 f0 o0 vh f o →
      okZ vh0 f0 o0 (forO (frV (asgV t) pb) j m i σp) (forF (.lst r) (frB (asgT G t) mb) m i σ vh)
  | 0, i, vh0, vh, f0, o0, f, o, σ, σp, e, I, F0 => trivial
  | m + 1, i, vh0, vh, f0, o0, f, o, σ, σp, e, I, F0 => by
    simp only [forO]
    split
    · rename_i qs eq
      have ho : σp[j]? = some (some (.lst true qs)) := by
        unfold ownL at eq
        split at eq
        · rename_i eo; cases eq; exact eo
        · cases eq
      obtain ⟨v, e1, rr⟩ := I.get ho
      rw [e] at e1; cases e1
      generalize f j = fj at rr
      generalize o j = oj at rr
      cases rr with
      | olst e2 rs =>
        rename_i xs oo
        have el : seqL vh r = some xs := by simp only [seqL, e2]
        split
        · rename_i q eqi
          split
          · rename_i hfl
            obtain ⟨x, f1, o1, a1, a2, a3, a4⟩ := rs.get eqi
            have hz : f1 = [] ∧ o1 = [] := by
              cases a2 <;> first | exact ⟨rfl, rfl⟩ | cases hfl
            obtain ⟨rfl, rfl⟩ := hz
            have hnx : (Ito.lst r).nx i vh = some (some x) := by simp only [Ito.nx, el, Option.map_some, a1]
            have hkk := hk x σ vh
            simp only [forF, hnx]
            have hbd : okZ vh f o (frV (asgV t) pb q σp) (frB (asgT G t) mb x σ vh) := by
              simp only [frV, frB]
              cases ea : asgV t q σp with
              | none => trivial
              | some σp1 =>
                simp only
                obtain ⟨σ1, g1, h1, b1, b2, b3, b4⟩ := asg_ok G t I a2 List.nodup_nil (by simp) (by simp) (fun _ _ _ => by simp) ea
                have F1 : Fr vh f o vh g1 h1 := ⟨fun _ _ h _ => h, Nat.le_refl _, fun j n hn => .inl ⟨j, (b3 j n hn).elim .inl (by simp)⟩, fun j n hn => .inl ⟨j, (b4 j n hn).elim id (by simp)⟩⟩
                rw [b1]
                simp only [RS.seq_nx]
                exact (hb b2).lift F1
            have a0 := hbd.lift F0
            cases er : frV (asgV t) pb q σp with
            | nx σ2 =>
              rw [er] at hbd
              obtain ⟨s1, vh1, f1, o1, e3, I1, F1⟩ := hbd
              rw [e3] at hkk
              simp only [e3]
              exact forO_ok hb hk m (i + 1) (by rw [hkk j (by simp)]; exact e) I1 (F0.trans F1)
            | ct σ2 =>
              rw [er] at hbd
              obtain ⟨s1, vh1, f1, o1, e3, I1, F1⟩ := hbd
              rw [e3] at hkk
              simp only [e3]
              exact forO_ok hb hk m (i + 1) (by rw [hkk j (by simp)]; exact e) I1 (F0.trans F1)
            | bk σ2 => rw [er] at a0; obtain ⟨x, y, z, w, e3, i, b⟩ := a0; rw [e3]; exact ⟨x, y, z, w, rfl, i, b⟩
            | exc c σ2 => rw [er] at a0; obtain ⟨u, x, y, z, w, e3, i, b⟩ := a0; rw [e3]; exact ⟨u, x, y, z, w, rfl, i, b⟩
            | stuck => trivial
            | rt p => rw [er] at a0; obtain ⟨v, σ', vh', e3, b⟩ := a0; rw [e3]; exact ⟨v, σ', vh', rfl, b⟩
            | rx p σ2 => rw [er] at a0; obtain ⟨v, x, y, z, w, ft, ot, e3, b⟩ := a0; rw [e3]; exact ⟨v, x, y, z, w, ft, ot, rfl, b⟩
          · trivial
        · rename_i eqi
          have hnx : (Ito.lst r).nx i vh = some none := by
            simp only [Ito.nx, el, Option.map_some]
            rw [List.getElem?_eq_none (by rw [rs.len]; exact List.getElem?_eq_none_iff.mp eqi)]
          simp only [forF, hnx]
          exact okZ_nx I F0
    · trivial
end
section
variable {G : Gam} {V : GV} (hG : GX G V) (hN : V.N = G.N)
include hG hN
theorem asgE_ok {t : T} {e : E} {vh : VH} {f o : HL} {σ : SSt} {σp : SV} (I : Inv vh σ σp f o) : okZ vh f o (asgE V t e σp) (exec G (.asg t e) σ vh) := by
    simp only [asgE, exec]
    refine okX.go I (evV_ok hG.a hN e I.sr) fun v p vh1 ag h1 => ?_
    obtain ⟨f', o', ft, ot, g1, g2, g3, g4, g5, g6⟩ := settle_ok I ag h1
    split
    · rename_i i j
      split
      · rename_i q eq
        obtain ⟨x, ex, rx⟩ := g1.get eq
        simp only [asgT, ev, ex, Res.go_ok]
        refine okX.go0 g2 g1 (evV_ok hG.a hN j g1.sr) fun kv k vh2 ag2 h2 => ?_
        split
        · rename_i p' em
          obtain ⟨fk, ok', rk, _⟩ := h2
          obtain ⟨x', vh3, d1, d2, d3⟩ := setS_ok (vh := vh) (f := f) (o := o) (g1.agr ag2) (g2.trans (Fr.of_agr ag2)) eq rk (g3.agr ag2) g4 g5 (fun n hn => .inr (g6 n hn)) em
          rw [ex] at d1; cases d1
          rw [d2]
          exact d3
        · trivial
      · trivial
    · split
      · rename_i σ2 ea
        obtain ⟨σ', f2, o2, b1, b2, b3, b4⟩ := asg_ok G t g1 g3 g4.nd g4.d0 g4.d1 g4.d2 ea
        rw [b1]
        exact okZ_nx b2 ⟨g2.keep, g2.len, fun j n hn => (b3 j n hn).elim (g2.fb j n) (g5 n), fun j n hn => (b4 j n hn).elim (g2.ob j n) fun z => .inr (g6 n z)⟩
      · trivial
omit hG hN in
theorem moveE_ok {ts : Ts} {i : Nat} {vh : VH} {f o : HL} {σ : SSt} {σp : SV} (I : Inv vh σ σp f o) : okZ vh f o (moveE ts i σp) (exec G (.asg (.tup ts) (.nm i)) σ vh) := by
  simp only [moveE, exec, ev]
  cases e : σp[i]? with
  | none => trivial
  | some q =>
    cases q with
    | none => trivial
    | some p =>
      simp only
      obtain ⟨v, e1, r⟩ := I.get e
      rw [e1]
      simp only [Res.go_ok]
      cases ea : asgV (.tup ts) p (σp.set i none) with
      | none => trivial
      | some σ2 =>
        obtain ⟨σ', f2, o2, b1, b2, b3, b4⟩ := asg_ok G (.tup ts) (I.kill i) r (I.sep.nd i) (I.sep.fo i i) (fun n hn j => by
          by_cases e2 : j = i
          · subst e2; rw [updL_same, updL_same]; simp
          · rw [updL_ne e2, updL_ne e2]; exact ⟨I.sep.fo i j n hn, I.sep.oo i j (fun z => e2 z.symm) n hn⟩) (fun j n hn hm => by
          by_cases e2 : j = i
          · subst e2; rw [updL_same] at hn; cases hn
          · rw [updL_ne e2] at hn; exact I.sep.fo j i n hn hm) ea
        rw [b1]
        have up : ∀ (g : HL) j n, n ∈ updL g i [] j → n ∈ g j := fun g j n hn => by
          by_cases e2 : j = i
          · subst e2; rw [updL_same] at hn; cases hn
          · rw [updL_ne e2] at hn; exact hn
        exact okZ_nx b2 ⟨fun _ _ h _ => h, Nat.le_refl _, fun j n hn => (b3 j n hn).elim (fun z => .inl ⟨j, .inl (up f j n z)⟩) fun z => .inl ⟨i, .inl z⟩, fun j n hn => (b4 j n hn).elim (fun z => .inl ⟨j, up o j n z⟩) fun z => .inl ⟨i, z⟩⟩
omit hG hN in
theorem atI_fzs {xs : List PV} {i : Int} : (atI (fzs xs) i).map fz = (atI xs i).map fz := by
  unfold atI
  rw [fzs_len]
  cases ixN xs.length i with
  | none => rfl
  | some j => simp only [Option.bind_some, fzs_get, Option.map_map]; cases xs[j]? <;> simp [fz_fz]
omit hG hN in
theorem get_okV {P : VH → VV → PV → Prop} {vh1 : VH} {x kv : VV} {p k : PV} {ff oo : List Nat} (rx : R vh1 x p ff oo) (h : okX P vh1 (ixOP (fz p) k) (sIx x kv vh1)) : okX P vh1 (getP p k) (sGet x kv vh1) := by
  cases rx with
  | olst e r =>
    simp only [getP, sGet, e]
    simp only [fz, ixOP, sIx, e] at h
    have e2 : ∀ xs : List PV, ixIP (fzs xs) k = ixIP xs k := fun xs => by
      unfold ixIP
      cases k <;> first | rfl | exact atI_fzs
    rw [e2] at h
    exact h
  | _ => trivial
end
section
variable {vh vh' : VH} {f o f' o' : HL} {σ : SSt} {σp : SV}
theorem kill_inv {i : Option Nat} (I : Inv vh' σ σp f' o') (F : Fr vh f o vh' f' o') : ∃ f2 o2, Inv vh' (killS i σ) (killV i σp) f2 o2 ∧ Fr vh f o vh' f2 o2 := by
  cases i with
  | none => exact ⟨f', o', I, F⟩
  | some i =>
    refine ⟨_, _, I.unset i, F.trans ⟨fun n x hx _ => hx, Nat.le_refl _, fun j n hn => ?_, fun j n hn => ?_⟩⟩
    · by_cases ej : j = i
      · subst ej; rw [updL_same] at hn; cases hn
      · rw [updL_ne ej] at hn; exact .inl ⟨j, .inl hn⟩
    · by_cases ej : j = i
      · subst ej; rw [updL_same] at hn; cases hn
      · rw [updL_ne ej] at hn; exact .inl ⟨j, hn⟩
end
theorem whlX_ok {pt : SV → RX Bool} {pb : SV → RSP} {mt : SSt → VH → Res Bool} {mb : SSt → VH → RS} (ht : ∀ {vh : VH} {f o : HL} {σ : SSt} {σp : SV}, Inv vh σ σp f o → ∃ W vs, EO W vs vh σ f o (fun _ a b ft ot => a = b ∧ ft = [] ∧ ot = []) (pt σp) (mt σ vh)) (hb : ∀ {vh : VH} {f o : HL} {σ : SSt} {σp : SV}, Inv vh σ σp f o → okZ vh f o (pb σp) (mb σ vh)) :
    ∀ (n : Nat) {vh : VH} {f o : HL} {σ : SSt} {σp : SV}, Inv vh σ σp f o → okZ vh f o (whlX pt pb n σp) (whlF mt mb n σ vh)
  | 0, vh, f, o, σ, σp, I => trivial
  | n + 1, vh, f, o, σ, σp, I => by
    simp only [whlX, whlF]
    obtain ⟨W, vs, h⟩ := ht I
    refine h.go fun v p vh1 σp1 f1 o1 ft ot I1 F1 r nx s1 s2 => ?_
    obtain ⟨rfl, _⟩ := r
    cases v with
    | true =>
      simp only [if_true]
      exact (hb I1).loop F1.fr fun I2 F2 => (whlX_ok ht hb n I2).lift (F1.fr.trans F2)
    | false =>
      exact okZ_nx I1 F1.fr
section
mutual
theorem execV_ok : ∀ (s : S) {G : Gam} {V : GV} (hG : GX G V) (hN : V.N = G.N) {vh : VH} {f o : HL} {σ : SSt} {σp : SV}, Inv vh σ σp f o → okZ vh f o (execV V s σp) (exec G s σ vh)
  | .expr e, G, V, hG, hN, vh, f, o, σ, σp, I => by
    simp only [execV, exec]
    split
    · rename_i m i m2 j es
      split
      · rename_i k0 l ei ej
        split
        · rename_i hc
          obtain ⟨c1, c2, c3⟩ := hc
          obtain ⟨_, ni, xi, _, a1, a2, _⟩ := own_get I ei
          obtain ⟨_, nj, xj, _, b1, b2, _⟩ := own_get I ej
          have t1 : tyOk m (.ref ni) vh = true := by cases m <;> first | (cases c1; done) | simp [seqL, a2]
          have t2 : tyOk m2 (.ref nj) vh = true := by cases m2 <;> first | (cases c2; done) | simp [seqL, b2]
          simp only [ev, evs, a1, b1, Res.bind_ok, t1, t2, if_true, Res.bind_go, Res.go_ok]
          refine okX.go I (evsV_ok hG.a hN es I.sr) fun v p vh1 ag h1 => ?_
          split
          · rename_i y l' ep
            split
            · rename_i k ek
              split
              · rename_i k' em
                obtain ⟨n, x, vh2, f', o', ft, ot, d1, d2, d3, d4, d5, d6, d7, d8, d9⟩ := popS_ok (I.agr ag) (Fr.of_agr ag) m2 ej h1 ep
                rw [b1] at d1; cases d1
                obtain ⟨n', vh3, q1, q2, q3, q4⟩ := mutS_ok d4 d5 m ek (args := [x]) (ps := [y]) (fa := ft) (oa := ot) (by simpa using Rs.cons d6 .nil) d7 d8 d9 em
                rw [a1] at q1; cases q1
                rw [d3]
                simp only [Res.go_ok, q3]
                exact q4
              · trivial
            · trivial
          · trivial
        · trivial
      · trivial
    · rename_i m i es hne
      split
      · rename_i l ei
        obtain ⟨_, ni, xi, _, a1, a2, _⟩ := own_get I ei
        split
        · rename_i c1
          have t1 : tyOk m (.ref ni) vh = true := by cases m <;> first | (cases c1; done) | simp [seqL, a2]
          simp only [ev, a1, Res.bind_ok, t1, if_true, Res.bind_go]
          refine okX.go I (evsV_ok hG.a hN es I.sr) fun v p vh1 ag h1 => ?_
          split
          · split
            · rename_i y l' ep
              obtain ⟨n, x, vh2, f', o', ft, ot, d1, d2, d3, d4, d5, _⟩ := popS_ok (I.agr ag) (Fr.of_agr ag) m ei h1 ep
              rw [a1] at d1; cases d1
              rw [d3]
              exact okZ_nx d4 d5
            · trivial
          · obtain ⟨f', o', ft, ot, g1, g2, g3, g4, g5, g6⟩ := settle_ok I ag (Ok1.tup h1)
            split
            · rename_i l2 e2
              split
              · rename_i l' em
                cases g3 with
                | tup rs =>
                  obtain ⟨n, vh2, d1, d2, d3, d4⟩ := mutS_ok g1 g2 m e2 rs g4 g5 (fun n hn => .inr (g6 n hn)) em
                  rw [a1] at d1; cases d1
                  rw [d3]
                  exact d4
              · trivial
            · trivial
        · trivial
      · trivial
    · rename_i m a b es
      split
      · rename_i i l hp
        split
        · rename_i p ep
          split
          · rename_i hc
            obtain ⟨c1, c2⟩ := hc
            obtain ⟨p0, e0⟩ := Option.isSome_iff_exists.mp c1
            obtain ⟨v0, ev0, r0⟩ := I.get ep
            obtain ⟨n0, xs0, _, _, _, _, a1, a2, _⟩ := upd_path l r0 (I.sep.nd i) (I.sep.fo i i) e0
            have t1 : tyOk m (.ref n0) vh = true := by cases m <;> first | (cases c2; done) | simp [seqL, a2]
            have d0 := ev_path G (.ix a b) hp ev0 a1
            have d1 : ev G (.me m (.ix a b) es) σ vh = (evs G es σ vh).bind fun xs vh => sME m (.ref n0) xs vh := by
              show (ev G (.ix a b) σ vh).bind _ = _
              rw [d0]
              simp only [Res.bind_ok, t1, if_true]
            rw [d1]
            simp only [Res.bind_go]
            refine okX.go I (evsV_ok hG.a hN es I.sr) fun args ps vh1 ag h1 => ?_
            split
            · rename_i hfl
              split
              · rename_i p' em
                obtain ⟨fa, oa, ra, _⟩ := h1
                obtain ⟨n, vh2, g1, g2, g3, g4⟩ := mutN_ok (I.agr ag) (Fr.of_agr (f := f) (o := o) ag) G m hp ep ra hfl em
                have g5 := ev_path G (.ix a b) hp ev0 (ixsV_agr ag l a1)
                rw [g5] at g1
                cases g1
                rw [g3]
                exact g4
              · trivial
            · trivial
          · trivial
        · trivial
      · exact okX.go I (evV_ok hG.a hN (.me m (.ix a b) es) I.sr) fun v p vh1 ag h1 => okZ_nx (I.agr ag) (Fr.of_agr ag)
    · exact okX.go I (evV_ok hG.a hN e I.sr) fun v p vh1 ag h1 => okZ_nx (I.agr ag) (Fr.of_agr ag)
  | .asg t e, G, V, hG, hN, vh, f, o, σ, σp, I => by
    simp only [execV]
    split
    · split
      · exact asgE_ok hG hN I
      · exact moveE_ok I
    · exact asgE_ok hG hN I
  | .set i e, G, V, hG, hN, vh, f, o, σ, σp, I => by
    simp only [execV, exec]
    split
    · rename_i m j es
      split
      · rename_i hp
        split
        · rename_i l ej
          obtain ⟨_, nj, xj, _, b1, b2, _⟩ := own_get I ej
          have t2 : tyOk m (.ref nj) vh = true := by cases m <;> first | (cases hp; done) | simp [seqL, b2]
          simp only [ev, b1, Res.bind_ok, t2, if_true, Res.bind_go]
          refine okX.go I (evsV_ok hG.a hN es I.sr) fun v p vh1 ag h1 => ?_
          split
          · rename_i y l' ep
            obtain ⟨n, x, vh2, f', o', ft, ot, d1, d2, d3, d4, d5, d6, d7, d8, d9⟩ := popS_ok (I.agr ag) (Fr.of_agr ag) m ej h1 ep
            rw [b1] at d1; cases d1
            rw [d3]
            obtain ⟨f2, o2, q1, q2, _⟩ := put_ok d4 d5 d6 d7 d8 d9 i
            exact okZ_nx q1 q2
          · trivial
        · trivial
      · refine okX.go I (evV_ok hG.a hN (.me m (.nm j) es) I.sr) fun v p vh1 ag h1 => ?_
        have h1' : Ok1 vh f o (j :: vEs es) vh1 v p := h1
        obtain ⟨f', o', ft, ot, g1, g2, g3, g4, g5, g6⟩ := settle_ok I ag h1'
        obtain ⟨f2, o2, q1, q2, _⟩ := put_ok g1 g2 g3 g4 g5 (fun n hn => .inr (g6 n hn)) i
        exact okZ_nx q1 q2
    · refine okX.go I (evV_ok hG.a hN e I.sr) fun v p vh1 ag h1 => ?_
      obtain ⟨f', o', ft, ot, g1, g2, g3, g4, g5, g6⟩ := settle_ok I ag h1
      obtain ⟨f2, o2, q1, q2, _⟩ := put_ok g1 g2 g3 g4 g5 (fun n hn => .inr (g6 n hn)) i
      exact okZ_nx q1 q2
  | .setLc i elt t it ifs own, G, V, hG, hN, vh, f, o, σ, σp, I => by
    simp only [execV, exec]
    refine okX.go I (evV_ok hG.a hN (.lc elt t it ifs own) I.sr) fun v p vh1 ag h1 => ?_
    obtain ⟨f', o', ft, ot, g1, g2, g3, g4, g5, g6⟩ := settle_ok I ag h1
    obtain ⟨f2, o2, q1, q2, _⟩ := put_ok g1 g2 g3 g4 g5 (fun n hn => .inr (g6 n hn)) i
    exact okZ_nx q1 q2
  | .par i j a b, G, V, hG, hN, vh, f, o, σ, σp, I => by
    simp only [execV, exec]
    refine okX.go I (evV_ok hG.a hN a I.sr) fun v p vh1 a1 h1 => ?_
    refine okX.go0 (Fr.of_agr a1) (I.agr a1) (evV_ok hG.a hN b (I.agr a1).sr) fun u q vh2 a2 h2 => ?_
    have hh := Oks.cons (fun i n hn => I.lt i n hn) h1 a2 a1.len (Oks.cons (vh := vh1) (fun i n hn => (I.agr a1).lt i n hn) h2 (Agr.refl _) a2.len (Oks.nil (vs := [])))
    simp only [List.append_nil] at hh
    obtain ⟨f', o', ft, ot, g1, g2, g3, g4, g5, g6⟩ := settle_ok I (a1.trans a2) (Ok1.tup hh)
    cases g3 with
    | tup rs =>
      cases rs with
      | cons r1 rs =>
        cases rs with
        | cons r2 rs =>
          cases rs
          rename_i fa oa fb ob
          simp only [List.append_nil] at g4 g5 g6
          obtain ⟨n1, n2, n3⟩ := List.nodup_append.mp g4.nd
          obtain ⟨f2, o2, q1, q2, q3, q4⟩ := put_ok g1 g2 r1 ⟨n1, fun n hn hm => g4.d0 n (List.mem_append_left _ hn) (List.mem_append_left _ hm), fun n hn j => g4.d1 n (List.mem_append_left _ hn) j, fun j n hn hm => g4.d2 j n hn (List.mem_append_left _ hm)⟩
            (fun n hn => g5 n (List.mem_append_left _ hn)) (fun n hn => .inr (g6 n (List.mem_append_left _ hn))) i
          obtain ⟨f3, o3, q5, q6, _⟩ := put_ok q1 q2 r2 ⟨n2, fun n hn hm => g4.d0 n (List.mem_append_right _ hn) (List.mem_append_right _ hm), fun n hn j => ⟨fun z => by
              rcases q3 j n z with z | z
              · exact (g4.d1 n (List.mem_append_right _ hn) j).1 z
              · exact g4.d0 n (List.mem_append_right _ hn) (List.mem_append_left _ z), fun z => by
              rcases q4 j n z with z | z
              · exact (g4.d1 n (List.mem_append_right _ hn) j).2 z
              · exact n3 n z n hn rfl⟩, fun j n hn hm => by
              rcases q4 j n hn with z | z
              · exact g4.d2 j n z (List.mem_append_right _ hm)
              · exact g4.d0 n (List.mem_append_left _ z) (List.mem_append_right _ hm)⟩
            (fun n hn => g5 n (List.mem_append_right _ hn)) (fun n hn => .inr (g6 n (List.mem_append_right _ hn))) j
          exact okZ_nx q5 q6
  | .augS a b j e, G, V, hG, hN, vh, f, o, σ, σp, I => by
    simp only [execV]
    split
    · rename_i i
      split
      · rename_i p eq
        obtain ⟨x, ex, rx⟩ := I.get eq
        simp only [exec, ev, ex, Res.go_ok]
        refine okX.go I (evV_ok hG.a hN j I.sr) fun kv k vh1 a1 h1 => ?_
        have I1 := I.agr a1
        have F1 := Fr.of_agr (f := f) (o := o) a1
        have hk := h1.mono (vs := vE j) (ws := [i] ++ vE j) (Nat.le_refl _) mem_r
        obtain ⟨g1, r1, k1⟩ := (rx.agr a1).fz
        have hx : Ok1 vh f o ([i] ++ vE j) vh1 x (fz p) := Ok1.frz r1 fun n hn => .inl ⟨i, by simp, (k1 n).mp hn⟩
        refine okX.go0 F1 I1 (get_okV (rx.agr a1) (ix_ok hx hk)) fun yv y vh2 a2 h2 => ?_
        have I2 := I1.agr a2
        have F2 := F1.trans (Fr.of_agr a2)
        refine okX.go0 F2 I2 (evV_ok hG.a hN e I2.sr) fun zv z vh3 a3 h3 => ?_
        have I3 := I2.agr a3
        have F3 := F2.trans (Fr.of_agr a3)
        refine okX.go0 F3 I3 (aug_okV b (vs := ([i] ++ vE j) ++ vE e) ((h2.mono (ws := ([i] ++ vE j) ++ vE e) (Nat.le_refl _) mem_l).agr a3) (h3.mono (ws := ([i] ++ vE j) ++ vE e) (a1.trans a2).len mem_r)) fun uv u vh4 a4 h4 => ?_
        have I4 := I3.agr a4
        have F4 := F3.trans (Fr.of_agr a4)
        split
        · rename_i p' em
          obtain ⟨fk, ok', rk, _⟩ := h1
          obtain ⟨x', vh5, d1, d2, d3⟩ := setS_ok (vh := vh) (f := f) (o := o) I4 F4 eq (rk.agr (a2.trans (a3.trans a4))) h4 ⟨List.nodup_nil, by simp, by simp, by simp⟩ (by simp) (by simp) em
          rw [ex] at d1; cases d1
          rw [d2]
          exact d3
        · trivial
      · trivial
    · trivial
  | .any, G, V, hG, hN, vh, f, o, σ, σp, I => by trivial
  | .aug i b e, G, V, hG, hN, vh, f, o, σ, σp, I => by
    simp only [execV, exec]
    split
    · rename_i x ex
      obtain ⟨xv, ev1, rx⟩ := I.get ex
      rw [ev1]
      simp only
      refine okX.go I (evV_ok hG.a hN e I.sr) fun v p vh1 ag h1 => ?_
      have fin : ∀ {xv : VV} {x : PV}, Ok1 vh f o (vE e) vh1 xv x → okZ vh f o ((augP b x p).go σp fun z => .nx (σp.set i (some z))) ((sAug b xv v vh1).go σ fun z vh => .nx (σ.set i (some z)) vh) := fun hx => by
        refine okX.go0 (Fr.of_agr ag) (I.agr ag) (aug_okV b hx h1) fun w z vh2 a2 r2 => ?_
        obtain ⟨f2, o2, q1, q2, _⟩ := put_ok ((I.agr ag).agr a2) (Fr.of_agr (ag.trans a2)) r2 ⟨List.nodup_nil, by simp, by simp, by simp⟩ (by simp) (by simp) i
        exact okZ_nx q1 q2
      cases x with
      | int n => generalize f i = fi at rx; generalize o i = oi at rx; cases rx; exact fin (Ok1.sc (.int _))
      | str n => generalize f i = fi at rx; generalize o i = oi at rx; cases rx; exact fin (Ok1.sc (.str _))
      | _ => cases b <;> trivial
    · trivial
  | .ret e, G, V, hG, hN, vh, f, o, σ, σp, I => by
    simp only [execV]
    split
    · rename_i m i es rest
      split
      · split
        · rename_i l ei
          split
          · rename_i hc
            obtain ⟨c1, c2⟩ := hc
            obtain ⟨_, ni, xi, _, a1, a2, _⟩ := own_get I ei
            have t1 : tyOk m (.ref ni) vh = true := by cases m <;> first | (cases c1; done) | simp [seqL, a2]
            simp only [exec, ev, evs, a1, Res.bind_ok, t1, if_true, Res.bind_go]
            refine okX.go I (evsV_ok hG.a hN es I.sr) fun v p vh1 ag h1 => ?_
            split
            · rename_i y l' ep
              obtain ⟨n, x, vh2, f', o', ft, ot, d1, d2, d3, d4, d5, d6, d7, d8, d9⟩ := popS_ok (I.agr ag) (Fr.of_agr ag) m ei h1 ep
              rw [a1] at d1; cases d1
              rw [d3]
              simp only [Res.go_ok]
              refine okX.go0 d5 d4 (evMs_ok hG.a hN rest c2 d4) fun w q vh3 ag3 h3 => ?_
              have el : w.length = q.length := by obtain ⟨_, _, r, _⟩ := h3; exact r.len
              split
              · rename_i hz
                have hz2 : (x :: w).length ≤ lineZ := by rw [List.length_cons, el]; unfold lineZ; omega
                rw [if_pos hz2]
                obtain ⟨f2, o2, r2, nd2, dj2, k2, k3⟩ := h3
                have rlt := d6.lt
                refine ⟨.tup (x :: w), σ, vh3, rfl, ft ++ f2, ot ++ o2, .tup (.cons (d6.agr ag3) r2), List.nodup_append.mpr ⟨d7.nd, nd2, fun a ha b hb z => ?_⟩, fun a ha hb => ?_, fun m' z hm' hk => ag3 m' z (d5.keep m' z hm' hk), Nat.le_trans d5.len ag3.len, fun a ha => ?_, fun a ha => ?_⟩
                · subst z
                  rcases k3 a hb with ⟨j, _, w⟩ | w
                  · exact (d7.d1 a ha j).2 w
                  · have := rlt.2 a ha; omega
                · rcases List.mem_append.mp ha with ha | ha <;> rcases List.mem_append.mp hb with hb | hb
                  · exact d7.d0 a ha hb
                  · rcases k2 a hb with ⟨j, _, w | w⟩ | w
                    · exact (d7.d1 a ha j).1 w
                    · exact (d7.d1 a ha j).2 w
                    · have := rlt.2 a ha; omega
                  · rcases k3 a ha with ⟨j, _, w⟩ | w
                    · exact d7.d2 j a w hb
                    · have := rlt.1 a hb; omega
                  · exact dj2 a ha hb
                · rcases List.mem_append.mp ha with ha | ha
                  · exact d8 a ha
                  · rcases k2 a ha with ⟨j, _, w | w⟩ | w
                    · exact d5.fb j a w
                    · exact (d5.ob j a w).imp_left fun ⟨i, z⟩ => ⟨i, .inr z⟩
                    · exact .inr (Nat.le_trans d5.len w)
                · rcases List.mem_append.mp ha with ha | ha
                  · exact d9 a ha
                  · rcases k3 a ha with ⟨j, _, w⟩ | w
                    · exact d5.ob j a w
                    · exact .inr (Nat.le_trans d5.len w)
              · trivial
            · trivial
          · trivial
        · trivial
      · simp only [exec]
        exact okX.go I (evR_ok hG.a hN _ I) fun v p vh1 ag h1 => ⟨v, σ, vh1, rfl, h1.rt I ag⟩
    · simp only [exec]
      exact okX.go I (evR_ok hG.a hN e I) fun v p vh1 ag h1 => ⟨v, σ, vh1, rfl, h1.rt I ag⟩
  | .ret0, G, V, hG, hN, vh, f, o, σ, σp, I => ⟨_, σ, vh, rfl, [], [], .non, by simp, by simp, fun _ _ h _ => h, Nat.le_refl _, by simp, by simp⟩
  | .ife t a b, G, V, hG, hN, vh, f, o, σ, σp, I => by
    simp only [execV, exec]
    refine okX.go I (tstV_ok hG.a hN t I.sr) fun v p vh1 ag h1 => ?_
    subst h1
    cases v with
    | true => exact (execsV_ok a hG hN (I.agr ag)).lift (Fr.of_agr ag)
    | false => exact (execsV_ok b hG hN (I.agr ag)).lift (Fr.of_agr ag)
  | .whl t b, G, V, hG, hN, vh, f, o, σ, σp, I => by
    simp only [execV, exec, hN]
    exact whl_ok (fun I2 => tstV_ok hG.a hN t I2.sr) (fun I2 => execsV_ok b hG hN I2) G.N I
  | .fr t it b, G, V, hG, hN, vh, f, o, σ, σp, I => by
    simp only [execV, exec]
    refine okX.go I (evIV_ok hG.a hN it I.sr) fun J Jp vh1 ag h1 => ?_
    split
    · rename_i hz
      obtain ⟨pr, k1, k2, k3, k4⟩ := h1
      have hs : ∀ n ∈ pr, (∃ i, n ∈ f i ∨ n ∈ o i) ∨ vh.length ≤ n := fun n hn => (k3 n hn).imp_left fun ⟨i, _, z⟩ => ⟨i, z⟩
      split
      · rename_i hc
        have := for_ok (G := G) (t := t) (mb := execs G b) (pb := execsV V b) (vh0 := vh) (f0 := f) (o0 := o) k1 k2 hs (fun I2 => execsV_ok b hG hN I2) Jp.1.length 0 G.N (by omega) (by rw [← hN]; exact hz) (I.agr ag) (Fr.of_agr ag) (Nat.le_refl _) (fun n hn => ⟨rfl, fun j z => by
          have := k4 hc.1 hc.2 n hn; have := I.own_lt z; omega⟩)
        simpa using this
      · obtain ⟨f', o', I', q0, q1, q2⟩ := (I.agr ag).frz (vI it)
        have F' : Fr vh f o vh1 f' o' := ⟨fun n x hx _ => ag n x hx, ag.len, fun j n hn => .inl ⟨j, q1 j n hn⟩, fun j n hn => .inl ⟨j, q2 j n hn⟩⟩
        have := for_ok (G := G) (t := t) (mb := execs G b) (pb := execsV V b) (vh0 := vh) (f0 := f) (o0 := o) k1 k2 hs (fun I2 => execsV_ok b hG hN I2) Jp.1.length 0 G.N (by omega) (by rw [← hN]; exact hz) I' F' (Nat.le_refl _) (fun n hn => ⟨rfl, fun j z => by
          have hj := q2 j n z
          rcases k3 n hn with ⟨i, hi, w | w⟩ | w
          · exact I.sep.fo j i n hj w
          · by_cases e : i = j
            · subst e; rw [q0 i hi] at z; cases z
            · exact I.sep.oo j i (fun z => e z.symm) n hj w
          · have := I.own_lt hj; omega⟩)
        simpa using this
    · trivial
  | .pass, G, V, hG, hN, vh, f, o, σ, σp, I => okZ_nx I Fr.refl
  | .brk, G, V, hG, hN, vh, f, o, σ, σp, I => ⟨_, _, _, _, rfl, I, Fr.refl⟩
  | .cont, G, V, hG, hN, vh, f, o, σ, σp, I => ⟨_, _, _, _, rfl, I, Fr.refl⟩
  | .raise d, G, V, hG, hN, vh, f, o, σ, σp, I => ⟨(), σ, vh, f, o, rfl, I, Fr.refl⟩
  | .tryc i e b g, G, V, hG, hN, vh, f, o, σ, σp, I => by
    simp only [execV]
    rw [exec_try]
    have hb := execsV_ok b hG hN I
    cases er : execsV V b σp with
    | exc d σp' =>
      rw [er] at hb
      obtain ⟨_, σ', vh', f', o', e1, I', F⟩ := hb
      rw [e1]
      simp only [tryV]
      by_cases hs : subX d e = true
      · rw [if_pos hs, if_pos hs]
        obtain ⟨f2, o2, I2, F2⟩ := kill_inv (i := i) I' F
        have hG2 : GX (G.heat d) (V.heat d) := by
          refine ⟨⟨fun k => ?_, hG.a.gl⟩, fun k => ?_⟩
          · intro vh xs ps fs h
            simp only [Gam.heat, GV.heat]
            by_cases hk : k = hotF
            · rw [if_pos hk, if_pos hk]
              exact ⟨_, vh, rfl, Agr.refl _, [], [], .int _, List.nodup_nil, by simp, by simp, by simp⟩
            · rw [if_neg hk, if_neg hk]
              exact hG.a.fn k vh xs ps fs h
          · intro vh xs ps f o I hio
            simp only [Gam.heat, GV.heat]
            by_cases hk : k = hotF
            · rw [if_pos hk]; trivial
            · rw [if_neg hk, if_neg hk]
              exact hG.fx k vh xs ps f o I hio
        have hg := (execsV_ok g hG2 (show (V.heat d).N = (G.heat d).N from hN) I2).lift F2
        cases eg : execsV (V.heat d) g (killV i σp') with
        | nx σ3 =>
          rw [eg] at hg
          obtain ⟨x, y, z, w, e3, I3, F3⟩ := hg
          rw [e3]
          obtain ⟨f4, o4, I4, F4⟩ := kill_inv (i := i) I3 F3; exact ⟨_, _, f4, o4, rfl, I4, F4⟩
        | bk σ3 =>
          rw [eg] at hg
          obtain ⟨x, y, z, w, e3, I3, F3⟩ := hg
          rw [e3]
          obtain ⟨f4, o4, I4, F4⟩ := kill_inv (i := i) I3 F3; exact ⟨_, _, f4, o4, rfl, I4, F4⟩
        | ct σ3 =>
          rw [eg] at hg
          obtain ⟨x, y, z, w, e3, I3, F3⟩ := hg
          rw [e3]
          obtain ⟨f4, o4, I4, F4⟩ := kill_inv (i := i) I3 F3; exact ⟨_, _, f4, o4, rfl, I4, F4⟩
        | rt p =>
          rw [eg] at hg
          obtain ⟨v, σ2, vh2, e3, b3⟩ := hg
          rw [e3]
          exact ⟨v, σ2, vh2, rfl, b3⟩
        | rx p σ3 =>
          rw [eg] at hg
          obtain ⟨v, x, y, z, w, ft, ot, e3, b3⟩ := hg
          rw [e3]
          exact ⟨v, x, y, z, w, ft, ot, rfl, b3⟩
        | exc _ _ => trivial
        | stuck => trivial
      · rw [if_neg hs, if_neg hs]
        exact ⟨(), σ', vh', f', o', rfl, I', F⟩
    | nx σ3 => rw [er] at hb; obtain ⟨x, y, z, w, e3, I3, F3⟩ := hb; rw [e3]; exact ⟨x, y, z, w, rfl, I3, F3⟩
    | bk σ3 => rw [er] at hb; obtain ⟨x, y, z, w, e3, I3, F3⟩ := hb; rw [e3]; exact ⟨x, y, z, w, rfl, I3, F3⟩
    | ct σ3 => rw [er] at hb; obtain ⟨x, y, z, w, e3, I3, F3⟩ := hb; rw [e3]; exact ⟨x, y, z, w, rfl, I3, F3⟩
    | rt p => rw [er] at hb; obtain ⟨v, σ2, vh2, e3, b3⟩ := hb; rw [e3]; exact ⟨v, σ2, vh2, rfl, b3⟩
    | rx p σ3 => rw [er] at hb; obtain ⟨v, x, y, z, w, ft, ot, e3, b3⟩ := hb; rw [e3]; exact ⟨v, x, y, z, w, ft, ot, rfl, b3⟩
    | stuck => trivial
  | .tryk i e b j, G, V, hG, hN, vh, f, o, σ, σp, I => by
    simp only [execV]
    rw [exec_tryk]
    have hb := execsV_ok b hG hN I
    cases er : execsV V b σp with
    | exc d σp' =>
      rw [er] at hb
      obtain ⟨_, σ', vh', f', o', e1, I', F⟩ := hb
      rw [e1]
      simp only [tryK]
      by_cases hs : subX d e = true
      · rw [if_pos hs, if_pos hs]
        have I1 : Inv (vh' ++ [.exo d]) σ' σp' f' o' := I'.agr (Agr.app _ _)
        have F1 : Fr vh f o (vh' ++ [.exo d]) f' o' := F.trans (Fr.of_agr (Agr.app _ _))
        obtain ⟨f2, o2, I2, F2, _⟩ := put_ok I1 F1 (i := j) (v := .ref vh'.length) (p := .exo d) (ft := [vh'.length]) (ot := []) (.exo (by simp)) ⟨List.nodup_nil, by simp, by simp, fun i n hn hm => by
          rw [List.mem_singleton.mp hm] at hn
          have := I'.lt i _ (.inr hn)
          omega⟩ (fun n hn => .inr (by rw [List.mem_singleton.mp hn]; exact F.len)) (by simp)
        obtain ⟨f3, o3, I3, F3⟩ := kill_inv (i := some i) I2 F2
        exact ⟨_, _, f3, o3, rfl, I3, F3⟩
      · rw [if_neg hs, if_neg hs]
        exact ⟨(), σ', vh', f', o', rfl, I', F⟩
    | nx σ3 => rw [er] at hb; obtain ⟨x, y, z, w, e3, I3, F3⟩ := hb; rw [e3]; exact ⟨x, y, z, w, rfl, I3, F3⟩
    | bk σ3 => rw [er] at hb; obtain ⟨x, y, z, w, e3, I3, F3⟩ := hb; rw [e3]; exact ⟨x, y, z, w, rfl, I3, F3⟩
    | ct σ3 => rw [er] at hb; obtain ⟨x, y, z, w, e3, I3, F3⟩ := hb; rw [e3]; exact ⟨x, y, z, w, rfl, I3, F3⟩
    | rt p => rw [er] at hb; obtain ⟨v, σ2, vh2, e3, b3⟩ := hb; rw [e3]; exact ⟨v, σ2, vh2, rfl, b3⟩
    | rx p σ3 => rw [er] at hb; obtain ⟨v, x, y, z, w, ft, ot, e3, b3⟩ := hb; rw [e3]; exact ⟨v, x, y, z, w, ft, ot, rfl, b3⟩
    | stuck => trivial
  | .fx s, G, V, hG, hN, vh, f, o, σ, σp, I => by
    cases s with
    | expr e =>
      simp only [execV, exec]
      exact (evX_ok hG hN e I).go fun v p vh1 σp1 f1 o1 ft ot I1 F1 r nx s1 s2 => okZ_nx I1 F1.fr
    | set i e => exact setX_ok hG hN I
    | asg t e => exact asgX_ok hG hN I
    | ret e => exact retX_ok hG hN I
    | ret0 => exact ⟨_, σ, vh, f, o, [], [], rfl, I, Fr.refl, .non, ⟨List.nodup_nil, by simp, by simp, by simp⟩, by simp, by simp⟩
    | ife t a b =>
      simp only [execV, exec]
      obtain ⟨W, vs, h⟩ := tstX_ok hG hN t I
      refine h.go fun v p vh1 σp1 f1 o1 ft ot I1 F1 r nx s1 s2 => ?_
      obtain ⟨rfl, _⟩ := r
      cases v with
      | true => exact (execsV_ok a hG hN I1).lift F1.fr
      | false => exact (execsV_ok b hG hN I1).lift F1.fr
    | whl t b =>
      simp only [execV, exec, hN]
      exact whlX_ok (fun I2 => tstX_ok hG hN t I2) (fun I2 => execsV_ok b hG hN I2) G.N I
    | fr t it b =>
      cases it with
      | sq e =>
        have general : okZ vh f o ((evX V e σp).go fun x σ => match x with
            | .tup xs => if xs.length < V.N ∧ clos (fzs xs) = true then forV (frV (asgV t) (execsV V b)) (fzs xs) σ else .stuck
            | _ => .stuck) (exec G (.fr t (.sq e) b) σ vh) := by
          simp only [exec, evI, Res.bind_go]
          refine (evX_ok hG hN e I).go fun v p vh1 σp1 f1 o1 ft ot I1 F1 r nx s1 s2 => ?_
          cases p with
          | tup xs =>
            cases r with
            | tup rs =>
              simp only
              split
              · rename_i hc
                obtain ⟨g, r1, k1⟩ := rs.fz
                have e := r1.clo hc.2
                subst e
                simp only [Res.go_ok]
                have el : (fzs xs).length = xs.length := fzs_len xs
                rename_i vs
                have := for_ok (G := G) (t := t) (mb := execs G b) (pb := execsV V b) (vh0 := vh) (f0 := f) (o0 := o) (vhs := vh1) (pr := []) (items := fzs xs) (it := .tup vs) (fun vh'' _ => by
                  have r2 : Rs vh'' vs (fzs xs) [] [] := r1.same (by simp)
                  refine ⟨fun i p hp => ?_, ?_⟩
                  · obtain ⟨x, f1, o1, a1, a2, a3, a4⟩ := r2.get hp
                    have e1 : o1 = [] := List.sublist_nil.mp a4
                    subst e1
                    exact ⟨x, by simp only [Ito.nx, a1], f1, a2, fun n hn => a3 n hn⟩
                  · simp only [Ito.nx]
                    rw [List.getElem?_eq_none (by rw [r2.len]; exact Nat.le_refl _)]) (by simp) (by simp) (fun I2 => execsV_ok b hG hN I2) (fzs xs).length 0 G.N (by omega) (by rw [el, ← hN]; exact hc.1) I1 F1.fr (Nat.le_refl _) (by simp)
                simpa using this
              · trivial
          | _ => trivial
        cases e with
        | nm j =>
          simp only [execV]
          split
          · rename_i hc
            obtain ⟨c1, c2, c3⟩ := hc
            obtain ⟨qs, eq⟩ := Option.isSome_iff_exists.mp c1
            have ho : σp[j]? = some (some (.lst true qs)) := by
              unfold ownL at eq
              split at eq
              · rename_i eo; cases eq; exact eo
              · cases eq
            obtain ⟨v, e1, rr⟩ := I.get ho
            generalize f j = fj at rr
            generalize o j = oj at rr
            cases rr with
            | olst e2 rs =>
              rename_i r xs oo
              have el : (seqL vh r).isSome = true := by simp only [seqL, e2, Option.isSome_some]
              simp only [exec, evI, ev, e1, Res.bind_ok, el, if_true, Res.go_ok, hN]
              refine forO_ok (fun I2 => execsV_ok b hG hN I2) (fun x σ vh => ?_) G.N 0 e1 I Fr.refl
              refine (keepT G t x σ vh ?_).seq fun σ vh => keepXs b G σ vh c2
              rw [List.all_eq_true]
              intro i hi
              simp only [Bool.not_eq_true', List.contains_cons, List.contains_nil, Bool.or_false, beq_eq_false_iff_ne]
              rintro rfl
              rw [List.contains_iff_mem.mpr hi] at c3
              cases c3
          · trivial
        | _ => exact general
      | _ => trivial
    | _ => trivial
theorem execsV_ok : ∀ (s : Ss) {G : Gam} {V : GV} (hG : GX G V) (hN : V.N = G.N) {vh : VH} {f o : HL} {σ : SSt} {σp : SV}, Inv vh σ σp f o → okZ vh f o (execsV V s σp) (execs G s σ vh)
  | .nil, G, V, hG, hN, vh, f, o, σ, σp, I => okZ_nx I Fr.refl
  | .cons s r, G, V, hG, hN, vh, f, o, σ, σp, I => by
    simp only [execsV, execs]
    exact (execV_ok s hG hN I).seq fun I2 => execsV_ok r hG hN I2
end
end
end Fe
namespace Fe
open PySem PySem.Spec PyProof.Rows L2
theorem start_slot {vh : VH} {fs : List Nat} : ∀ {xs : List VV} {ps : List PV} (m : Nat), Fz vh xs ps (· ∈ fs) → ∀ i : Nat, ∃ l : List Nat, match (ps.map some ++ List.replicate m none)[i]? with
    | some (some p) => ∃ v, (xs.map some ++ List.replicate m none)[i]? = some (some v) ∧ R vh v p l [] ∧ ∀ n ∈ l, n ∈ fs
    | _ => l = []
  | [], [], m, h, i => by
    refine ⟨[], ?_⟩
    simp only [List.map_nil, List.nil_append, List.getElem?_replicate]
    split
    · rename_i e; split at e <;> cases e
    · trivial
  | [], _ :: _, m, h, i => by have := h.len; simp at this
  | _ :: _, [], m, h, i => by have := h.len; simp at this
  | x :: xs, p :: ps, m, h, 0 => by
    obtain ⟨⟨f1, r, k⟩, t⟩ := h.cons_inv
    exact ⟨f1, by simpa using ⟨r, k⟩⟩
  | x :: xs, p :: ps, m, h, i + 1 => by
    obtain ⟨_, t⟩ := h.cons_inv
    obtain ⟨l, hl⟩ := start_slot m t i
    exact ⟨l, by simpa using hl⟩
mutual
theorem toP_ok : ∀ (v : VV) {p : PV} (vh : VH), toP v = some p → R vh v p [] []
  | .non, p, vh, h => by cases h; exact .non
  | .bl b, p, vh, h => by cases h; exact .bl b
  | .int b, p, vh, h => by cases h; exact .int b
  | .str b, p, vh, h => by cases h; exact .str b
  | .tup xs, p, vh, h => by
    simp only [toP, Option.map_eq_some_iff] at h
    obtain ⟨ps, h, rfl⟩ := h
    exact .tup (toPs_ok xs vh h)
  | .ref n, p, vh, h => by cases h
theorem toPs_ok : ∀ (v : List VV) {p : List PV} (vh : VH), toPs v = some p → Rs vh v p [] []
  | [], p, vh, h => by cases h; exact .nil
  | x :: xs, p, vh, h => by
    simp only [toPs] at h
    split at h
    · rename_i q qs e1 e2
      cases h
      simpa using Rs.cons (toP_ok x vh e1) (toPs_ok xs vh e2)
    · cases h
end
theorem fnX_fnV {io : List Nat} {F : List VV → VH → Res VV} {X : List PV → RIO} (h : FnX io F X) : FnV F (fun ps => (X (fzs ps)).rp) := by
  intro vh xs ps fs hr
  have h' : Fz vh xs (fzs ps) (· ∈ fs) := hr.toFz.imp fun n hn => hn.elim (fun z => z) (by simp)
  obtain ⟨fl, hf⟩ := Classical.axiomOfChoice (start_slot 0 h')
  have I : Inv vh (xs.map some) ((fzs ps).map some) fl fun _ => [] := by
    refine ⟨⟨by simp [h'.len], fun i => ?_⟩, ⟨fun _ => List.nodup_nil, (fun _ _ _ _ hn => by cases hn), (fun _ _ _ hn => by cases hn)⟩⟩
    have := hf i
    simp only [List.replicate_zero, List.append_nil] at this
    revert this
    generalize ((fzs ps).map some)[i]? = z
    cases z with
    | none => exact fun this => ⟨this, rfl⟩
    | some q =>
      cases q with
      | none => exact fun this => ⟨this, rfl⟩
      | some p => exact fun ⟨v, e3, r, _⟩ => ⟨v, e3, r⟩
  have src : ∀ j n, n ∈ fl j → n ∈ fs := fun j n hn => by
    have := hf j
    split at this
    · obtain ⟨v, _, _, z⟩ := this; exact z n hn
    · rw [this] at hn; cases hn
  have := h vh xs (fzs ps) fl (fun _ => []) I (fun _ _ => rfl)
  show okX _ vh (X (fzs ps)).rp (F xs vh)
  cases er : X (fzs ps) with
  | ok p ios =>
    rw [er] at this
    obtain ⟨v, vh', f', o', ft, ot, e1, I', F, r, nw, s1, s2⟩ := this
    refine ⟨v, vh', e1, fun n x hx => F.keep n x hx (by simp), ft, ot, r, nw.nd, nw.d0, fun n hn => ?_, fun n hn => ?_⟩
    · rcases s1 n hn with ⟨i, z | z⟩ | z
      · exact .inl (src i n z)
      · cases z
      · exact .inr z
    · rcases s2 n hn with ⟨i, z⟩ | z
      · cases z
      · exact z
  | exc c ios =>
    rw [er] at this
    obtain ⟨vh', f', o', e1, I', F⟩ := this
    exact ⟨(), vh', e1, fun n x hx => F.keep n x hx (by simp)⟩
  | stuck => trivial
theorem mask_get (io : List Nat) : ∀ (σ : SV) (k i : Nat), (maskI io k σ)[i]? = if io.contains (k + i) = true then σ[i]? else (σ[i]?).map fun _ => none
  | [], k, i => by simp [maskI]
  | x :: σ, k, 0 => by
    simp only [maskI, List.getElem?_cons_zero, Nat.add_zero]
    split <;> rfl
  | x :: σ, k, i + 1 => by
    simp only [maskI, List.getElem?_cons_succ]
    rw [mask_get io σ (k + 1) i, Nat.add_right_comm, Nat.add_assoc]
theorem mask_len (io : List Nat) : ∀ (σ : SV) (k : Nat), (maskI io k σ).length = σ.length
  | [], k => rfl
  | x :: σ, k => by simp [maskI, mask_len io σ (k + 1)]
/-- the state at a def's end, of its in-out parameters alone -/
theorem mask_inv {vh' : VH} {σ' : SSt} {σp' : SV} {f' o' : HL} {io : List Nat} {xs : List VV} {m : Nat} (I : Inv vh' σ' σp' f' o') (hl : σ'.length = xs.length + m) (hk : ∀ i ∈ io, σ'[i]? = (xs.map some ++ List.replicate m none)[i]?) :
    ∃ f2 o2, Inv vh' (xs.map some) (maskI io 0 (σp'.take xs.length)) f2 o2 ∧ (∀ j n, n ∈ f2 j → n ∈ f' j) ∧ ∀ j n, n ∈ o2 j → n ∈ o' j := by
  obtain ⟨F, hF⟩ : ∃ F : HL, ∀ i, F i = if i ∈ io ∧ i < xs.length then f' i else [] := ⟨_, fun _ => rfl⟩
  obtain ⟨O, hO⟩ : ∃ O : HL, ∀ i, O i = if i ∈ io ∧ i < xs.length then o' i else [] := ⟨_, fun _ => rfl⟩
  refine ⟨F, O, ⟨⟨?_, fun i => ?_⟩, ⟨fun i => ?_, fun i j hij n hn hm => ?_, fun i j n hn hm => ?_⟩⟩, fun j n hn => ?_, fun j n hn => ?_⟩
  · have := I.sr.1
    rw [mask_len, List.length_take, List.length_map]
    omega
  · rw [mask_get, Nat.zero_add, hF, hO]
    by_cases hi : i ∈ io ∧ i < xs.length
    · rw [if_pos hi, if_pos hi, if_pos (by simpa using hi.1)]
      rw [List.getElem?_take_of_lt hi.2]
      have h1 := I.sr.2 i
      have h2 := hk i hi.1
      rw [List.getElem?_append_left (by simpa using hi.2)] at h2
      rw [h2] at h1
      exact h1
    · rw [if_neg hi, if_neg hi]
      have : (if io.contains i = true then (σp'.take xs.length)[i]? else ((σp'.take xs.length)[i]?).map fun _ => none) = none ∨ (if io.contains i = true then (σp'.take xs.length)[i]? else ((σp'.take xs.length)[i]?).map fun _ => none) = some none := by
        by_cases hl2 : i < xs.length
        · have : ¬ io.contains i = true := by simpa using fun z => hi ⟨z, hl2⟩
          rw [if_neg this]
          cases (σp'.take xs.length)[i]? with
          | none => exact .inl rfl
          | some _ => exact .inr rfl
        · rw [List.getElem?_eq_none (by rw [List.length_take]; omega)]
          split <;> exact .inl rfl
      rcases this with e | e <;> rw [e] <;> exact ⟨rfl, rfl⟩
  · rw [hO]
    split
    · exact I.sep.nd i
    · exact List.nodup_nil
  · rw [hO] at hn hm
    split at hn
    · split at hm
      · exact I.sep.oo i j hij n hn hm
      · cases hm
    · cases hn
  · rw [hO] at hn
    rw [hF] at hm
    split at hn
    · split at hm
      · exact I.sep.fo i j n hn hm
      · cases hm
    · cases hn
  · rw [hF] at hn
    split at hn
    · exact hn
    · cases hn
  · rw [hO] at hn
    split at hn
    · exact hn
    · cases hn
theorem start_inv {vh : VH} {xs : List VV} {ps : List PV} {f o : HL} (I : Inv vh (xs.map some) (ps.map some) f o) (m : Nat) : Inv vh (xs.map some ++ List.replicate m none) (ps.map some ++ List.replicate m none) f o := by
  have hl : xs.length = ps.length := by simpa using I.sr.1
  refine ⟨⟨by simp [hl], fun i => ?_⟩, I.sep⟩
  have := I.sr.2 i
  by_cases hi : i < ps.length
  · rw [List.getElem?_append_left (by simpa using hi), List.getElem?_append_left (by simpa [hl] using hi)]
    exact this
  · rw [List.getElem?_eq_none (by simpa using hi)] at this
    rw [List.getElem?_append_right (by simpa using hi), List.getElem?_replicate]
    split
    · rename_i e; split at e <;> cases e
    · exact this
theorem callX_ok (P : Pg) : ∀ (k g : Nat), FnX (match P.fn g with | some d => d.io | none => []) (callF P k g) (callX P k g)
  | 0, g => fun vh xs ps f o I h => trivial
  | k + 1, g => fun vh xs ps f o I h => by
    simp only [callX, callF]
    have hl : xs.length = ps.length := by simpa using I.sr.1
    cases e : P.fn g with
    | none => trivial
    | some d =>
      rw [e] at h
      simp only at h ⊢
      by_cases hc : ps.length = d.np ∧ noasSs d.io d.body = true
      · rw [if_pos hc, if_pos (by omega)]
        obtain ⟨c1, c2⟩ := hc
        have I0 := start_inv I (d.nl - d.np)
        have hG : GX ⟨callF P k, P.gl, P.N⟩ (gvm P (callX P k) d.io) := ⟨⟨fun g => fnX_fnV (callX_ok P k g), fun j p hj => by
            simp only [gvm, Option.bind_eq_some_iff] at hj
            obtain ⟨v, h1, h2⟩ := hj
            exact ⟨v, h1, fun vh => toP_ok v vh h2⟩⟩, fun g => callX_ok P k g⟩
        have ok := execsV_ok d.body hG rfl I0
        have kp := keepXs (io := d.io) d.body ⟨callF P k, P.gl, P.N⟩ (xs.map some ++ List.replicate (d.nl - d.np) none) vh c2
        have np : d.np = xs.length := by omega
        have len : ∀ {vh' : VH} {σ' : SSt} {σp' : SV} {f' o' : HL}, Inv vh' σ' σp' f' o' → True := fun _ => trivial
        have nil0 : d.io = [] → ∀ i, o i = [] := fun z i => h i (by rw [z]; simp)
        generalize hgv : gvm P (callX P k) d.io = V at ok
        have slen := execs_len d.body ⟨callF P k, P.gl, P.N⟩ (xs.map some ++ List.replicate (d.nl - d.np) none) vh
        cases er : execsV V d.body (ps.map some ++ List.replicate (d.nl - d.np) none) with
        | nx σ =>
          rw [er] at ok
          obtain ⟨σ', vh', f', o', e1, I', F⟩ := ok
          rw [e1] at kp slen ⊢
          obtain ⟨f2, o2, I2, a1, a2⟩ := mask_inv (io := d.io) I' (show σ'.length = xs.length + (d.nl - d.np) by rw [slen]; simp) kp
          simp only [finX, runB]
          rw [np]
          exact ⟨.non, vh', f2, o2, [], [], rfl, I2, ⟨F.keep, F.len, fun j n hn => F.fb j n (a1 j n hn), fun j n hn => F.ob j n (a2 j n hn)⟩, .non, ⟨List.nodup_nil, by simp, by simp, by simp⟩, by simp, by simp⟩
        | rt p =>
          rw [er] at ok
          obtain ⟨v, σ', vh', e1, ft, ot, r, a1, a2, a3, a4, a5, a6⟩ := ok
          rw [e1]
          simp only [finX, runB]
          by_cases hio : d.io = []
          · rw [if_pos hio]
            have o0 := nil0 hio
            refine ⟨v, vh', fun _ => [], fun _ => [], ft, ot, rfl, ⟨⟨by simp [np], fun i => ?_⟩, ⟨fun _ => List.nodup_nil, (fun _ _ _ _ hn => by cases hn), (fun _ _ _ hn => by cases hn)⟩⟩, ⟨a3, a4, (fun _ _ hn => by cases hn), (fun _ _ hn => by cases hn)⟩, r, ⟨a1, a2, by simp, by simp⟩, a5, a6⟩
            rw [List.getElem?_replicate]
            split
            · rename_i e; split at e <;> cases e
            · exact ⟨rfl, rfl⟩
          · rw [if_neg hio]; trivial
        | rx p σ =>
          rw [er] at ok
          obtain ⟨v, σ', vh', f', o', ft, ot, e1, I', F, r, nw, s1, s2⟩ := ok
          rw [e1] at kp slen ⊢
          obtain ⟨f2, o2, I2, a1, a2⟩ := mask_inv (io := d.io) I' (show σ'.length = xs.length + (d.nl - d.np) by rw [slen]; simp) kp
          simp only [finX, runB]
          rw [np]
          exact ⟨v, vh', f2, o2, ft, ot, rfl, I2, ⟨F.keep, F.len, fun j n hn => F.fb j n (a1 j n hn), fun j n hn => F.ob j n (a2 j n hn)⟩, r, ⟨nw.nd, nw.d0, fun n hn j => ⟨fun z => (nw.d1 n hn j).1 (a1 j n z), fun z => (nw.d1 n hn j).2 (a2 j n z)⟩, fun j n hn => nw.d2 j n (a2 j n hn)⟩, s1, s2⟩
        | exc c σ =>
          rw [er] at ok
          obtain ⟨fs', σ', vh', f', o', e1, I', F⟩ := ok
          rw [e1] at kp slen ⊢
          obtain ⟨f2, o2, I2, a1, a2⟩ := mask_inv (io := d.io) I' (show σ'.length = xs.length + (d.nl - d.np) by rw [slen]; simp) kp
          simp only [finX, runB]
          rw [np]
          exact ⟨vh', f2, o2, rfl, I2, ⟨F.keep, F.len, fun j n hn => F.fb j n (a1 j n hn), fun j n hn => F.ob j n (a2 j n hn)⟩⟩
        | bk σ => trivial
        | ct σ => trivial
        | stuck => trivial
      · rw [if_neg hc]; trivial
theorem callV_ok (P : Pg) (k f : Nat) : FnV (callF P k f) (callV P k f) := fnX_fnV (callX_ok P k f)
theorem ints_R {vh : VH} : ∀ ns : List Int, Rs vh (ns.map VV.int) (ns.map PV.int) [] []
  | [] => .nil
  | n :: ns => by simpa using Rs.cons (.int n) (ints_R ns)
/-- a law, by its meaning without a heap -/
theorem main_of {P : Pg} {k f : Nat} {ns : List Int} (h : callV P k f [.scr (ns.map .int)] = .ok (.bl true)) : ∃ vh', callF P k f [.ref 0] [.rol (ns.map .int)] = .ok (.bl true) vh' := by
  have := callV_ok P k f [.rol (ns.map .int)] [.ref 0] [.scr (ns.map .int)] [0] (by simpa using Rs.cons (.scr (n := 0) rfl (ints_R ns)) .nil)
  rw [h] at this
  obtain ⟨v, vh', e, _, ft, ot, r, _⟩ := this
  cases r
  exact ⟨vh', e⟩
theorem fin_run {np : Nat} {r : RSP} : (finX [] np r).rp = runV r := by cases r <;> rfl
mutual
theorem noas_nil : ∀ s : S, noasS [] s = true
  | .expr _ => rfl
  | .asg _ _ => by simp [noasS]
  | .set _ _ => by simp [noasS]
  | .setLc _ _ _ _ _ _ => by simp [noasS]
  | .par _ _ _ _ => by simp [noasS]
  | .aug _ _ _ => by simp [noasS]
  | .ret _ => rfl
  | .ret0 => rfl
  | .ife _ a b => by simp [noasS, noass_nil a, noass_nil b]
  | .whl _ b => by simp [noasS, noass_nil b]
  | .fr _ _ b => by simp [noasS, noass_nil b]
  | .augS _ _ _ _ => rfl
  | .any => rfl
  | .pass => rfl
  | .brk => rfl
  | .cont => rfl
  | .raise _ => rfl
  | .tryc i _ b h => by cases i <;> simp [noasS, noass_nil b, noass_nil h]
  | .tryk i _ b h => by simp [noasS, noass_nil b]
  | .fx s => by simp [noasS, noas_nil s]
theorem noass_nil : ∀ s : Ss, noasSs [] s = true
  | .nil => rfl
  | .cons s r => by simp [noasSs, noas_nil s, noass_nil r]
end
theorem callV_eqX {P : Pg} {k f : Nat} {ps : List PV} {d : Df} (e : P.fn f = some d) (h : ps.length = d.np) (hio : d.io = [] := by rfl) : callV P (k + 1) f ps = runV (execsV (gv P k) d.body ((fzs ps).map some ++ List.replicate (d.nl - d.np) none)) := by
  simp only [callV, callX, e, hio]
  rw [if_pos ⟨by rw [fzs_len]; exact h, noass_nil d.body⟩, fin_run]; rfl
theorem callX_eq {P : Pg} {k f : Nat} {ps : List PV} {d : Df} (e : P.fn f = some d) (h : ps.length = d.np) (hn : noasSs d.io d.body = true) : callX P (k + 1) f ps = finX d.io d.np (execsV (gvm P (callX P k) d.io) d.body (ps.map some ++ List.replicate (d.nl - d.np) none)) := by
  simp only [callX, e]
  rw [if_pos ⟨h, hn⟩]
def GV.core (G : GV) : GV := { G with io := fun _ => [], fx := fun _ _ => .stuck, mine := [] }
def gvO (P : Pg) (F : Nat → List PV → RP PV) : GV := { fn := F, N := P.N, gl := fun j => (P.gl j).bind toP, io := fun _ => [], fx := fun _ _ => .stuck, mine := [] }
theorem gv_core (P : Pg) (k : Nat) : (gv P k).core = gvO P (callV P k) := rfl
theorem heat_core (G : GV) (d : Nat) : (G.heat d).core = G.core.heat d := by
  unfold GV.core GV.heat
  simp
mutual
theorem evV_core (G : GV) : ∀ (e : E) (σ : SV), evV G.core e σ = evV G e σ
  | .nm _, σ => rfl
  | .gl _, σ => rfl
  | .cn _, σ => rfl
  | .bin o a b, σ => by simp only [evV, evV_core G a, evV_core G b]
  | .neg a, σ => by simp only [evV, evV_core G a] <;> rfl
  | .cmp o a b, σ => by simp only [evV, evV_core G a, evV_core G b]
  | .chain o1 o2 a b c, σ => by simp only [evV, evV_core G a, evV_core G b, evV_core G c] <;> rfl
  | .one a, σ => by simp only [evV, evV_core G a]
  | .and a b, σ => by simp only [evV, evV_core G a, evV_core G b] <;> rfl
  | .or a b, σ => by simp only [evV, evV_core G a, evV_core G b] <;> rfl
  | .not a, σ => by simp only [evV, evV_core G a] <;> rfl
  | .ife t a b, σ => by simp only [evV, tstV_core G t, evV_core G a, evV_core G b] <;> rfl
  | .tup es, σ => by simp only [evV, evsV_core G es] <;> rfl
  | .lst es, σ => by simp only [evV, evsV_core G es] <;> rfl
  | .dnew, σ => rfl
  | .ix a b, σ => by simp only [evV, evV_core G a, evV_core G b]
  | .slc a lo hi, σ => by simp only [evV, evV_core G a, evoV_core G lo, evoV_core G hi]
  | .call f es, σ => by simp only [evV, evsV_core G es]; rfl
  | .bi f es, σ => by simp only [evV, evsV_core G es]
  | .me m o es, σ => by simp only [evV, evV_core G o, evsV_core G es] <;> rfl
  | .o1 k a, σ => by simp only [evV, evV_core G a]
  | .isi a t, σ => by simp only [evV, evV_core G a]
  | .isv a t, σ => by simp only [evV, evV_core G a]
  | .lc elt t it ifs own, σ => by
    have h1 : evV G.core elt = evV G elt := funext fun σ => evV_core G elt σ
    have h2 : tstsV G.core ifs = tstsV G ifs := funext fun σ => tstsV_core G ifs σ
    simp only [evV, evIV_core G it, h1, h2]; rfl
  | .isx cs, σ => rfl
theorem evsV_core (G : GV) : ∀ (e : Es) (σ : SV), evsV G.core e σ = evsV G e σ
  | .nil, σ => rfl
  | .cons e es, σ => by simp only [evsV, evV_core G e, evsV_core G es]
theorem evoV_core (G : GV) : ∀ (e : Oe) (σ : SV), evoV G.core e σ = evoV G e σ
  | .none, σ => rfl
  | .some e, σ => by simp only [evoV, evV_core G e] <;> rfl
theorem tstV_core (G : GV) : ∀ (e : B) (σ : SV), tstV G.core e σ = tstV G e σ
  | .cmp o a b, σ => by simp only [tstV, evV_core G a, evV_core G b] <;> rfl
  | .chain o1 o2 a b c, σ => by simp only [tstV, evV_core G a, evV_core G b, evV_core G c] <;> rfl
  | .one a, σ => by simp only [tstV, tstV_core G a]
  | .and a b, σ => by simp only [tstV, tstV_core G a, tstV_core G b] <;> rfl
  | .or a b, σ => by simp only [tstV, tstV_core G a, tstV_core G b] <;> rfl
  | .not a, σ => by simp only [tstV, tstV_core G a]
  | .tr e, σ => by simp only [tstV, evV_core G e] <;> rfl
theorem tstsV_core (G : GV) : ∀ (e : Bs) (σ : SV), tstsV G.core e σ = tstsV G e σ
  | .nil, σ => rfl
  | .one b, σ => by simp only [tstsV, tstV_core G b]
theorem evIV_core (G : GV) : ∀ (e : I) (σ : SV), evIV G.core e σ = evIV G e σ
  | .sq e, σ => by simp only [evIV, evV_core G e] <;> rfl
  | .rng1 a, σ => by simp only [evIV, evV_core G a]
  | .rng2 a b, σ => by simp only [evIV, evV_core G a, evV_core G b]
  | .rev e, σ => by simp only [evIV, evV_core G e] <;> rfl
  | .zip a b, σ => by simp only [evIV, evV_core G a, evV_core G b]
  | .enum a, σ => by simp only [evIV, evV_core G a] <;> rfl
end
mutual
theorem evM_core (G : GV) : ∀ (e : E) (σ : SV), evM G.core e σ = evM G e σ
  | .nm _, σ => rfl
  | .tup es, σ => by simp only [evM, evMs_core G es] <;> rfl
  | .gl _, σ => rfl
  | .cn _, σ => rfl
  | .bin o a b, σ => by simp only [evM, evV_core]
  | .neg a, σ => by simp only [evM, evV_core]
  | .cmp o a b, σ => by simp only [evM, evV_core]
  | .chain o1 o2 a b c, σ => by simp only [evM, evV_core]
  | .one a, σ => by simp only [evM, evV_core]
  | .and a b, σ => by simp only [evM, evV_core]
  | .or a b, σ => by simp only [evM, evV_core]
  | .not a, σ => by simp only [evM, evV_core]
  | .ife t a b, σ => by simp only [evM, evV_core]
  | .lst es, σ => by simp only [evM, evV_core]
  | .dnew, σ => rfl
  | .ix a b, σ => by simp only [evM, evV_core]
  | .slc a lo hi, σ => by simp only [evM, evV_core]
  | .call f es, σ => by simp only [evM, evV_core]
  | .bi f es, σ => by simp only [evM, evV_core]
  | .me m o es, σ => by simp only [evM, evV_core]
  | .o1 k a, σ => by simp only [evM, evV_core]
  | .isi a t, σ => by simp only [evM, evV_core]
  | .isv a t, σ => by simp only [evM, evV_core]
  | .lc elt t it ifs own, σ => by simp only [evM, evV_core]
  | .isx cs, σ => by simp only [evM, evV_core]
theorem evMs_core (G : GV) : ∀ (e : Es) (σ : SV), evMs G.core e σ = evMs G e σ
  | .nil, σ => rfl
  | .cons e es, σ => by simp only [evMs, evM_core G e, evMs_core G es]
end
mutual
def nofxS : S → Bool
  | .fx _ => false
  | .ife _ a b => nofxSs a && nofxSs b
  | .whl _ b => nofxSs b
  | .fr _ _ b => nofxSs b
  | .tryc _ _ b h => nofxSs b && nofxSs h
  | .tryk _ _ b _ => nofxSs b
  | _ => true
def nofxSs : Ss → Bool
  | .nil => true
  | .cons s r => nofxS s && nofxSs r
end
theorem asgE_core (G : GV) (t : T) (e : E) (σ : SV) : asgE G.core t e σ = asgE G t e σ := by
  unfold asgE
  simp only [evV_core]
mutual
theorem execV_core (G : GV) : ∀ (s : S) (σ : SV), nofxS s = true → execV G.core s σ = execV G s σ
  | .expr e, σ, h => by
    simp only [execV]
    split <;> simp only [evV_core, evsV_core]
  | .asg t e, σ, h => by
    simp only [execV]
    split <;> simp only [asgE_core]
  | .set i e, σ, h => by
    simp only [execV]
    split <;> simp only [evV_core, evsV_core]
  | .setLc i elt t it ifs own, σ, h => by
    have h1 : evV G.core elt = evV G elt := funext fun σ => evV_core G elt σ
    have h2 : tstsV G.core ifs = tstsV G ifs := funext fun σ => tstsV_core G ifs σ
    simp only [execV, evIV_core G it, h1, h2]; rfl
  | .par i j a b, σ, h => by simp only [execV, evV_core]
  | .aug i o e, σ, h => by simp only [execV, evV_core]
  | .ret e, σ, h => by
    simp only [execV]
    split <;> simp only [evV_core, evsV_core, evMs_core, evM_core, evR]
  | .ret0, σ, h => rfl
  | .ife t a b, σ, h => by
    simp only [nofxS, Bool.and_eq_true] at h
    simp only [execV, tstV_core, fun σ => execsV_core G a σ h.1, fun σ => execsV_core G b σ h.2]
  | .whl t b, σ, h => by
    have h1 : tstV G.core t = tstV G t := funext fun σ => tstV_core G t σ
    have h2 : execsV G.core b = execsV G b := funext fun σ => execsV_core G b σ h
    simp only [execV, h1, h2]; rfl
  | .fr t it b, σ, h => by
    have h2 : execsV G.core b = execsV G b := funext fun σ => execsV_core G b σ h
    simp only [execV, evIV_core, h2]; rfl
  | .augS a o j e, σ, h => by
    simp only [execV]
    split <;> simp only [evV_core]
  | .any, σ, h => rfl
  | .pass, σ, h => rfl
  | .brk, σ, h => rfl
  | .cont, σ, h => rfl
  | .raise d, σ, h => rfl
  | .tryc i e b g, σ, h => by
    simp only [nofxS, Bool.and_eq_true] at h
    have h2 : (fun d σ => execsV (G.core.heat d) g σ) = fun d σ => execsV (G.heat d) g σ := funext fun d => funext fun σ => by rw [← heat_core]; exact execsV_core (G.heat d) g σ h.2
    simp only [execV, h2, execsV_core G b σ h.1]
  | .tryk i e b j, σ, h => by
    simp only [nofxS] at h
    simp only [execV, execsV_core G b σ h]
  | .fx s, σ, h => by cases h
theorem execsV_core (G : GV) : ∀ (s : Ss) (σ : SV), nofxSs s = true → execsV G.core s σ = execsV G s σ
  | .nil, σ, h => rfl
  | .cons s r, σ, h => by
    simp only [nofxSs, Bool.and_eq_true] at h
    have h2 : execsV G.core r = execsV G r := funext fun σ => execsV_core G r σ h.2
    simp only [execsV, execV_core G s σ h.1, h2]
end
theorem callV_eq {P : Pg} {k f : Nat} {ps : List PV} {d : Df} (e : P.fn f = some d) (h : ps.length = d.np) (hio : d.io = [] := by rfl) (hnf : nofxSs d.body = true := by rfl) : callV P (k + 1) f ps = runV (execsV (gvO P (callV P k)) d.body ((fzs ps).map some ++ List.replicate (d.nl - d.np) none)) := by
  rw [callV_eqX e h hio, ← gv_core, execsV_core _ _ _ hnf]
end Fe
namespace Fe
open PySem PySem.Spec PyProof.Rows L2
@[simp] theorem evV_e0 {G : GV} {i σ} : evV G (.nm i) (σ) = (match σ[i]? with
    | some (some p) => .ok (fz p)
    | _ => .stuck) := rfl
@[simp] theorem evV_e1 {G : GV} {u1 u2} : evV G (.gl u1) (u2) = (match G.gl u1 with
    | some p => .ok p
    | none => .stuck) := rfl
@[simp] theorem gvO_fn {P : Pg} {F : Nat → List PV → RP PV} : (gvO P F).fn = F := rfl
@[simp] theorem gvO_N {P : Pg} {F : Nat → List PV → RP PV} : (gvO P F).N = P.N := rfl
@[simp] theorem gvO_gl {P : Pg} {F : Nat → List PV → RP PV} {j : Nat} : (gvO P F).gl j = (P.gl j).bind toP := rfl
@[simp] theorem evV_e2 {G : GV} {c u1} : evV G (.cn c) (u1) = (.ok c.pv) := rfl
@[simp] theorem evV_e3 {G : GV} {a b o σ} : evV G (.bin o a b) (σ) = ((evV G a σ).bind fun x => (evV G b σ).bind fun y => binP o x y) := rfl
@[simp] theorem evV_e4 {G : GV} {a σ} : evV G (.neg a) (σ) = ((evV G a σ).bind fun x => match x with
    | .int i => .ok (.int (-i))
    | _ => .stuck) := rfl
@[simp] theorem evV_e5 {G : GV} {a b o σ} : evV G (.cmp o a b) (σ) = ((evV G a σ).bind fun x => (evV G b σ).bind fun y => cmpP o x y) := rfl
@[simp] theorem evV_e6 {G : GV} {a b c o1 o2 σ} : evV G (.chain o1 o2 a b c) (σ) = ((evV G a σ).bind fun x => (evV G b σ).bind fun y => (cmpP o1 x y).bind fun z => match z with
    | .bl true => (evV G c σ).bind fun w => cmpP o2 y w
    | .bl false => .ok (.bl false)
    | _ => .stuck) := rfl
@[simp] theorem evV_e7 {G : GV} {a σ} : evV G (.one a) (σ) = (evV G a σ) := rfl
@[simp] theorem evV_e8 {G : GV} {a b σ} : evV G (.and a b) (σ) = ((evV G a σ).bind fun x => match x with
    | .bl true => evV G b σ
    | .bl false => .ok (.bl false)
    | _ => .stuck) := rfl
@[simp] theorem evV_e9 {G : GV} {a b σ} : evV G (.or a b) (σ) = ((evV G a σ).bind fun x => match x with
    | .bl true => .ok (.bl true)
    | .bl false => evV G b σ
    | _ => .stuck) := rfl
@[simp] theorem evV_e10 {G : GV} {a σ} : evV G (.not a) (σ) = ((evV G a σ).bind fun x => match x with
    | .bl b => .ok (.bl (!b))
    | _ => .stuck) := rfl
@[simp] theorem evV_e11 {G : GV} {a b t σ} : evV G (.ife t a b) (σ) = ((tstV G t σ).bind fun c => if c = true then evV G a σ else evV G b σ) := id rfl
@[simp] theorem evV_e12 {G : GV} {es σ} : evV G (.tup es) (σ) = ((evsV G es σ).bind fun xs => if xs.length ≤ 16777216 then .ok (.tup xs) else .stuck) := id rfl
@[simp] theorem evV_e13 {G : GV} {es σ} : evV G (.lst es) (σ) = ((evsV G es σ).bind fun xs => if xs.length ≤ 16777216 then .ok (.lst true xs) else .stuck) := id rfl
@[simp] theorem evV_e14 {G : GV} {u1} : evV G (.dnew) (u1) = (.ok (.dct true [] [])) := rfl
@[simp] theorem evV_e15 {G : GV} {a b σ} : evV G (.ix a b) (σ) = ((evV G a σ).bind fun x => (evV G b σ).bind fun y => ixOP x y) := rfl
@[simp] theorem evV_e16 {G : GV} {a hi lo σ} : evV G (.slc a lo hi) (σ) = ((evV G a σ).bind fun x => (evoV G lo σ).bind fun l => (evoV G hi σ).bind fun h => slcP x l h) := rfl
@[simp] theorem evV_e17 {G : GV} {es f σ} : evV G (.call f es) (σ) = ((evsV G es σ).bind fun xs => G.fn f (fzs xs)) := rfl
@[simp] theorem evV_e18 {G : GV} {es f σ} : evV G (.bi f es) (σ) = ((evsV G es σ).bind fun xs => biP f xs) := rfl
@[simp] theorem evV_e19 {G : GV} {es m o σ} : evV G (.me m o es) (σ) = ((evV G o σ).bind fun x => if tyMP m x = true then (evsV G es σ).bind fun xs => meP m x xs else .stuck) := id rfl
@[simp] theorem evV_o1 {G : GV} {k a σ} : evV G (.o1 k a) σ = ((evV G a σ).bind fun x => o1P k x) := rfl
@[simp] theorem evM_o1 {G : GV} {k a} {σ : SV} : evM G (.o1 k a) σ = evV G (.o1 k a) σ := rfl
@[simp] theorem evV_e20 {G : GV} {a t σ} : evV G (.isi a t) (σ) = ((evV G a σ).bind fun x => isiP x t) := rfl
@[simp] theorem evV_e21 {G : GV} {elt ifs it own t σ} : evV G (.lc elt t it ifs own) (σ) = ((evIV G it σ).bind fun J => if J.1.length ≤ 16777216 ∧ J.1.length < G.N then (lcV (fun x => asgV t x (wipeV σ own)) (tstsV G ifs) (evV G elt) J.1).bind fun ys => .ok (.lst true ys) else .stuck) := id rfl
@[simp] theorem evsV_e0 {G : GV} {u1} : evsV G (.nil) (u1) = (.ok []) := rfl
@[simp] theorem evsV_e1 {G : GV} {e es σ} : evsV G (.cons e es) (σ) = ((evV G e σ).bind fun x => (evsV G es σ).bind fun xs => .ok (x :: xs)) := rfl
@[simp] theorem evoV_e0 {G : GV} {u1} : evoV G (.none) (u1) = (.ok none) := rfl
@[simp] theorem evoV_e1 {G : GV} {e σ} : evoV G (.some e) (σ) = ((evV G e σ).bind fun x => match x with
    | .int i => .ok (some i)
    | _ => .stuck) := rfl
@[simp] theorem tstV_e0 {G : GV} {a b o σ} : tstV G (.cmp o a b) (σ) = ((evV G a σ).bind fun x => (evV G b σ).bind fun y => (cmpP o x y).bind fun z => match z with
    | .bl k => .ok k
    | _ => .stuck) := rfl
@[simp] theorem tstV_e1 {G : GV} {a b c o1 o2 σ} : tstV G (.chain o1 o2 a b c) (σ) = ((evV G a σ).bind fun x => (evV G b σ).bind fun y => (cmpP o1 x y).bind fun z => match z with
    | .bl true => (evV G c σ).bind fun w => (cmpP o2 y w).bind fun z => match z with
      | .bl k => .ok k
      | _ => .stuck
    | .bl false => .ok false
    | _ => .stuck) := rfl
@[simp] theorem tstV_e2 {G : GV} {a σ} : tstV G (.one a) (σ) = (tstV G a σ) := rfl
@[simp] theorem tstV_e3 {G : GV} {a b σ} : tstV G (.and a b) (σ) = ((tstV G a σ).bind fun c => if c = true then tstV G b σ else .ok false) := id rfl
@[simp] theorem tstV_e4 {G : GV} {a b σ} : tstV G (.or a b) (σ) = ((tstV G a σ).bind fun c => if c = true then .ok true else tstV G b σ) := id rfl
@[simp] theorem tstV_e5 {G : GV} {a σ} : tstV G (.not a) (σ) = ((tstV G a σ).bind fun c => .ok (!c)) := rfl
@[simp] theorem tstV_e6 {G : GV} {e σ} : tstV G (.tr e) (σ) = ((evV G e σ).bind fun x => match truP x with
    | some k => .ok k
    | none => .stuck) := rfl
@[simp] theorem tstsV_e0 {G : GV} {u1} : tstsV G (.nil) (u1) = (.ok true) := rfl
@[simp] theorem tstsV_e1 {G : GV} {b σ} : tstsV G (.one b) (σ) = (tstV G b σ) := rfl
@[simp] theorem evIV_e0 {G : GV} {e σ} : evIV G (.sq e) (σ) = ((evV G e σ).bind fun x => match x with
    | .tup xs => .ok (fzs xs, true)
    | .lst b xs => .ok (fzs xs, b)
    | .scr xs => .ok (fzs xs, false)
    | _ => .stuck) := rfl
@[simp] theorem evIV_e1 {G : GV} {a : E} {σ : SV} : evIV G (.rng1 a) σ = ((evV G a σ).bind fun x => rng1P x) := rfl
@[simp] theorem evIV_e2 {G : GV} {a b : E} {σ : SV} : evIV G (.rng2 a b) σ = ((evV G a σ).bind fun x => (evV G b σ).bind fun y => rng2P x y) := rfl
@[simp] theorem rng1P_i {j : Int} : rng1P (.int j) = (if small62 j then .ok (rngP 0 j.toNat, true) else .stuck) := id rfl
@[simp] theorem rng2P_i {i j : Int} : rng2P (.int i) (.int j) = (if small62 i ∧ small62 j then .ok (rngP i (j - i).toNat, true) else .stuck) := id rfl
@[simp] theorem evIV_e3 {G : GV} {e σ} : evIV G (.rev e) (σ) = ((evV G e σ).bind fun x => match x with
    | .lst b xs => .ok ((fzs xs).reverse, b)
    | .scr xs => .ok ((fzs xs).reverse, false)
    | _ => .stuck) := rfl
@[simp] theorem evIV_zip {G : GV} {a b σ} : evIV G (.zip a b) (σ) = ((evV G a σ).bind fun x => (evV G b σ).bind fun y => zippedP x y) := rfl
@[simp] theorem zippedP_tt {xs ys} : zippedP (.tup xs) (.tup ys) = .ok (zipP (fzs xs) (fzs ys), true) := rfl
@[simp] theorem zippedP_ll {b c xs ys} : zippedP (.lst b xs) (.lst c ys) = .ok (zipP (fzs xs) (fzs ys), false) := rfl
@[simp] theorem zippedP_ls {b xs ys} : zippedP (.lst b xs) (.scr ys) = .ok (zipP (fzs xs) (fzs ys), false) := rfl
@[simp] theorem zippedP_sl {b xs ys} : zippedP (.scr xs) (.lst b ys) = .ok (zipP (fzs xs) (fzs ys), false) := rfl
@[simp] theorem zippedP_s2 {xs ys} : zippedP (.scr xs) (.scr ys) = .ok (zipP (fzs xs) (fzs ys), false) := rfl
@[simp] theorem evIV_e5 {G : GV} {a σ} : evIV G (.enum a) (σ) = ((evV G a σ).bind fun x => match x with
    | .lst b xs => .ok (enumP (fzs xs), b)
    | .scr xs => .ok (enumP (fzs xs), false)
    | _ => .stuck) := rfl
@[simp] theorem evMs_e0 {G : GV} {u1} : evMs G (.nil) (u1) = (.ok []) := rfl
@[simp] theorem evMs_e1 {G : GV} {e es σ} : evMs G (.cons e es) (σ) = ((evM G e σ).bind fun x => (evMs G es σ).bind fun xs => .ok (x :: xs)) := rfl
@[simp] theorem execV_e0 {G : GV} {e σ} : execV G (.expr e) (σ) = (match e with
    | .me m (.nm i) (.cons (.me m2 (.nm j) es) .nil) => match ownL σ i, ownL σ j with
      | some k0, some l => if tyMP m (.lst true k0) = true ∧ popB m2 = true ∧ popB m = false then (evsV G es σ).go σ fun xs => match popP m2 l xs with
          | some (y, l') => match ownL (σ.set j (some (.lst true l'))) i with
            | some k => match mutP m k [y] with
              | some k' => .nx ((σ.set j (some (.lst true l'))).set i (some (.lst true k')))
              | none => .stuck
            | none => .stuck
          | none => .stuck
        else .stuck
      | _, _ => .stuck
    | .me m (.nm i) es => match ownL σ i with
      | some l => if tyMP m (.lst true l) = true then (evsV G es σ).go σ fun xs =>
        if popB m = true then match popP m l xs with
            | some (_, l') => .nx (σ.set i (some (.lst true l')))
            | none => .stuck
        else match ownL (settle (vEs es) (.tup xs) σ) i with
          | some l => match mutP m l xs with
            | some l' => .nx ((settle (vEs es) (.tup xs) σ).set i (some (.lst true l')))
            | none => .stuck
          | none => .stuck
        else .stuck
      | none => .stuck
    | .me m (.ix a b) es => match pathE (.ix a b) with
      | some (i, l) => match σ[i]? with
        | some (some p) => if (updP l some p).isSome = true ∧ tyMP m (.lst true []) = true then (evsV G es σ).go σ fun xs => if xs.all flatP = true then match updP l (fun q => mutP m q xs) p with
            | some p' => .nx (σ.set i (some p'))
            | none => .stuck
          else .stuck
          else .stuck
        | _ => .stuck
      | none => (evV G (.me m (.ix a b) es) σ).go σ fun _ => .nx σ
    | e => (evV G e σ).go σ fun _ => .nx σ) := id rfl
@[simp] theorem updP_e0 {g xs} : updP [] g (.lst true xs) = (match g xs with
    | some ys => some (.lst true ys)
    | none => none) := rfl
@[simp] theorem updP_e1 {i r g xs} : updP (i :: r) g (.tup xs) = (match ixN xs.length i with
    | some k => match xs[k]? with
      | some q => match updP r g q with
        | some q' => some (.tup (xs.set k q'))
        | none => none
      | none => none
    | none => none) := rfl
@[simp] theorem updP_e2 {i r g xs} : updP (i :: r) g (.lst true xs) = (match ixN xs.length i with
    | some k => match xs[k]? with
      | some q => match updP r g q with
        | some q' => some (.lst true (xs.set k q'))
        | none => none
      | none => none
    | none => none) := rfl
@[simp] theorem ixN_10 : ixN 1 0 = some 0 := by decide
@[simp] theorem ixN_20 : ixN 2 0 = some 0 := by decide
@[simp] theorem ixN_21 : ixN 2 1 = some 1 := by decide
@[simp] theorem ixN_30 : ixN 3 0 = some 0 := by decide
@[simp] theorem ixN_31 : ixN 3 1 = some 1 := by decide
@[simp] theorem ixN_32 : ixN 3 2 = some 2 := by decide
@[simp] theorem ixN_40 : ixN 4 0 = some 0 := by decide
@[simp] theorem ixN_41 : ixN 4 1 = some 1 := by decide
@[simp] theorem ixN_42 : ixN 4 2 = some 2 := by decide
@[simp] theorem ixN_43 : ixN 4 3 = some 3 := by decide
@[simp] theorem execV_asg_move {G : GV} {ts : Ts} {i : Nat} {σ : SV} : execV G (.asg (.tup ts) (.nm i)) σ = if shA σ i = true then asgE G (.tup ts) (.nm i) σ else moveE ts i σ := id rfl
@[simp] theorem shA_eq {σ : SV} {i : Nat} : shA σ i = (match σ[i]? with
  | some (some p) => shF p
  | _ => false) := rfl
@[simp] theorem shF_tup {xs : List PV} : shF (.tup xs) = xs.all shL := rfl
@[simp] theorem shF_lst {b : Bool} {xs : List PV} : shF (.lst b xs) = true := rfl
@[simp] theorem shL_lst {b : Bool} {xs : List PV} : shL (.lst b xs) = !b := rfl
@[simp] theorem shL_dct {b : Bool} {ks : List Key} {xs : List PV} : shL (.dct b ks xs) = !b := rfl
@[simp] theorem shL_tup {xs : List PV} : shL (.tup xs) = true := rfl
@[simp] theorem shL_int {i : Int} : shL (.int i) = true := rfl
@[simp] theorem shL_str {i : Str} : shL (.str i) = true := rfl
@[simp] theorem shL_bl {i : Bool} : shL (.bl i) = true := rfl
@[simp] theorem shL_non : shL .non = true := rfl
@[simp] theorem execV_asg_nm {G : GV} {i : Nat} {e : E} {σ : SV} : execV G (.asg (.nm i) e) σ = asgE G (.nm i) e σ := rfl
@[simp] theorem execV_asg_sub {G : GV} {a b : E} {e : E} {σ : SV} : execV G (.asg (.sub a b) e) σ = asgE G (.sub a b) e σ := rfl
@[simp] theorem execV_asg_call {G : GV} {ts : Ts} {g : Nat} {es : Es} {σ : SV} : execV G (.asg (.tup ts) (.call g es)) σ = asgE G (.tup ts) (.call g es) σ := rfl
@[simp] theorem execV_asg_ix {G : GV} {ts : Ts} {a b : E} {σ : SV} : execV G (.asg (.tup ts) (.ix a b)) σ = asgE G (.tup ts) (.ix a b) σ := rfl
@[simp] theorem execV_asg_bi {G : GV} {ts : Ts} {b : BI} {es : Es} {σ : SV} : execV G (.asg (.tup ts) (.bi b es)) σ = asgE G (.tup ts) (.bi b es) σ := rfl
@[simp] theorem asgE_sub {G : GV} {i : Nat} {j : E} {e : E} {σ : SV} : asgE G (.sub (.nm i) j) e σ = ((evV G e σ).go σ fun x => match (settle (vE e) x σ)[i]? with
  | some (some p) => (evV G j (settle (vE e) x σ)).go (settle (vE e) x σ) fun k => match setP p k x with
    | some p' => .nx ((settle (vE e) x σ).set i (some p'))
    | none => .stuck
  | _ => .stuck) := rfl
@[simp] theorem asgE_tup {G : GV} {ts : Ts} {e : E} {σ : SV} : asgE G (.tup ts) e σ = ((evV G e σ).go σ fun x => match asgV (.tup ts) x (settle (vE e) x σ) with
  | some σ => .nx σ
  | none => .stuck) := rfl
@[simp] theorem asgE_nm {G : GV} {i : Nat} {e : E} {σ : SV} : asgE G (.nm i) e σ = ((evV G e σ).go σ fun x => .nx ((settle (vE e) x σ).set i (some x))) := rfl
@[simp] theorem moveE_eq {ts : Ts} {i : Nat} {σ : SV} : moveE ts i σ = (match σ[i]? with
  | some (some p) => match asgV (.tup ts) p (σ.set i none) with
    | some σ => .nx σ
    | none => .stuck
  | _ => .stuck) := rfl
@[simp] theorem execV_e2 {G : GV} {e i σ} : execV G (.set i e) (σ) = (match e with
    | .me m (.nm j) es => if popB m = true then match ownL σ j with
        | some l => (evsV G es σ).go σ fun xs => match popP m l xs with
          | some (y, l') => .nx ((σ.set j (some (.lst true l'))).set i (some y))
          | none => .stuck
        | none => .stuck
      else (evV G (.me m (.nm j) es) σ).go σ fun x => .nx ((settle (j :: vEs es) x σ).set i (some x))
    | e => (evV G e σ).go σ fun x => .nx ((settle (vE e) x σ).set i (some x))) := id rfl
@[simp] theorem execV_e3 {G : GV} {elt i ifs it own t σ} : execV G (.setLc i elt t it ifs own) (σ) = (((evIV G it σ).bind fun J => if J.1.length ≤ 16777216 ∧ J.1.length < G.N then (lcV (fun x => asgV t x (wipeV σ own)) (tstsV G ifs) (evV G elt) J.1).bind fun ys => .ok (.lst true ys) else .stuck).go σ
      fun x => .nx ((settle (vI it ++ (vBs ifs ++ vE elt)) x σ).set i (some x))) := id rfl
@[simp] theorem execV_e4 {G : GV} {a b i j σ} : execV G (.par i j a b) (σ) = ((evV G a σ).go σ fun x => (evV G b σ).go σ fun y => .nx (((settle (vE a ++ vE b) (.tup [x, y]) σ).set i (some x)).set j (some y))) := rfl
@[simp] theorem execV_e5 {G : GV} {e i o σ} : execV G (.aug i o e) (σ) = (match σ[i]? with
    | some (some x) => (evV G e σ).go σ fun y => (augP o x y).go σ fun z => .nx (σ.set i (some z))
    | _ => .stuck) := rfl
@[simp] theorem execV_e6 {G : GV} {e σ} : execV G (.ret e) (σ) = (match e with
    | .tup (.cons (.me m (.nm i) es) rest) => if popB m = true then match ownL σ i with
        | some l => if tyMP m (.lst true l) = true ∧ (vEs rest).Nodup then (evsV G es σ).go σ fun xs => match popP m l xs with
            | some (y, l') => (evMs G rest (σ.set i (some (.lst true l')))).go (σ.set i (some (.lst true l'))) fun ys => if ys.length + 1 ≤ 16777216 then .rt (.tup (y :: ys)) else .stuck
            | none => .stuck
          else .stuck
        | none => .stuck
      else (evR G (.tup (.cons (.me m (.nm i) es) rest)) σ).go σ fun x => .rt x
    | e => (evR G e σ).go σ fun x => .rt x) := id rfl
@[simp] theorem execV_e7 {G : GV} {u1} : execV G (.ret0) (u1) = (.rt .non) := rfl
@[simp] theorem execV_e8 {G : GV} {a b t σ} : execV G (.ife t a b) (σ) = ((tstV G t σ).go σ fun c => if c = true then execsV G a σ else execsV G b σ) := id rfl
@[simp] theorem execV_e9 {G : GV} {b t σ} : execV G (.whl t b) (σ) = (whlV (tstV G t) (execsV G b) G.N σ) := rfl
@[simp] theorem execV_e10 {G : GV} {b it t σ} : execV G (.fr t it b) (σ) = ((evIV G it σ).go σ fun J => if J.1.length < G.N then
      forV (frV (asgV t) (execsV G b)) J.1 (if J.2 = true ∧ clos J.1 = true then σ else frzS σ (vI it)) else .stuck) := id rfl
@[simp] theorem execV_e11 {G : GV} {σ} : execV G (.pass) (σ) = (.nx σ) := rfl
@[simp] theorem execV_e12 {G : GV} {σ} : execV G (.brk) (σ) = (.bk σ) := rfl
@[simp] theorem execV_e13 {G : GV} {σ} : execV G (.cont) (σ) = (.ct σ) := rfl
@[simp] theorem execsV_e0 {G : GV} {σ} : execsV G (.nil) (σ) = (.nx σ) := rfl
@[simp] theorem execsV_e1 {G : GV} {r s σ} : execsV G (.cons s r) (σ) = ((execV G s σ).seq (execsV G r)) := rfl
@[simp] theorem asgV_e0 {i p σ} : asgV (.nm i) (p) (σ) = (some (σ.set i (some p))) := rfl
@[simp] theorem asgV_e1 {p ts σ} : asgV (.tup ts) (p) (σ) = (match seqP p with
    | some xs => if xs.length = Ts.len ts then asgVs ts xs σ else none
    | none => none) := id rfl
@[simp] theorem asgV_e2 {u1 u2 u3 u4} : asgV (.sub u1 u2) (u3) (u4) = (none) := rfl
@[simp] theorem asgVs_e0 {σ} : asgVs (.nil) ([]) (σ) = (some σ) := rfl
@[simp] theorem asgVs_e1 {t ts x xs σ} : asgVs (.cons t ts) (x :: xs) (σ) = ((asgV t x σ).bind fun σ => asgVs ts xs σ) := rfl
@[simp] theorem evM_nm {G : GV} {i : Nat} {σ : SV} : evM G (.nm i) σ = (match σ[i]? with | some (some p) => .ok p | _ => .stuck) := rfl
@[simp] theorem evM_tup {G : GV} {es : Es} {σ : SV} : evM G (.tup es) σ = ((evMs G es σ).bind fun xs => if xs.length ≤ 16777216 then .ok (.tup xs) else .stuck) := id rfl
@[simp] theorem evM_gl {G : GV} {x0} {σ : SV} : evM G (.gl x0) σ = evV G (.gl x0) σ := rfl
@[simp] theorem evM_cn {G : GV} {x0} {σ : SV} : evM G (.cn x0) σ = evV G (.cn x0) σ := rfl
@[simp] theorem evM_bin {G : GV} {x0 x1 x2} {σ : SV} : evM G (.bin x0 x1 x2) σ = evV G (.bin x0 x1 x2) σ := rfl
@[simp] theorem evM_neg {G : GV} {x0} {σ : SV} : evM G (.neg x0) σ = evV G (.neg x0) σ := rfl
@[simp] theorem evM_cmp {G : GV} {x0 x1 x2} {σ : SV} : evM G (.cmp x0 x1 x2) σ = evV G (.cmp x0 x1 x2) σ := rfl
@[simp] theorem evM_chain {G : GV} {x0 x1 x2 x3 x4} {σ : SV} : evM G (.chain x0 x1 x2 x3 x4) σ = evV G (.chain x0 x1 x2 x3 x4) σ := rfl
@[simp] theorem evM_one {G : GV} {x0} {σ : SV} : evM G (.one x0) σ = evV G (.one x0) σ := rfl
@[simp] theorem evM_and {G : GV} {x0 x1} {σ : SV} : evM G (.and x0 x1) σ = evV G (.and x0 x1) σ := rfl
@[simp] theorem evM_or {G : GV} {x0 x1} {σ : SV} : evM G (.or x0 x1) σ = evV G (.or x0 x1) σ := rfl
@[simp] theorem evM_not {G : GV} {x0} {σ : SV} : evM G (.not x0) σ = evV G (.not x0) σ := rfl
@[simp] theorem evM_ife {G : GV} {x0 x1 x2} {σ : SV} : evM G (.ife x0 x1 x2) σ = evV G (.ife x0 x1 x2) σ := rfl
@[simp] theorem evM_lst {G : GV} {x0} {σ : SV} : evM G (.lst x0) σ = evV G (.lst x0) σ := rfl
@[simp] theorem evM_dnew {G : GV}  {σ : SV} : evM G (.dnew ) σ = evV G (.dnew ) σ := rfl
@[simp] theorem evM_ix {G : GV} {x0 x1} {σ : SV} : evM G (.ix x0 x1) σ = evV G (.ix x0 x1) σ := rfl
@[simp] theorem evM_slc {G : GV} {x0 x1 x2} {σ : SV} : evM G (.slc x0 x1 x2) σ = evV G (.slc x0 x1 x2) σ := rfl
@[simp] theorem evM_call {G : GV} {x0 x1} {σ : SV} : evM G (.call x0 x1) σ = evV G (.call x0 x1) σ := rfl
@[simp] theorem evM_bi {G : GV} {x0 x1} {σ : SV} : evM G (.bi x0 x1) σ = evV G (.bi x0 x1) σ := rfl
@[simp] theorem evM_me {G : GV} {x0 x1 x2} {σ : SV} : evM G (.me x0 x1 x2) σ = evV G (.me x0 x1 x2) σ := rfl
@[simp] theorem evM_isi {G : GV} {x0 x1} {σ : SV} : evM G (.isi x0 x1) σ = evV G (.isi x0 x1) σ := rfl
@[simp] theorem evM_lc {G : GV} {x0 x1 x2 x3 x4} {σ : SV} : evM G (.lc x0 x1 x2 x3 x4) σ = evV G (.lc x0 x1 x2 x3 x4) σ := rfl
@[simp] theorem binP_l1 {i j} : binP (.add) (.int i) (.int j) = (.ok (.int (i + j))) := by first | rfl | (cases x <;> rfl)
@[simp] theorem binP_l2 {i j} : binP (.add) (.str i) (.str j) = (if i.length + j.length ≤ 16777216 then .ok (.str (i ++ j)) else .stuck) := by first | exact id rfl | (cases x <;> exact id rfl)
@[simp] theorem binP_l3 {u1 u2 xs ys} : binP (.add) (.lst u1 xs) (.lst u2 ys) = (if xs.length + ys.length ≤ 16777216 then .ok (.lst true (fzs xs ++ fzs ys)) else .stuck) := by first | exact id rfl | (cases x <;> exact id rfl)
@[simp] theorem binP_l4 {xs ys} : binP (.add) (.tup xs) (.tup ys) = (if xs.length + ys.length ≤ 16777216 ∧ xs.isEmpty = false ∧ ys.isEmpty = false then .ok (.tup (fzs xs ++ fzs ys)) else .stuck) := by first | exact id rfl | (cases x <;> exact id rfl)
@[simp] theorem binP_l5 {i j} : binP (.sub) (.int i) (.int j) = (.ok (.int (i - j))) := by first | rfl | (cases x <;> rfl)
@[simp] theorem binP_l6 {i j} : binP (.mul) (.int i) (.int j) = (if IntMulOk i j then .ok (.int (i * j)) else .stuck) := by first | exact id rfl | (cases x <;> exact id rfl)
@[simp] theorem binP_l7 {k u1 xs} : binP (.mul) (.lst u1 xs) (.int k) = (if k.natAbs ≤ 9223372036854775807 ∧ xs.length * k.toNat ≤ 16777216 then .ok (.lst true (List.replicate k.toNat (fzs xs)).flatten) else .stuck) := by first | exact id rfl | (cases x <;> exact id rfl)
@[simp] theorem binP_l8 {i j} : binP (.fdiv) (.int i) (.int j) = (if 0 < j ∧ (j.natAbs ≤ 18446744073709551615 ∨ j.natAbs.log2 < 9000) then .ok (.int (i / j)) else .stuck) := by first | exact id rfl | (cases x <;> exact id rfl)
@[simp] theorem binP_l9 {i j} : binP (.mod) (.int i) (.int j) = (if 0 < j then .ok (.int (i % j)) else .stuck) := by first | exact id rfl | (cases x <;> exact id rfl)
@[simp] theorem binP_l10 {i j} : binP (.pow) (.int i) (.int j) = (if 0 ≤ j ∧ j.natAbs ≤ 1000000 ∧ i.natAbs ≤ 18446744073709551615 then .ok (.int (i ^ j.toNat)) else .stuck) := by first | exact id rfl | (cases x <;> exact id rfl)
@[simp] theorem binP_l11 {i j} : binP (.shl) (.int i) (.int j) = (if 0 ≤ j ∧ j.natAbs ≤ 1000000 ∧ i.natAbs ≤ 18446744073709551615 then .ok (.int (i * 2 ^ j.toNat)) else .stuck) := by first | exact id rfl | (cases x <;> exact id rfl)
@[simp] theorem binP_l12 {i j} : binP (.shr) (.int i) (.int j) = (if 0 ≤ j then .ok (.int (i / 2 ^ j.toNat)) else .stuck) := by first | exact id rfl | (cases x <;> exact id rfl)
@[simp] theorem binP_l13 {i j} : binP (.band) (.int i) (.int j) = (.ok (.int (Builtin.bitAnd i j))) := by first | rfl | (cases x <;> rfl)
@[simp] theorem augP_l1 {i j} : augP (.add) (.int i) (.int j) = (.ok (.int (i + j))) := by first | rfl | (cases x <;> rfl)
@[simp] theorem augP_l2 {i j} : augP (.add) (.str i) (.str j) = (if i.length + j.length ≤ 16777216 then .ok (.str (i ++ j)) else .stuck) := by first | exact id rfl | (cases x <;> exact id rfl)
@[simp] theorem augP_l3 {i j} : augP (.sub) (.int i) (.int j) = (.ok (.int (i - j))) := by first | rfl | (cases x <;> rfl)
@[simp] theorem augP_l4 {i j} : augP (.fdiv) (.int i) (.int j) = (if 0 < j ∧ j.natAbs ≤ 1073741823 then .ok (.int (i / j)) else .stuck) := by first | exact id rfl | (cases x <;> exact id rfl)
@[simp] theorem cmpP_l1 {x y} : cmpP (.eq) (x) (y) = (obP (eqP x y)) := by first | rfl | (cases x <;> rfl)
@[simp] theorem cmpP_l2 {x y} : cmpP (.ne) (x) (y) = (obP ((eqP x y).map (!·))) := by first | rfl | (cases x <;> rfl)
@[simp] theorem cmpP_l3 {i j} : cmpP (.lt) (.int i) (.int j) = (.ok (.bl (decide (i < j)))) := by first | rfl | (cases x <;> rfl)
@[simp] theorem cmpP_l4 {i j} : cmpP (.le) (.int i) (.int j) = (.ok (.bl (decide (i ≤ j)))) := by first | rfl | (cases x <;> rfl)
@[simp] theorem cmpP_l5 {i j} : cmpP (.gt) (.int i) (.int j) = (.ok (.bl (decide (j < i)))) := by first | rfl | (cases x <;> rfl)
@[simp] theorem cmpP_l6 {i j} : cmpP (.ge) (.int i) (.int j) = (.ok (.bl (decide (j ≤ i)))) := by first | rfl | (cases x <;> rfl)
@[simp] theorem cmpP_l7 {i j} : cmpP (.lt) (.str i) (.str j) = (.ok (.bl (decide (i.cps.toList < j.cps.toList)))) := by first | rfl | (cases x <;> rfl)
@[simp] theorem cmpP_l8 {x} : cmpP (.isn) (x) (.non) = (.ok (.bl (isNonP x))) := by first | rfl | (cases x <;> rfl)
@[simp] theorem cmpP_l9 {x} : cmpP (.notn) (x) (.non) = (.ok (.bl (!isNonP x))) := by first | rfl | (cases x <;> rfl)
@[simp] theorem cmpP_l10 {x y} : cmpP (.isin) (x) (y) = (obP (inP x y)) := by first | rfl | (cases x <;> rfl)
@[simp] theorem cmpP_l11 {x y} : cmpP (.notin) (x) (y) = (obP ((inP x y).map (!·))) := by first | rfl | (cases x <;> rfl)
@[simp] theorem truP_l1  : truP (.non) = (some false) := by first | rfl | (cases x <;> rfl)
@[simp] theorem truP_l2 {b} : truP (.bl b) = (some b) := by first | rfl | (cases x <;> rfl)
@[simp] theorem truP_l3 {i} : truP (.int i) = (some (i != 0)) := by first | rfl | (cases x <;> rfl)
@[simp] theorem truP_l4 {s} : truP (.str s) = (if s.length ≤ 16777216 then some (s.length != 0) else none) := by first | exact id rfl | (cases x <;> exact id rfl)
@[simp] theorem truP_l5 {xs} : truP (.tup xs) = (some (!xs.isEmpty)) := by first | rfl | (cases x <;> rfl)
@[simp] theorem truP_l6 {u1 xs} : truP (.lst u1 xs) = (some (!xs.isEmpty)) := by first | rfl | (cases x <;> rfl)
@[simp] theorem truP_l7 {xs} : truP (.scr xs) = (some (!xs.isEmpty)) := by first | rfl | (cases x <;> rfl)
@[simp] theorem truP_l8 {ks u1 u2} : truP (.dct u1 ks u2) = (some (!ks.isEmpty)) := by first | rfl | (cases x <;> rfl)
@[simp] theorem biP_srt {x} : biP (.sorted) ([x]) = (match lsP x with
    | some xs => srtdP xs
    | none => .stuck) := by first | rfl | (cases x <;> rfl)
theorem srtdP_ints {xs : List PV} {ns : List Int} (h : intsP xs = some ns) : srtdP xs = .ok (.lst true ((srtI ns).map .int)) := by unfold srtdP; rw [h]
theorem srtdP_prs {xs : List PV} {ps : List (Int × Int)} (h : intsP xs = none) (h2 : prsP xs = some ps) : srtdP xs = .ok (.lst true ((srtP ps).map fun p => .tup [.int p.1, .int p.2])) := by unfold srtdP; rw [h, h2]
@[simp] theorem o1P_l1 {b xs} : o1P .lrev (.lst b xs) = .ok (.lst true (fzs xs).reverse) := rfl
@[simp] theorem o1P_l2 {xs} : o1P .lrev (.scr xs) = .ok (.lst true (fzs xs).reverse) := rfl
@[simp] theorem o1P_l3 {j} : o1P .lrg (.int j) = (if small62 j ∧ j.toNat ≤ 16777216 then .ok (.lst true (rngP 0 j.toNat)) else .stuck) := id rfl
@[simp] theorem o1P_l4 {j} : o1P .lrr (.int j) = (if small62 j ∧ j.toNat ≤ 16777216 then .ok (.lst true (rngP 0 j.toNat).reverse) else .stuck) := id rfl
@[simp] theorem o1P_lv {b ks xs} : o1P .lval (.dct b ks xs) = .ok (.lst true (fzs xs)) := rfl
@[simp] theorem o1P_ns {b xs} : o1P .nset (.lst b xs) = (match intsP xs with
    | some ns => if ns.length < 64 ∧ ns.Nodup then .ok (.int ns.length) else .stuck
    | none => .stuck) := id rfl
@[simp] theorem popB_setdef : popB .setdef = false := rfl
@[simp] theorem tyMP_setdef {x : PV} : tyMP .setdef x = isDctP x := rfl
@[simp] theorem isDctP_d {b ks xs} : isDctP (.dct b ks xs) = true := rfl
@[simp] theorem o1P_v0 {b xs} : o1P .ev0 (.lst b xs) = .ok (.lst true (ev2 (fzs xs))) := rfl
@[simp] theorem o1P_v1 {b xs} : o1P .ev1 (.lst b xs) = .ok (.lst true (ev2 ((fzs xs).drop 1))) := rfl
@[simp] theorem o1P_l5 {i} : o1P .bits (.int i) = .ok (.int (Builtin.Int.intBits i : Nat)) := rfl
@[simp] theorem getP_l1 {xs i} : getP (.lst true xs) i = ooP (ixIP xs i) := rfl
@[simp] theorem execV_augS {G : GV} {i o j e} {σ : SV} : execV G (.augS (.nm i) o j e) σ = (match σ[i]? with
      | some (some p) => (evV G j σ).go σ fun k => (getP p k).go σ fun y => (evV G e σ).go σ fun z => (augP o y z).go σ fun u => match setP p k u with
        | some p' => .nx (σ.set i (some p'))
        | none => .stuck
      | _ => .stuck) := rfl
@[simp] theorem execV_any {G : GV} {σ : SV} : execV G .any σ = .stuck := rfl
@[simp] theorem biP_l1 {s} : biP (.len) ([.str s]) = (if s.length ≤ 16777216 then .ok (.int s.length) else .stuck) := by first | exact id rfl | (cases x <;> exact id rfl)
@[simp] theorem biP_l2 {xs} : biP (.len) ([.tup xs]) = (.ok (.int xs.length)) := by first | rfl | (cases x <;> rfl)
@[simp] theorem biP_l3 {u1 xs} : biP (.len) ([.lst u1 xs]) = (.ok (.int xs.length)) := by first | rfl | (cases x <;> rfl)
@[simp] theorem biP_l4 {xs} : biP (.len) ([.scr xs]) = (.ok (.int xs.length)) := by first | rfl | (cases x <;> rfl)
@[simp] theorem biP_l5 {ks u1 u2} : biP (.len) ([.dct u1 ks u2]) = (.ok (.int ks.length)) := by first | rfl | (cases x <;> rfl)
@[simp] theorem biP_l6 {i} : biP (.abs) ([.int i]) = (.ok (.int (if i < 0 then -i else i))) := by first | exact id rfl | (cases x <;> exact id rfl)
@[simp] theorem biP_l7 {i j} : biP (.min2) ([.int i, .int j]) = (.ok (.int (if j < i then j else i))) := by first | exact id rfl | (cases x <;> exact id rfl)
@[simp] theorem biP_l8 {i j} : biP (.max2) ([.int i, .int j]) = (.ok (.int (if j > i then j else i))) := by first | exact id rfl | (cases x <;> exact id rfl)
@[simp] theorem biP_l9 {i} : biP (.int) ([.int i]) = (.ok (.int i)) := by first | rfl | (cases x <;> rfl)
@[simp] theorem biP_l10 {b} : biP (.int) ([.bl b]) = (.ok (.int (if b then 1 else 0))) := by first | exact id rfl | (cases x <;> exact id rfl)
@[simp] theorem biP_l11 {x} : biP (.list) ([x]) = (match seqP x with
    | some xs => .ok (.lst true (fzs xs))
    | none => .stuck) := by first | rfl | (cases x <;> rfl)
@[simp] theorem biP_l12 {x} : biP (.tuple) ([x]) = (match seqP x with
    | some xs => .ok (.tup (fzs xs))
    | none => .stuck) := by first | rfl | (cases x <;> rfl)
@[simp] theorem biP_l13 {x} : biP (.sum) ([x]) = (match lsP x with
    | some xs => match intsP xs with
      | some ns => .ok (.int ns.sum)
      | none => .stuck
    | none => .stuck) := by first | rfl | (cases x <;> rfl)
@[simp] theorem biP_l14 {x} : biP (.all) ([x]) = (match lsP x with
    | some xs => match blsP xs with
      | some bs => .ok (.bl (bs.all id))
      | none => .stuck
    | none => .stuck) := by first | rfl | (cases x <;> rfl)
@[simp] theorem biP_l15 {x} : biP (.any) ([x]) = (match lsP x with
    | some xs => match blsP xs with
      | some bs => .ok (.bl (bs.any id))
      | none => .stuck
    | none => .stuck) := by first | rfl | (cases x <;> rfl)
@[simp] theorem meP_l1 {k x} : meP (.count) (x) ([.int k]) = (match lsP x with
    | some xs => match intsP xs with
      | some ns => .ok (.int (ns.count k : Nat))
      | none => .stuck
    | none => .stuck) := by first | rfl | (cases x <;> rfl)
@[simp] theorem meP_l2 {a x} : meP (.join) (.str a) ([x]) = (match lsP x with
    | some xs => match strsP xs with
      | some ys => if (ys.map (·.length)).sum + ys.length * a.length ≤ 16777216 then .ok (.str (Txt.join a ys)) else .stuck
      | none => .stuck
    | none => .stuck) := by first | exact id rfl | (cases x <;> exact id rfl)
@[simp] theorem obP_l1 {b} : obP (some b) = (.ok (.bl b)) := by first | rfl | (cases x <;> rfl)
@[simp] theorem obP_l2  : obP (none) = (.stuck) := by first | rfl | (cases x <;> rfl)
@[simp] theorem ooP_l1 {p} : ooP (some p) = (.ok p) := by first | rfl | (cases x <;> rfl)
@[simp] theorem ooP_l2  : ooP (none) = (.stuck) := by first | rfl | (cases x <;> rfl)
@[simp] theorem seqP_l1 {xs} : seqP (.tup xs) = (some xs) := by first | rfl | (cases x <;> rfl)
@[simp] theorem seqP_l2 {u1 xs} : seqP (.lst u1 xs) = (some xs) := by first | rfl | (cases x <;> rfl)
@[simp] theorem seqP_l3 {xs} : seqP (.scr xs) = (some xs) := by first | rfl | (cases x <;> rfl)
@[simp] theorem lsP_l1 {u1 xs} : lsP (.lst u1 xs) = (some xs) := by first | rfl | (cases x <;> rfl)
@[simp] theorem lsP_l2 {xs} : lsP (.scr xs) = (some xs) := by first | rfl | (cases x <;> rfl)
@[simp] theorem keyP_l1 {i} : keyP (.int i) = (some (.inl i)) := by first | rfl | (cases x <;> rfl)
@[simp] theorem keyP_l2 {s} : keyP (.str s) = (some (.inr s)) := by first | rfl | (cases x <;> rfl)
@[simp] theorem isiP_1 {t} : isiP .non t = .ok (.bl (subTy "NoneType" t)) := rfl
@[simp] theorem isiP_2 {b t} : isiP (.bl b) t = .ok (.bl (subTy "bool" t)) := rfl
@[simp] theorem isiP_3 {b t} : isiP (.int b) t = .ok (.bl (subTy "int" t)) := rfl
@[simp] theorem isiP_4 {b t} : isiP (.str b) t = .ok (.bl (subTy "str" t)) := rfl
@[simp] theorem isiP_5 {b t} : isiP (.tup b) t = .ok (.bl (subTy "tuple" t)) := rfl
@[simp] theorem isiP_6 {a b t} : isiP (.lst a b) t = .ok (.bl (subTy "list" t)) := rfl
@[simp] theorem isiP_7 {b t} : isiP (.scr b) t = .ok (.bl (subTy "list" t)) := rfl
@[simp] theorem isiP_8 {a b c t} : isiP (.dct a b c) t = .ok (.bl (subTy "dict" t)) := rfl
@[simp] theorem evV_isv {G : GV} {a cs σ} : evV G (.isv a cs) (σ) = ((evV G a σ).bind fun x => match x with
    | .exo d => .ok (.bl (cs.any fun e => subX d e))
    | _ => .stuck) := rfl
@[simp] theorem tyP_l1  : tyP (.non) = ("NoneType") := by first | rfl | (cases x <;> rfl)
@[simp] theorem tyP_l2 {u1} : tyP (.bl u1) = ("bool") := by first | rfl | (cases x <;> rfl)
@[simp] theorem tyP_l3 {u1} : tyP (.int u1) = ("int") := by first | rfl | (cases x <;> rfl)
@[simp] theorem tyP_l4 {u1} : tyP (.str u1) = ("str") := by first | rfl | (cases x <;> rfl)
@[simp] theorem tyP_l5 {u1} : tyP (.tup u1) = ("tuple") := by first | rfl | (cases x <;> rfl)
@[simp] theorem tyP_l6 {u1 u2} : tyP (.lst u1 u2) = ("list") := by first | rfl | (cases x <;> rfl)
@[simp] theorem tyP_l7 {u1} : tyP (.scr u1) = ("list") := by first | rfl | (cases x <;> rfl)
@[simp] theorem tyP_l8 {u1 u2 u3} : tyP (.dct u1 u2 u3) = ("dict") := by first | rfl | (cases x <;> rfl)
@[simp] theorem isNonP_l1  : isNonP (.non) = (true) := by first | rfl | (cases x <;> rfl)
@[simp] theorem flatP_l1  : flatP (.non) = (true) := by first | rfl | (cases x <;> rfl)
@[simp] theorem flatP_l2 {u1} : flatP (.bl u1) = (true) := by first | rfl | (cases x <;> rfl)
@[simp] theorem flatP_l3 {u1} : flatP (.int u1) = (true) := by first | rfl | (cases x <;> rfl)
@[simp] theorem flatP_l4 {u1} : flatP (.str u1) = (true) := by first | rfl | (cases x <;> rfl)
@[simp] theorem eqFP_l1  : eqFP (.non) (.non) = (true) := by first | rfl | (cases x <;> rfl)
@[simp] theorem eqFP_l2 {a b} : eqFP (.bl a) (.bl b) = (a == b) := by first | rfl | (cases x <;> rfl)
@[simp] theorem eqFP_l3 {a b} : eqFP (.bl a) (.int b) = ((if a then 1 else 0) == b) := by first | exact id rfl | (cases x <;> exact id rfl)
@[simp] theorem eqFP_l4 {a b} : eqFP (.int a) (.bl b) = (a == (if b then 1 else 0)) := by first | exact id rfl | (cases x <;> exact id rfl)
@[simp] theorem eqFP_l5 {a b} : eqFP (.int a) (.int b) = (a == b) := by first | rfl | (cases x <;> rfl)
@[simp] theorem eqFP_l6 {a b} : eqFP (.str a) (.str b) = (a == b) := by first | rfl | (cases x <;> rfl)
@[simp] theorem isStrP_l1 {u1} : isStrP (.str u1) = (true) := by first | rfl | (cases x <;> rfl)
@[simp] theorem runV_l1 {u1} : runV (.nx u1) = (.ok .non) := by first | rfl | (cases x <;> rfl)
@[simp] theorem runV_l2 {v} : runV (.rt v) = (.ok v) := by first | rfl | (cases x <;> rfl)
@[simp] theorem runV_l3 {c u1} : runV (.exc c u1) = (.exc c) := by first | rfl | (cases x <;> rfl)
@[simp] theorem runV_l4 {u1} : runV (.bk u1) = (.stuck) := by first | rfl | (cases x <;> rfl)
@[simp] theorem runV_l5 {u1} : runV (.ct u1) = (.stuck) := by first | rfl | (cases x <;> rfl)
@[simp] theorem runV_l6  : runV (.stuck) = (.stuck) := by first | rfl | (cases x <;> rfl)
@[simp] theorem popB_l1  : popB (.pop) = (true) := by first | rfl | (cases x <;> rfl)
@[simp] theorem popB_l2  : popB (.popAt) = (true) := by first | rfl | (cases x <;> rfl)
@[simp] theorem Cn_pv_l1  : Cn.pv (.non) = (.non) := by first | rfl | (cases x <;> rfl)
@[simp] theorem Cn_pv_l2 {b} : Cn.pv (.bl b) = (.bl b) := by first | rfl | (cases x <;> rfl)
@[simp] theorem Cn_pv_l3 {i} : Cn.pv (.int i) = (.int i) := by first | rfl | (cases x <;> rfl)
@[simp] theorem Cn_pv_l4 {s} : Cn.pv (.str s) = (.str s) := by first | rfl | (cases x <;> rfl)
@[simp] theorem ixOP_l1 {i xs} : ixOP (.tup xs) (i) = (ooP (ixIP xs i)) := by first | rfl | (cases x <;> rfl)
@[simp] theorem ixOP_l2 {i u1 xs} : ixOP (.lst u1 xs) (i) = (ooP (ixIP xs i)) := by first | rfl | (cases x <;> rfl)
@[simp] theorem ixOP_l3 {i xs} : ixOP (.scr xs) (i) = (ooP (ixIP xs i)) := by first | rfl | (cases x <;> rfl)
@[simp] theorem ixOP_l4 {i z} : ixOP (.str z) (i) = (if z.length ≤ 16777216 then ooP (match i with | .int i => (atI z.cps.toList i).map fun c => .str ⟨#[c]⟩ | _ => none) else .stuck) := by first | exact id rfl | (cases x <;> exact id rfl)
@[simp] theorem ixOP_l5 {i ks u1 xs} : ixOP (.dct u1 ks xs) (i) = (ooP ((keyP i).bind fun k => (lookP ks xs k).map fz)) := by first | rfl | (cases x <;> rfl)
@[simp] theorem slcP_l1 {hi lo u1 xs} : slcP (.lst u1 xs) (lo) (hi) = (.ok (.lst true (cutL (fzs xs) lo hi))) := by first | rfl | (cases x <;> rfl)
@[simp] theorem slcP_l2 {hi lo xs} : slcP (.scr xs) (lo) (hi) = (.ok (.lst true (cutL (fzs xs) lo hi))) := by first | rfl | (cases x <;> rfl)
@[simp] theorem slcP_l3 {hi lo xs} : slcP (.tup xs) (lo) (hi) = (if HT.sIx xs.length 0 lo = 0 ∧ HT.sIx xs.length xs.length hi = xs.length then .stuck else .ok (.tup (cutL (fzs xs) lo hi))) := by first | exact id rfl | (cases x <;> exact id rfl)
@[simp] theorem ixIP_l1 {xs i} : ixIP xs (.int i) = ((atI xs i).map fz) := by first | rfl | (cases x <;> rfl)
@[simp] theorem popP_l1 {xs} : popP (.pop) (xs) ([]) = (match xs[xs.length - 1]? with
    | some y => some (y, xs.dropLast)
    | none => none) := by first | rfl | (cases x <;> rfl)
@[simp] theorem popP_l2 {i xs} : popP (.popAt) (xs) ([.int i]) = (match seqIndex? i xs.length with
    | some k => match xs[k]? with
      | some y => if i.natAbs ≤ 9223372036854775807 then some (y, xs.eraseIdx k) else none
      | none => none
    | none => none) := by first | exact id rfl | (cases x <;> exact id rfl)
@[simp] theorem mutP_l1 {xs y} : mutP (.append) (xs) ([y]) = (if xs.length < 16777216 then some (xs ++ [y]) else none) := by first | exact id rfl | (cases x <;> exact id rfl)
@[simp] theorem mutP_l2 {i xs y} : mutP (.insert) (xs) ([.int i, y]) = (if xs.length < 16777216 ∧ 0 ≤ i ∧ i.natAbs ≤ 9223372036854775807 then some (xs.take i.toNat ++ [y] ++ xs.drop i.toNat) else none) := by first | exact id rfl | (cases x <;> exact id rfl)
@[simp] theorem mutP_l3 {xs} : mutP (.reverse) (xs) ([]) = (some xs.reverse) := by first | rfl | (cases x <;> rfl)
@[simp] theorem mutP_l4 {xs} : mutP (.clear) (xs) ([]) = (some []) := by first | rfl | (cases x <;> rfl)
@[simp] theorem mutP_l5 {u1 xs ys} : mutP (.extend) (xs) ([.lst u1 ys]) = (if xs.length + ys.length ≤ 16777216 then some (xs ++ fzs ys) else none) := by first | exact id rfl | (cases x <;> exact id rfl)
@[simp] theorem setP_l1 {i v xs} : setP (.lst true xs) (i) (v) = (match i with
    | .int k => match ixN xs.length k with
      | some j => some (.lst true (xs.set j v))
      | none => none
    | _ => none) := by first | rfl | (cases x <;> rfl)
@[simp] theorem setP_l2 {i ks v xs} : setP (.dct true ks xs) (i) (v) = (match keyP i with
    | some k => if ks.length < 16777216 then some (.dct true ((putKK (ks.zip xs) k (fz v)).map (·.1)) ((putKK (ks.zip xs) k (fz v)).map (·.2))) else none
    | none => none) := by first | exact id rfl | (cases x <;> exact id rfl)
@[simp] theorem inP_l1 {x ys} : inP (x) (.tup ys) = (if flatP x = true ∧ ys.all flatP = true then some (inFP x ys) else none) := by first | exact id rfl | (cases x <;> exact id rfl)
@[simp] theorem inP_l2 {u1 x ys} : inP (x) (.lst u1 ys) = (if flatP x = true ∧ ys.all flatP = true then some (inFP x ys) else none) := by first | exact id rfl | (cases x <;> exact id rfl)
@[simp] theorem inP_l3 {x ys} : inP (x) (.scr ys) = (if flatP x = true ∧ ys.all flatP = true then some (inFP x ys) else none) := by first | exact id rfl | (cases x <;> exact id rfl)
@[simp] theorem inP_l4 {t x} : inP (x) (.str t) = (match x with
    | .str s => some (!(Builtin.Str.occurrences t s 0 t.length 1).isEmpty)
    | _ => none) := by first | rfl | (cases x <;> rfl)
@[simp] theorem inP_l5 {ks u1 x xs} : inP (x) (.dct u1 ks xs) = (match keyP x with
    | some k => some (lookP ks xs k).isSome
    | none => none) := by first | rfl | (cases x <;> rfl)
@[simp] theorem tyMP_l1 {x} : tyMP (.join) (x) = (isStrP x) := by first | rfl | (cases x <;> rfl)
@[simp] theorem popB_append : popB .append = false := rfl
@[simp] theorem popB_insert : popB .insert = false := rfl
@[simp] theorem popB_reverse : popB .reverse = false := rfl
@[simp] theorem popB_clear : popB .clear = false := rfl
@[simp] theorem popB_extend : popB .extend = false := rfl
@[simp] theorem popB_count : popB .count = false := rfl
@[simp] theorem popB_join : popB .join = false := rfl
@[simp] theorem tyMP_append {x : PV} : tyMP .append x = (lsP x).isSome := rfl
@[simp] theorem tyMP_insert {x : PV} : tyMP .insert x = (lsP x).isSome := rfl
@[simp] theorem tyMP_reverse {x : PV} : tyMP .reverse x = (lsP x).isSome := rfl
@[simp] theorem tyMP_clear {x : PV} : tyMP .clear x = (lsP x).isSome := rfl
@[simp] theorem tyMP_extend {x : PV} : tyMP .extend x = (lsP x).isSome := rfl
@[simp] theorem tyMP_count {x : PV} : tyMP .count x = (lsP x).isSome := rfl
@[simp] theorem tyMP_pop {x : PV} : tyMP .pop x = (lsP x).isSome := rfl
@[simp] theorem tyMP_popAt {x : PV} : tyMP .popAt x = (lsP x).isSome := rfl
@[simp] theorem lsP_non  : lsP (.non) = none := rfl
@[simp] theorem seqP_non  : seqP (.non) = none := rfl
@[simp] theorem isNonP_bl {b : Bool} : isNonP (.bl b) = false := rfl
@[simp] theorem lsP_bl {b : Bool} : lsP (.bl b) = none := rfl
@[simp] theorem seqP_bl {b : Bool} : seqP (.bl b) = none := rfl
@[simp] theorem isNonP_int {i : Int} : isNonP (.int i) = false := rfl
@[simp] theorem lsP_int {i : Int} : lsP (.int i) = none := rfl
@[simp] theorem seqP_int {i : Int} : seqP (.int i) = none := rfl
@[simp] theorem isNonP_str {t : Str} : isNonP (.str t) = false := rfl
@[simp] theorem lsP_str {t : Str} : lsP (.str t) = none := rfl
@[simp] theorem seqP_str {t : Str} : seqP (.str t) = none := rfl
@[simp] theorem isNonP_tup {xs : List PV} : isNonP (.tup xs) = false := rfl
@[simp] theorem lsP_tup {xs : List PV} : lsP (.tup xs) = none := rfl
@[simp] theorem flatP_tup {xs : List PV} : flatP (.tup xs) = false := rfl
@[simp] theorem isNonP_lst {o : Bool} {xs : List PV} : isNonP (.lst o xs) = false := rfl
@[simp] theorem flatP_lst {o : Bool} {xs : List PV} : flatP (.lst o xs) = false := rfl
@[simp] theorem isNonP_dct {o : Bool} {ks : List Key} {xs : List PV} : isNonP (.dct o ks xs) = false := rfl
@[simp] theorem lsP_dct {o : Bool} {ks : List Key} {xs : List PV} : lsP (.dct o ks xs) = none := rfl
@[simp] theorem seqP_dct {o : Bool} {ks : List Key} {xs : List PV} : seqP (.dct o ks xs) = none := rfl
@[simp] theorem flatP_dct {o : Bool} {ks : List Key} {xs : List PV} : flatP (.dct o ks xs) = false := rfl
@[simp] theorem isNonP_scr {xs : List PV} : isNonP (.scr xs) = false := rfl
@[simp] theorem flatP_scr {xs : List PV} : flatP (.scr xs) = false := rfl
@[simp] theorem eqP_ii (i j : Int) : eqP (.int i) (.int j) = some (decide (i = j)) := rfl
@[simp] theorem eqP_ss (i j : Str) : eqP (.str i) (.str j) = some (decide (i = j)) := rfl
@[simp] theorem eqP_bb (i j : Bool) : eqP (.bl i) (.bl j) = some (decide (i = j)) := rfl
@[simp] theorem eqP_nn : eqP .non .non = some true := rfl
@[simp] theorem eqP_ni (i : Int) : eqP .non (.int i) = some false := rfl
@[simp] theorem eqP_in (i : Int) : eqP (.int i) .non = some false := rfl
@[simp] theorem fzs_ints (ns : List Int) : fzs (ns.map PV.int) = ns.map PV.int := by
  induction ns with
  | nil => rfl
  | cons n ns ih => simp [ih]
@[simp] theorem clos_ints (ns : List Int) : clos (ns.map PV.int) = true := by
  induction ns with
  | nil => rfl
  | cons n ns ih => simp [ih]
@[simp] theorem intsP_ints (ns : List Int) : intsP (ns.map PV.int) = some ns := by
  induction ns with
  | nil => rfl
  | cons n ns ih => simp [ih]
@[simp] theorem blsP_bls (ns : List Bool) : blsP (ns.map PV.bl) = some ns := by
  induction ns with
  | nil => rfl
  | cons n ns ih => simp [ih]
@[simp] theorem strsP_strs (ns : List Str) : strsP (ns.map PV.str) = some ns := by
  induction ns with
  | nil => rfl
  | cons n ns ih => simp [ih]
@[simp] theorem fzs_length (p : List PV) : (fzs p).length = p.length := fzs_len p
@[simp] theorem fz_idem (p : PV) : fz (fz p) = fz p := fz_fz p
@[simp] theorem fzs_idem (p : List PV) : fzs (fzs p) = fzs p := fzs_fzs p
@[simp] theorem fzs_app (p q : List PV) : fzs (p ++ q) = fzs p ++ fzs q := by rw [fzs_map, fzs_map, fzs_map, List.map_append]
@[simp] theorem fzs_take (n : Nat) (p : List PV) : fzs (p.take n) = (fzs p).take n := by rw [fzs_map, fzs_map, List.map_take]
@[simp] theorem fzs_drop (n : Nat) (p : List PV) : fzs (p.drop n) = (fzs p).drop n := by rw [fzs_map, fzs_map, List.map_drop]
@[simp] theorem fzs_tail (p : List PV) : fzs p.tail = (fzs p).tail := by cases p <;> rfl
@[simp] theorem clos_tail_ints (l : List Int) : clos (l.map PV.int).tail = true := by cases l <;> simp
@[simp] theorem fzs_rev (p : List PV) : fzs p.reverse = (fzs p).reverse := by rw [fzs_map, fzs_map, List.map_reverse]
@[simp] theorem fzs_repl (n : Nat) (p : PV) : fzs (List.replicate n p) = List.replicate n (fz p) := by rw [fzs_map, List.map_replicate]
@[simp] theorem rngP_len (lo : Int) (n : Nat) : (rngP lo n).length = n := by simp [rngP]
@[simp] theorem blsP_repl (n : Nat) (b : Bool) : blsP (List.replicate n (.bl b)) = some (List.replicate n b) := by rw [← List.map_replicate, blsP_bls]
@[simp] theorem intsP_repl (n : Nat) (b : Int) : intsP (List.replicate n (.int b)) = some (List.replicate n b) := by rw [← List.map_replicate, intsP_ints]
@[simp] theorem clos_app (p q : List PV) : clos (p ++ q) = (clos p && clos q) := by
  induction p with
  | nil => rfl
  | cons x p ih => simp [ih, Bool.and_assoc]
mutual
@[simp] def eqq : PV → PV → Bool
  | .non, .non => true
  | .bl a, .bl b => a == b
  | .bl a, .int j => (if a then 1 else 0) == j
  | .int i, .bl b => i == (if b then 1 else 0)
  | .int i, .int j => decide (i = j)
  | .str x, .str y => decide (x = y)
  | .tup xs, .tup ys => eqqs xs ys
  | .lst _ xs, .lst _ ys => eqqs xs ys
  | .lst _ xs, .scr ys => eqqs xs ys
  | .scr xs, .lst _ ys => eqqs xs ys
  | .scr xs, .scr ys => eqqs xs ys
  | _, _ => false
@[simp] def eqqs : List PV → List PV → Bool
  | [], [] => true
  | x :: xs, y :: ys => eqq x y && eqqs xs ys
  | _, _ => false
end
mutual
@[simp] def lay : Nat → PV → Bool
  | _, .non => true
  | _, .bl _ => true
  | _, .int _ => true
  | _, .str s => PyData.strOk s
  | k + 1, .tup xs => lays k xs
  | k + 1, .lst _ xs => lays k xs
  | k + 1, .scr xs => lays k xs
  | _, _ => false
@[simp] def lays : Nat → List PV → Bool
  | _, [] => true
  | k, x :: xs => lay k x && lays k xs
end
mutual
def toD : PV → PyData
  | .non => .none
  | .bl b => .bool b
  | .int i => .int i
  | .str s => .str s
  | .tup xs => .tuple (toDs xs)
  | .lst _ xs => .list (toDs xs)
  | .scr xs => .list (toDs xs)
  | .dct _ _ _ => .none
  | .exo _ => .none
def toDs : List PV → List PyData
  | [] => []
  | x :: xs => toD x :: toDs xs
end
mutual
theorem lay_dat : ∀ (k : Nat) (p : PV), lay k p = true → pdat (k + 1) p = some (toD p) ∧ (toD p).canLay0 = true ∧ (toD p).depth ≤ k
  | k, .non, h => ⟨rfl, rfl, Nat.zero_le _⟩
  | k, .bl _, h => ⟨rfl, rfl, Nat.zero_le _⟩
  | k, .int _, h => ⟨by simp [pdat, toD], by simp [toD, PyData.canLay0], by simp [toD, PyData.depth]⟩
  | k, .str s, h => ⟨by simp [pdat, toD], by simpa [toD, PyData.canLay0] using h, by simp [toD, PyData.depth]⟩
  | 0, .tup xs, h => by simp at h
  | 0, .lst _ xs, h => by simp at h
  | 0, .scr xs, h => by simp at h
  | 0, .dct _ _ _, h => by simp at h
  | k + 1, .dct _ _ _, h => by simp at h
  | 0, .exo _, h => by simp at h
  | k + 1, .exo _, h => by simp at h
  | k + 1, .tup xs, h => by
    obtain ⟨h1, h2, h3⟩ := lays_dat k xs (by simpa using h)
    exact ⟨by simp [pdat, toD, h1], by simpa [toD, PyData.canLay0] using h2, by simp [toD, PyData.depth]; omega⟩
  | k + 1, .lst _ xs, h => by
    obtain ⟨h1, h2, h3⟩ := lays_dat k xs (by simpa using h)
    exact ⟨by simp [pdat, toD, h1], by simpa [toD, PyData.canLay0] using h2, by simp [toD, PyData.depth]; omega⟩
  | k + 1, .scr xs, h => by
    obtain ⟨h1, h2, h3⟩ := lays_dat k xs (by simpa using h)
    exact ⟨by simp [pdat, toD, h1], by simpa [toD, PyData.canLay0] using h2, by simp [toD, PyData.depth]; omega⟩
theorem lays_dat : ∀ (k : Nat) (p : List PV), lays k p = true → pdats (k + 1) p = some (toDs p) ∧ PyData.canLayAll0 (toDs p) = true ∧ PyData.depthAll (toDs p) ≤ k
  | k, [], h => ⟨rfl, rfl, Nat.zero_le _⟩
  | k, x :: xs, h => by
    simp only [lays, Bool.and_eq_true] at h
    obtain ⟨a1, a2, a3⟩ := lay_dat k x h.1
    obtain ⟨b1, b2, b3⟩ := lays_dat k xs h.2
    exact ⟨by simp [pdats, toDs, a1, b1], by simp [toDs, PyData.canLayAll0, a2, b2], by simp only [toDs, PyData.depthAll]; omega⟩
end
mutual
theorem lay_up : ∀ (k : Nat) (p : PV), lay k p = true → lay (k + 1) p = true
  | k, .non, h => by simp
  | k, .bl _, h => by simp
  | k, .int _, h => by simp
  | k, .str s, h => by simpa using h
  | 0, .tup xs, h => by simp at h
  | 0, .lst _ xs, h => by simp at h
  | 0, .scr xs, h => by simp at h
  | k, .dct _ _ _, h => by simp at h
  | k, .exo _, h => by cases k <;> simp at h
  | k + 1, .tup xs, h => by simpa using lays_up k xs (by simpa using h)
  | k + 1, .lst _ xs, h => by simpa using lays_up k xs (by simpa using h)
  | k + 1, .scr xs, h => by simpa using lays_up k xs (by simpa using h)
theorem lays_up : ∀ (k : Nat) (p : List PV), lays k p = true → lays (k + 1) p = true
  | k, [], h => by simp
  | k, x :: xs, h => by
    simp only [lays, Bool.and_eq_true] at h ⊢
    exact ⟨lay_up k x h.1, lays_up k xs h.2⟩
end
mutual
theorem eqv_eqq : ∀ (p q : PV) (k : Nat), lay k p = true → lay k q = true → (toD p).eqv (toD q) = eqq p q
  | .non, q, k, h, h' => by cases q <;> first | rfl | (simp at h'; done) | skip
  | .bl _, q, k, h, h' => by cases q <;> first | rfl | (simp at h'; done) | skip
  | .int i, q, k, h, h' => by
    cases q <;> first | rfl | (simp at h'; done) | skip
    all_goals simp [toD, PyData.eqv, eqq, beq_eq_decide]
  | .str i, q, k, h, h' => by
    cases q <;> first | rfl | (simp at h'; done) | skip
    all_goals simp [toD, PyData.eqv, eqq, beq_eq_decide]
  | .dct _ _ _, q, k, h, h' => by simp at h
  | .exo _, q, k, h, h' => by cases k <;> simp at h
  | .tup xs, q, k, h, h' => by
    cases k with
    | zero => simp at h
    | succ k =>
      cases q with
      | tup ys => simp only [toD, PyData.eqv, eqq]; exact eqvs_eqqs xs ys k (by simpa using h) (by simpa using h')
      | dct _ _ _ => simp at h'
      | exo _ => simp at h'
      | _ => rfl
  | .lst _ xs, q, k, h, h' => by
    cases k with
    | zero => simp at h
    | succ k =>
      cases q with
      | lst _ ys => simp only [toD, PyData.eqv, eqq]; exact eqvs_eqqs xs ys k (by simpa using h) (by simpa using h')
      | scr ys => simp only [toD, PyData.eqv, eqq]; exact eqvs_eqqs xs ys k (by simpa using h) (by simpa using h')
      | dct _ _ _ => simp at h'
      | exo _ => simp at h'
      | _ => rfl
  | .scr xs, q, k, h, h' => by
    cases k with
    | zero => simp at h
    | succ k =>
      cases q with
      | lst _ ys => simp only [toD, PyData.eqv, eqq]; exact eqvs_eqqs xs ys k (by simpa using h) (by simpa using h')
      | scr ys => simp only [toD, PyData.eqv, eqq]; exact eqvs_eqqs xs ys k (by simpa using h) (by simpa using h')
      | dct _ _ _ => simp at h'
      | exo _ => simp at h'
      | _ => rfl
theorem eqvs_eqqs : ∀ (p q : List PV) (k : Nat), lays k p = true → lays k q = true → PyData.eqvAll (toDs p) (toDs q) = eqqs p q
  | [], [], k, h, h' => rfl
  | [], _ :: _, k, h, h' => rfl
  | _ :: _, [], k, h, h' => rfl
  | x :: xs, y :: ys, k, h, h' => by
    simp only [lays, Bool.and_eq_true] at h h'
    simp only [toDs, PyData.eqvAll, eqqs, eqv_eqq x y k h.1 h'.1, eqvs_eqqs xs ys k h.2 h'.2]
end
theorem eqP_eq {p q : PV} (h : lay 64 p = true) (h' : lay 64 q = true) : eqP p q = some (eqq p q) := by
  unfold eqP
  by_cases hs : scalP p q = true
  · rw [if_pos hs]
    cases p <;> cases q <;> first | (cases hs; done) | rfl | skip
    all_goals simp [beq_eq_decide]
  · rw [if_neg hs]
    obtain ⟨a1, a2, a3⟩ := lay_dat 64 p h
    obtain ⟨b1, b2, b3⟩ := lay_dat 64 q h'
    have a4 := (lay_dat 65 p (lay_up 64 p h)).1
    have b4 := (lay_dat 65 q (lay_up 64 q h')).1
    rw [a4, b4]
    simp only [SeqAt.shaped, a2, b2, a3, b3, decide_true, Bool.and_self, and_self, if_true, eqv_eqq p q 64 h h']
@[simp] theorem lay40_lst {o : Bool} {xs : List PV} : lay 40 (.lst o xs) = lays 39 xs := rfl
@[simp] theorem lay40_tup {xs : List PV} : lay 40 (.tup xs) = lays 39 xs := rfl
@[simp] theorem lay40_scr {xs : List PV} : lay 40 (.scr xs) = lays 39 xs := rfl
@[simp] theorem lay41_lst {o : Bool} {xs : List PV} : lay 41 (.lst o xs) = lays 40 xs := rfl
@[simp] theorem lay41_tup {xs : List PV} : lay 41 (.tup xs) = lays 40 xs := rfl
@[simp] theorem lay41_scr {xs : List PV} : lay 41 (.scr xs) = lays 40 xs := rfl
@[simp] theorem lay42_lst {o : Bool} {xs : List PV} : lay 42 (.lst o xs) = lays 41 xs := rfl
@[simp] theorem lay42_tup {xs : List PV} : lay 42 (.tup xs) = lays 41 xs := rfl
@[simp] theorem lay42_scr {xs : List PV} : lay 42 (.scr xs) = lays 41 xs := rfl
@[simp] theorem lay43_lst {o : Bool} {xs : List PV} : lay 43 (.lst o xs) = lays 42 xs := rfl
@[simp] theorem lay43_tup {xs : List PV} : lay 43 (.tup xs) = lays 42 xs := rfl
@[simp] theorem lay43_scr {xs : List PV} : lay 43 (.scr xs) = lays 42 xs := rfl
@[simp] theorem lay44_lst {o : Bool} {xs : List PV} : lay 44 (.lst o xs) = lays 43 xs := rfl
@[simp] theorem lay44_tup {xs : List PV} : lay 44 (.tup xs) = lays 43 xs := rfl
@[simp] theorem lay44_scr {xs : List PV} : lay 44 (.scr xs) = lays 43 xs := rfl
@[simp] theorem lay45_lst {o : Bool} {xs : List PV} : lay 45 (.lst o xs) = lays 44 xs := rfl
@[simp] theorem lay45_tup {xs : List PV} : lay 45 (.tup xs) = lays 44 xs := rfl
@[simp] theorem lay45_scr {xs : List PV} : lay 45 (.scr xs) = lays 44 xs := rfl
@[simp] theorem lay46_lst {o : Bool} {xs : List PV} : lay 46 (.lst o xs) = lays 45 xs := rfl
@[simp] theorem lay46_tup {xs : List PV} : lay 46 (.tup xs) = lays 45 xs := rfl
@[simp] theorem lay46_scr {xs : List PV} : lay 46 (.scr xs) = lays 45 xs := rfl
@[simp] theorem lay47_lst {o : Bool} {xs : List PV} : lay 47 (.lst o xs) = lays 46 xs := rfl
@[simp] theorem lay47_tup {xs : List PV} : lay 47 (.tup xs) = lays 46 xs := rfl
@[simp] theorem lay47_scr {xs : List PV} : lay 47 (.scr xs) = lays 46 xs := rfl
@[simp] theorem lay48_lst {o : Bool} {xs : List PV} : lay 48 (.lst o xs) = lays 47 xs := rfl
@[simp] theorem lay48_tup {xs : List PV} : lay 48 (.tup xs) = lays 47 xs := rfl
@[simp] theorem lay48_scr {xs : List PV} : lay 48 (.scr xs) = lays 47 xs := rfl
@[simp] theorem lay49_lst {o : Bool} {xs : List PV} : lay 49 (.lst o xs) = lays 48 xs := rfl
@[simp] theorem lay49_tup {xs : List PV} : lay 49 (.tup xs) = lays 48 xs := rfl
@[simp] theorem lay49_scr {xs : List PV} : lay 49 (.scr xs) = lays 48 xs := rfl
@[simp] theorem lay50_lst {o : Bool} {xs : List PV} : lay 50 (.lst o xs) = lays 49 xs := rfl
@[simp] theorem lay50_tup {xs : List PV} : lay 50 (.tup xs) = lays 49 xs := rfl
@[simp] theorem lay50_scr {xs : List PV} : lay 50 (.scr xs) = lays 49 xs := rfl
@[simp] theorem lay51_lst {o : Bool} {xs : List PV} : lay 51 (.lst o xs) = lays 50 xs := rfl
@[simp] theorem lay51_tup {xs : List PV} : lay 51 (.tup xs) = lays 50 xs := rfl
@[simp] theorem lay51_scr {xs : List PV} : lay 51 (.scr xs) = lays 50 xs := rfl
@[simp] theorem lay52_lst {o : Bool} {xs : List PV} : lay 52 (.lst o xs) = lays 51 xs := rfl
@[simp] theorem lay52_tup {xs : List PV} : lay 52 (.tup xs) = lays 51 xs := rfl
@[simp] theorem lay52_scr {xs : List PV} : lay 52 (.scr xs) = lays 51 xs := rfl
@[simp] theorem lay53_lst {o : Bool} {xs : List PV} : lay 53 (.lst o xs) = lays 52 xs := rfl
@[simp] theorem lay53_tup {xs : List PV} : lay 53 (.tup xs) = lays 52 xs := rfl
@[simp] theorem lay53_scr {xs : List PV} : lay 53 (.scr xs) = lays 52 xs := rfl
@[simp] theorem lay54_lst {o : Bool} {xs : List PV} : lay 54 (.lst o xs) = lays 53 xs := rfl
@[simp] theorem lay54_tup {xs : List PV} : lay 54 (.tup xs) = lays 53 xs := rfl
@[simp] theorem lay54_scr {xs : List PV} : lay 54 (.scr xs) = lays 53 xs := rfl
@[simp] theorem lay55_lst {o : Bool} {xs : List PV} : lay 55 (.lst o xs) = lays 54 xs := rfl
@[simp] theorem lay55_tup {xs : List PV} : lay 55 (.tup xs) = lays 54 xs := rfl
@[simp] theorem lay55_scr {xs : List PV} : lay 55 (.scr xs) = lays 54 xs := rfl
@[simp] theorem lay56_lst {o : Bool} {xs : List PV} : lay 56 (.lst o xs) = lays 55 xs := rfl
@[simp] theorem lay56_tup {xs : List PV} : lay 56 (.tup xs) = lays 55 xs := rfl
@[simp] theorem lay56_scr {xs : List PV} : lay 56 (.scr xs) = lays 55 xs := rfl
@[simp] theorem lay57_lst {o : Bool} {xs : List PV} : lay 57 (.lst o xs) = lays 56 xs := rfl
@[simp] theorem lay57_tup {xs : List PV} : lay 57 (.tup xs) = lays 56 xs := rfl
@[simp] theorem lay57_scr {xs : List PV} : lay 57 (.scr xs) = lays 56 xs := rfl
@[simp] theorem lay58_lst {o : Bool} {xs : List PV} : lay 58 (.lst o xs) = lays 57 xs := rfl
@[simp] theorem lay58_tup {xs : List PV} : lay 58 (.tup xs) = lays 57 xs := rfl
@[simp] theorem lay58_scr {xs : List PV} : lay 58 (.scr xs) = lays 57 xs := rfl
@[simp] theorem lay59_lst {o : Bool} {xs : List PV} : lay 59 (.lst o xs) = lays 58 xs := rfl
@[simp] theorem lay59_tup {xs : List PV} : lay 59 (.tup xs) = lays 58 xs := rfl
@[simp] theorem lay59_scr {xs : List PV} : lay 59 (.scr xs) = lays 58 xs := rfl
@[simp] theorem lay60_lst {o : Bool} {xs : List PV} : lay 60 (.lst o xs) = lays 59 xs := rfl
@[simp] theorem lay60_tup {xs : List PV} : lay 60 (.tup xs) = lays 59 xs := rfl
@[simp] theorem lay60_scr {xs : List PV} : lay 60 (.scr xs) = lays 59 xs := rfl
@[simp] theorem lay61_lst {o : Bool} {xs : List PV} : lay 61 (.lst o xs) = lays 60 xs := rfl
@[simp] theorem lay61_tup {xs : List PV} : lay 61 (.tup xs) = lays 60 xs := rfl
@[simp] theorem lay61_scr {xs : List PV} : lay 61 (.scr xs) = lays 60 xs := rfl
@[simp] theorem lay62_lst {o : Bool} {xs : List PV} : lay 62 (.lst o xs) = lays 61 xs := rfl
@[simp] theorem lay62_tup {xs : List PV} : lay 62 (.tup xs) = lays 61 xs := rfl
@[simp] theorem lay62_scr {xs : List PV} : lay 62 (.scr xs) = lays 61 xs := rfl
@[simp] theorem lay63_lst {o : Bool} {xs : List PV} : lay 63 (.lst o xs) = lays 62 xs := rfl
@[simp] theorem lay63_tup {xs : List PV} : lay 63 (.tup xs) = lays 62 xs := rfl
@[simp] theorem lay63_scr {xs : List PV} : lay 63 (.scr xs) = lays 62 xs := rfl
@[simp] theorem lay64_lst {o : Bool} {xs : List PV} : lay 64 (.lst o xs) = lays 63 xs := rfl
@[simp] theorem lay64_tup {xs : List PV} : lay 64 (.tup xs) = lays 63 xs := rfl
@[simp] theorem lay64_scr {xs : List PV} : lay 64 (.scr xs) = lays 63 xs := rfl
@[simp] theorem clos_repl (n : Nat) (p : PV) : clos (List.replicate n p) = (n == 0 || clo p) := by
  induction n with
  | zero => rfl
  | succ n ih => simp [List.replicate_succ, ih]; exact fun h => .inr h
@[simp] theorem lays_repl (k n : Nat) (p : PV) : lays k (List.replicate n p) = (n == 0 || lay k p) := by
  induction n with
  | zero => simp
  | succ n ih => simp [List.replicate_succ, ih]; exact fun h => .inr h
def eqP0 : PV → PV → Option Bool := eqP
theorem eqP_if (p q : PV) : eqP p q = if lay 64 p = true ∧ lay 64 q = true then some (eqq p q) else eqP0 p q := by
  split
  · rename_i h; exact eqP_eq h.1 h.2
  · rfl
@[simp] theorem eqP_lst_lst {a b : Bool} {xs ys : List PV} : eqP (.lst a xs) (.lst b ys) = if lay 64 (.lst a xs) = true ∧ lay 64 (.lst b ys) = true then some (eqq (.lst a xs) (.lst b ys)) else eqP0 (.lst a xs) (.lst b ys) := eqP_if _ _
@[simp] theorem eqP_tup_tup {xs ys : List PV} : eqP (.tup xs) (.tup ys) = if lay 64 (.tup xs) = true ∧ lay 64 (.tup ys) = true then some (eqq (.tup xs) (.tup ys)) else eqP0 (.tup xs) (.tup ys) := eqP_if _ _
@[simp] theorem eqP_lst_scr {a : Bool} {xs ys : List PV} : eqP (.lst a xs) (.scr ys) = if lay 64 (.lst a xs) = true ∧ lay 64 (.scr ys) = true then some (eqq (.lst a xs) (.scr ys)) else eqP0 (.lst a xs) (.scr ys) := eqP_if _ _
@[simp] theorem eqP_scr_lst {b : Bool} {xs ys : List PV} : eqP (.scr xs) (.lst b ys) = if lay 64 (.scr xs) = true ∧ lay 64 (.lst b ys) = true then some (eqq (.scr xs) (.lst b ys)) else eqP0 (.scr xs) (.lst b ys) := eqP_if _ _
@[simp] theorem eqP_tup_non {xs : List PV} : eqP (.tup xs) .non = if lay 64 (.tup xs) = true ∧ lay 64 .non = true then some (eqq (.tup xs) .non) else eqP0 (.tup xs) .non := eqP_if _ _
@[simp] theorem eqP_non_tup {xs : List PV} : eqP .non (.tup xs) = if lay 64 .non = true ∧ lay 64 (.tup xs) = true then some (eqq .non (.tup xs)) else eqP0 .non (.tup xs) := eqP_if _ _
@[simp] theorem eqP_lst_tup {a : Bool} {xs ys : List PV} : eqP (.lst a xs) (.tup ys) = if lay 64 (.lst a xs) = true ∧ lay 64 (.tup ys) = true then some (eqq (.lst a xs) (.tup ys)) else eqP0 (.lst a xs) (.tup ys) := eqP_if _ _
@[simp] theorem eqP_tup_lst {a : Bool} {xs ys : List PV} : eqP (.tup xs) (.lst a ys) = if lay 64 (.tup xs) = true ∧ lay 64 (.lst a ys) = true then some (eqq (.tup xs) (.lst a ys)) else eqP0 (.tup xs) (.lst a ys) := eqP_if _ _
@[simp] theorem eqP_int_tup {i : Int} {ys : List PV} : eqP (.int i) (.tup ys) = if lay 64 (.int i) = true ∧ lay 64 (.tup ys) = true then some (eqq (.int i) (.tup ys)) else eqP0 (.int i) (.tup ys) := eqP_if _ _
@[simp] theorem eqP_tup_int {i : Int} {ys : List PV} : eqP (.tup ys) (.int i) = if lay 64 (.tup ys) = true ∧ lay 64 (.int i) = true then some (eqq (.tup ys) (.int i)) else eqP0 (.tup ys) (.int i) := eqP_if _ _
@[simp] theorem eqP_str_tup {i : Str} {ys : List PV} : eqP (.str i) (.tup ys) = if lay 64 (.str i) = true ∧ lay 64 (.tup ys) = true then some (eqq (.str i) (.tup ys)) else eqP0 (.str i) (.tup ys) := eqP_if _ _
@[simp] theorem eqP_tup_str {i : Str} {ys : List PV} : eqP (.tup ys) (.str i) = if lay 64 (.tup ys) = true ∧ lay 64 (.str i) = true then some (eqq (.tup ys) (.str i)) else eqP0 (.tup ys) (.str i) := eqP_if _ _
@[simp] theorem lays_ints (k : Nat) (ns : List Int) : lays k (ns.map PV.int) = true := by
  induction ns with
  | nil => simp
  | cons n ns ih => simp [ih]
@[simp] theorem eqqs_ints_nil (a : List Int) : eqqs (a.map PV.int) [] = decide (a = []) := by cases a <;> simp
@[simp] theorem lays_app (k : Nat) (p q : List PV) : lays k (p ++ q) = (lays k p && lays k q) := by
  induction p with
  | nil => simp
  | cons x p ih => simp [ih, Bool.and_assoc]
@[simp] theorem eqqs_ints : ∀ (a b : List Int), eqqs (a.map PV.int) (b.map PV.int) = decide (a = b)
  | [], [] => by simp
  | [], _ :: _ => by simp
  | _ :: _, [] => by simp
  | x :: a, y :: b => by simp [eqqs_ints a b, Bool.decide_and]
theorem log2_le {n k : Nat} (h : n < 2 ^ k) (hk : 0 < k) : n.log2 < k := log2_lt h hk
@[simp] theorem mulOk_lit_l {a b : Int} (h : a.natAbs < 18446744073709551616) : IntMulOk a b := mulOk_l h
theorem mulOk_lit_r {a b : Int} (h : b.natAbs < 18446744073709551616) : IntMulOk a b := mulOk_r h
end Fe
namespace Fe
open PySem PySem.Spec PyProof.Rows L2
theorem forV_inv {Q : SV → Prop} {body : PV → SV → RSP} : ∀ (items : List PV) (h : ∀ x ∈ items, ∀ σ, Q σ → ∃ σ', (body x σ = .nx σ' ∨ body x σ = .ct σ') ∧ Q σ') (σ : SV), Q σ → ∃ σ', forV body items σ = .nx σ' ∧ Q σ'
  | [], _, σ, q => ⟨σ, rfl, q⟩
  | x :: xs, h, σ, q => by
    obtain ⟨σ1, e, q1⟩ := h x List.mem_cons_self σ q
    obtain ⟨σ2, e2, q2⟩ := forV_inv xs (fun y hy => h y (List.mem_cons_of_mem _ hy)) σ1 q1
    refine ⟨σ2, ?_, q2⟩
    rcases e with e | e <;> simp only [forV, e, e2]
/-- .. with what has been walked so far -/
theorem forV_pre {Q : List PV → SV → Prop} {body : PV → SV → RSP} : ∀ (items pre : List PV) (h : ∀ p x r, pre ++ items = p ++ x :: r → ∀ σ, Q p σ → ∃ σ', (body x σ = .nx σ' ∨ body x σ = .ct σ') ∧ Q (p ++ [x]) σ') (σ : SV), Q pre σ → ∃ σ', forV body items σ = .nx σ' ∧ Q (pre ++ items) σ'
  | [], pre, _, σ, q => ⟨σ, rfl, by simpa using q⟩
  | x :: xs, pre, h, σ, q => by
    obtain ⟨σ1, e, q1⟩ := h pre x xs rfl σ q
    obtain ⟨σ2, e2, q2⟩ := forV_pre xs (pre ++ [x]) (fun p y r hp => h p y r (by rw [← hp]; simp)) σ1 q1
    refine ⟨σ2, ?_, by simpa using q2⟩
    rcases e with e | e <;> simp only [forV, e, e2]
/-- a while loop with a measure -/
theorem whlV_inv {Q : SV → Prop} {m : SV → Nat} {t : SV → RP Bool} {b : SV → RSP} (h : ∀ σ, Q σ → ∃ c, t σ = .ok c ∧ (c = true → ∃ σ', (b σ = .nx σ' ∨ b σ = .ct σ') ∧ Q σ' ∧ m σ' < m σ)) : ∀ (n : Nat) (σ : SV), m σ < n → Q σ → ∃ σ', whlV t b n σ = .nx σ' ∧ Q σ' ∧ t σ' = .ok false
  | 0, σ, hm, _ => by omega
  | n + 1, σ, hm, q => by
    obtain ⟨c, e, k⟩ := h σ q
    cases c with
    | false => exact ⟨σ, by simp [whlV, e], q, e⟩
    | true =>
      obtain ⟨σ1, e1, q1, m1⟩ := k rfl
      obtain ⟨σ2, e2, q2, t2⟩ := whlV_inv h n σ1 (by omega) q1
      refine ⟨σ2, ?_, q2, t2⟩
      rcases e1 with e1 | e1 <;> simp [whlV, e, e1, e2]
theorem forV_map {α : Type} {f : α → PV} {body : PV → SV → RSP} {step : α → SV → SV} : ∀ (l : List α) (σ : SV), (∀ pre x post σ', l = pre ++ x :: post → σ' = pre.foldl (fun s a => step a s) σ → body (f x) σ' = .nx (step x σ')) → forV body (l.map f) σ = .nx (l.foldl (fun s a => step a s) σ)
  | [], σ, _ => rfl
  | x :: l, σ, h => by
    have e := h [] x l σ rfl rfl
    simp only [List.map_cons, forV, e, List.foldl_cons]
    exact forV_map l (step x σ) fun pre y post σ' hl hs => h (x :: pre) y post σ' (by rw [hl]; rfl) hs
theorem lcV_map {asg : PV → Option SV} {elt : SV → RP PV} {pf : SV → RP Bool} {f : PV → PV} : ∀ (l : List PV), (∀ x ∈ l, ∃ σ, asg x = some σ ∧ pf σ = .ok true ∧ ∃ y, elt σ = .ok y ∧ fz y = f x) → lcV asg pf elt l = .ok (l.map f)
  | [], _ => rfl
  | x :: l, h => by
    obtain ⟨σ, e1, e2, y, e3, e4⟩ := h x List.mem_cons_self
    simp only [lcV, e1, e2, e3, lcV_map l fun z hz => h z (List.mem_cons_of_mem _ hz), e4, List.map_cons]
theorem lcV_filter {asg : PV → Option SV} {elt : SV → RP PV} {pf : SV → RP Bool} {f : PV → PV} {c : PV → Bool} : ∀ (l : List PV), (∀ x ∈ l, ∃ σ, asg x = some σ ∧ pf σ = .ok (c x) ∧ (c x = true → ∃ y, elt σ = .ok y ∧ fz y = f x)) → lcV asg pf elt l = .ok ((l.filter c).map f)
  | [], _ => rfl
  | x :: l, h => by
    obtain ⟨σ, e1, e2, k⟩ := h x List.mem_cons_self
    have ih := lcV_filter l fun z hz => h z (List.mem_cons_of_mem _ hz)
    cases hc : c x with
    | false => simp only [lcV, e1, e2, hc, ih, List.filter_cons_of_neg (show ¬ c x = true by simp [hc])]
    | true =>
      obtain ⟨y, e3, e4⟩ := k hc
      rw [hc] at e2
      simp only [lcV, e1, e2, e3, ih, e4, List.filter_cons_of_pos hc, List.map_cons]
theorem cut_to {α : Type} (xs : List α) (k : Nat) : cutL xs none (some (k : Int)) = xs.take k := by
  unfold cutL
  rw [show HT.sIx xs.length 0 none = 0 from rfl, HT.sIx_nat, Nat.sub_zero, List.drop_zero]
  by_cases h : k ≤ xs.length
  · rw [Nat.min_eq_left h]
  · rw [Nat.min_eq_right (by omega), List.take_of_length_le (Nat.le_refl _), List.take_of_length_le (by omega)]
theorem cut_from {α : Type} (xs : List α) (k : Nat) : cutL xs (some (k : Int)) none = xs.drop k := by
  unfold cutL
  rw [show HT.sIx xs.length xs.length none = xs.length from rfl, HT.sIx_nat]
  by_cases h : k ≤ xs.length
  · rw [Nat.min_eq_left h, List.take_of_length_le (by rw [List.length_drop]; exact Nat.le_refl _)]
  · rw [Nat.min_eq_right (by omega), List.drop_of_length_le (Nat.le_refl _), List.drop_of_length_le (by omega)]
    simp
theorem cut_mid {α : Type} (xs : List α) (a b : Nat) (h : a ≤ b) : cutL xs (some (a : Int)) (some (b : Int)) = (xs.take b).drop a := by
  unfold cutL
  rw [HT.sIx_nat, HT.sIx_nat]
  by_cases h1 : b ≤ xs.length
  · rw [Nat.min_eq_left h1, Nat.min_eq_left (by omega), ← List.drop_take]
  · rw [Nat.min_eq_right (by omega), List.take_of_length_le (i := b) (l := xs) (by omega)]
    by_cases h2 : a ≤ xs.length
    · rw [Nat.min_eq_left h2, List.take_of_length_le (by rw [List.length_drop]; exact Nat.le_refl _)]
    · rw [Nat.min_eq_right (by omega), List.drop_of_length_le (Nat.le_refl _), List.drop_of_length_le (by omega)]
      simp
theorem intBits_le {a b : Int} (h : a.natAbs ≤ b.natAbs) : Builtin.Int.intBits a ≤ Builtin.Int.intBits b := by
  unfold Builtin.Int.intBits
  by_cases ha : a = 0
  · simp [ha]
  · have hb : b ≠ 0 := by omega
    simp only [beq_iff_eq, ha, hb, if_false]
    have h1 : a.natAbs ≠ 0 := by omega
    have : a.natAbs.log2 ≤ b.natAbs.log2 := by
      have h2 : 2 ^ a.natAbs.log2 ≤ b.natAbs := Nat.le_trans (Nat.log2_self_le h1) h
      exact (Nat.le_log2 (by omega)).mpr h2
    omega
theorem div_abs (z : Int) {k : Int} (hk : 0 < k) : (z / k).natAbs ≤ z.natAbs := by
  have h := Int.mul_ediv_add_emod z k
  have h1 := Int.emod_nonneg z (show k ≠ 0 by omega)
  have h2 := Int.emod_lt_of_pos z hk
  by_cases hz : 0 ≤ z
  · have := Int.ediv_nonneg hz (show 0 ≤ k by omega)
    have h3 : z / k ≤ z := Int.ediv_le_self k hz
    omega
  · have h3 : z / k < 0 := Int.ediv_neg_of_neg_of_pos (by omega) hk
    have h4 : z ≤ z / k := by
      have h5 : k * (z / k) ≤ z := by omega
      have h6 : z < k * (z / k) + k := by omega
      by_cases h8 : z ≤ z / k
      · exact h8
      · exfalso
        have h9 : z / k + 1 ≤ z := by omega
        have h10 : (k - 1) * (z / k) ≤ (k - 1) * (-1) := Int.mul_le_mul_of_nonneg_left (by omega) (by omega)
        have h11 : (k - 1) * (z / k) = k * (z / k) - z / k := by rw [Int.sub_mul, Int.one_mul]
        omega
    omega
theorem mulOk_big {a b : Int} (ha : Builtin.Int.intBits a ≤ 2097152) (hb : Builtin.Int.intBits b ≤ 2097152) : IntMulOk a b := by
  unfold IntMulOk
  have : Builtin.Int.intTooBig ((Builtin.Int.intBits a : Int) + (Builtin.Int.intBits b : Int)) = false := by
    unfold Builtin.Int.intTooBig
    have : PySem.bitsLine = 134217728 := by decide +kernel
    rw [this]
    simp
    omega
  simp [this]
theorem stepV {G : GV} {s : S} {r : Ss} {σ σ' : SV} {R : RSP} (h : execV G s σ = .nx σ') (h2 : execsV G r σ' = R) : execsV G (.cons s r) σ = R := by
  simp only [execsV, h]; exact h2
theorem lastV {G : GV} {s : S} {r : Ss} {σ : SV} {v : PV} (h : execV G s σ = .rt v) : execsV G (.cons s r) σ = .rt v := by
  simp only [execsV, h]; rfl
theorem contV {G : GV} {s : S} {r : Ss} {σ σ' : SV} (h : execV G s σ = .ct σ') : execsV G (.cons s r) σ = .ct σ' := by
  simp only [execsV, h]; rfl
theorem doneV {G : GV} {σ : SV} : execsV G .nil σ = .nx σ := rfl
theorem frV_of {a : PV → SV → Option SV} {b : SV → RSP} {x : PV} {σ σ1 : SV} {R : RSP} (h : a x σ = some σ1) (h2 : b σ1 = R) : frV a b x σ = R := by simp only [frV, h]; exact h2
theorem runV_of {G : GV} {b : Ss} {σ : SV} {v : PV} (h : execsV G b σ = .rt v) : runV (execsV G b σ) = .ok v := by rw [h]; rfl
theorem callV_run {P : Pg} {k f : Nat} {ps : List PV} {d : Df} {σ : SV} {v : PV} (e : P.fn f = some d) (h : ps.length = d.np) (hs : (fzs ps).map some ++ List.replicate (d.nl - d.np) none = σ) (hb : execsV (gvO P (callV P k)) d.body σ = .rt v) (hio : d.io = [] := by rfl) (hnf : nofxSs d.body = true := by rfl) : callV P (k + 1) f ps = .ok v := by
  rw [callV_eq e h hio hnf, hs]; exact runV_of hb
@[simp] theorem evV_isx {G : GV} {d : Nat} {cs : List Nat} {σ : SV} : evV (G.heat d) (.isx cs) σ = .ok (.bl (cs.any (subX d))) := by
  simp [evV, GV.heat]
@[simp] theorem heat_N {G : GV} {d : Nat} : (G.heat d).N = G.N := rfl
@[simp] theorem execV_raise {G : GV} {d : Nat} {σ : SV} : execV G (.raise d) σ = .exc d σ := rfl
theorem raisV {G : GV} {s : S} {r : Ss} {σ σ' : SV} {d : Nat} (h : execV G s σ = .exc d σ') : execsV G (.cons s r) σ = .exc d σ' := by
  simp only [execsV, h]; rfl
theorem callV_exc {P : Pg} {k f : Nat} {ps : List PV} {d : Df} {σ σ' : SV} {c : Nat} (e : P.fn f = some d) (h : ps.length = d.np) (hs : (fzs ps).map some ++ List.replicate (d.nl - d.np) none = σ) (hb : execsV (gvO P (callV P k)) d.body σ = .exc c σ') (hio : d.io = [] := by rfl) (hnf : nofxSs d.body = true := by rfl) : callV P (k + 1) f ps = .exc c := by
  rw [callV_eq e h hio hnf, hs, hb]; rfl
theorem execV_try {G : GV} {i : Option Nat} {e : Nat} {b h : Ss} {σ : SV} : execV G (.tryc i e b h) σ = tryV i e (fun d σ => execsV (G.heat d) h σ) (execsV G b σ) := rfl
@[simp] theorem execV_tryk {G : GV} {i e j : Nat} {b : Ss} {σ : SV} : execV G (.tryk i e b j) σ = tryK i j e (execsV G b σ) := rfl
@[simp] theorem tryK_exc {i e j d : Nat} {σ : SV} : tryK i j e (.exc d σ) = if subX d e = true then .nx ((σ.set j (some (.exo d))).set i none) else .exc d σ := rfl
@[simp] theorem tryK_nx {i e j : Nat} {σ : SV} : tryK i j e (.nx σ) = .nx σ := rfl
/-- a try whose body raises what is caught -/
theorem try_exc {G : GV} {i : Option Nat} {e d : Nat} {b h : Ss} {σ σ1 σ2 : SV} (hb : execsV G b σ = .exc d σ1) (hs : subX d e = true) (hh : execsV (G.heat d) h (killV i σ1) = .nx σ2) : execV G (.tryc i e b h) σ = .nx (killV i σ2) := by
  rw [execV_try, hb]
  simp only [tryV, hs, if_true, hh, finV]
/-- a try that runs through -/
theorem try_nx {G : GV} {i : Option Nat} {e : Nat} {b h : Ss} {σ σ1 : SV} (hb : execsV G b σ = .nx σ1) : execV G (.tryc i e b h) σ = .nx σ1 := by
  rw [execV_try, hb]; rfl
@[simp] theorem atI_0 {a : PV} {l : List PV} : atI (a :: l) 0 = some a := atI_nat (j := 0) (by simp)
@[simp] theorem atI_1 {a b : PV} {l : List PV} : atI (a :: b :: l) 1 = some b := atI_nat (j := 1) (by simp)
@[simp] theorem atI_2 {a b c : PV} {l : List PV} : atI (a :: b :: c :: l) 2 = some c := atI_nat (j := 2) (by simp)
@[simp] theorem atI_3 {a b c d : PV} {l : List PV} : atI (a :: b :: c :: d :: l) 3 = some d := atI_nat (j := 3) (by simp)
@[simp] theorem atI_4 {a b c d e : PV} {l : List PV} : atI (a :: b :: c :: d :: e :: l) 4 = some e := atI_nat (j := 4) (by simp)
end Fe
namespace Fe
open PySem PySem.Spec PyProof.Rows L2
def d_room_put : Df := ⟨2, 5,
  .cons (.asg (.tup (.cons (.nm 2) (.cons (.nm 3) (.nil)))) (.nm 0))
  (.cons (.set 4 (.lst (.nil)))
  (.cons (.ife (.cmp .eq (.bi .len (.cons (.nm 2) (.nil))) (.nm 3))
  (.cons (.set 3 (.bin .mul (.cn (.int 2)) (.nm 3)))
  (.cons (.set 4 (.bin .mul (.lst (.cons (.cn (.str "moved")) (.nil))) (.bi .len (.cons (.nm 2) (.nil)))))
  (.nil)))
  (.nil))
  (.cons (.ret (.tup (.cons (.tup (.cons (.bin .add (.nm 2) (.lst (.cons (.nm 1) (.nil)))) (.cons (.nm 3) (.nil)))) (.cons (.bin .add (.nm 4) (.lst (.cons (.cn (.str "laid")) (.nil)))) (.nil)))))
  (.nil)))), []⟩
def d_room_take : Df := ⟨1, 5,
  .cons (.set 1 (.bi .list (.cons (.ix (.nm 0) (.cn (.int 0))) (.nil))))
  (.cons (.set 2 (.ix (.nm 0) (.cn (.int 1))))
  (.cons (.ife (.cmp .eq (.nm 1) (.lst (.nil)))
  (.cons (.raise 3)
  (.nil))
  (.nil))
  (.cons (.set 3 (.me .pop (.nm 1) (.nil)))
  (.cons (.set 4 (.lst (.cons (.cn (.str "taken")) (.nil))))
  (.cons (.ife (.and (.cmp .gt (.nm 2) (.gl 199)) (.one (.cmp .le (.bin .mul (.cn (.int 4)) (.bi .len (.cons (.nm 1) (.nil)))) (.nm 2))))
  (.cons (.set 2 (.bin .fdiv (.nm 2) (.cn (.int 2))))
  (.cons (.set 4 (.bin .add (.nm 4) (.bin .mul (.lst (.cons (.cn (.str "moved")) (.nil))) (.bi .len (.cons (.nm 1) (.nil))))))
  (.nil)))
  (.nil))
  (.cons (.ret (.tup (.cons (.nm 3) (.cons (.tup (.cons (.nm 1) (.cons (.nm 2) (.nil)))) (.cons (.nm 4) (.nil))))))
  (.nil))))))), []⟩
def d_room_credit : Df := ⟨1, 3,
  .cons (.set 1 (.bi .len (.cons (.ix (.nm 0) (.cn (.int 0))) (.nil))))
  (.cons (.set 2 (.ix (.nm 0) (.cn (.int 1))))
  (.cons (.ife (.cmp .gt (.bin .mul (.cn (.int 2)) (.nm 1)) (.nm 2))
  (.cons (.ret (.bin .sub (.bin .mul (.cn (.int 2)) (.nm 1)) (.nm 2)))
  (.nil))
  (.nil))
  (.cons (.ife (.cmp .gt (.nm 2) (.gl 199))
  (.cons (.ret (.bin .sub (.bin .fdiv (.nm 2) (.cn (.int 2))) (.nm 1)))
  (.nil))
  (.nil))
  (.cons (.ret (.cn (.int 0)))
  (.nil))))), []⟩
def d_put_first : Df := ⟨2, 4,
  .cons (.asg (.tup (.cons (.nm 2) (.cons (.nm 3) (.nil)))) (.nm 0))
  (.cons (.ret (.tup (.cons (.tup (.cons (.bin .add (.nm 2) (.lst (.cons (.nm 1) (.nil)))) (.cons (.bi .list (.cons (.nm 3) (.nil))) (.nil)))) (.cons (.lst (.cons (.cn (.str "laid")) (.nil))) (.nil)))))
  (.nil)), []⟩
def d_put_last : Df := ⟨2, 4,
  .cons (.asg (.tup (.cons (.nm 2) (.cons (.nm 3) (.nil)))) (.nm 0))
  (.cons (.ret (.tup (.cons (.tup (.cons (.bi .list (.cons (.nm 2) (.nil))) (.cons (.bin .add (.nm 3) (.lst (.cons (.nm 1) (.nil)))) (.nil)))) (.cons (.lst (.cons (.cn (.str "laid")) (.nil))) (.nil)))))
  (.nil)), []⟩
def d_shared_out : Df := ⟨2, 3,
  .cons (.ife (.cmp .ne (.nm 0) (.lst (.nil)))
  (.cons (.ret (.tup (.cons (.bi .list (.cons (.nm 0) (.nil))) (.cons (.bi .list (.cons (.nm 1) (.nil))) (.cons (.lst (.nil)) (.nil))))))
  (.nil))
  (.nil))
  (.cons (.set 2 (.bin .fdiv (.bin .add (.bi .len (.cons (.nm 1) (.nil))) (.cn (.int 1))) (.cn (.int 2))))
  (.cons (.ret (.tup (.cons (.o1 .lrev (.slc (.nm 1) .none (.some (.nm 2)))) (.cons (.slc (.nm 1) (.some (.nm 2)) .none) (.cons (.bin .mul (.lst (.cons (.cn (.str "moved")) (.nil))) (.bi .len (.cons (.nm 1) (.nil)))) (.nil))))))
  (.nil))), []⟩
def d_take_first : Df := ⟨1, 5,
  .cons (.asg (.tup (.cons (.nm 1) (.cons (.nm 2) (.cons (.nm 3) (.nil))))) (.call 81 (.cons (.ix (.nm 0) (.cn (.int 0))) (.cons (.ix (.nm 0) (.cn (.int 1))) (.nil)))))
  (.cons (.ife (.cmp .eq (.nm 1) (.lst (.nil)))
  (.cons (.raise 3)
  (.nil))
  (.nil))
  (.cons (.set 4 (.me .pop (.nm 1) (.nil)))
  (.cons (.ret (.tup (.cons (.nm 4) (.cons (.tup (.cons (.nm 1) (.cons (.nm 2) (.nil)))) (.cons (.bin .add (.nm 3) (.lst (.cons (.cn (.str "taken")) (.nil)))) (.nil))))))
  (.nil)))), []⟩
def d_take_last : Df := ⟨1, 5,
  .cons (.asg (.tup (.cons (.nm 1) (.cons (.nm 2) (.cons (.nm 3) (.nil))))) (.call 81 (.cons (.ix (.nm 0) (.cn (.int 1))) (.cons (.ix (.nm 0) (.cn (.int 0))) (.nil)))))
  (.cons (.ife (.cmp .eq (.nm 1) (.lst (.nil)))
  (.cons (.raise 3)
  (.nil))
  (.nil))
  (.cons (.set 4 (.me .pop (.nm 1) (.nil)))
  (.cons (.ret (.tup (.cons (.nm 4) (.cons (.tup (.cons (.nm 2) (.cons (.nm 1) (.nil)))) (.cons (.bin .add (.nm 3) (.lst (.cons (.cn (.str "taken")) (.nil)))) (.nil))))))
  (.nil)))), []⟩
def d_double_row : Df := ⟨1, 1,
  .cons (.ret (.bin .add (.o1 .lrev (.ix (.nm 0) (.cn (.int 0)))) (.ix (.nm 0) (.cn (.int 1)))))
  (.nil), []⟩
def d_double_credit : Df := ⟨1, 1,
  .cons (.ret (.bi .abs (.cons (.bin .sub (.bi .len (.cons (.ix (.nm 0) (.cn (.int 0))) (.nil))) (.bi .len (.cons (.ix (.nm 0) (.cn (.int 1))) (.nil)))) (.nil))))
  (.nil), []⟩
def d_queue_put : Df := ⟨2, 4,
  .cons (.asg (.tup (.cons (.nm 2) (.cons (.nm 3) (.nil)))) (.nm 0))
  (.cons (.ret (.tup (.cons (.tup (.cons (.bi .list (.cons (.nm 2) (.nil))) (.cons (.bin .add (.nm 3) (.lst (.cons (.nm 1) (.nil)))) (.nil)))) (.cons (.lst (.cons (.cn (.str "laid")) (.nil))) (.nil)))))
  (.nil)), []⟩
def wt0_queue_take : B := .cmp .ne (.nm 2) (.lst (.nil))
def wb0_queue_take : Ss := .cons (.expr (.me .append (.nm 1) (.cons (.me .pop (.nm 2) (.nil)) (.nil))))
  (.cons (.expr (.me .append (.nm 3) (.cons (.cn (.str "turned")) (.nil))))
  (.nil))
def d_queue_take : Df := ⟨1, 5,
  .cons (.set 1 (.bi .list (.cons (.ix (.nm 0) (.cn (.int 0))) (.nil))))
  (.cons (.set 2 (.bi .list (.cons (.ix (.nm 0) (.cn (.int 1))) (.nil))))
  (.cons (.set 3 (.lst (.nil)))
  (.cons (.ife (.cmp .eq (.nm 1) (.lst (.nil)))
  (.cons (.whl wt0_queue_take wb0_queue_take)
  (.nil))
  (.nil))
  (.cons (.ife (.cmp .eq (.nm 1) (.lst (.nil)))
  (.cons (.raise 3)
  (.nil))
  (.nil))
  (.cons (.set 4 (.me .pop (.nm 1) (.nil)))
  (.cons (.expr (.me .append (.nm 3) (.cons (.cn (.str "taken")) (.nil))))
  (.cons (.ret (.tup (.cons (.nm 4) (.cons (.tup (.cons (.nm 1) (.cons (.nm 2) (.nil)))) (.cons (.nm 3) (.nil))))))
  (.nil)))))))), []⟩
def d_queue_row : Df := ⟨1, 1,
  .cons (.ret (.bin .add (.o1 .lrev (.ix (.nm 0) (.cn (.int 0)))) (.ix (.nm 0) (.cn (.int 1)))))
  (.nil), []⟩
def d_queue_credit : Df := ⟨1, 1,
  .cons (.ret (.bi .len (.cons (.ix (.nm 0) (.cn (.int 1))) (.nil))))
  (.nil), []⟩
def d__law_cell_at : Df := ⟨2, 2,
  .cons (.ife (.cmp .lt (.nm 1) (.bi .len (.cons (.nm 0) (.nil))))
  (.cons (.ret (.ix (.nm 0) (.nm 1)))
  (.nil))
  (.nil))
  (.cons (.ret (.cn (.int 0)))
  (.nil)), []⟩
def ce0__law_same : E := .call 63 (.cons (.nm 2) (.cons (.nm 3) (.nil)))
def d__law_same : Df := ⟨2, 4,
  .cons (.ife (.or (.tr (.isi (.nm 0) "bool")) (.one (.cmp .ne (.isi (.nm 0) "tuple") (.isi (.nm 1) "tuple"))))
  (.cons (.ret (.cn (.bl false)))
  (.nil))
  (.nil))
  (.cons (.ife (.tr (.isi (.nm 1) "tuple"))
  (.cons (.ret (.and (.cmp .eq (.bi .len (.cons (.nm 0) (.nil))) (.bi .len (.cons (.nm 1) (.nil)))) (.one (.bi .all (.cons (.lc ce0__law_same (.tup (.cons (.nm 2) (.cons (.nm 3) (.nil)))) (.zip (.nm 0) (.nm 1)) (.nil) [2, 3]) (.nil))))))
  (.nil))
  (.nil))
  (.cons (.ret (.cmp .eq (.nm 0) (.nm 1)))
  (.nil))), []⟩
def d__law_thing_by : Df := ⟨1, 1,
  .cons (.ife (.cmp .eq (.bin .mod (.nm 0) (.cn (.int 6))) (.cn (.int 0)))
  (.cons (.ret (.cn .non))
  (.nil))
  (.nil))
  (.cons (.ife (.cmp .eq (.bin .mod (.nm 0) (.cn (.int 6))) (.cn (.int 1)))
  (.cons (.ret (.ix (.lst (.cons (.cn (.str "")) (.cons (.cn (.str " A1 ")) (.cons (.cn (.str "b ~")) (.nil))))) (.bin .mod (.bin .fdiv (.nm 0) (.cn (.int 6))) (.cn (.int 3)))))
  (.nil))
  (.nil))
  (.cons (.ife (.cmp .eq (.bin .mod (.nm 0) (.cn (.int 6))) (.cn (.int 2)))
  (.cons (.ret (.tup (.cons (.bin .mod (.bin .fdiv (.nm 0) (.cn (.int 6))) (.cn (.int 100))) (.cons (.cn (.str "t")) (.cons (.tup (.cons (.cn .non) (.cons (.tup (.nil)) (.nil)))) (.nil))))))
  (.nil))
  (.nil))
  (.cons (.ife (.cmp .eq (.bin .mod (.nm 0) (.cn (.int 6))) (.cn (.int 3)))
  (.cons (.ret (.bin .sub (.bin .mod (.bin .fdiv (.nm 0) (.cn (.int 6))) (.cn (.int 13))) (.cn (.int 6))))
  (.nil))
  (.nil))
  (.cons (.ife (.cmp .eq (.bin .mod (.nm 0) (.cn (.int 6))) (.cn (.int 4)))
  (.cons (.ret (.tup (.nil)))
  (.nil))
  (.nil))
  (.cons (.ret (.bin .add (.bin .sub (.bin .mod (.bin .fdiv (.nm 0) (.cn (.int 6))) (.bin .sub (.bin .mul (.cn (.int 2)) (.bin .pow (.cn (.int 10)) (.cn (.int 60)))) (.cn (.int 1)))) (.bin .pow (.cn (.int 10)) (.cn (.int 60)))) (.cn (.int 1))))
  (.nil)))))), []⟩
def d__law_take : Df := ⟨2, 2,
  .cons (.ife (.cmp .eq (.nm 0) (.cn (.int 0)))
  (.cons (.ret (.call 65 (.cons (.nm 1) (.nil))))
  (.nil))
  (.nil))
  (.cons (.ife (.cmp .eq (.nm 0) (.cn (.int 1)))
  (.cons (.ret (.call 78 (.cons (.nm 1) (.nil))))
  (.nil))
  (.nil))
  (.cons (.ife (.cmp .eq (.nm 0) (.cn (.int 2)))
  (.cons (.ret (.call 79 (.cons (.nm 1) (.nil))))
  (.nil))
  (.nil))
  (.cons (.ret (.call 198 (.cons (.nm 1) (.nil))))
  (.nil)))), []⟩
def d__law_is_empty : Df := ⟨1, 1,
  .cons (.ife (.or (.tr (.isv (.nm 0) [6])) (.or (.tr (.isv (.nm 0) [5])) (.or (.tr (.isv (.nm 0) [8])) (.one (.tr (.isv (.nm 0) [9]))))))
  (.cons (.ret (.cn (.bl false)))
  (.nil))
  (.nil))
  (.cons (.ife (.or (.tr (.isv (.nm 0) [1])) (.or (.tr (.isv (.nm 0) [7])) (.one (.tr (.isv (.nm 0) [12])))))
  (.cons (.ret (.cn (.bl false)))
  (.nil))
  (.nil))
  (.cons (.ife (.or (.tr (.isv (.nm 0) [4])) (.or (.tr (.isv (.nm 0) [11])) (.one (.tr (.isv (.nm 0) [2])))))
  (.cons (.ret (.cn (.bl false)))
  (.nil))
  (.nil))
  (.cons (.ret (.and (.not (.isv (.nm 0) [10])) (.and (.isv (.nm 0) [3]) (.one (.isv (.nm 0) [13])))))
  (.nil)))), []⟩
def tb0__law_refused : Ss := .cons (.expr (.call 259 (.cons (.nm 0) (.cons (.nm 1) (.nil)))))
  (.nil)
def d__law_refused : Df := ⟨2, 4,
  .cons (.set 2 (.cn .non))
  (.cons (.tryk 3 0
  tb0__law_refused
  2)
  (.cons (.ret (.and (.cmp .notn (.nm 2) (.cn .non)) (.one (.call 258 (.cons (.nm 2) (.nil))))))
  (.nil))), []⟩
def fb0__law_emptied : Ss := .cons (.set 2 (.ix (.call 65 (.cons (.nm 2) (.nil))) (.cn (.int 1))))
  (.cons (.set 4 (.ix (.call 198 (.cons (.nm 4) (.nil))) (.cn (.int 1))))
  (.cons (.ife (.cmp .eq (.bin .mod (.bin .shr (.nm 1) (.bin .add (.nm 0) (.nm 5))) (.cn (.int 2))) (.cn (.int 1)))
  (.cons (.set 3 (.ix (.call 78 (.cons (.nm 3) (.nil))) (.cn (.int 1))))
  (.nil))
  (.cons (.set 3 (.ix (.call 79 (.cons (.nm 3) (.nil))) (.cn (.int 1))))
  (.nil)))
  (.nil)))
def fb1__law_emptied : Ss := .cons (.set 2 (.ix (.call 67 (.cons (.nm 2) (.cons (.nm 5) (.nil)))) (.cn (.int 0))))
  (.cons (.set 4 (.ix (.call 202 (.cons (.nm 4) (.cons (.nm 5) (.nil)))) (.cn (.int 0))))
  (.cons (.ife (.cmp .eq (.bin .mod (.bin .shr (.nm 1) (.nm 5)) (.cn (.int 2))) (.cn (.int 1)))
  (.cons (.set 3 (.ix (.call 83 (.cons (.nm 3) (.cons (.nm 5) (.nil)))) (.cn (.int 0))))
  (.nil))
  (.cons (.set 3 (.ix (.call 84 (.cons (.nm 3) (.cons (.nm 5) (.nil)))) (.cn (.int 0))))
  (.nil)))
  (.nil)))
def d__law_emptied : Df := ⟨2, 6,
  .cons (.set 2 (.tup (.cons (.lst (.nil)) (.cons (.lst (.nil)) (.nil)))))
  (.cons (.set 3 (.tup (.cons (.lst (.nil)) (.cons (.lst (.nil)) (.nil)))))
  (.cons (.set 4 (.tup (.cons (.lst (.nil)) (.cons (.cn (.int 4)) (.nil)))))
  (.cons (.fr (.nm 5) (.rng1 (.nm 0)) fb1__law_emptied)
  (.cons (.fr (.nm 5) (.rng1 (.nm 0)) fb0__law_emptied)
  (.cons (.ret (.lst (.cons (.nm 2) (.cons (.nm 3) (.cons (.nm 4) (.nil))))))
  (.nil)))))), []⟩
def d__law_bare : Df := ⟨1, 4,
  .cons (.asg (.tup (.cons (.nm 1) (.cons (.nm 2) (.cons (.nm 3) (.nil))))) (.nm 0))
  (.cons (.ife (.or (.cmp .ne (.call 68 (.cons (.nm 1) (.nil))) (.lst (.nil))) (.or (.cmp .ne (.call 85 (.cons (.nm 2) (.nil))) (.lst (.nil))) (.one (.cmp .ne (.nm 3) (.tup (.cons (.lst (.nil)) (.cons (.cn (.int 4)) (.nil))))))))
  (.cons (.ret (.cn (.bl false)))
  (.nil))
  (.nil))
  (.cons (.ret (.and (.cmp .eq (.call 61 (.cons (.nm 1) (.nil))) (.cn (.int 0))) (.and (.cmp .eq (.call 82 (.cons (.nm 2) (.nil))) (.cn (.int 0))) (.one (.cmp .eq (.call 201 (.cons (.nm 3) (.nil))) (.cn (.int 0)))))))
  (.nil))), []⟩
def fb0_law : Ss := .cons (.ife (.or (.not (.tr (.call 63 (.cons (.ix (.call 78 (.cons (.nm 8) (.nil))) (.cn (.int 0))) (.cons (.nm 3) (.nil)))))) (.one (.not (.tr (.call 63 (.cons (.ix (.call 79 (.cons (.nm 8) (.nil))) (.cn (.int 0))) (.cons (.nm 3) (.nil))))))))
  (.cons (.ret (.cn (.bl false)))
  (.nil))
  (.nil))
  (.nil)
def fb1_law : Ss := .cons (.ife (.or (.not (.tr (.call 256 (.cons (.nm 4) (.cons (.ix (.nm 2) (.ix (.lst (.cons (.cn (.int 0)) (.cons (.cn (.int 1)) (.cons (.cn (.int 1)) (.cons (.cn (.int 2)) (.nil)))))) (.nm 4))) (.nil)))))) (.one (.not (.tr (.call 255 (.cons (.nm 2) (.nil)))))))
  (.cons (.ret (.cn (.bl false)))
  (.nil))
  (.nil))
  (.nil)
def d_law : Df := ⟨1, 9,
  .cons (.set 1 (.call 17 (.cons (.nm 0) (.cons (.cn (.int 0)) (.nil)))))
  (.cons (.set 2 (.call 257 (.cons (.bin .mod (.nm 1) (.cn (.int 9))) (.cons (.bin .mod (.bin .fdiv (.nm 1) (.cn (.int 9))) (.cn (.int 65536))) (.nil)))))
  (.cons (.set 3 (.call 59 (.cons (.call 17 (.cons (.nm 0) (.cons (.cn (.int 1)) (.nil)))) (.nil))))
  (.cons (.fr (.nm 4) (.rng1 (.cn (.int 4))) fb1_law)
  (.cons (.set 5 (.ix (.call 67 (.cons (.ix (.nm 2) (.cn (.int 0))) (.cons (.nm 3) (.nil)))) (.cn (.int 0))))
  (.cons (.set 6 (.ix (.call 202 (.cons (.ix (.nm 2) (.cn (.int 2))) (.cons (.nm 3) (.nil)))) (.cn (.int 0))))
  (.cons (.set 7 (.lst (.cons (.ix (.call 83 (.cons (.ix (.nm 2) (.cn (.int 1))) (.cons (.nm 3) (.nil)))) (.cn (.int 0))) (.cons (.ix (.call 84 (.cons (.ix (.nm 2) (.cn (.int 1))) (.cons (.nm 3) (.nil)))) (.cn (.int 0))) (.nil)))))
  (.cons (.ife (.or (.not (.tr (.call 63 (.cons (.ix (.call 65 (.cons (.nm 5) (.nil))) (.cn (.int 0))) (.cons (.nm 3) (.nil)))))) (.one (.not (.tr (.call 63 (.cons (.ix (.call 198 (.cons (.nm 6) (.nil))) (.cn (.int 0))) (.cons (.nm 3) (.nil))))))))
  (.cons (.ret (.cn (.bl false)))
  (.nil))
  (.nil))
  (.cons (.fr (.nm 8) (.sq (.nm 7)) fb0_law)
  (.cons (.ret (.call 255 (.cons (.nm 2) (.nil))))
  (.nil)))))))))), []⟩
def gls : List (Nat × Str × VV) := [(199, "LEAST_SIZE", .int 4)]
def pg : Pg := ⟨fun f => [(202, d_room_put), (198, d_room_take), (201, d_room_credit), (83, d_put_first), (84, d_put_last), (81, d_shared_out), (78, d_take_first), (79, d_take_last), (85, d_double_row), (82, d_double_credit), (67, d_queue_put), (65, d_queue_take), (68, d_queue_row), (61, d_queue_credit), (17, d__law_cell_at), (63, d__law_same), (59, d__law_thing_by), (259, d__law_take), (258, d__law_is_empty), (256, d__law_refused), (257, d__law_emptied), (255, d__law_bare), (260, d_law)].lookup f, fun j => (gls.lookup j).map (·.2), 1000000000000⟩
theorem gl_LEAST_SIZE : (pg.gl 199).bind toP = some (.int 4) := rfl
end Fe
namespace Fe
open PySem PySem.Spec PyProof.Rows L2
inductive Tg where
  | non | s0 | s1 | s2 | tp (i : Int) | int (i : Int) | e0
  deriving DecidableEq
def tg : Tg → PV
  | .non => .non
  | .s0 => .str ""
  | .s1 => .str " A1 "
  | .s2 => .str "b ~"
  | .tp i => .tup [.int i, .str "t", .tup [.non, .tup []]]
  | .int i => .int i
  | .e0 => .tup []
abbrev th (l : List Tg) : List PV := l.map tg
@[simp] theorem th_eq (l : List Tg) : th l = l.map tg := rfl
@[simp] theorem fz_tg (t : Tg) : fz (tg t) = tg t := by cases t <;> rfl
@[simp] theorem shL_tg (t : Tg) : shL (tg t) = true := by cases t <;> rfl
@[simp] theorem clo_tg (t : Tg) : clo (tg t) = true := by cases t <;> rfl
@[simp] theorem fzs_th (l : List Tg) : fzs (l.map tg) = l.map tg := by rw [fzs_map, List.map_map]; congr 1; funext t; exact fz_tg t
@[simp] theorem clos_th : ∀ l : List Tg, clos (l.map tg) = true
  | [] => rfl
  | t :: l => by simp only [List.map_cons, clos, clo_tg, clos_th l]; rfl
theorem lay_tg (k : Nat) (t : Tg) : lay (k + 3) (tg t) = true := by cases t <;> simp [tg] <;> decide +kernel
@[simp] theorem lay_tg63 (t : Tg) : lay 63 (tg t) = true := lay_tg 60 t
@[simp] theorem lays_th : ∀ l : List Tg, lays 63 (l.map tg) = true
  | [] => rfl
  | t :: l => by simp only [List.map_cons, lays, lay_tg63, lays_th l]; rfl
@[simp] theorem lays_reverse (k : Nat) : ∀ a : List PV, lays k a.reverse = lays k a
  | [] => rfl
  | x :: a => by simp only [List.reverse_cons, lays_app, lays_reverse k a, lays, Bool.and_true]; exact Bool.and_comm _ _
@[simp] theorem clos_reverse : ∀ a : List PV, clos a.reverse = clos a
  | [] => rfl
  | x :: a => by simp only [List.reverse_cons, clos_app, clos_reverse a, clos, Bool.and_true]; exact Bool.and_comm _ _
@[simp] theorem fzs_rep (k : Nat) (x : PV) : fzs (List.replicate k x) = List.replicate k (fz x) := by rw [fzs_map, List.map_replicate]
@[simp] theorem clos_take_th (c : Nat) (l : List Tg) : clos ((l.map tg).take c) = true := by rw [← List.map_take]; exact clos_th _
@[simp] theorem clos_drop_th (c : Nat) (l : List Tg) : clos ((l.map tg).drop c) = true := by rw [← List.map_drop]; exact clos_th _
@[simp] theorem lays_take_th (c : Nat) (l : List Tg) : lays 63 ((l.map tg).take c) = true := by rw [← List.map_take]; exact lays_th _
@[simp] theorem lays_drop_th (c : Nat) (l : List Tg) : lays 63 ((l.map tg).drop c) = true := by rw [← List.map_drop]; exact lays_th _
theorem clos_rep {x : PV} (h : clo x = true) : ∀ k : Nat, clos (List.replicate k x) = true
  | 0 => rfl
  | k + 1 => by simp only [List.replicate_succ, clos, h, clos_rep h k]; rfl
@[simp] theorem clos_reps (k : Nat) (s : Str) : clos (List.replicate k (.str s)) = true := clos_rep rfl k
theorem lays_rep {x : PV} {n : Nat} (h : lay n x = true) : ∀ k : Nat, lays n (List.replicate k x) = true
  | 0 => rfl
  | k + 1 => by simp only [List.replicate_succ, lays, h, lays_rep h k]; rfl
@[simp] theorem eqqs_nil (l : List Tg) : eqqs (l.map tg) [] = decide (l = []) := by cases l <;> simp
def strP (s : Str) : PV := .str s
end Fe
namespace Fe
open PySem PySem.Spec PyProof.Rows L2
section
variable {G : GV} {P : Pg} {F : Nat → List PV → RIO} {m : List Nat} {σ σ1 : SV}
@[simp] theorem gvm_fn {k : Nat} : (gvm P (callX P k) m).fn = callV P k := rfl
@[simp] theorem gvm_N : (gvm P F m).N = P.N := rfl
@[simp] theorem gvm_fx : (gvm P F m).fx = F := rfl
@[simp] theorem gvm_mine : (gvm P F m).mine = m := rfl
@[simp] theorem gvm_gl {j : Nat} : (gvm P F m).gl j = (P.gl j).bind toP := rfl
@[simp] theorem idxP_int {n : Nat} {k : Int} : idxP n (.int k) = ixN n k := rfl
@[simp] theorem placeP_tup {xs : List PV} {k : PV} : placeP (.tup xs) k = idxP xs.length k := rfl
@[simp] theorem placeP_lst {xs : List PV} {k : PV} : placeP (.lst true xs) k = idxP xs.length k := rfl
@[simp] theorem placeP_dct {ks : List Key} {xs : List PV} {k : PV} : placeP (.dct true ks xs) k = (keyP k).bind fun key => ks.findIdx? fun y => decide (y = key) := rfl
@[simp] theorem partsP_tup {xs : List PV} : partsP (.tup xs) = xs := rfl
@[simp] theorem partsP_lst {b : Bool} {xs : List PV} : partsP (.lst b xs) = xs := rfl
@[simp] theorem partsP_dct {b : Bool} {ks : List Key} {xs : List PV} : partsP (.dct b ks xs) = xs := rfl
@[simp] theorem withP_tup {xs : List PV} {j : Nat} {q : PV} : withP (.tup xs) j q = .tup (xs.set j q) := rfl
@[simp] theorem withP_lst {b : Bool} {xs : List PV} {j : Nat} {q : PV} : withP (.lst b xs) j q = .lst b (xs.set j q) := rfl
@[simp] theorem withP_dct {b : Bool} {ks : List Key} {xs : List PV} {j : Nat} {q : PV} : withP (.dct b ks xs) j q = .dct b ks (xs.set j q) := rfl
@[simp] theorem getO_nil {p : PV} : getO [] p = some p := rfl
@[simp] theorem getO_cons {k p : PV} {r : List PV} : getO (k :: r) p = (match placeP p k with
    | some j => match (partsP p)[j]? with
      | some q => getO r q
      | none => none
    | none => none) := rfl
@[simp] theorem putO_nil {p q : PV} : putO [] q p = some q := rfl
@[simp] theorem putO_cons {k p q : PV} {r : List PV} : putO (k :: r) q p = (match placeP p k with
    | some j => match (partsP p)[j]? with
      | some s => (putO r q s).map (withP p j)
      | none => none
    | none => none) := rfl
@[simp] theorem keyR_ok {k : PV} : keyR (.ok k) = if (keyP k).isSome = true then some k else none := id rfl
@[simp] theorem keyR_exc {c : Nat} : keyR (.exc c) = none := rfl
@[simp] theorem keyR_stuck : keyR .stuck = none := rfl
@[simp] theorem pathV_nm {i : Nat} : pathV G (.nm i) σ = some (i, []) := rfl
@[simp] theorem pathV_ix {a b : E} : pathV G (.ix a b) σ = (match pathV G a σ, keyR (evV G b σ) with
    | some r, some k => some (r.1, r.2 ++ [k])
    | _, _ => none) := rfl
@[simp] theorem rootE_nm {i : Nat} : rootE (.nm i) = [i] := rfl
@[simp] theorem rootE_ix {a b : E} : rootE (.ix a b) = rootE a := rfl
@[simp] theorem isMut_append : isMut .append = true := rfl
@[simp] theorem isMut_pop : isMut .pop = true := rfl
@[simp] theorem isMut_popAt : isMut .popAt = true := rfl
@[simp] theorem isMut_insert : isMut .insert = true := rfl
@[simp] theorem isMut_reverse : isMut .reverse = true := rfl
@[simp] theorem isMut_clear : isMut .clear = true := rfl
@[simp] theorem isMut_extend : isMut .extend = true := rfl
@[simp] theorem isMut_count : isMut .count = false := rfl
@[simp] theorem isMut_join : isMut .join = false := rfl
@[simp] theorem isMut_setdef : isMut .setdef = true := rfl
@[simp] theorem mutC_sd {ks : List Key} {l xs : List PV} : mutC .setdef (.dct true ks l) xs = sdP ks l xs := rfl
@[simp] theorem mutC_lst {mm : ME} {l xs : List PV} : mutC mm (.lst true l) xs = if popB mm = true then (popP mm l xs).map fun r => (r.1, .lst true r.2) else (mutP mm l xs).map fun l' => (.non, .lst true l') := id rfl
@[simp] theorem okR_ok {α : Type} {k : α} : okR (.ok k) = some k := rfl
@[simp] theorem okR_exc {α : Type} {c : Nat} : okR (.exc c : RP α) = none := rfl
@[simp] theorem okR_stuck {α : Type} : okR (.stuck : RP α) = none := rfl
@[simp] theorem mutAt_eq {mm : ME} {j : Nat} {ks xs : List PV} : mutAt mm j ks xs σ = (match σ[j]? with
  | some (some p) => match getO ks p with
    | some q => match mutC mm q xs with
      | some (y, q') => match putO ks q' p with
        | some p' => .ok y (σ.set j (some p'))
        | none => .stuck
      | none => .stuck
    | none => .stuck
  | _ => .stuck) := rfl
@[simp] theorem mutX_eq {mm : ME} {o : E} {es : Es} : mutX G mm o es σ = (match pathV G o σ, okR (evsV G es σ) with
  | some a, some xs => mutAt mm a.1 a.2 xs (settle (vEs es) (.tup xs) σ)
  | _, _ => .stuck) := rfl
@[simp] theorem argsV_nil {io : List Nat} {i : Nat} : argsV G io i .nil σ = some [] := rfl
@[simp] theorem argsV_cons {io : List Nat} {i : Nat} {e : E} {es : Es} : argsV G io i (.cons e es) σ = if io.contains i = true then match pathV G e σ, argsV G io (i + 1) es σ with
      | some r, some as => some (.io r.1 r.2 :: as)
      | _, _ => none
    else match okR (evV G e σ), argsV G io (i + 1) es σ with
      | some x, some as => some (.v (fz x) :: as)
      | _, _ => none := id rfl
@[simp] theorem valsA_nil : valsA [] = [] := rfl
@[simp] theorem valsA_v {p : PV} {r : List AV} : valsA (.v p :: r) = p :: valsA r := rfl
@[simp] theorem valsA_io {j : Nat} {ks : List PV} {r : List AV} : valsA (.io j ks :: r) = valsA r := rfl
@[simp] theorem rootsA_nil : rootsA [] = [] := rfl
@[simp] theorem rootsA_v {p : PV} {r : List AV} : rootsA (.v p :: r) = rootsA r := rfl
@[simp] theorem rootsA_io {j : Nat} {ks : List PV} {r : List AV} : rootsA (.io j ks :: r) = j :: rootsA r := rfl
@[simp] theorem resA_nil : resA σ [] = some [] := rfl
@[simp] theorem resA_v {p : PV} {r : List AV} : resA σ (.v p :: r) = (resA σ r).map (p :: ·) := rfl
@[simp] theorem resA_io {j : Nat} {ks : List PV} {r : List AV} : resA σ (.io j ks :: r) = (match σ[j]? with
    | some (some p) => match getO ks p with
      | some q => (resA σ r).map (q :: ·)
      | none => none
    | _ => none) := rfl
@[simp] theorem killA_nil : killA σ [] = σ := rfl
@[simp] theorem killA_v {p : PV} {r : List AV} : killA σ (.v p :: r) = killA σ r := rfl
@[simp] theorem killA_io {j : Nat} {ks : List PV} {r : List AV} : killA σ (.io j ks :: r) = (killA σ r).set j none := rfl
@[simp] theorem backA_nil {ios : SV} : backA σ1 [] ios σ = some σ := by cases ios <;> rfl
@[simp] theorem backA_v {p : PV} {x : Option PV} {r : List AV} {ios : SV} : backA σ1 (.v p :: r) (x :: ios) σ = backA σ1 r ios σ := rfl
@[simp] theorem backA_io {j : Nat} {ks : List PV} {q : PV} {r : List AV} {ios : SV} : backA σ1 (.io j ks :: r) (some q :: ios) σ = (match σ1[j]? with
    | some (some p) => match putO ks q p with
      | some p' => backA σ1 r ios (σ.set j (some p'))
      | none => none
    | _ => none) := rfl
@[simp] theorem vNE_nil {io : List Nat} {i : Nat} : vNE io i .nil = [] := rfl
@[simp] theorem vNE_cons {io : List Nat} {i : Nat} {e : E} {es : Es} : vNE io i (.cons e es) = if io.contains i = true then vNE io (i + 1) es else vE e ++ vNE io (i + 1) es := id rfl
@[simp] theorem rootsE_nil {io : List Nat} {i : Nat} : rootsE io i .nil = [] := rfl
@[simp] theorem rootsE_cons {io : List Nat} {i : Nat} {e : E} {es : Es} : rootsE io i (.cons e es) = if io.contains i = true then rootE e ++ rootsE io (i + 1) es else rootsE io (i + 1) es := id rfl
@[simp] theorem frzA_eq {as : List AV} {vs : List Nat} : frzA as vs σ = if clos (valsA as) = true then σ else frzS σ vs := id rfl
@[simp] theorem backX_ok {as : List AV} {p : PV} {ios : SV} : backX σ1 as (.ok p ios) = (match backA σ1 as ios (killA σ1 as) with
    | some σ2 => .ok p σ2
    | none => .stuck) := rfl
@[simp] theorem backX_exc {as : List AV} {c : Nat} {ios : SV} : backX σ1 as (.exc c ios) = (match backA σ1 as ios (killA σ1 as) with
    | some σ2 => .exc c σ2
    | none => .stuck) := rfl
@[simp] theorem callIO_eq {f : Nat} {es : Es} : callIO G f es σ = (match argsV G (G.io f) 0 es σ with
  | some as => if (rootsA as).Nodup then match resA (frzA as (vNE (G.io f) 0 es) σ) as with
      | some ps => backX (frzA as (vNE (G.io f) 0 es) σ) as (G.fx f ps)
      | none => .stuck
    else callSp G f σ as
  | none => .stuck) := id rfl
@[simp] theorem callSp_eq {f j j' : Nat} {a b : PV} : callSp G f σ [.io j [a], .io j' [b]] = (match σ[j]? with
    | some (some (.tup ps)) => match idxP ps.length a, idxP ps.length b with
      | some m, some n => if j = j' ∧ m < n then match ps[m]?, ps[n]? with
          | some p, some q => spX σ j (G.fx f [p, q])
          | _, _ => .stuck
        else .stuck
      | _, _ => .stuck
    | _ => .stuck) := id rfl
@[simp] theorem spX_ok {j : Nat} {r : PV} {ios : SV} : spX σ j (.ok r ios) = .ok r (σ.set j none) := rfl
@[simp] theorem spX_exc {j : Nat} {c : Nat} {ios : SV} : spX σ j (.exc c ios) = .exc c (σ.set j none) := rfl
@[simp] theorem hold_eq {x : PV} {vs ws : List Nat} : hold x vs ws = (clo x || vs.all fun i => !ws.contains i) := rfl
@[simp] theorem wE_nm {i : Nat} : wE G (.nm i) = [] := rfl
@[simp] theorem wE_gl {i : Nat} : wE G (.gl i) = [] := rfl
@[simp] theorem wE_cn {c : Cn} : wE G (.cn c) = [] := rfl
@[simp] theorem wE_bin {o : BO} {a b : E} : wE G (.bin o a b) = wE G a ++ wE G b := rfl
@[simp] theorem wE_cmp {o : CO} {a b : E} : wE G (.cmp o a b) = wE G a ++ wE G b := rfl
@[simp] theorem wE_neg {a : E} : wE G (.neg a) = wE G a := rfl
@[simp] theorem wE_one {a : E} : wE G (.one a) = wE G a := rfl
@[simp] theorem wE_and {a b : E} : wE G (.and a b) = wE G a ++ wE G b := rfl
@[simp] theorem wE_or {a b : E} : wE G (.or a b) = wE G a ++ wE G b := rfl
@[simp] theorem wE_not {a : E} : wE G (.not a) = wE G a := rfl
@[simp] theorem wE_tup {es : Es} : wE G (.tup es) = wEs G es := rfl
@[simp] theorem wE_lst {es : Es} : wE G (.lst es) = wEs G es := rfl
@[simp] theorem wE_ix {a b : E} : wE G (.ix a b) = wE G a ++ wE G b := rfl
@[simp] theorem wE_bi {f : BI} {es : Es} : wE G (.bi f es) = wEs G es := rfl
@[simp] theorem wE_isi {a : E} {t : String} : wE G (.isi a t) = wE G a := rfl
@[simp] theorem wE_o1 {k : O1} {a : E} : wE G (.o1 k a) = wE G a := rfl
@[simp] theorem wE_call {f : Nat} {es : Es} : wE G (.call f es) = rootsE (G.io f) 0 es ++ wEs G es := rfl
@[simp] theorem wE_me {mm : ME} {o : E} {es : Es} : wE G (.me mm o es) = if isMut mm = true then rootE o else wE G o ++ wEs G es := id rfl
@[simp] theorem wE_slc {a : E} {lo hi : Oe} : wE G (.slc a lo hi) = [] := rfl
@[simp] theorem wE_lc {elt : E} {t : T} {it : I} {ifs : Bs} {own : List Nat} : wE G (.lc elt t it ifs own) = [] := rfl
@[simp] theorem wE_chain {o1 o2 : CO} {a b c : E} : wE G (.chain o1 o2 a b c) = [] := rfl
@[simp] theorem wE_ife {t : B} {a b : E} : wE G (.ife t a b) = [] := rfl
@[simp] theorem wEs_nil : wEs G .nil = [] := rfl
@[simp] theorem wEs_cons {e : E} {es : Es} : wEs G (.cons e es) = wE G e ++ wEs G es := rfl
@[simp] theorem evX_nm {i : Nat} : evX G (.nm i) σ = (evV G (.nm i) σ).at σ := rfl
@[simp] theorem evX_gl {i : Nat} : evX G (.gl i) σ = (evV G (.gl i) σ).at σ := rfl
@[simp] theorem evX_cn {c : Cn} : evX G (.cn c) σ = (evV G (.cn c) σ).at σ := rfl
@[simp] theorem evX_slc {a : E} {lo hi : Oe} : evX G (.slc a lo hi) σ = (evV G (.slc a lo hi) σ).at σ := rfl
@[simp] theorem evX_lc {elt : E} {t : T} {it : I} {ifs : Bs} {own : List Nat} : evX G (.lc elt t it ifs own) σ = (evV G (.lc elt t it ifs own) σ).at σ := rfl
@[simp] theorem evX_chain {o1 o2 : CO} {a b c : E} : evX G (.chain o1 o2 a b c) σ = (evV G (.chain o1 o2 a b c) σ).at σ := rfl
@[simp] theorem evX_ife {t : B} {a b : E} : evX G (.ife t a b) σ = (evV G (.ife t a b) σ).at σ := rfl
@[simp] theorem evX_bin {o : BO} {a b : E} : evX G (.bin o a b) σ = ((evX G a σ).bind fun x σ1 => (evX G b σ1).bind fun y σ2 => if hold x (vE a) (wE G b) = true then (binP o (fz x) (fz y)).at σ2 else .stuck) := id rfl
@[simp] theorem evX_cmp {o : CO} {a b : E} : evX G (.cmp o a b) σ = ((evX G a σ).bind fun x σ1 => (evX G b σ1).bind fun y σ2 => if hold x (vE a) (wE G b) = true then (cmpP o (fz x) (fz y)).at σ2 else .stuck) := id rfl
@[simp] theorem evX_neg {a : E} : evX G (.neg a) σ = ((evX G a σ).bind fun x σ1 => match x with
    | .int i => .ok (.int (-i)) σ1
    | _ => .stuck) := rfl
@[simp] theorem evX_one {a : E} : evX G (.one a) σ = evX G a σ := rfl
@[simp] theorem evX_and {a b : E} : evX G (.and a b) σ = ((evX G a σ).bind fun x σ1 => match x with
    | .bl true => evX G b σ1
    | .bl false => .ok (.bl false) σ1
    | _ => .stuck) := rfl
@[simp] theorem evX_or {a b : E} : evX G (.or a b) σ = ((evX G a σ).bind fun x σ1 => match x with
    | .bl true => .ok (.bl true) σ1
    | .bl false => evX G b σ1
    | _ => .stuck) := rfl
@[simp] theorem evX_not {a : E} : evX G (.not a) σ = ((evX G a σ).bind fun x σ1 => match x with
    | .bl b => .ok (.bl (!b)) σ1
    | _ => .stuck) := rfl
@[simp] theorem evX_tup {es : Es} : evX G (.tup es) σ = ((evsX G es σ).bind fun xs σ1 => if xs.length ≤ 16777216 then .ok (.tup xs) σ1 else .stuck) := id rfl
@[simp] theorem evX_lst {es : Es} : evX G (.lst es) σ = ((evsX G es σ).bind fun xs σ1 => if xs.length ≤ 16777216 then .ok (.lst true xs) σ1 else .stuck) := id rfl
@[simp] theorem evX_ix {a b : E} : evX G (.ix a b) σ = ((evX G a σ).bind fun x σ1 => (evX G b σ1).bind fun y σ2 => if hold x (vE a) (wE G b) = true then (ixOP (fz x) (fz y)).at σ2 else .stuck) := id rfl
@[simp] theorem evX_bi {f : BI} {es : Es} : evX G (.bi f es) σ = ((evsX G es σ).bind fun xs σ1 => (biP f (fzs xs)).at σ1) := rfl
@[simp] theorem evX_isi {a : E} {t : String} : evX G (.isi a t) σ = ((evX G a σ).bind fun x σ1 => (isiP (fz x) t).at σ1) := rfl
@[simp] theorem evX_isv {a : E} {cs : List Nat} : evX G (.isv a cs) σ = (evV G (.isv a cs) σ).at σ := rfl
@[simp] theorem evX_o1 {k : O1} {a : E} : evX G (.o1 k a) σ = ((evX G a σ).bind fun x σ1 => (o1P k (fz x)).at σ1) := rfl
@[simp] theorem evX_call {f : Nat} {es : Es} : evX G (.call f es) σ = (match G.io f with
    | [] => (evsX G es σ).bind fun xs σ1 => (G.fn f (fzs xs)).at σ1
    | _ :: _ => callIO G f es σ) := rfl
@[simp] theorem evX_me {mm : ME} {o : E} {es : Es} : evX G (.me mm o es) σ = if isMut mm = true then mutX G mm o es σ else (evX G o σ).bind fun x σ1 => if tyMP mm (fz x) = true then (evsX G es σ1).bind fun xs σ2 => if hold x (vE o) (wEs G es) = true then (meP mm (fz x) (fzs xs)).at σ2 else .stuck else .stuck := id rfl
@[simp] theorem evsX_nil : evsX G .nil σ = .ok [] σ := rfl
@[simp] theorem evsX_cons {e : E} {es : Es} : evsX G (.cons e es) σ = ((evX G e σ).bind fun x σ1 => (evsX G es σ1).bind fun xs σ2 => if hold x (vE e) (wEs G es) = true then .ok (x :: xs) σ2 else .stuck) := id rfl
@[simp] theorem tstX_cmp {o : CO} {a b : E} : tstX G (.cmp o a b) σ = ((evX G (.cmp o a b) σ).bind fun x σ1 => match x with
    | .bl k => .ok k σ1
    | _ => .stuck) := rfl
@[simp] theorem tstX_one {a : B} : tstX G (.one a) σ = tstX G a σ := rfl
@[simp] theorem tstX_and {a b : B} : tstX G (.and a b) σ = ((tstX G a σ).bind fun c σ1 => if c = true then tstX G b σ1 else .ok false σ1) := id rfl
@[simp] theorem tstX_or {a b : B} : tstX G (.or a b) σ = ((tstX G a σ).bind fun c σ1 => if c = true then .ok true σ1 else tstX G b σ1) := id rfl
@[simp] theorem tstX_not {a : B} : tstX G (.not a) σ = ((tstX G a σ).bind fun c σ1 => .ok (!c) σ1) := rfl
@[simp] theorem tstX_tr {e : E} : tstX G (.tr e) σ = ((evX G e σ).bind fun x σ1 => match truP (fz x) with
    | some k => .ok k σ1
    | none => .stuck) := rfl
@[simp] theorem tstX_chain {o1 o2 : CO} {a b c : E} : tstX G (.chain o1 o2 a b c) σ = (tstV G (.chain o1 o2 a b c) σ).at σ := rfl
@[simp] theorem fzD_tup {xs : List PV} : fzD (.tup xs) = .tup (fzs xs) := rfl
@[simp] theorem fzD_lst {b : Bool} {xs : List PV} : fzD (.lst b xs) = .lst b (fzs xs) := rfl
@[simp] theorem fzD_dct {b : Bool} {ks : List Key} {xs : List PV} : fzD (.dct b ks xs) = .dct b ks (fzs xs) := rfl
@[simp] theorem setAt_eq {j : Nat} {ks : List PV} {k x : PV} : setAt j ks k x σ = (match σ[j]? with
  | some (some p) => match getO ks p with
    | some q => match setP q k x with
      | some q' => match putO ks q' p with
        | some p' => .nx (σ.set j (some p'))
        | none => .stuck
      | none => .stuck
    | none => .stuck
  | _ => .stuck) := rfl
@[simp] theorem tgtX_nm {i : Nat} {x : PV} : tgtX G (.nm i) x σ = .nx (σ.set i (some x)) := rfl
@[simp] theorem tgtX_tup {ts : Ts} {x : PV} : tgtX G (.tup ts) x σ = (match seqP x with
    | some xs => if xs.length = Ts.len ts then tgtsX G ts xs σ else .stuck
    | none => .stuck) := id rfl
@[simp] theorem tgtX_sub {o k : E} {x : PV} : tgtX G (.sub o k) x σ = (match pathV G o σ, keyR (evV G k σ) with
    | some a, some kk => setAt a.1 a.2 kk x σ
    | _, _ => .stuck) := rfl
@[simp] theorem tgtsX_nil : tgtsX G .nil [] σ = .nx σ := rfl
@[simp] theorem tgtsX_cons {t : T} {ts : Ts} {x : PV} {xs : List PV} : tgtsX G (.cons t ts) (x :: xs) σ = (tgtX G t x σ).seq fun σ => tgtsX G ts xs σ := rfl
@[simp] theorem itemX_eq {t : T} {j : Nat} {b : E} : itemX G t j b σ = (match σ[j]? with
  | some (some p) => (evV G b σ).go σ fun k => okGo (ixOP p k) fun x => match asgV t x (if clo x = true then σ else σ.set j (some (fzD p))) with
    | some σ => .nx σ
    | none => .stuck
  | _ => .stuck) := id rfl
@[simp] theorem killsV_nil : killsV σ [] = σ := rfl
@[simp] theorem killsV_cons {i : Nat} {is : List Nat} : killsV σ (i :: is) = (killsV σ is).set i none := rfl
@[simp] theorem maskI_nil {io : List Nat} {i : Nat} : maskI io i [] = [] := rfl
@[simp] theorem maskI_cons {io : List Nat} {i : Nat} {x : Option PV} {xs : SV} : maskI io i (x :: xs) = (if io.contains i = true then x else none) :: maskI io (i + 1) xs := id rfl
@[simp] theorem fx_expr {e : E} : execV G (.fx (.expr e)) σ = (evX G e σ).go fun _ σ => .nx σ := rfl
@[simp] theorem fx_set_ix {i j : Nat} {b : E} : execV G (.fx (.set i (.ix (.nm j) b))) σ = itemX G (.nm i) j b σ := rfl
@[simp] theorem fx_asg_ix {t : T} {j : Nat} {b : E} : execV G (.fx (.asg t (.ix (.nm j) b))) σ = itemX G t j b σ := rfl
@[simp] theorem vR_call {f : Nat} {es : Es} : vR G (.call f es) = (match G.io f with
    | [] => vEs es
    | _ :: _ => []) := id rfl
@[simp] theorem vR_nm {i : Nat} : vR G (.nm i) = vE (.nm i) := rfl
@[simp] theorem vR_cn {c : Cn} : vR G (.cn c) = vE (.cn c) := rfl
@[simp] theorem vR_bin {o : BO} {a b : E} : vR G (.bin o a b) = vE (.bin o a b) := rfl
@[simp] theorem vR_tup {es : Es} : vR G (.tup es) = vE (.tup es) := rfl
@[simp] theorem vR_lst {es : Es} : vR G (.lst es) = vE (.lst es) := rfl
theorem vR_of {e : E} (h : ∀ f es, e ≠ .call f es) : vR G e = vE e := by
  cases e <;> first | rfl | exact absurd rfl (h _ _)
theorem fx_set {i : Nat} {e : E} (h : ∀ j b, e ≠ .ix (.nm j) b) : execV G (.fx (.set i e)) σ = (evX G e σ).go fun x σ1 => .nx ((settle (vR G e) x σ1).set i (some x)) := by
  show setX G i e σ = _
  unfold setX
  split
  · exact absurd rfl (h _ _)
  · rfl
theorem fx_asg {t : T} {e : E} (h : ∀ j b, e ≠ .ix (.nm j) b) : execV G (.fx (.asg t e)) σ = (evX G e σ).go fun x σ1 => tgtX G t x (settle (vR G e) x σ1) := by
  show asgX G t e σ = _
  unfold asgX
  split
  · exact absurd rfl (h _ _)
  · rfl
@[simp] theorem fx_set_call {i f : Nat} {es : Es} : execV G (.fx (.set i (.call f es))) σ = (evX G (.call f es) σ).go fun x σ1 => .nx ((settle (vR G (.call f es)) x σ1).set i (some x)) := rfl
@[simp] theorem fx_set_bin {i : Nat} {o : BO} {a b : E} : execV G (.fx (.set i (.bin o a b))) σ = (evX G (.bin o a b) σ).go fun x σ1 => .nx ((settle (vE a ++ vE b) x σ1).set i (some x)) := rfl
@[simp] theorem fx_asg_call {t : T} {f : Nat} {es : Es} : execV G (.fx (.asg t (.call f es))) σ = (evX G (.call f es) σ).go fun x σ1 => tgtX G t x (settle (vR G (.call f es)) x σ1) := rfl
@[simp] theorem fx_ret {e : E} : execV G (.fx (.ret e)) σ = if wE G e = [] then if (vE e).Nodup ∧ ((vE e).all fun i => !G.mine.contains i) = true then (evM G e σ).go σ fun x => .rx x (killsV σ (vE e))
    else (evV G e σ).go σ fun x => .rx x (settle (vE e) x σ)
  else (evX G e σ).go fun x σ1 => .rx x (settle (vR G e) x σ1) := id rfl
@[simp] theorem fx_ret0 : execV G (.fx .ret0) σ = .rx .non σ := rfl
@[simp] theorem fx_ife {t : B} {a b : Ss} : execV G (.fx (.ife t a b)) σ = (tstX G t σ).go fun c σ => if c = true then execsV G a σ else execsV G b σ := id rfl
@[simp] theorem fx_whl {t : B} {b : Ss} : execV G (.fx (.whl t b)) σ = whlX (tstX G t) (execsV G b) G.N σ := rfl
@[simp] theorem fx_fr {t : T} {f : Nat} {es : Es} {b : Ss} : execV G (.fx (.fr t (.sq (.call f es)) b)) σ = ((evX G (.call f es) σ).go fun x σ => match x with
    | .tup xs => if xs.length < G.N ∧ clos (fzs xs) = true then forV (frV (asgV t) (execsV G b)) (fzs xs) σ else .stuck
    | _ => .stuck) := id rfl
@[simp] theorem fx_frN {t : T} {j : Nat} {b : Ss} : execV G (.fx (.fr t (.sq (.nm j)) b)) σ = (if (ownL σ j).isSome = true ∧ noasSs [j] b = true ∧ (T.slots t).contains j = false then forO (frV (asgV t) (execsV G b)) j G.N 0 σ else .stuck) := id rfl
theorem lastX {s : S} {r : Ss} {v : PV} (h : execV G s σ = .rx v σ1) : execsV G (.cons s r) σ = .rx v σ1 := by
  simp only [execsV, h]; rfl
end
/-- a def with in-out parameters that gives something back -/
theorem callX_rx {P : Pg} {k f : Nat} {ps : List PV} {d : Df} {σ σ' ios : SV} {v : PV} (e : P.fn f = some d) (h : ps.length = d.np) (hn : noasSs d.io d.body = true) (hs : ps.map some ++ List.replicate (d.nl - d.np) none = σ) (hb : execsV (gvm P (callX P k) d.io) d.body σ = .rx v σ') (hm : maskI d.io 0 (σ'.take d.np) = ios) : callX P (k + 1) f ps = .ok v ios := by
  rw [callX_eq e h hn, hs, hb]
  simp only [finX, hm]
theorem callX_nx {P : Pg} {k f : Nat} {ps : List PV} {d : Df} {σ σ' ios : SV} (e : P.fn f = some d) (h : ps.length = d.np) (hn : noasSs d.io d.body = true) (hs : ps.map some ++ List.replicate (d.nl - d.np) none = σ) (hb : execsV (gvm P (callX P k) d.io) d.body σ = .nx σ') (hm : maskI d.io 0 (σ'.take d.np) = ios) : callX P (k + 1) f ps = .ok .non ios := by
  rw [callX_eq e h hn, hs, hb]
  simp only [finX, hm]
theorem callV_rx {P : Pg} {k f : Nat} {ps : List PV} {d : Df} {σ σ' : SV} {v : PV} (e : P.fn f = some d) (h : ps.length = d.np) (hs : (fzs ps).map some ++ List.replicate (d.nl - d.np) none = σ) (hb : execsV (gv P k) d.body σ = .rx v σ') (hio : d.io = [] := by rfl) : callV P (k + 1) f ps = .ok v := by
  rw [callV_eqX e h hio, hs, hb]; rfl
theorem callV_rt {P : Pg} {k f : Nat} {ps : List PV} {d : Df} {σ : SV} {v : PV} (e : P.fn f = some d) (h : ps.length = d.np) (hs : (fzs ps).map some ++ List.replicate (d.nl - d.np) none = σ) (hb : execsV (gv P k) d.body σ = .rt v) (hio : d.io = [] := by rfl) : callV P (k + 1) f ps = .ok v := by
  rw [callV_eqX e h hio, hs, hb]; rfl
/-- a while loop whose test changes things, with a measure -/
theorem whlX_inv {Q : SV → Prop} {m : SV → Nat} {t : SV → RX Bool} {b : SV → RSP} (h : ∀ σ, Q σ → ∃ c σ1, t σ = .ok c σ1 ∧ (c = true → ∃ σ', (b σ1 = .nx σ' ∨ b σ1 = .ct σ') ∧ Q σ' ∧ m σ' < m σ) ∧ (c = false → Q σ1)) : ∀ (n : Nat) (σ : SV), m σ < n → Q σ → ∃ σ', whlX t b n σ = .nx σ' ∧ Q σ'
  | 0, σ, hm, _ => by omega
  | n + 1, σ, hm, q => by
    obtain ⟨c, σ1, e, k, k2⟩ := h σ q
    cases c with
    | false => exact ⟨σ1, by simp [whlX, e], k2 rfl⟩
    | true =>
      obtain ⟨σ2, e1, q1, m1⟩ := k rfl
      obtain ⟨σ3, e2, q2⟩ := whlX_inv h n σ2 (by omega) q1
      refine ⟨σ3, ?_, q2⟩
      rcases e1 with e1 | e1 <;> simp [whlX, e, e1, e2]
end Fe
namespace Fe
open PySem PySem.Spec PyProof.Rows L2
theorem hN : pg.N = 1000000000000 := rfl
theorem cell_at (k : Nat) (ns : List Int) (i : Nat) : callV pg (k + 1) 17 [.scr (ns.map .int), .int i] = .ok (.int (ns.getD i 0)) := by
  rw [callV_eq (d := d__law_cell_at) rfl rfl]
  by_cases h : i < ns.length
  · have : atI (ns.map PV.int) (i : Int) = some (.int ns[i]) := atI_nat (by simp [h])
    simp [d__law_cell_at, fzs_len, h, this]
  · have e : ¬ ((i : Int) < ns.length) := by omega
    simp [d__law_cell_at, fzs_len, e]
    rw [List.getElem?_eq_none (by omega)]; rfl
theorem same_non (lv : Nat) : callV pg (lv + 1) 63 [.non, .non] = .ok (.bl true) := by
  rw [callV_eq (d := d__law_same) rfl rfl]; simp [d__law_same]
theorem same_int (lv : Nat) (i : Int) : callV pg (lv + 1) 63 [.int i, .int i] = .ok (.bl true) := by
  rw [callV_eq (d := d__law_same) rfl rfl]; simp [d__law_same]
theorem same_str (lv : Nat) (i : Str) : callV pg (lv + 1) 63 [.str i, .str i] = .ok (.bl true) := by
  rw [callV_eq (d := d__law_same) rfl rfl]; simp [d__law_same]
def twin (x : PV) : PV := .tup [x, x]
theorem zip_twin : ∀ xs : List PV, zipP xs xs = xs.map twin
  | [] => rfl
  | x :: xs => by
    have := zip_twin xs
    unfold zipP at this ⊢
    simp only [List.zip_cons_cons, List.map_cons, this]; rfl
theorem all_same (lv : Nat) (elt : E) (σ : SV) (hσ : σ.length = 4) (he : elt = .call 63 (.cons (.nm 2) (.cons (.nm 3) (.nil)))) (xs : List PV) (h : ∀ x ∈ xs, fz x = x ∧ callV pg lv 63 [x, x] = .ok (.bl true)) :
    lcV (fun x => asgV (.tup (.cons (.nm 2) (.cons (.nm 3) (.nil)))) x (wipeV σ [2, 3])) (tstsV (gvO pg (callV pg lv)) .nil) (evV (gvO pg (callV pg lv)) elt) (xs.map twin) = .ok ((List.replicate xs.length true).map PV.bl) := by
  subst he
  have e := lcV_map (asg := fun x => asgV (.tup (.cons (.nm 2) (.cons (.nm 3) (.nil)))) x (wipeV σ [2, 3])) (pf := tstsV (gvO pg (callV pg lv)) .nil) (elt := evV (gvO pg (callV pg lv)) (.call 63 (.cons (.nm 2) (.cons (.nm 3) (.nil))))) (f := fun _ => PV.bl true) (xs.map twin) (fun x hx => by
    obtain ⟨z, hz, rfl⟩ := List.mem_map.mp hx
    obtain ⟨h1, h2⟩ := h z hz
    refine ⟨((wipeV σ [2, 3]).set 2 (some z)).set 3 (some z), by simp [twin], rfl, .bl true, ?_, rfl⟩
    simp [hσ, h1, h2])
  rw [e, List.map_const', List.map_replicate]
  simp
theorem same_tup (lv : Nat) (xs : List PV) (hl : xs.length ≤ 1000000) (h : ∀ x ∈ xs, fz x = x ∧ callV pg lv 63 [x, x] = .ok (.bl true)) (hf : fzs xs = xs) : callV pg (lv + 1) 63 [.tup xs, .tup xs] = .ok (.bl true) := by
  rw [callV_eq (d := d__law_same) rfl rfl]
  have e := all_same lv ce0__law_same [some (.tup xs), some (.tup xs), none, none] rfl rfl xs h
  have z1 : xs.length ≤ 16777216 := by omega
  have z2 : xs.length < pg.N := by rw [hN]; omega
  simp at e
  simp [d__law_same, hf, zip_twin, e, z1, z2]
theorem c_same (lv : Nat) (t : Tg) : callV pg (lv + 4) 63 [tg t, tg t] = .ok (.bl true) := by
  have e0 : ∀ k, callV pg (k + 1) 63 [.tup [], .tup []] = .ok (.bl true) := fun k => same_tup k [] (by simp) (by simp) rfl
  cases t with
  | non => exact same_non _
  | s0 => exact same_str _ _
  | s1 => exact same_str _ _
  | s2 => exact same_str _ _
  | int i => exact same_int _ _
  | e0 => exact e0 _
  | tp i =>
    refine same_tup _ _ (by simp) (fun x hx => ?_) rfl
    simp at hx
    rcases hx with rfl | rfl | rfl
    · exact ⟨rfl, same_int _ _⟩
    · exact ⟨rfl, same_str _ _⟩
    · refine ⟨rfl, same_tup _ _ (by simp) (fun x hx => ?_) rfl⟩
      simp at hx
      rcases hx with rfl | rfl
      · exact ⟨rfl, same_non _⟩
      · exact ⟨rfl, e0 _⟩
theorem c_thing (lv : Nat) (c : Int) : ∃ t : Tg, callV pg (lv + 1) 59 [.int c] = .ok (tg t) := by
  rw [callV_eq (d := d__law_thing_by) rfl rfl]
  by_cases h0 : c % 6 = 0
  · exact ⟨.non, by simp [d__law_thing_by, h0, tg]⟩
  by_cases h1 : c % 6 = 1
  · have : c / 6 % 3 = 0 ∨ c / 6 % 3 = 1 ∨ c / 6 % 3 = 2 := by omega
    rcases this with e | e | e
    · exact ⟨.s0, by simp [d__law_thing_by, h1, e, tg]⟩
    · exact ⟨.s1, by simp [d__law_thing_by, h1, e, tg]⟩
    · exact ⟨.s2, by simp [d__law_thing_by, h1, e, tg]⟩
  by_cases h2 : c % 6 = 2
  · exact ⟨.tp (c / 6 % 100), by simp [d__law_thing_by, h2, tg]⟩
  by_cases h3 : c % 6 = 3
  · exact ⟨.int (c / 6 % 13 - 6), by simp [d__law_thing_by, h3, tg]⟩
  by_cases h4 : c % 6 = 4
  · exact ⟨.e0, by simp [d__law_thing_by, h4, tg]⟩
  · have m2 : ∀ x : Int, IntMulOk 2 x := fun x => mulOk_l (by decide)
    exact ⟨.int (c / 6 % (2 * 10 ^ 60 - 1) - 10 ^ 60 + 1), by simp [d__law_thing_by, h0, h1, h2, h3, h4, m2, tg]⟩
theorem rng_elem {n : Nat} {p : List PV} {x : PV} {r : List PV} (h : rngP 0 n = p ++ x :: r) : x = .int ((0 : Int) + (p.length : Nat)) ∧ p.length < n := by
  have hl : p.length < n := by
    have := congrArg List.length h
    simp [rngP] at this
    omega
  have hx := congrArg (·[p.length]?) h
  simp only [List.getElem?_append_right (Nat.le_refl _), Nat.sub_self, List.getElem?_cons_zero] at hx
  unfold rngP at hx
  rw [List.getElem?_map, List.getElem?_range hl] at hx
  exact ⟨(Option.some.inj hx).symm, hl⟩
namespace Q
abbrev qu (F B : List Tg) : PV := .tup [.lst false (th F), .lst false (th B)]
@[simp] theorem qu_eq (F B : List Tg) : qu F B = .tup [.lst false (th F), .lst false (th B)] := rfl
theorem c_put (lv : Nat) (F B : List Tg) (t : Tg) (h : F.length + B.length ≤ 1000) : callV pg (lv + 1) 67 [qu F B, tg t] = .ok (.tup [.tup [.lst true (th F), .lst true (th (B ++ [t]))], .lst true [.str "laid"]]) := by
  rw [callV_eq (d := d_queue_put) rfl rfl]
  have z : B.length + 1 ≤ 16777216 := by omega
  simp [d_queue_put, z]
theorem c_row (lv : Nat) (F B : List Tg) (h : F.length + B.length ≤ 1000) : callV pg (lv + 1) 68 [qu F B] = .ok (.lst true (th (F.reverse ++ B))) := by
  rw [callV_eq (d := d_queue_row) rfl rfl]
  have z : F.length + B.length ≤ 16777216 := by omega
  simp [d_queue_row, z]
theorem c_credit (lv : Nat) (F B : List Tg) : callV pg (lv + 1) 61 [qu F B] = .ok (.int B.length) := by
  rw [callV_eq (d := d_queue_credit) rfl rfl]
  simp [d_queue_credit]
/-- all of the back goes to the front -/
theorem turned (lv : Nat) (q : PV) (B : List Tg) (hl : B.length ≤ 1000) (c : Option PV) : whlV (tstV (gvO pg (callV pg lv)) wt0_queue_take) (execsV (gvO pg (callV pg lv)) wb0_queue_take) pg.N [some q, some (.lst true []), some (.lst true (th B)), some (.lst true []), c] = .nx [some q, some (.lst true (th B.reverse)), some (.lst true []), some (.lst true (List.replicate B.length (.str "turned"))), c] := by
  have key : ∀ (B2 : List Tg) (acc : List Tg) (k n : Nat), B2.length + acc.length ≤ 1000 → k + B2.length ≤ 1000 → B2.length < n → whlV (tstV (gvO pg (callV pg lv)) wt0_queue_take) (execsV (gvO pg (callV pg lv)) wb0_queue_take) n [some q, some (.lst true (th acc)), some (.lst true (th B2.reverse)), some (.lst true (List.replicate k (.str "turned"))), c] = .nx [some q, some (.lst true (th (acc ++ B2))), some (.lst true []), some (.lst true (List.replicate (k + B2.length) (.str "turned"))), c] := by
    intro B2
    induction B2 with
    | nil =>
      intro acc k n h1 h2 h3
      cases n with
      | zero => omega
      | succ n => simp [whlV, wt0_queue_take]
    | cons t B2 ih =>
      intro acc k n h1 h2 h3
      simp at h1 h2 h3
      cases n with
      | zero => omega
      | succ n =>
        have e1 : acc.length < 16777216 := by omega
        have e2 : k < 16777216 := by omega
        have i := ih (acc ++ [t]) (k + 1) n (by simp; omega) (by omega) (by omega)
        have r : List.replicate k (PV.str "turned") ++ [PV.str "turned"] = List.replicate (k + 1) (PV.str "turned") := by rw [List.replicate_succ']
        have e4 : k + 1 + B2.length = k + (B2.length + 1) := by omega
        have ht : tstV (gvO pg (callV pg lv)) wt0_queue_take [some q, some (.lst true (th acc)), some (.lst true (th (t :: B2).reverse)), some (.lst true (List.replicate k (.str "turned"))), c] = .ok true := by simp [wt0_queue_take]
        have hb : execsV (gvO pg (callV pg lv)) wb0_queue_take [some q, some (.lst true (th acc)), some (.lst true (th (t :: B2).reverse)), some (.lst true (List.replicate k (.str "turned"))), c] = .nx [some q, some (.lst true (th (acc ++ [t]))), some (.lst true (th B2.reverse)), some (.lst true (List.replicate (k + 1) (.str "turned"))), c] := by simp [wb0_queue_take, e1, e2, List.replicate_succ']
        simp only [whlV, ht, RP.go_ok, if_true, hb, i]
        simp [e4]
  have := key B.reverse [] 0 pg.N (by simp; omega) (by simp; omega) (by rw [hN]; simp; omega)
  simpa using this
def qF (F B : List Tg) : List Tg := if F = [] then B.reverse else F
def qB (F B : List Tg) : List Tg := if F = [] then [] else B
def qK (F B : List Tg) : Nat := if F = [] then B.length else 0
def stp (k : Nat) : List PV := List.replicate k (.str "turned") ++ [.str "taken"]
theorem stp_fzs (k : Nat) : fzs (stp k) = stp k := by simp [stp]
theorem stp_clos (k : Nat) : clos (stp k) = true := by simp [stp]
theorem stp_lays (k : Nat) : lays 63 (stp k) = true := by
  unfold stp
  rw [lays_app, lays_rep (by simp; decide +kernel)]
  simp
  decide +kernel
theorem stp_len (k : Nat) : (stp k).length = k + 1 := by simp [stp]
theorem stp_ne (k : Nat) : eqqs (stp k) [] = false := by unfold stp; cases k <;> simp [List.replicate_succ]
theorem c_take (lv : Nat) (F B F2 : List Tg) (t : Tg) (h : F.length + B.length ≤ 900) (e : qF F B = F2 ++ [t]) : callV pg (lv + 1) 65 [qu F B] = .ok (.tup [tg t, .tup [.lst true (th F2), .lst true (th (qB F B))], .lst true (stp (qK F B))]) := by
  refine callV_run (k := lv) (d := d_queue_take) rfl rfl (by simp [d_queue_take]; rfl) ?_
  refine stepV (by simp; rfl) ?_
  refine stepV (by simp; rfl) ?_
  refine stepV (by simp; rfl) ?_
  by_cases hF : F = []
  · subst hF
    simp [qF] at e
    subst e
    have w := turned lv (.tup [.lst false [], .lst false (th (t :: F2.reverse))]) (t :: F2.reverse) (by simp at h ⊢; omega) none
    have z : F2.length + 1 < 16777216 := by simp at h; omega
    simp at w
    refine stepV (by simp [w]; rfl) ?_
    refine stepV (by simp; rfl) ?_
    refine stepV (by simp; rfl) ?_
    refine stepV (by simp [z]; rfl) ?_
    refine lastV (by simp [qB, qK, stp])
  · simp [qF, hF] at e
    subst e
    refine stepV (by simp; rfl) ?_
    refine stepV (by simp; rfl) ?_
    refine stepV (by simp; rfl) ?_
    refine stepV (by simp; rfl) ?_
    refine lastV (by simp [qB, qK, stp])
theorem q_ne (F B : List Tg) (h : F ++ B ≠ []) : ∃ F2 t, qF F B = F2 ++ [t] := by
  have : qF F B ≠ [] := by
    unfold qF
    split
    · rename_i e; subst e; simpa using h
    · assumption
  rcases List.eq_nil_or_concat (qF F B) with e | ⟨F2, t, e⟩
  · exact absurd e this
  · exact ⟨F2, t, by simpa using e⟩
theorem q_len (F B : List Tg) : (qF F B).length + (qB F B).length = F.length + B.length ∧ qK F B + (qB F B).length = B.length := by
  unfold qF qB qK
  split
  · rename_i e; subst e; simp
  · simp
theorem c_take0 (lv : Nat) : callV pg (lv + 1) 65 [qu [] []] = .exc 3 := by
  have hw : ∀ (F : Nat → List PV → RP PV) (n : Nat), whlV (tstV (gvO pg F) wt0_queue_take) (execsV (gvO pg F) wb0_queue_take) (n + 1) [some (qu [] []), some (.lst true []), some (.lst true []), some (.lst true []), none] = .nx [some (qu [] []), some (.lst true []), some (.lst true []), some (.lst true []), none] := fun F n => by simp [whlV, wt0_queue_take]
  have hz : ∃ n, pg.N = n + 1 := ⟨999999999999, rfl⟩
  obtain ⟨n, hz⟩ := hz
  refine callV_exc (k := lv) (d := d_queue_take) (σ' := [some (qu [] []), some (.lst true []), some (.lst true []), some (.lst true []), none]) rfl rfl (by simp [d_queue_take]; rfl) ?_
  have hw := hw (callV pg lv) n
  generalize callV pg lv = F at *
  simp only [qu_eq, th_eq, List.map_nil] at hw
  refine stepV (by simp; rfl) ?_
  refine stepV (by simp; rfl) ?_
  refine stepV (by simp; rfl) ?_
  refine stepV (σ' := [some (qu [] []), some (.lst true []), some (.lst true []), some (.lst true []), none]) (by simp [hz, hw]) ?_
  exact raisV (by simp)
theorem q_row (F B F2 : List Tg) (t : Tg) (e : qF F B = F2 ++ [t]) : F.reverse ++ B = t :: (F2.reverse ++ qB F B) := by
  unfold qF at e
  unfold qB
  by_cases h : F = []
  · subst h
    simp at e ⊢
    rw [e]
  · simp only [h, if_false] at e ⊢
    subst e
    simp
end Q
namespace D
theorem sq_last (n : Nat) : seqIndex? (-1) (n + 1) = some n := by
  unfold seqIndex?
  simp
  omega
theorem sq_first (n : Nat) : seqIndex? 0 (n + 1) = some 0 := by simp [seqIndex?]
theorem mulOk_c (k : Int) (hk : Builtin.Int.intBits k ≤ 100) {a : Int} (ha : a.natAbs ≤ 100000) : IntMulOk k a := mulOk_big (by omega) (Nat.le_trans (intBits_le (b := 100000) (by simpa using ha)) (by decide +kernel))
abbrev db (F B : List Tg) : PV := .tup [.lst false (th F), .lst false (th B)]
@[simp] theorem db_eq (F B : List Tg) : db F B = .tup [.lst false (th F), .lst false (th B)] := rfl
def cr (A B : List Tg) : Nat := ((A.length : Int) - B.length).natAbs
def mv (k : Nat) : List PV := List.replicate k (.str "moved")
def stK (k : Nat) : List PV := List.replicate k (.str "moved") ++ [.str "taken"]
theorem mv_fz (k : Nat) : fzs (mv k) = mv k := by simp [mv]
theorem stK_fz (k : Nat) : fzs (stK k) = stK k := by simp [stK]
theorem stK_clos (k : Nat) : clos (stK k) = true := by simp [stK]
theorem stK_len (k : Nat) : (stK k).length = k + 1 := by simp [stK]
theorem c_first (lv : Nat) (A B : List Tg) (t : Tg) (h : A.length + B.length ≤ 1000) : callV pg (lv + 1) 83 [db A B, tg t] = .ok (.tup [.tup [.lst true (th (A ++ [t])), .lst true (th B)], .lst true [.str "laid"]]) := by
  have z : A.length + 1 ≤ 16777216 := by omega
  refine callV_run (k := lv) (d := d_put_first) rfl rfl (by simp [d_put_first]; rfl) ?_
  generalize callV pg lv = F
  refine stepV (by simp; rfl) ?_
  refine lastV (by simp [z])
theorem c_last (lv : Nat) (A B : List Tg) (t : Tg) (h : A.length + B.length ≤ 1000) : callV pg (lv + 1) 84 [db A B, tg t] = .ok (.tup [.tup [.lst true (th A), .lst true (th (B ++ [t]))], .lst true [.str "laid"]]) := by
  have z : B.length + 1 ≤ 16777216 := by omega
  refine callV_run (k := lv) (d := d_put_last) rfl rfl (by simp [d_put_last]; rfl) ?_
  generalize callV pg lv = F
  refine stepV (by simp; rfl) ?_
  refine lastV (by simp [z])
theorem c_row (lv : Nat) (A B : List Tg) (h : A.length + B.length ≤ 1000) : callV pg (lv + 1) 85 [db A B] = .ok (.lst true (th (A.reverse ++ B))) := by
  have z : A.length + B.length ≤ 16777216 := by omega
  refine callV_run (k := lv) (d := d_double_row) rfl rfl (by simp [d_double_row]; rfl) ?_
  generalize callV pg lv = F
  refine lastV (by simp [z])
theorem c_credit (lv : Nat) (A B : List Tg) : callV pg (lv + 1) 82 [db A B] = .ok (.int (cr A B)) := by
  refine callV_run (k := lv) (d := d_double_credit) rfl rfl (by simp [d_double_credit]; rfl) ?_
  generalize callV pg lv = F
  have e : (cr A B : Int) = if (A.length : Int) - B.length < 0 then -((A.length : Int) - B.length) else (A.length : Int) - B.length := by unfold cr; split <;> omega
  rw [e]
  refine lastV (by simp)
def soH (H T : List Tg) : List Tg := if H = [] then (T.take ((T.length + 1) / 2)).reverse else H
def soT (H T : List Tg) : List Tg := if H = [] then T.drop ((T.length + 1) / 2) else T
def soK (H T : List Tg) : Nat := if H = [] then T.length else 0
theorem c_shared (lv : Nat) (H T : List Tg) (h : H.length + T.length ≤ 1000) : callV pg (lv + 1) 81 [.lst false (th H), .lst false (th T)] = .ok (.tup [.lst true (th (soH H T)), .lst true (th (soT H T)), .lst true (mv (soK H T))]) := by
  refine callV_run (k := lv) (d := d_shared_out) rfl rfl (by simp [d_shared_out]; rfl) ?_
  generalize callV pg lv = F
  by_cases e : H = []
  · subst e
    have z1 : T.length ≤ 16777216 := by omega
    have z2 : T.length ≤ 9223372036854775807 := by omega
    have e2 : ((T.length : Int) + 1) / 2 = (((T.length + 1) / 2 : Nat) : Int) := by omega
    have c1 := cut_to (T.map tg) ((T.length + 1) / 2)
    have c2 := cut_from (T.map tg) ((T.length + 1) / 2)
    refine stepV (by simp; rfl) ?_
    refine stepV (σ' := [some (.lst false []), some (.lst false (th T)), some (.int ((T.length + 1) / 2 : Nat))]) (by simp) ?_
    have d1 : soH [] T = (T.take ((T.length + 1) / 2)).reverse := rfl
    have d2 : soT [] T = T.drop ((T.length + 1) / 2) := rfl
    have d3 : soK [] T = T.length := rfl
    rw [d1, d2, d3]
    generalize (T.length + 1) / 2 = m at *
    have c3 : fzs ((T.map tg).take m) = (T.map tg).take m := by rw [← List.map_take]; exact fzs_th _
    refine lastV (by simp [z1, z2, c1, c2, c3, mv])
  · refine lastV (by simp [e, soH, soT, soK, mv])
theorem so_row (H T : List Tg) : (soH H T).reverse ++ soT H T = H.reverse ++ T := by
  unfold soH soT
  split
  · rename_i e; subst e; simp
  · rfl
theorem so_row2 (H T : List Tg) : (soT H T).reverse ++ soH H T = T.reverse ++ H := by
  unfold soH soT
  split
  · rename_i e; subst e
    rw [← List.reverse_append, List.take_append_drop]; simp
  · rfl
theorem so_pot (H T H2 : List Tg) (t : Tg) (e : soH H T = H2 ++ [t]) : soK H T + 1 + cr H2 (soT H T) ≤ cr H T + 2 ∧ H2.length + (soT H T).length + 1 = H.length + T.length := by
  have hl := congrArg List.length e
  unfold soH soT soK cr at *
  by_cases h : H = []
  · subst h
    simp at hl ⊢
    omega
  · simp [h] at hl ⊢
    omega
theorem so_ne (H T : List Tg) (h : H ++ T ≠ []) : ∃ H2 t, soH H T = H2 ++ [t] := by
  have : soH H T ≠ [] := by
    unfold soH
    split
    · rename_i e; subst e
      have : 0 < T.length := List.length_pos_iff.mpr (by simpa using h)
      intro z
      have := congrArg List.length z
      rw [List.length_reverse, List.length_take, List.length_nil] at this
      omega
    · assumption
  rcases List.eq_nil_or_concat (soH H T) with e | ⟨F2, t, e⟩
  · exact absurd e this
  · exact ⟨F2, t, by simpa using e⟩
theorem cr_comm (A B : List Tg) : cr A B = cr B A := by unfold cr; omega
theorem mv_add (k : Nat) : mv k ++ [.str "taken"] = stK k := rfl
theorem c_takeF (lv : Nat) (A B A2 : List Tg) (t : Tg) (h : A.length + B.length ≤ 900) (e : soH A B = A2 ++ [t]) : callV pg (lv + 2) 78 [db A B] = .ok (.tup [tg t, .tup [.lst true (th A2), .lst true (th (soT A B))], .lst true (stK (soK A B))]) := by
  have s := c_shared lv A B (by omega)
  have hk : soK A B ≤ 900 := by unfold soK; split <;> omega
  have z : soK A B + 1 ≤ 16777216 := by omega
  rw [e] at s
  rw [← mv_add]
  have f1 := mv_fz (soK A B)
  have f2 : (mv (soK A B)).length + 1 ≤ 16777216 := by simp [mv]; omega
  have f3 : clos (mv (soK A B)) = true := by simp [mv]
  generalize mv (soK A B) = K at *
  generalize soT A B = T at *
  simp at s
  refine callV_run (k := lv + 1) (d := d_take_first) rfl rfl (by simp [d_take_first]; rfl) ?_
  generalize callV pg (lv + 1) = F at *
  refine stepV (by simp [s, f3]; rfl) ?_
  refine stepV (by simp; rfl) ?_
  refine stepV (by simp; rfl) ?_
  refine lastV (by simp [f1, f2])
theorem c_takeL (lv : Nat) (A B B2 : List Tg) (t : Tg) (h : A.length + B.length ≤ 900) (e : soH B A = B2 ++ [t]) : callV pg (lv + 2) 79 [db A B] = .ok (.tup [tg t, .tup [.lst true (th (soT B A)), .lst true (th B2)], .lst true (stK (soK B A))]) := by
  have s := c_shared lv B A (by omega)
  have hk : soK B A ≤ 900 := by unfold soK; split <;> omega
  rw [e] at s
  rw [← mv_add]
  have f1 := mv_fz (soK B A)
  have f2 : (mv (soK B A)).length + 1 ≤ 16777216 := by simp [mv]; omega
  have f3 : clos (mv (soK B A)) = true := by simp [mv]
  generalize mv (soK B A) = K at *
  generalize soT B A = T at *
  simp at s
  refine callV_run (k := lv + 1) (d := d_take_last) rfl rfl (by simp [d_take_last]; rfl) ?_
  generalize callV pg (lv + 1) = F at *
  refine stepV (by simp [s, f3]; rfl) ?_
  refine stepV (by simp; rfl) ?_
  refine stepV (by simp; rfl) ?_
  refine lastV (by simp [f1, f2])
theorem c_takeF0 (lv : Nat) : callV pg (lv + 2) 78 [db [] []] = .exc 3 := by
  have s := c_shared lv [] [] (by simp)
  simp [soH, soT, soK, mv] at s
  refine callV_exc (k := lv + 1) (d := d_take_first) (σ' := [some (db [] []), some (.lst true []), some (.lst true []), some (.lst true []), none]) rfl rfl (by simp [d_take_first]; rfl) ?_
  generalize callV pg (lv + 1) = F at *
  refine stepV (by simp [s]; rfl) ?_
  exact raisV (by simp)
theorem c_takeL0 (lv : Nat) : callV pg (lv + 2) 79 [db [] []] = .exc 3 := by
  have s := c_shared lv [] [] (by simp)
  simp [soH, soT, soK, mv] at s
  refine callV_exc (k := lv + 1) (d := d_take_last) (σ' := [some (db [] []), some (.lst true []), some (.lst true []), some (.lst true []), none]) rfl rfl (by simp [d_take_last]; rfl) ?_
  generalize callV pg (lv + 1) = F at *
  refine stepV (by simp [s]; rfl) ?_
  exact raisV (by simp)
/-- a taking at either end -/
theorem d_take (fst : Bool) (A B : List Tg) (h : A.length + B.length ≤ 900) (hn : A ++ B ≠ []) : ∃ A2 B2 t k, (∀ lv, callV pg (lv + 2) (if fst = true then 78 else 79) [db A B] = .ok (.tup [tg t, .tup [.lst true (th A2), .lst true (th B2)], .lst true (stK k)])) ∧ (k : Int) + 1 + cr A2 B2 ≤ cr A B + 2 ∧ A2.length + B2.length + 1 = A.length + B.length ∧ A.reverse ++ B = if fst = true then t :: (A2.reverse ++ B2) else A2.reverse ++ B2 ++ [t] := by
  cases fst with
  | true =>
    obtain ⟨A2, t, e⟩ := so_ne A B hn
    obtain ⟨p1, p2⟩ := so_pot A B A2 t e
    refine ⟨A2, soT A B, t, soK A B, fun lv => c_takeF lv A B A2 t h e, by omega, p2, ?_⟩
    rw [← so_row, e]; simp
  | false =>
    have hn2 : B ++ A ≠ [] := by
      intro z
      obtain ⟨rfl, rfl⟩ := List.append_eq_nil_iff.mp z
      exact hn rfl
    obtain ⟨B2, t, e⟩ := so_ne B A hn2
    obtain ⟨p1, p2⟩ := so_pot B A B2 t e
    refine ⟨soT B A, B2, t, soK B A, fun lv => c_takeL lv A B B2 t h e, by rw [cr_comm (soT B A), cr_comm A]; omega, by omega, ?_⟩
    rw [← so_row2, e]; simp
theorem c_takeD0 (fst : Bool) (lv : Nat) : callV pg (lv + 2) (if fst = true then 78 else 79) [db [] []] = .exc 3 := by
  cases fst
  · exact c_takeL0 lv
  · exact c_takeF0 lv
end D
namespace R
abbrev rm (T : List Tg) (s : Nat) : PV := .tup [.lst false (th T), .int s]
@[simp] theorem rm_eq (T : List Tg) (s : Nat) : rm T s = .tup [.lst false (th T), .int s] := rfl
def pS (n s : Nat) : Nat := if n = s then 2 * s else s
def pK (n s : Nat) : List PV := if n = s then List.replicate n (.str "moved") ++ [.str "laid"] else [.str "laid"]
def tS (n s : Nat) : Nat := if 4 < s ∧ 4 * n ≤ s then s / 2 else s
def tK (n s : Nat) : List PV := if 4 < s ∧ 4 * n ≤ s then .str "taken" :: List.replicate n (.str "moved") else [.str "taken"]
def rc (n s : Nat) : Nat := if s < 2 * n then 2 * n - s else if 4 < s then s / 2 - n else 0
theorem pK_fz (n s : Nat) : fzs (pK n s) = pK n s := by unfold pK; split <;> simp
theorem tK_fz (n s : Nat) : fzs (tK n s) = tK n s := by unfold tK; split <;> simp
theorem pK_len (n s : Nat) : (pK n s).length = if n = s then n + 1 else 1 := by unfold pK; split <;> simp
theorem tK_len (n s : Nat) : (tK n s).length = if 4 < s ∧ 4 * n ≤ s then n + 1 else 1 := by unfold tK; split <;> simp
theorem pK_clos (n s : Nat) : clos (pK n s) = true := by unfold pK; split <;> simp
theorem tK_clos (n s : Nat) : clos (tK n s) = true := by unfold tK; split <;> simp
theorem mulOk_c (k : Int) (hk : Builtin.Int.intBits k ≤ 100) {a : Int} (ha : a.natAbs ≤ 100000) : IntMulOk k a := mulOk_big (by omega) (Nat.le_trans (intBits_le (b := 100000) (by simpa using ha)) (by decide +kernel))
theorem c_put (lv : Nat) (T : List Tg) (s : Nat) (t : Tg) (h : T.length ≤ 1000) (hs : s ≤ 10000) : callV pg (lv + 1) 202 [rm T s, tg t] = .ok (.tup [.tup [.lst true (th (T ++ [t])), .int (pS T.length s)], .lst true (pK T.length s)]) := by
  have z : T.length + 1 ≤ 16777216 := by omega
  have z2 : T.length ≤ 16777216 := by omega
  have z3 : T.length ≤ 9223372036854775807 := by omega
  have m2 : IntMulOk 2 s := mulOk_c 2 (by decide +kernel) (by omega)
  refine callV_run (k := lv) (d := d_room_put) rfl rfl (by simp [d_room_put]; rfl) ?_
  generalize callV pg lv = F
  refine stepV (by simp; rfl) ?_
  refine stepV (by simp; rfl) ?_
  by_cases e : T.length = s
  · subst e
    refine stepV (by simp [m2, z2, z3]; rfl) ?_
    refine lastV (by simp [z, pS, pK])
  · have e' : ¬ ((T.length : Int) = s) := by omega
    refine stepV (by simp [e']; rfl) ?_
    refine lastV (by simp [z, pS, pK, e])
theorem c_credit (lv : Nat) (T : List Tg) (s : Nat) (h : T.length ≤ 1000) (hs : s ≤ 10000) : callV pg (lv + 1) 201 [rm T s] = .ok (.int (rc T.length s)) := by
  have m2 : IntMulOk 2 T.length := mulOk_c 2 (by decide +kernel) (by omega)
  refine callV_run (k := lv) (d := d_room_credit) rfl rfl (by simp [d_room_credit]; rfl) ?_
  generalize callV pg lv = F
  refine stepV (by simp; rfl) ?_
  refine stepV (by simp; rfl) ?_
  by_cases e : s < 2 * T.length
  · have e' : (s : Int) < 2 * T.length := by omega
    have e2 : (rc T.length s : Int) = 2 * (T.length : Int) - s := by unfold rc; rw [if_pos e]; omega
    rw [e2]
    refine lastV (by simp [m2, e'])
  · have e' : ¬ ((s : Int) < 2 * T.length) := by omega
    refine stepV (by simp [m2, e']; rfl) ?_
    by_cases e3 : 4 < s
    · have e4 : (4 : Int) < s := by omega
      have e2 : (rc T.length s : Int) = (s : Int) / 2 - T.length := by unfold rc; rw [if_neg e, if_pos e3]; omega
      rw [e2]
      refine lastV (by simp [gl_LEAST_SIZE, e4])
    · have e4 : ¬ ((4 : Int) < s) := by omega
      have e2 : (rc T.length s : Int) = 0 := by unfold rc; rw [if_neg e, if_neg e3]; rfl
      rw [e2]
      refine stepV (by simp [gl_LEAST_SIZE, e4]; rfl) ?_
      refine lastV (by simp)
theorem c_take (lv : Nat) (T : List Tg) (s : Nat) (t : Tg) (h : T.length ≤ 1000) (hs : s ≤ 10000) : callV pg (lv + 1) 198 [rm (T ++ [t]) s] = .ok (.tup [tg t, .tup [.lst true (th T), .int (tS T.length s)], .lst true (tK T.length s)]) := by
  have z : T.length + 1 ≤ 16777216 := by omega
  have z1 : 1 + T.length ≤ 16777216 := by omega
  have z2 : T.length ≤ 16777216 := by omega
  have z3 : T.length ≤ 9223372036854775807 := by omega
  have m4 : IntMulOk 4 T.length := mulOk_c 4 (by decide +kernel) (by omega)
  refine callV_run (k := lv) (d := d_room_take) rfl rfl (by simp [d_room_take]; rfl) ?_
  generalize callV pg lv = F
  refine stepV (by simp; rfl) ?_
  refine stepV (by simp; rfl) ?_
  refine stepV (by simp; rfl) ?_
  refine stepV (by simp; rfl) ?_
  refine stepV (by simp; rfl) ?_
  by_cases e : 4 < s ∧ 4 * T.length ≤ s
  · have e1 : (4 : Int) < s := by omega
    have e2 : (4 * (T.length : Int)) ≤ s := by omega
    refine stepV (by simp [gl_LEAST_SIZE, m4, e1, e2, z1, z2, z3]; rfl) ?_
    refine lastV (by simp [tS, tK, e])
  · have e3 : (4 : Int) < s → ¬ (4 * (T.length : Int)) ≤ s := by omega
    by_cases e1 : (4 : Int) < s
    · refine stepV (by simp [gl_LEAST_SIZE, m4, e1, e3 e1]; rfl) ?_
      refine lastV (by simp [tS, tK, e])
    · refine stepV (by simp [gl_LEAST_SIZE, e1]; rfl) ?_
      refine lastV (by simp [tS, tK, e])
def Fm (n s : Nat) : Prop := n ≤ s ∧ (s ≤ 4 ∨ s < 4 * n)
theorem fm_put {n s : Nat} (f : Fm n s) (h4 : 4 ≤ s) : Fm (n + 1) (pS n s) ∧ (if n = s then n + 1 else 1) + rc (n + 1) (pS n s) ≤ rc n s + 3 := by
  unfold Fm pS rc at *
  obtain ⟨f1, f2⟩ := f
  by_cases e : n = s
  · subst e
    simp only [if_true]
    repeat' split
    all_goals omega
  · simp only [e, if_false]
    repeat' split
    all_goals omega
theorem fm_take {n s j : Nat} (f : Fm (n + 1) s) (hs : s = 4 * 2 ^ j) : Fm n (tS n s) ∧ (if 4 < s ∧ 4 * n ≤ s then n + 1 else 1) + rc n (tS n s) ≤ rc (n + 1) s + 2 := by
  have hd : 4 < s → s % 8 = 0 := fun h => by
    cases j with
    | zero => simp at hs; omega
    | succ j => rw [hs, Nat.pow_succ]; omega
  have h4 : 4 ≤ s := by rw [hs]; have := Nat.one_le_two_pow (n := j); omega
  unfold Fm tS rc at *
  obtain ⟨f1, f2⟩ := f
  by_cases e : 4 < s ∧ 4 * n ≤ s
  · have := hd e.1
    simp only [e, and_self, if_true]
    repeat' split
    all_goals omega
  · simp only [e, if_false]
    repeat' split
    all_goals omega
theorem c_take0 (lv s : Nat) : callV pg (lv + 1) 198 [rm [] s] = .exc 3 := by
  refine callV_exc (k := lv) (d := d_room_take) (σ' := [some (.tup [.lst false [], .int s]), some (.lst true []), some (.int s), none, none]) rfl rfl (by simp [d_room_take]; rfl) ?_
  generalize callV pg lv = F
  refine stepV (by simp; rfl) ?_
  refine stepV (by simp; rfl) ?_
  exact raisV (σ' := [some (.tup [.lst false [], .int s]), some (.lst true []), some (.int s), none, none]) (by simp)
end R
abbrev sq3 (b : Bool) (F B : List Tg) : PV := .tup [.lst b (th F), .lst b (th B)]
abbrev sr3 (b : Bool) (T : List Tg) (s : Nat) : PV := .tup [.lst b (th T), .int s]
def E38 (b : Bool) (F B A C T : List Tg) (s n : Nat) : Prop := F.length + B.length = n ∧ A.length + C.length = n ∧ T.length = n ∧ (∃ j, s = 4 * 2 ^ j) ∧ R.Fm T.length s ∧ (n ≠ 0 → b = false)
abbrev st38 (m e : Int) (b : Bool) (F B A C T : List Tg) (s : Nat) (x : Option PV) : SV := [some (.int m), some (.int e), some (sq3 b F B), some (sq3 b A C), some (sr3 b T s), x]
theorem s_le {n s : Nat} (hn : n ≤ 100) (f : R.Fm n s) : s ≤ 10000 := by
  obtain ⟨f1, f2⟩ := f
  have : s ≤ 4 ∨ s ≤ 1200 := by omega
  omega
theorem pow4 {s : Nat} (h : ∃ j, s = 4 * 2 ^ j) : 4 ≤ s := by
  obtain ⟨j, rfl⟩ := h
  have := Nat.one_le_two_pow (n := j)
  omega
theorem up38 (lv : Nat) (m e : Int) (b : Bool) (F B A C T : List Tg) (s n k : Nat) (x : Option PV) (hn : n ≤ 50) (h : E38 b F B A C T s n) : ∃ F2 B2 A2 C2 T2 s2, frV (asgV (.nm 5)) (execsV (gvO pg (callV pg (lv + 2))) fb1__law_emptied) (.int k) (st38 m e b F B A C T s x) = .nx (st38 m e false F2 B2 A2 C2 T2 s2 (some (.int k))) ∧ E38 false F2 B2 A2 C2 T2 s2 (n + 1) := by
  obtain ⟨h1, h2, h3, h4, h5, h6⟩ := h
  have e1 := Q.c_put (lv + 1) F B (.int k) (by omega)
  have e2 := R.c_put (lv + 1) T s (.int k) (by omega) (s_le (n := T.length) (by omega) h5)
  have g := (R.fm_put h5 (pow4 h4)).1
  have g4 : ∃ j, R.pS T.length s = 4 * 2 ^ j := by
    obtain ⟨j, hj⟩ := h4
    unfold R.pS
    split
    · exact ⟨j + 1, by rw [hj, Nat.pow_succ]; omega⟩
    · exact ⟨j, hj⟩
  by_cases hb : e / 2 ^ k % 2 = 1
  · have e3 := D.c_first (lv + 1) A C (.int k) (by omega)
    refine ⟨F, B ++ [.int k], A ++ [.int k], C, T ++ [.int k], _, ?_, by simp; omega, by simp; omega, by simp; omega, g4, by simpa using g, fun _ => rfl⟩
    generalize callV pg (lv + 2) = V at *
    simp [tg] at e1 e2 e3
    refine frV_of (by simp; rfl) ?_
    refine stepV (by simp [e1]; rfl) ?_
    refine stepV (by simp [e2]; rfl) ?_
    exact stepV (by simp [hb, e3, tg]) doneV
  · have e3 := D.c_last (lv + 1) A C (.int k) (by omega)
    refine ⟨F, B ++ [.int k], A, C ++ [.int k], T ++ [.int k], _, ?_, by simp; omega, by simp; omega, by simp; omega, g4, by simpa using g, fun _ => rfl⟩
    generalize callV pg (lv + 2) = V at *
    simp [tg] at e1 e2 e3
    refine frV_of (by simp; rfl) ?_
    refine stepV (by simp [e1]; rfl) ?_
    refine stepV (by simp [e2]; rfl) ?_
    exact stepV (by simp [hb, e3, tg]) doneV
theorem dn38 (lv : Nat) (m : Nat) (e : Int) (b : Bool) (F B A C T : List Tg) (s n k : Nat) (x : Option PV) (hn : n ≤ 50) (h : E38 b F B A C T s (n + 1)) : ∃ F2 B2 A2 C2 T2 s2, frV (asgV (.nm 5)) (execsV (gvO pg (callV pg (lv + 2))) fb0__law_emptied) (.int k) (st38 m e b F B A C T s x) = .nx (st38 m e false F2 B2 A2 C2 T2 s2 (some (.int k))) ∧ E38 false F2 B2 A2 C2 T2 s2 n := by
  obtain ⟨h1, h2, h3, h4, h5, h6⟩ := h
  obtain ⟨F2, t, ef⟩ := Q.q_ne F B (by intro z; have := List.append_eq_nil_iff.mp z; rw [this.1, this.2] at h1; simp at h1)
  have hl := Q.q_len F B
  rw [ef] at hl
  simp at hl
  have e1 := Q.c_take (lv + 1) F B F2 t (by omega) ef
  rcases List.eq_nil_or_concat T with z | ⟨T2, u, z⟩
  · subst z; simp at h3
  simp at z
  subst z
  simp at h3 h5
  have e2 := R.c_take (lv + 1) T2 s u (by omega) (s_le (n := T2.length + 1) (by omega) h5)
  obtain ⟨j, hj⟩ := h4
  have g := (R.fm_take h5 hj).1
  have g4 : ∃ j, R.tS T2.length s = 4 * 2 ^ j := by
    unfold R.tS
    split
    · cases j with
      | zero => simp at hj; omega
      | succ j => exact ⟨j, by rw [hj, Nat.pow_succ]; omega⟩
    · exact ⟨j, hj⟩
  obtain ⟨fst, hf⟩ : ∃ fst : Bool, fst = decide (e / 2 ^ (m + k) % 2 = 1) := ⟨_, rfl⟩
  obtain ⟨A2, C2, t2, k2, d1, d2, d3, d4⟩ := D.d_take fst A C (by omega) (by intro z; have := List.append_eq_nil_iff.mp z; rw [this.1, this.2] at h2; simp at h2)
  have e3 := d1 lv
  have kc1 := Q.stp_clos (Q.qK F B)
  have kc3 := D.stK_clos k2
  have kc2 := R.tK_clos T2.length s
  refine ⟨F2, Q.qB F B, A2, C2, T2, _, ?_, by omega, by omega, by omega, g4, g, fun _ => rfl⟩
  clear d1
  generalize Q.stp (Q.qK F B) = K1 at *
  generalize D.stK k2 = K3 at *
  generalize R.tK T2.length s = K2 at *
  generalize Q.qB F B = B2 at *
  generalize R.tS T2.length s = s2 at *
  generalize callV pg (lv + 2) = V at *
  have hx : ((m : Int) + (k : Int)).toNat = m + k := by omega
  have hx0 : (0 : Int) ≤ (m : Int) + (k : Int) := by omega
  simp at e1 e2
  refine frV_of (by simp; rfl) ?_
  refine stepV (by simp [e1]; rfl) ?_
  refine stepV (by simp [e2]; rfl) ?_
  cases fst with
  | true =>
    have hb := of_decide_eq_true hf.symm
    simp at e3
    exact stepV (by simp [hx, hx0, hb, e3]) doneV
  | false =>
    have hb := of_decide_eq_false hf.symm
    simp at e3
    exact stepV (by simp [hx, hx0, hb, e3]) doneV
abbrev hv38 (b : Bool) : PV := .lst true [sq3 b [] [], sq3 b [] [], sr3 b [] 4]
abbrev hw38 : PV := .lst false [sq3 false [] [], sq3 false [] [], sr3 false [] 4]
theorem c_emptied (lv m : Nat) (hm : m ≤ 8) (e : Int) : callV pg (lv + 3) 257 [.int m, .int e] = .ok (hv38 false) := by
  have l1 : ∃ b F B A C T s x, forV (frV (asgV (.nm 5)) (execsV (gvO pg (callV pg (lv + 2))) fb1__law_emptied)) (rngP 0 m) (st38 m e true [] [] [] [] [] 4 none) = .nx (st38 m e b F B A C T s x) ∧ E38 b F B A C T s m := by
    obtain ⟨σ', ef, b, F, B, A, C, T, s, x, rfl, h⟩ := forV_pre (Q := fun pre σ => ∃ b F B A C T s x, σ = st38 m e b F B A C T s x ∧ E38 b F B A C T s pre.length) (body := frV (asgV (.nm 5)) (execsV (gvO pg (callV pg (lv + 2))) fb1__law_emptied)) (rngP 0 m) [] (fun q x r hpr σ hσ => by
      obtain ⟨b, F, B, A, C, T, s, y, rfl, h⟩ := hσ
      obtain ⟨rfl, hq⟩ := rng_elem (by simpa using hpr)
      obtain ⟨F2, B2, A2, C2, T2, s2, g1, g2⟩ := up38 lv m e b F B A C T s q.length q.length y (by omega) h
      exact ⟨_, .inl (by rw [Int.zero_add]; exact g1), _, _, _, _, _, _, _, _, rfl, by simpa using g2⟩) _ ⟨true, [], [], [], [], [], 4, none, rfl, rfl, rfl, rfl, ⟨0, rfl⟩, by unfold R.Fm; simp, by simp⟩
    exact ⟨b, F, B, A, C, T, s, x, ef, by simpa [rngP] using h⟩
  obtain ⟨b, F, B, A, C, T, s, x, ef, h⟩ := l1
  have l2 : ∃ b2 F2 B2 A2 C2 T2 s2 x2, forV (frV (asgV (.nm 5)) (execsV (gvO pg (callV pg (lv + 2))) fb0__law_emptied)) (rngP 0 m) (st38 m e b F B A C T s x) = .nx (st38 m e b2 F2 B2 A2 C2 T2 s2 x2) ∧ E38 b2 F2 B2 A2 C2 T2 s2 0 := by
    obtain ⟨σ', ef, b2, F, B, A, C, T, s, x, rfl, hb, h⟩ := forV_pre (Q := fun pre σ => ∃ b2 F B A C T s x, σ = st38 m e b2 F B A C T s x ∧ (pre ≠ [] → b2 = false) ∧ E38 b2 F B A C T s (m - pre.length)) (body := frV (asgV (.nm 5)) (execsV (gvO pg (callV pg (lv + 2))) fb0__law_emptied)) (rngP 0 m) [] (fun q x r hpr σ hσ => by
      obtain ⟨b, F, B, A, C, T, s, y, rfl, hb, h⟩ := hσ
      obtain ⟨rfl, hq⟩ := rng_elem (by simpa using hpr)
      have : m - q.length = (m - q.length - 1) + 1 := by omega
      rw [this] at h
      obtain ⟨F2, B2, A2, C2, T2, s2, g1, g2⟩ := dn38 lv m e b F B A C T s (m - q.length - 1) q.length y (by omega) h
      refine ⟨_, .inl (by rw [Int.zero_add]; exact g1), _, _, _, _, _, _, _, _, rfl, fun _ => rfl, ?_⟩
      have e3 : m - (q ++ [PV.int (0 + (q.length : Nat))]).length = m - q.length - 1 := by simp; omega
      rw [e3]; exact g2) _ ⟨b, F, B, A, C, T, s, x, rfl, by simp, by simpa using h⟩
    refine ⟨b2, F, B, A, C, T, s, x, ef, ?_⟩
    have : m - ([] ++ rngP 0 m).length = 0 := by simp [rngP]
    rw [this] at h
    exact h
  obtain ⟨b2, F2, B2, A2, C2, T2, s2, x2, ef2, g1, g2, g3, g4, g5, g6⟩ := l2
  have z1 : F2 = [] := List.length_eq_zero_iff.mp (by omega)
  have z2 : B2 = [] := List.length_eq_zero_iff.mp (by omega)
  have z3 : A2 = [] := List.length_eq_zero_iff.mp (by omega)
  have z4 : C2 = [] := List.length_eq_zero_iff.mp (by omega)
  have z5 : T2 = [] := List.length_eq_zero_iff.mp (by omega)
  subst z1 z2 z3 z4 z5
  have z6 : s2 = 4 := by
    have h4 := pow4 g4
    obtain ⟨f1, f2⟩ := g5
    simp at f1 f2
    omega
  subst z6
  refine callV_run (k := lv + 2) (d := d__law_emptied) rfl rfl (by simp [d__law_emptied]; rfl) ?_
  have hsm : small62 (m : Int) := by unfold small62; omega
  have hrl : (rngP 0 m).length = m := by simp [rngP]
  generalize hV : gvO pg (callV pg (lv + 2)) = V at *
  have hVN : V.N = 1000000000000 := by rw [← hV]; rfl
  clear hV
  simp only [st38, sq3, sr3, th_eq, List.map_nil, Int.cast_ofNat_Int] at ef ef2
  refine stepV (by simp; rfl) ?_
  refine stepV (by simp; rfl) ?_
  refine stepV (by simp; rfl) ?_
  have hm2 : m < 1000000000000 := by omega
  refine stepV (σ' := st38 m e b F B A C T s x) (by simp [hsm, hrl, hVN, hm2, ef]) ?_
  refine stepV (σ' := st38 m e b2 [] [] [] [] [] 4 x2) (by simp [hsm, hrl, hVN, hm2, ef2]) ?_
  refine lastV (by simp)
@[simp] theorem isNonP_exo {d : Nat} : isNonP (.exo d) = false := rfl
theorem c_bare (lv : Nat) : callV pg (lv + 2) 255 [.lst false [sq3 false [] [], sq3 false [] [], sr3 false [] 4]] = .ok (.bl true) := by
  have e1 := Q.c_row lv [] [] (by simp)
  have e2 := D.c_row lv [] [] (by simp)
  have e3 := Q.c_credit lv [] []
  have e4 := D.c_credit lv [] []
  have e5 := R.c_credit lv [] 4 (by simp) (by omega)
  have k4 : D.cr ([] : List Tg) ([] : List Tg) = 0 := rfl
  have k5 : R.rc 0 4 = 0 := rfl
  simp [k4, k5] at e1 e2 e3 e4 e5
  refine callV_run (k := lv + 1) (d := d__law_bare) rfl rfl (by simp [d__law_bare]; rfl) ?_
  generalize callV pg (lv + 1) = V at *
  refine stepV (by simp; rfl) ?_
  refine stepV (by simp [e1, e2]; rfl) ?_
  refine lastV (by simp [e3, e4, e5])
theorem c_isempty (lv : Nat) : callV pg (lv + 1) 258 [.exo 3] = .ok (.bl true) := by
  refine callV_run (k := lv) (d := d__law_is_empty) rfl rfl (by simp [d__law_is_empty]; rfl) ?_
  generalize callV pg lv = V
  refine stepV (by simp [subX]; rfl) ?_
  refine stepV (by simp [subX]; rfl) ?_
  refine stepV (by simp [subX]; rfl) ?_
  refine lastV (by simp [subX])
def hd38 : Nat → PV
  | 0 => sq3 false [] []
  | 3 => sr3 false [] 4
  | _ => sq3 false [] []
theorem c_take38 (lv w : Nat) (hw : w < 4) : callV pg (lv + 3) 259 [.int w, hd38 w] = .exc 3 := by
  have e1 := Q.c_take0 (lv + 1)
  have e2 := D.c_takeF0 lv
  have e3 := D.c_takeL0 lv
  have e4 := R.c_take0 (lv + 1) 4
  simp at e1 e2 e3 e4
  have hw' : w = 0 ∨ w = 1 ∨ w = 2 ∨ w = 3 := by omega
  rcases hw' with rfl | rfl | rfl | rfl
  · refine callV_exc (k := lv + 2) (d := d__law_take) (σ' := [some (.int 0), some (hd38 0)]) rfl rfl (by simp [d__law_take, hd38]; rfl) ?_
    generalize callV pg (lv + 2) = V at *
    exact raisV (by simp [hd38, e1])
  · refine callV_exc (k := lv + 2) (d := d__law_take) (σ' := [some (.int 1), some (hd38 1)]) rfl rfl (by simp [d__law_take, hd38]; rfl) ?_
    generalize callV pg (lv + 2) = V at *
    refine stepV (by simp [hd38]; rfl) ?_
    exact raisV (by simp [hd38, e2])
  · refine callV_exc (k := lv + 2) (d := d__law_take) (σ' := [some (.int 2), some (hd38 2)]) rfl rfl (by simp [d__law_take, hd38]; rfl) ?_
    generalize callV pg (lv + 2) = V at *
    refine stepV (by simp [hd38]; rfl) ?_
    refine stepV (by simp; rfl) ?_
    exact raisV (by simp [hd38, e3])
  · refine callV_exc (k := lv + 2) (d := d__law_take) (σ' := [some (.int 3), some (hd38 3)]) rfl rfl (by simp [d__law_take, hd38]; rfl) ?_
    generalize callV pg (lv + 2) = V at *
    refine stepV (by simp [hd38]; rfl) ?_
    refine stepV (by simp; rfl) ?_
    refine stepV (by simp; rfl) ?_
    exact raisV (by simp [hd38, e4])
theorem hd_fz (w : Nat) : fz (hd38 w) = hd38 w := by unfold hd38; split <;> simp
theorem c_refused (lv w : Nat) (hw : w < 4) : callV pg (lv + 4) 256 [.int w, hd38 w] = .ok (.bl true) := by
  have e1 := c_take38 lv w hw
  have e2 := c_isempty (lv + 2)
  have hf := hd_fz w
  refine callV_run (k := lv + 3) (d := d__law_refused) rfl rfl (by simp [d__law_refused, hf]; rfl) ?_
  generalize callV pg (lv + 3) = V at *
  generalize hd38 w = h at *
  refine stepV (by simp; rfl) ?_
  refine stepV (σ' := [some (.int w), some h, some (.exo 3), none]) (by simp [tb0__law_refused, hf, e1, raisV, subX]) ?_
  refine lastV (by simp [e2])
theorem main (ns : List Int) (h : ns.length ≤ 63) (hb : ∀ z ∈ ns, Builtin.Int.intBits z ≤ 1048576) : ∃ vh', callF pg 20 260 [.ref 0] [.rol (ns.map .int)] = .ok (.bl true) vh' := main_of (by
  have c17a := cell_at 18 ns 0
  have c17b := cell_at 18 ns 1
  generalize ns.getD 0 0 = c at *
  generalize ns.getD 1 0 = d at *
  obtain ⟨m, hm⟩ := Int.eq_ofNat_of_zero_le (Int.emod_nonneg c (show (9 : Int) ≠ 0 by decide))
  have hm2 := Int.emod_lt_of_pos c (show (0 : Int) < 9 by decide)
  have c257 := c_emptied 16 m (by omega) (c / 9 % 65536)
  obtain ⟨t, c59⟩ := c_thing 18 d
  have c255 := c_bare 17
  have c256 := c_refused 15
  have c67 := Q.c_put 18 [] [] t (by simp)
  have c202 := R.c_put 18 [] 4 t (by simp) (by omega)
  have c83 := D.c_first 18 [] [] t (by simp)
  have c84 := D.c_last 18 [] [] t (by simp)
  have c65 := Q.c_take 18 [] [t] [] t (by simp) (by simp [Q.qF])
  have c198 := R.c_take 18 [] 4 t (by simp) (by omega)
  have c78a := D.c_takeF 17 [t] [] [] t (by simp) (by simp [D.soH])
  have c78b := D.c_takeF 17 [] [t] [] t (by simp) (by simp [D.soH])
  have c79a := D.c_takeL 17 [t] [] [] t (by simp) (by simp [D.soH])
  have c79b := D.c_takeL 17 [] [t] [] t (by simp) (by simp [D.soH])
  have c63 := c_same 15 t
  have p4 : R.pS 0 4 = 4 := rfl
  have kk1 := Q.stp_clos (Q.qK [] [t])
  simp [p4] at c67 c202 c83 c84 c65 c198 c78a c78b c79a c79b c257 c255 c17a c17b c59 c63
  have hfr : ∀ w : Nat, w < 4 → ∀ x, frV (asgV (.nm 4)) (execsV (gvO pg (callV pg 19)) fb1_law) (.int w) [some (.scr (ns.map .int)), some (.int c), some (hv38 false), some (tg t), x, none, none, none, none] = .nx [some (.scr (ns.map .int)), some (.int c), some (hv38 false), some (tg t), some (.int w), none, none, none, none] := fun w hw x => by
    have e1 := c256 w hw
    refine frV_of (by simp; rfl) ?_
    generalize callV pg 19 = V at *
    have hw' : w = 0 ∨ w = 1 ∨ w = 2 ∨ w = 3 := by omega
    rcases hw' with rfl | rfl | rfl | rfl <;> exact stepV (by simp [hd38] at e1; simp [e1, c255]) doneV
  have l1 : ∃ x, forV (frV (asgV (.nm 4)) (execsV (gvO pg (callV pg 19)) fb1_law)) (rngP 0 4) [some (.scr (ns.map .int)), some (.int c), some (hv38 false), some (tg t), none, none, none, none, none] = .nx [some (.scr (ns.map .int)), some (.int c), some (hv38 false), some (tg t), x, none, none, none, none] := by
    obtain ⟨σ', ef, x, rfl⟩ := forV_pre (Q := fun pre σ => ∃ x, σ = [some (.scr (ns.map .int)), some (.int c), some (hv38 false), some (tg t), x, none, none, none, none]) (body := frV (asgV (.nm 4)) (execsV (gvO pg (callV pg 19)) fb1_law)) (rngP 0 4) [] (fun q x r hpr σ hσ => by
      obtain ⟨y, rfl⟩ := hσ
      obtain ⟨rfl, hq⟩ := rng_elem (by simpa using hpr)
      exact ⟨_, .inl (by rw [Int.zero_add]; exact hfr q.length hq y), _, rfl⟩) _ ⟨none, rfl⟩
    exact ⟨x, ef⟩
  obtain ⟨x4, l1⟩ := l1
  have l2 : ∀ b5 : PV, ∀ b6 : PV, ∃ x, forV (frV (asgV (.nm 8)) (execsV (gvO pg (callV pg 19)) fb0_law)) [sq3 false [t] [], sq3 false [] [t]] [some (.scr (ns.map .int)), some (.int c), some (hw38), some (tg t), x4, some b5, some b6, some (.lst false [sq3 false [t] [], sq3 false [] [t]]), none] = .nx [some (.scr (ns.map .int)), some (.int c), some (hw38), some (tg t), x4, some b5, some b6, some (.lst false [sq3 false [t] [], sq3 false [] [t]]), x] := fun b5 b6 => by
    obtain ⟨σ', ef, x, rfl⟩ := forV_inv (Q := fun σ => ∃ x, σ = [some (.scr (ns.map .int)), some (.int c), some (hw38), some (tg t), x4, some b5, some b6, some (.lst false [sq3 false [t] [], sq3 false [] [t]]), x]) (body := frV (asgV (.nm 8)) (execsV (gvO pg (callV pg 19)) fb0_law)) [sq3 false [t] [], sq3 false [] [t]] (fun x hx σ hσ => by
      obtain ⟨y, rfl⟩ := hσ
      refine ⟨[some (.scr (ns.map .int)), some (.int c), some (hw38), some (tg t), x4, some b5, some b6, some (.lst false [sq3 false [t] [], sq3 false [] [t]]), some x], .inl ?_, _, rfl⟩
      simp only [List.mem_cons, List.not_mem_nil, or_false] at hx
      have kc1 := D.stK_clos (D.soK [t] [])
      have kc2 := D.stK_clos (D.soK [] [t])
      generalize callV pg 19 = V at *
      generalize D.stK (D.soK [t] []) = K1 at *
      generalize D.stK (D.soK [] [t]) = K2 at *
      rcases hx with rfl | rfl
      · refine frV_of (by simp; rfl) ?_
        exact stepV (by simp [c78a, c79a, c63]) doneV
      · refine frV_of (by simp; rfl) ?_
        exact stepV (by simp [c78b, c79b, c63]) doneV) _ ⟨none, rfl⟩
    exact ⟨x, ef⟩
  refine callV_run (k := 19) (d := d_law) rfl rfl (by simp [d_law]; rfl) ?_
  have kq := Q.stp_clos (Q.qK [] [t])
  have kr := R.tK_clos 0 4
  generalize Q.stp (Q.qK [] [t]) = K1 at *
  generalize R.tK 0 4 = K2 at *
  generalize Q.qB [] [t] = QB at *
  clear c256 hfr c78a c78b c79a c79b
  generalize callV pg 19 = V at *
  refine stepV (σ' := [some (.scr (ns.map .int)), some (.int c), none, none, none, none, none, none, none]) (by simp [c17a]) ?_
  refine stepV (σ' := [some (.scr (ns.map .int)), some (.int c), some (hv38 false), none, none, none, none, none, none]) (by simp [hm, c257]) ?_
  refine stepV (σ' := [some (.scr (ns.map .int)), some (.int c), some (hv38 false), some (tg t), none, none, none, none, none]) (by simp [c17b, c59]) ?_
  have hs4 : small62 4 := by unfold small62; omega
  have hr4 : (rngP 0 4).length = 4 := rfl
  refine stepV (σ' := [some (.scr (ns.map .int)), some (.int c), some (hv38 false), some (tg t), x4, none, none, none, none]) (by simp [hs4, hr4, hN, l1]) ?_
  refine stepV (σ' := [some (.scr (ns.map .int)), some (.int c), some (hw38), some (tg t), x4, some (sq3 false [] [t]), none, none, none]) (by simp [c67]) ?_
  refine stepV (σ' := [some (.scr (ns.map .int)), some (.int c), some (hw38), some (tg t), x4, some (sq3 false [] [t]), some (sr3 false [t] 4), none, none]) (by simp [c202]) ?_
  refine stepV (σ' := [some (.scr (ns.map .int)), some (.int c), some (hw38), some (tg t), x4, some (sq3 false [] [t]), some (sr3 false [t] 4), some (.lst true [sq3 false [t] [], sq3 false [] [t]]), none]) (by simp [c83, c84]) ?_
  refine stepV (σ' := [some (.scr (ns.map .int)), some (.int c), some (hw38), some (tg t), x4, some (sq3 false [] [t]), some (sr3 false [t] 4), some (.lst true [sq3 false [t] [], sq3 false [] [t]]), none]) (by simp [c65, c198, c63]) ?_
  obtain ⟨x8, l2⟩ := l2 (sq3 false [] [t]) (sr3 false [t] 4)
  simp only [sq3, sr3, th_eq, List.map_nil, List.map_cons, Int.cast_ofNat_Int] at l2
  refine stepV (σ' := [some (.scr (ns.map .int)), some (.int c), some (hw38), some (tg t), x4, some (sq3 false [] [t]), some (sr3 false [t] 4), some (.lst false [sq3 false [t] [], sq3 false [] [t]]), x8]) (by simp [hN, l2]) ?_
  refine lastV (by simp [c255]))
end Fe
namespace Fe
open PySem PySem.Spec PyProof.Rows L2
def topS (i : Nat) : Stmt := PySem.Challenge.pw_creditworks_k38_empty_rows.main.body.getD i (.Pass ⟨0, 0, 0, 0⟩)
abbrev r_room_put : DR := ⟨"room_put", "room_put", topS 16, ["room", "thing", "things", "size", "steps"], ["room", "thing"]⟩
abbrev r_room_take : DR := ⟨"room_take", "room_take", topS 17, ["room", "things", "size", "thing", "steps"], ["room"]⟩
abbrev r_room_credit : DR := ⟨"room_credit", "room_credit", topS 18, ["room", "many", "size"], ["room"]⟩
abbrev r_put_first : DR := ⟨"put_first", "put_first", topS 20, ["double", "thing", "left", "right"], ["double", "thing"]⟩
abbrev r_put_last : DR := ⟨"put_last", "put_last", topS 21, ["double", "thing", "left", "right"], ["double", "thing"]⟩
abbrev r_shared_out : DR := ⟨"shared_out", "shared_out", topS 22, ["here", "there", "half"], ["here", "there"]⟩
abbrev r_take_first : DR := ⟨"take_first", "take_first", topS 23, ["double", "left", "right", "steps", "thing"], ["double"]⟩
abbrev r_take_last : DR := ⟨"take_last", "take_last", topS 24, ["double", "right", "left", "steps", "thing"], ["double"]⟩
abbrev r_double_row : DR := ⟨"double_row", "double_row", topS 25, ["double"], ["double"]⟩
abbrev r_double_credit : DR := ⟨"double_credit", "double_credit", topS 26, ["double"], ["double"]⟩
abbrev r_queue_put : DR := ⟨"queue_put", "queue_put", topS 28, ["queue", "thing", "front", "back"], ["queue", "thing"]⟩
abbrev r_queue_take : DR := ⟨"queue_take", "queue_take", topS 29, ["queue", "front", "back", "steps", "thing"], ["queue"]⟩
abbrev r_queue_row : DR := ⟨"queue_row", "queue_row", topS 30, ["queue"], ["queue"]⟩
abbrev r_queue_credit : DR := ⟨"queue_credit", "queue_credit", topS 31, ["queue"], ["queue"]⟩
abbrev r__law_cell_at : DR := ⟨"_law_cell_at", "_law_cell_at", topS 33, ["_law_script", "_law_k"], ["_law_script", "_law_k"]⟩
abbrev r__law_same : DR := ⟨"_law_same", "_law_same", topS 34, ["_law_found", "_law_due", "_law_one", "_law_two"], ["_law_found", "_law_due"]⟩
abbrev r__law_thing_by : DR := ⟨"_law_thing_by", "_law_thing_by", topS 35, ["_law_cell"], ["_law_cell"]⟩
abbrev r__law_take : DR := ⟨"_law_take", "_law_take", topS 36, ["_law_way", "_law_held"], ["_law_way", "_law_held"]⟩
abbrev r__law_is_empty : DR := ⟨"_law_is_empty", "_law_is_empty", topS 37, ["_law_error"], ["_law_error"]⟩
abbrev r__law_refused : DR := ⟨"_law_refused", "_law_refused", topS 38, ["_law_way", "_law_held", "_law_told", "e"], ["_law_way", "_law_held"]⟩
abbrev r__law_emptied : DR := ⟨"_law_emptied", "_law_emptied", topS 39, ["_law_many", "_law_ends", "_law_queue", "_law_double", "_law_room", "_law_k"], ["_law_many", "_law_ends"]⟩
abbrev r__law_bare : DR := ⟨"_law_bare", "_law_bare", topS 40, ["_law_held", "_law_queue", "_law_double", "_law_room"], ["_law_held"]⟩
abbrev r_law : DR := ⟨"law", "law", topS 41, ["_law_script", "_law_cell", "_law_held", "_law_thing", "_law_way", "_law_queue", "_law_room", "_law_doubles", "_law_double"], ["_law_script"]⟩
abbrev rs : List Nat := [3]
abbrev ct : List Nat := [0, 1, 2, 3, 4, 5, 6, 7, 8, 9, 10, 11, 12, 13]
abbrev rl : List (Nat × DR) := [(202, r_room_put), (198, r_room_take), (201, r_room_credit), (83, r_put_first), (84, r_put_last), (81, r_shared_out), (78, r_take_first), (79, r_take_last), (85, r_double_row), (82, r_double_credit), (67, r_queue_put), (65, r_queue_take), (68, r_queue_row), (61, r_queue_credit), (17, r__law_cell_at), (63, r__law_same), (59, r__law_thing_by), (259, r__law_take), (258, r__law_is_empty), (256, r__law_refused), (257, r__law_emptied), (255, r__law_bare), (260, r_law)]
abbrev bl : List Str := ["abs", "all", "bool", "isinstance", "len", "list", "range", "reversed", "tuple", "zip"]
theorem ck_room_put : chkD (tbG rl bl rs ct gls) r_room_put d_room_put = true := by decide +kernel
theorem sc_room_put : FnScope r_room_put.N r_room_put.ps (defScope r_room_put.st) := ⟨rfl, rfl, rfl, by decide +kernel, rfl, by decide +kernel, by decide +kernel⟩
theorem ck_room_take : chkD (tbG rl bl rs ct gls) r_room_take d_room_take = true := by decide +kernel
theorem sc_room_take : FnScope r_room_take.N r_room_take.ps (defScope r_room_take.st) := ⟨rfl, rfl, rfl, by decide +kernel, rfl, by decide +kernel, by decide +kernel⟩
theorem ck_room_credit : chkD (tbG rl bl rs ct gls) r_room_credit d_room_credit = true := by decide +kernel
theorem sc_room_credit : FnScope r_room_credit.N r_room_credit.ps (defScope r_room_credit.st) := ⟨rfl, rfl, rfl, by decide +kernel, rfl, by decide +kernel, by decide +kernel⟩
theorem ck_put_first : chkD (tbG rl bl rs ct gls) r_put_first d_put_first = true := by decide +kernel
theorem sc_put_first : FnScope r_put_first.N r_put_first.ps (defScope r_put_first.st) := ⟨rfl, rfl, rfl, by decide +kernel, rfl, by decide +kernel, by decide +kernel⟩
theorem ck_put_last : chkD (tbG rl bl rs ct gls) r_put_last d_put_last = true := by decide +kernel
theorem sc_put_last : FnScope r_put_last.N r_put_last.ps (defScope r_put_last.st) := ⟨rfl, rfl, rfl, by decide +kernel, rfl, by decide +kernel, by decide +kernel⟩
theorem ck_shared_out : chkD (tbG rl bl rs ct gls) r_shared_out d_shared_out = true := by decide +kernel
theorem sc_shared_out : FnScope r_shared_out.N r_shared_out.ps (defScope r_shared_out.st) := ⟨rfl, rfl, rfl, by decide +kernel, rfl, by decide +kernel, by decide +kernel⟩
theorem ck_take_first : chkD (tbG rl bl rs ct gls) r_take_first d_take_first = true := by decide +kernel
theorem sc_take_first : FnScope r_take_first.N r_take_first.ps (defScope r_take_first.st) := ⟨rfl, rfl, rfl, by decide +kernel, rfl, by decide +kernel, by decide +kernel⟩
theorem ck_take_last : chkD (tbG rl bl rs ct gls) r_take_last d_take_last = true := by decide +kernel
theorem sc_take_last : FnScope r_take_last.N r_take_last.ps (defScope r_take_last.st) := ⟨rfl, rfl, rfl, by decide +kernel, rfl, by decide +kernel, by decide +kernel⟩
theorem ck_double_row : chkD (tbG rl bl rs ct gls) r_double_row d_double_row = true := by decide +kernel
theorem sc_double_row : FnScope r_double_row.N r_double_row.ps (defScope r_double_row.st) := ⟨rfl, rfl, rfl, by decide +kernel, rfl, by decide +kernel, by decide +kernel⟩
theorem ck_double_credit : chkD (tbG rl bl rs ct gls) r_double_credit d_double_credit = true := by decide +kernel
theorem sc_double_credit : FnScope r_double_credit.N r_double_credit.ps (defScope r_double_credit.st) := ⟨rfl, rfl, rfl, by decide +kernel, rfl, by decide +kernel, by decide +kernel⟩
theorem ck_queue_put : chkD (tbG rl bl rs ct gls) r_queue_put d_queue_put = true := by decide +kernel
theorem sc_queue_put : FnScope r_queue_put.N r_queue_put.ps (defScope r_queue_put.st) := ⟨rfl, rfl, rfl, by decide +kernel, rfl, by decide +kernel, by decide +kernel⟩
theorem ck_queue_take : chkD (tbG rl bl rs ct gls) r_queue_take d_queue_take = true := by decide +kernel
theorem sc_queue_take : FnScope r_queue_take.N r_queue_take.ps (defScope r_queue_take.st) := ⟨rfl, rfl, rfl, by decide +kernel, rfl, by decide +kernel, by decide +kernel⟩
theorem ck_queue_row : chkD (tbG rl bl rs ct gls) r_queue_row d_queue_row = true := by decide +kernel
theorem sc_queue_row : FnScope r_queue_row.N r_queue_row.ps (defScope r_queue_row.st) := ⟨rfl, rfl, rfl, by decide +kernel, rfl, by decide +kernel, by decide +kernel⟩
theorem ck_queue_credit : chkD (tbG rl bl rs ct gls) r_queue_credit d_queue_credit = true := by decide +kernel
theorem sc_queue_credit : FnScope r_queue_credit.N r_queue_credit.ps (defScope r_queue_credit.st) := ⟨rfl, rfl, rfl, by decide +kernel, rfl, by decide +kernel, by decide +kernel⟩
theorem ck__law_cell_at : chkD (tbG rl bl rs ct gls) r__law_cell_at d__law_cell_at = true := by decide +kernel
theorem sc__law_cell_at : FnScope r__law_cell_at.N r__law_cell_at.ps (defScope r__law_cell_at.st) := ⟨rfl, rfl, rfl, by decide +kernel, rfl, by decide +kernel, by decide +kernel⟩
theorem ck__law_same : chkD (tbG rl bl rs ct gls) r__law_same d__law_same = true := by decide +kernel
theorem sc__law_same : FnScope r__law_same.N r__law_same.ps (defScope r__law_same.st) := ⟨rfl, rfl, rfl, by decide +kernel, rfl, by decide +kernel, by decide +kernel⟩
theorem ck__law_thing_by : chkD (tbG rl bl rs ct gls) r__law_thing_by d__law_thing_by = true := by decide +kernel
theorem sc__law_thing_by : FnScope r__law_thing_by.N r__law_thing_by.ps (defScope r__law_thing_by.st) := ⟨rfl, rfl, rfl, by decide +kernel, rfl, by decide +kernel, by decide +kernel⟩
theorem ck__law_take : chkD (tbG rl bl rs ct gls) r__law_take d__law_take = true := by decide +kernel
theorem sc__law_take : FnScope r__law_take.N r__law_take.ps (defScope r__law_take.st) := ⟨rfl, rfl, rfl, by decide +kernel, rfl, by decide +kernel, by decide +kernel⟩
theorem ck__law_is_empty : chkD (tbG rl bl rs ct gls) r__law_is_empty d__law_is_empty = true := by decide +kernel
theorem sc__law_is_empty : FnScope r__law_is_empty.N r__law_is_empty.ps (defScope r__law_is_empty.st) := ⟨rfl, rfl, rfl, by decide +kernel, rfl, by decide +kernel, by decide +kernel⟩
theorem ck__law_refused : chkD (tbG rl bl rs ct gls) r__law_refused d__law_refused = true := by decide +kernel
theorem sc__law_refused : FnScope r__law_refused.N r__law_refused.ps (defScope r__law_refused.st) := ⟨rfl, rfl, rfl, by decide +kernel, rfl, by decide +kernel, by decide +kernel⟩
theorem ck__law_emptied : chkD (tbG rl bl rs ct gls) r__law_emptied d__law_emptied = true := by decide +kernel
theorem sc__law_emptied : FnScope r__law_emptied.N r__law_emptied.ps (defScope r__law_emptied.st) := ⟨rfl, rfl, rfl, by decide +kernel, rfl, by decide +kernel, by decide +kernel⟩
theorem ck__law_bare : chkD (tbG rl bl rs ct gls) r__law_bare d__law_bare = true := by decide +kernel
theorem sc__law_bare : FnScope r__law_bare.N r__law_bare.ps (defScope r__law_bare.st) := ⟨rfl, rfl, rfl, by decide +kernel, rfl, by decide +kernel, by decide +kernel⟩
theorem ck_law : chkD (tbG rl bl rs ct gls) r_law d_law = true := by decide +kernel
theorem sc_law : FnScope r_law.N r_law.ps (defScope r_law.st) := ⟨rfl, rfl, rfl, by decide +kernel, rfl, by decide +kernel, by decide +kernel⟩
theorem all_mk {w : World} {K : PySem.W.Frag} {h : Heap} {mg : Str → Option Value} {fa : Addr} (X : K.In h) (G : h.Ns mainGlobals mg) (hfa : mg "law" = some (.ref fa))
    {f0 : Addr} {od0 an0 : Option Addr} {sl0 : Array (Option Value)} {oc0 kV0 dc0 pm0 cd0 ct0 : Value}
    {f1 : Addr} {od1 an1 : Option Addr} {sl1 : Array (Option Value)} {oc1 kV1 dc1 pm1 cd1 ct1 : Value}
    {f2 : Addr} {od2 an2 : Option Addr} {sl2 : Array (Option Value)} {oc2 kV2 dc2 pm2 cd2 ct2 : Value}
    {f3 : Addr} {od3 an3 : Option Addr} {sl3 : Array (Option Value)} {oc3 kV3 dc3 pm3 cd3 ct3 : Value}
    {f4 : Addr} {od4 an4 : Option Addr} {sl4 : Array (Option Value)} {oc4 kV4 dc4 pm4 cd4 ct4 : Value}
    {f5 : Addr} {od5 an5 : Option Addr} {sl5 : Array (Option Value)} {oc5 kV5 dc5 pm5 cd5 ct5 : Value}
    {f6 : Addr} {od6 an6 : Option Addr} {sl6 : Array (Option Value)} {oc6 kV6 dc6 pm6 cd6 ct6 : Value}
    {f7 : Addr} {od7 an7 : Option Addr} {sl7 : Array (Option Value)} {oc7 kV7 dc7 pm7 cd7 ct7 : Value}
    {f8 : Addr} {od8 an8 : Option Addr} {sl8 : Array (Option Value)} {oc8 kV8 dc8 pm8 cd8 ct8 : Value}
    {f9 : Addr} {od9 an9 : Option Addr} {sl9 : Array (Option Value)} {oc9 kV9 dc9 pm9 cd9 ct9 : Value}
    {f10 : Addr} {od10 an10 : Option Addr} {sl10 : Array (Option Value)} {oc10 kV10 dc10 pm10 cd10 ct10 : Value}
    {f11 : Addr} {od11 an11 : Option Addr} {sl11 : Array (Option Value)} {oc11 kV11 dc11 pm11 cd11 ct11 : Value}
    {f12 : Addr} {od12 an12 : Option Addr} {sl12 : Array (Option Value)} {oc12 kV12 dc12 pm12 cd12 ct12 : Value}
    {f13 : Addr} {od13 an13 : Option Addr} {sl13 : Array (Option Value)} {oc13 kV13 dc13 pm13 cd13 ct13 : Value}
    {f14 : Addr} {od14 an14 : Option Addr} {sl14 : Array (Option Value)} {oc14 kV14 dc14 pm14 cd14 ct14 : Value}
    {f15 : Addr} {od15 an15 : Option Addr} {sl15 : Array (Option Value)} {oc15 kV15 dc15 pm15 cd15 ct15 : Value}
    {f16 : Addr} {od16 an16 : Option Addr} {sl16 : Array (Option Value)} {oc16 kV16 dc16 pm16 cd16 ct16 : Value}
    {f17 : Addr} {od17 an17 : Option Addr} {sl17 : Array (Option Value)} {oc17 kV17 dc17 pm17 cd17 ct17 : Value}
    {f18 : Addr} {od18 an18 : Option Addr} {sl18 : Array (Option Value)} {oc18 kV18 dc18 pm18 cd18 ct18 : Value}
    {f19 : Addr} {od19 an19 : Option Addr} {sl19 : Array (Option Value)} {oc19 kV19 dc19 pm19 cd19 ct19 : Value}
    {f20 : Addr} {od20 an20 : Option Addr} {sl20 : Array (Option Value)} {oc20 kV20 dc20 pm20 cd20 ct20 : Value}
    {f21 : Addr} {od21 an21 : Option Addr} {sl21 : Array (Option Value)} {oc21 kV21 dc21 pm21 cd21 ct21 : Value}
    {f22 : Addr} {od22 an22 : Option Addr} {sl22 : Array (Option Value)} {oc22 kV22 dc22 pm22 cd22 ct22 : Value}
    (a0 : PySem.W.nsIn K mainGlobals "room_put" = some (some (.ref f0))) (l0 : K.lookup f0 = some ⟨oc0, od0, .func (PySem.W.fnOf "room_put" "room_put" (defArgs r_room_put.st) (defBody r_room_put.st) (defScope r_room_put.st) .none kV0 dc0 pm0 an0 cd0 ct0), sl0⟩) (c0 : PySem.W.codeIn K cd0 "room_put" = true) (k0 : PySem.W.keepIn K (.ref f0) = true)
    (a1 : PySem.W.nsIn K mainGlobals "room_take" = some (some (.ref f1))) (l1 : K.lookup f1 = some ⟨oc1, od1, .func (PySem.W.fnOf "room_take" "room_take" (defArgs r_room_take.st) (defBody r_room_take.st) (defScope r_room_take.st) .none kV1 dc1 pm1 an1 cd1 ct1), sl1⟩) (c1 : PySem.W.codeIn K cd1 "room_take" = true) (k1 : PySem.W.keepIn K (.ref f1) = true)
    (a2 : PySem.W.nsIn K mainGlobals "room_credit" = some (some (.ref f2))) (l2 : K.lookup f2 = some ⟨oc2, od2, .func (PySem.W.fnOf "room_credit" "room_credit" (defArgs r_room_credit.st) (defBody r_room_credit.st) (defScope r_room_credit.st) .none kV2 dc2 pm2 an2 cd2 ct2), sl2⟩) (c2 : PySem.W.codeIn K cd2 "room_credit" = true) (k2 : PySem.W.keepIn K (.ref f2) = true)
    (a3 : PySem.W.nsIn K mainGlobals "put_first" = some (some (.ref f3))) (l3 : K.lookup f3 = some ⟨oc3, od3, .func (PySem.W.fnOf "put_first" "put_first" (defArgs r_put_first.st) (defBody r_put_first.st) (defScope r_put_first.st) .none kV3 dc3 pm3 an3 cd3 ct3), sl3⟩) (c3 : PySem.W.codeIn K cd3 "put_first" = true) (k3 : PySem.W.keepIn K (.ref f3) = true)
    (a4 : PySem.W.nsIn K mainGlobals "put_last" = some (some (.ref f4))) (l4 : K.lookup f4 = some ⟨oc4, od4, .func (PySem.W.fnOf "put_last" "put_last" (defArgs r_put_last.st) (defBody r_put_last.st) (defScope r_put_last.st) .none kV4 dc4 pm4 an4 cd4 ct4), sl4⟩) (c4 : PySem.W.codeIn K cd4 "put_last" = true) (k4 : PySem.W.keepIn K (.ref f4) = true)
    (a5 : PySem.W.nsIn K mainGlobals "shared_out" = some (some (.ref f5))) (l5 : K.lookup f5 = some ⟨oc5, od5, .func (PySem.W.fnOf "shared_out" "shared_out" (defArgs r_shared_out.st) (defBody r_shared_out.st) (defScope r_shared_out.st) .none kV5 dc5 pm5 an5 cd5 ct5), sl5⟩) (c5 : PySem.W.codeIn K cd5 "shared_out" = true) (k5 : PySem.W.keepIn K (.ref f5) = true)
    (a6 : PySem.W.nsIn K mainGlobals "take_first" = some (some (.ref f6))) (l6 : K.lookup f6 = some ⟨oc6, od6, .func (PySem.W.fnOf "take_first" "take_first" (defArgs r_take_first.st) (defBody r_take_first.st) (defScope r_take_first.st) .none kV6 dc6 pm6 an6 cd6 ct6), sl6⟩) (c6 : PySem.W.codeIn K cd6 "take_first" = true) (k6 : PySem.W.keepIn K (.ref f6) = true)
    (a7 : PySem.W.nsIn K mainGlobals "take_last" = some (some (.ref f7))) (l7 : K.lookup f7 = some ⟨oc7, od7, .func (PySem.W.fnOf "take_last" "take_last" (defArgs r_take_last.st) (defBody r_take_last.st) (defScope r_take_last.st) .none kV7 dc7 pm7 an7 cd7 ct7), sl7⟩) (c7 : PySem.W.codeIn K cd7 "take_last" = true) (k7 : PySem.W.keepIn K (.ref f7) = true)
    (a8 : PySem.W.nsIn K mainGlobals "double_row" = some (some (.ref f8))) (l8 : K.lookup f8 = some ⟨oc8, od8, .func (PySem.W.fnOf "double_row" "double_row" (defArgs r_double_row.st) (defBody r_double_row.st) (defScope r_double_row.st) .none kV8 dc8 pm8 an8 cd8 ct8), sl8⟩) (c8 : PySem.W.codeIn K cd8 "double_row" = true) (k8 : PySem.W.keepIn K (.ref f8) = true)
    (a9 : PySem.W.nsIn K mainGlobals "double_credit" = some (some (.ref f9))) (l9 : K.lookup f9 = some ⟨oc9, od9, .func (PySem.W.fnOf "double_credit" "double_credit" (defArgs r_double_credit.st) (defBody r_double_credit.st) (defScope r_double_credit.st) .none kV9 dc9 pm9 an9 cd9 ct9), sl9⟩) (c9 : PySem.W.codeIn K cd9 "double_credit" = true) (k9 : PySem.W.keepIn K (.ref f9) = true)
    (a10 : PySem.W.nsIn K mainGlobals "queue_put" = some (some (.ref f10))) (l10 : K.lookup f10 = some ⟨oc10, od10, .func (PySem.W.fnOf "queue_put" "queue_put" (defArgs r_queue_put.st) (defBody r_queue_put.st) (defScope r_queue_put.st) .none kV10 dc10 pm10 an10 cd10 ct10), sl10⟩) (c10 : PySem.W.codeIn K cd10 "queue_put" = true) (k10 : PySem.W.keepIn K (.ref f10) = true)
    (a11 : PySem.W.nsIn K mainGlobals "queue_take" = some (some (.ref f11))) (l11 : K.lookup f11 = some ⟨oc11, od11, .func (PySem.W.fnOf "queue_take" "queue_take" (defArgs r_queue_take.st) (defBody r_queue_take.st) (defScope r_queue_take.st) .none kV11 dc11 pm11 an11 cd11 ct11), sl11⟩) (c11 : PySem.W.codeIn K cd11 "queue_take" = true) (k11 : PySem.W.keepIn K (.ref f11) = true)
    (a12 : PySem.W.nsIn K mainGlobals "queue_row" = some (some (.ref f12))) (l12 : K.lookup f12 = some ⟨oc12, od12, .func (PySem.W.fnOf "queue_row" "queue_row" (defArgs r_queue_row.st) (defBody r_queue_row.st) (defScope r_queue_row.st) .none kV12 dc12 pm12 an12 cd12 ct12), sl12⟩) (c12 : PySem.W.codeIn K cd12 "queue_row" = true) (k12 : PySem.W.keepIn K (.ref f12) = true)
    (a13 : PySem.W.nsIn K mainGlobals "queue_credit" = some (some (.ref f13))) (l13 : K.lookup f13 = some ⟨oc13, od13, .func (PySem.W.fnOf "queue_credit" "queue_credit" (defArgs r_queue_credit.st) (defBody r_queue_credit.st) (defScope r_queue_credit.st) .none kV13 dc13 pm13 an13 cd13 ct13), sl13⟩) (c13 : PySem.W.codeIn K cd13 "queue_credit" = true) (k13 : PySem.W.keepIn K (.ref f13) = true)
    (a14 : PySem.W.nsIn K mainGlobals "_law_cell_at" = some (some (.ref f14))) (l14 : K.lookup f14 = some ⟨oc14, od14, .func (PySem.W.fnOf "_law_cell_at" "_law_cell_at" (defArgs r__law_cell_at.st) (defBody r__law_cell_at.st) (defScope r__law_cell_at.st) .none kV14 dc14 pm14 an14 cd14 ct14), sl14⟩) (c14 : PySem.W.codeIn K cd14 "_law_cell_at" = true) (k14 : PySem.W.keepIn K (.ref f14) = true)
    (a15 : PySem.W.nsIn K mainGlobals "_law_same" = some (some (.ref f15))) (l15 : K.lookup f15 = some ⟨oc15, od15, .func (PySem.W.fnOf "_law_same" "_law_same" (defArgs r__law_same.st) (defBody r__law_same.st) (defScope r__law_same.st) .none kV15 dc15 pm15 an15 cd15 ct15), sl15⟩) (c15 : PySem.W.codeIn K cd15 "_law_same" = true) (k15 : PySem.W.keepIn K (.ref f15) = true)
    (a16 : PySem.W.nsIn K mainGlobals "_law_thing_by" = some (some (.ref f16))) (l16 : K.lookup f16 = some ⟨oc16, od16, .func (PySem.W.fnOf "_law_thing_by" "_law_thing_by" (defArgs r__law_thing_by.st) (defBody r__law_thing_by.st) (defScope r__law_thing_by.st) .none kV16 dc16 pm16 an16 cd16 ct16), sl16⟩) (c16 : PySem.W.codeIn K cd16 "_law_thing_by" = true) (k16 : PySem.W.keepIn K (.ref f16) = true)
    (a17 : PySem.W.nsIn K mainGlobals "_law_take" = some (some (.ref f17))) (l17 : K.lookup f17 = some ⟨oc17, od17, .func (PySem.W.fnOf "_law_take" "_law_take" (defArgs r__law_take.st) (defBody r__law_take.st) (defScope r__law_take.st) .none kV17 dc17 pm17 an17 cd17 ct17), sl17⟩) (c17 : PySem.W.codeIn K cd17 "_law_take" = true) (k17 : PySem.W.keepIn K (.ref f17) = true)
    (a18 : PySem.W.nsIn K mainGlobals "_law_is_empty" = some (some (.ref f18))) (l18 : K.lookup f18 = some ⟨oc18, od18, .func (PySem.W.fnOf "_law_is_empty" "_law_is_empty" (defArgs r__law_is_empty.st) (defBody r__law_is_empty.st) (defScope r__law_is_empty.st) .none kV18 dc18 pm18 an18 cd18 ct18), sl18⟩) (c18 : PySem.W.codeIn K cd18 "_law_is_empty" = true) (k18 : PySem.W.keepIn K (.ref f18) = true)
    (a19 : PySem.W.nsIn K mainGlobals "_law_refused" = some (some (.ref f19))) (l19 : K.lookup f19 = some ⟨oc19, od19, .func (PySem.W.fnOf "_law_refused" "_law_refused" (defArgs r__law_refused.st) (defBody r__law_refused.st) (defScope r__law_refused.st) .none kV19 dc19 pm19 an19 cd19 ct19), sl19⟩) (c19 : PySem.W.codeIn K cd19 "_law_refused" = true) (k19 : PySem.W.keepIn K (.ref f19) = true)
    (a20 : PySem.W.nsIn K mainGlobals "_law_emptied" = some (some (.ref f20))) (l20 : K.lookup f20 = some ⟨oc20, od20, .func (PySem.W.fnOf "_law_emptied" "_law_emptied" (defArgs r__law_emptied.st) (defBody r__law_emptied.st) (defScope r__law_emptied.st) .none kV20 dc20 pm20 an20 cd20 ct20), sl20⟩) (c20 : PySem.W.codeIn K cd20 "_law_emptied" = true) (k20 : PySem.W.keepIn K (.ref f20) = true)
    (a21 : PySem.W.nsIn K mainGlobals "_law_bare" = some (some (.ref f21))) (l21 : K.lookup f21 = some ⟨oc21, od21, .func (PySem.W.fnOf "_law_bare" "_law_bare" (defArgs r__law_bare.st) (defBody r__law_bare.st) (defScope r__law_bare.st) .none kV21 dc21 pm21 an21 cd21 ct21), sl21⟩) (c21 : PySem.W.codeIn K cd21 "_law_bare" = true) (k21 : PySem.W.keepIn K (.ref f21) = true)
    (a22 : PySem.W.nsIn K mainGlobals "law" = some (some (.ref f22))) (l22 : K.lookup f22 = some ⟨oc22, od22, .func (PySem.W.fnOf "law" "law" (defArgs r_law.st) (defBody r_law.st) (defScope r_law.st) .none kV22 dc22 pm22 an22 cd22 ct22), sl22⟩) (c22 : PySem.W.codeIn K cd22 "law" = true) (k22 : PySem.W.keepIn K (.ref f22) = true)
    (z0 : PySem.W.nsIn K mainGlobals "abs" = some none)
    (z1 : PySem.W.nsIn K mainGlobals "all" = some none)
    (z2 : PySem.W.nsIn K mainGlobals "bool" = some none)
    (z3 : PySem.W.nsIn K mainGlobals "isinstance" = some none)
    (z4 : PySem.W.nsIn K mainGlobals "len" = some none)
    (z5 : PySem.W.nsIn K mainGlobals "list" = some none)
    (z6 : PySem.W.nsIn K mainGlobals "range" = some none)
    (z7 : PySem.W.nsIn K mainGlobals "reversed" = some none)
    (z8 : PySem.W.nsIn K mainGlobals "tuple" = some none)
    (z9 : PySem.W.nsIn K mainGlobals "zip" = some none)
    {tk0 : Tok}
    (zg0 : PySem.W.nsIn K mainGlobals "LEAST_SIZE" = some (some (.int 4 tk0)))
    {C0 C1 C2 C3 C4 C5 C6 C7 C8 C9 C10 C11 C12 : Addr}
    (xa0 : PySem.W.nsIn K mainGlobals "CreditError" = some (some (.ref C0)))
    (xb0 : PySem.W.subIn K (.ref C0) (.type "BaseException") = some true)
    (xt0 : PySem.W.typeIn K (.ref C0) = some (.type "type"))
    (xa1 : PySem.W.nsIn K mainGlobals "NoNumber" = some (some (.ref C1)))
    (xb1 : PySem.W.subIn K (.ref C1) (.type "BaseException") = some true)
    (xt1 : PySem.W.typeIn K (.ref C1) = some (.type "type"))
    (xa2 : PySem.W.nsIn K mainGlobals "Overdrawn" = some (some (.ref C2)))
    (xb2 : PySem.W.subIn K (.ref C2) (.type "BaseException") = some true)
    (xt2 : PySem.W.typeIn K (.ref C2) = some (.type "type"))
    (xa3 : PySem.W.nsIn K mainGlobals "Empty" = some (some (.ref C3)))
    (xb3 : PySem.W.subIn K (.ref C3) (.type "BaseException") = some true)
    (xt3 : PySem.W.typeIn K (.ref C3) = some (.type "type"))
    (xa4 : PySem.W.nsIn K mainGlobals "NoThing" = some (some (.ref C4)))
    (xb4 : PySem.W.subIn K (.ref C4) (.type "BaseException") = some true)
    (xt4 : PySem.W.typeIn K (.ref C4) = some (.type "type"))
    (xa5 : PySem.W.nsIn K mainGlobals "Lacking" = some (some (.ref C5)))
    (xb5 : PySem.W.subIn K (.ref C5) (.type "BaseException") = some true)
    (xt5 : PySem.W.typeIn K (.ref C5) = some (.type "type"))
    (xa6 : PySem.W.nsIn K mainGlobals "AtTop" = some (some (.ref C6)))
    (xb6 : PySem.W.subIn K (.ref C6) (.type "BaseException") = some true)
    (xt6 : PySem.W.typeIn K (.ref C6) = some (.type "type"))
    (xa7 : PySem.W.nsIn K mainGlobals "NoPlace" = some (some (.ref C7)))
    (xb7 : PySem.W.subIn K (.ref C7) (.type "BaseException") = some true)
    (xt7 : PySem.W.typeIn K (.ref C7) = some (.type "type"))
    (xa8 : PySem.W.nsIn K mainGlobals "Mixed" = some (some (.ref C8)))
    (xb8 : PySem.W.subIn K (.ref C8) (.type "BaseException") = some true)
    (xt8 : PySem.W.typeIn K (.ref C8) = some (.type "type"))
    (xa9 : PySem.W.nsIn K mainGlobals "NoName" = some (some (.ref C9)))
    (xb9 : PySem.W.subIn K (.ref C9) (.type "BaseException") = some true)
    (xt9 : PySem.W.typeIn K (.ref C9) = some (.type "type"))
    (xa10 : PySem.W.nsIn K mainGlobals "Twice" = some (some (.ref C10)))
    (xb10 : PySem.W.subIn K (.ref C10) (.type "BaseException") = some true)
    (xt10 : PySem.W.typeIn K (.ref C10) = some (.type "type"))
    (xa11 : PySem.W.nsIn K mainGlobals "NotLess" = some (some (.ref C11)))
    (xb11 : PySem.W.subIn K (.ref C11) (.type "BaseException") = some true)
    (xt11 : PySem.W.typeIn K (.ref C11) = some (.type "type"))
    (xa12 : PySem.W.nsIn K mainGlobals "NoRow" = some (some (.ref C12)))
    (xb12 : PySem.W.subIn K (.ref C12) (.type "BaseException") = some true)
    (xt12 : PySem.W.typeIn K (.ref C12) = some (.type "type"))
    (xi0 : PySem.W.isClsIn K C0 = true)
    (xi1 : PySem.W.isClsIn K C1 = true)
    (xi2 : PySem.W.isClsIn K C2 = true)
    (xi3 : PySem.W.isClsIn K C3 = true)
    (xi4 : PySem.W.isClsIn K C4 = true)
    (xi5 : PySem.W.isClsIn K C5 = true)
    (xi6 : PySem.W.isClsIn K C6 = true)
    (xi7 : PySem.W.isClsIn K C7 = true)
    (xi8 : PySem.W.isClsIn K C8 = true)
    (xi9 : PySem.W.isClsIn K C9 = true)
    (xi10 : PySem.W.isClsIn K C10 = true)
    (xi11 : PySem.W.isClsIn K C11 = true)
    (xi12 : PySem.W.isClsIn K C12 = true)
    (xe3 : PySem.W.excIn K C3 [.type "ValueError", .type "Exception", .type "BaseException", .type "object"] "ValueError.__new__" = true)
    (xk3 : PySem.W.keepIn K (.ref C3) = true)
    (xg3 : PySem.W.findIn K (.ref C3) "__getattribute__" = some (some (.builtin "BaseException.__getattribute__")))
    (xh3 : PySem.W.findIn K (.ref C3) "__getattr__" = some none)
    (xd3 : PySem.W.hasDictIn K C3 = true)
    (xc3 : PySem.W.findIn K (.ref C3) "__class__" = some (some (.builtin "object.__class__")))
    (xm3 : PySem.W.mroIn K C3 (.type "object") = some true)
    (xs3 : PySem.W.subIn K (.ref C3) (.ref C3) = some true)
    (xp3_0 : PySem.W.subIn K (.ref C3) (.ref C0) = some true)
    (xp3_1 : PySem.W.subIn K (.ref C3) (.ref C1) = some false)
    (xp3_2 : PySem.W.subIn K (.ref C3) (.ref C2) = some false)
    (xp3_3 : PySem.W.subIn K (.ref C3) (.ref C3) = some true)
    (xp3_4 : PySem.W.subIn K (.ref C3) (.ref C4) = some false)
    (xp3_5 : PySem.W.subIn K (.ref C3) (.ref C5) = some false)
    (xp3_6 : PySem.W.subIn K (.ref C3) (.ref C6) = some false)
    (xp3_7 : PySem.W.subIn K (.ref C3) (.ref C7) = some false)
    (xp3_8 : PySem.W.subIn K (.ref C3) (.ref C8) = some false)
    (xp3_9 : PySem.W.subIn K (.ref C3) (.ref C9) = some false)
    (xp3_10 : PySem.W.subIn K (.ref C3) (.ref C10) = some false)
    (xp3_11 : PySem.W.subIn K (.ref C3) (.ref C11) = some false)
    (xp3_12 : PySem.W.subIn K (.ref C3) (.ref C12) = some false)
    (xv3 : PySem.W.subIn K (.ref C3) (.type "ValueError") = some true)
    (xz : PySem.W.nsIn K mainGlobals "ValueError" = some none)
    (xq : PySem.W.specialIn K (.builtin "object.__class__") "__get__" = some (some (.builtin "getset_descriptor.__get__")))
    (xr : PySem.W.takesIn K (.builtin "object.__class__") = some true)
    : ∃ fd : FuncData, (∀ (s : Shared) (v : Value), BindsTo s fd ⟨[v], []⟩ [("_law_script", v)]) ∧ ∀ base : Heap, K.In base → base.Ns mainGlobals mg → FnOk PySem.Challenge.pw_creditworks_k38_empty_rows w K mg base (L2.CX PySem.Challenge.pw_creditworks_k38_empty_rows w) 20 fa fd ["_law_script"] (spLawX K (callF pg 20 260)) := by
  have hD : DAll K mg (tbG rl bl rs ct gls) pg rl :=
    dall_cons (dok_mk X G a0 l0 c0 k0 sc_room_put (fun _ _ _ _ _ _ us hl => match us, hl with | [_, _], _ => rfl) ⟨d_room_put, rfl, ck_room_put⟩) <|
    dall_cons (dok_mk X G a1 l1 c1 k1 sc_room_take (fun _ _ _ _ _ _ us hl => match us, hl with | [_], _ => rfl) ⟨d_room_take, rfl, ck_room_take⟩) <|
    dall_cons (dok_mk X G a2 l2 c2 k2 sc_room_credit (fun _ _ _ _ _ _ us hl => match us, hl with | [_], _ => rfl) ⟨d_room_credit, rfl, ck_room_credit⟩) <|
    dall_cons (dok_mk X G a3 l3 c3 k3 sc_put_first (fun _ _ _ _ _ _ us hl => match us, hl with | [_, _], _ => rfl) ⟨d_put_first, rfl, ck_put_first⟩) <|
    dall_cons (dok_mk X G a4 l4 c4 k4 sc_put_last (fun _ _ _ _ _ _ us hl => match us, hl with | [_, _], _ => rfl) ⟨d_put_last, rfl, ck_put_last⟩) <|
    dall_cons (dok_mk X G a5 l5 c5 k5 sc_shared_out (fun _ _ _ _ _ _ us hl => match us, hl with | [_, _], _ => rfl) ⟨d_shared_out, rfl, ck_shared_out⟩) <|
    dall_cons (dok_mk X G a6 l6 c6 k6 sc_take_first (fun _ _ _ _ _ _ us hl => match us, hl with | [_], _ => rfl) ⟨d_take_first, rfl, ck_take_first⟩) <|
    dall_cons (dok_mk X G a7 l7 c7 k7 sc_take_last (fun _ _ _ _ _ _ us hl => match us, hl with | [_], _ => rfl) ⟨d_take_last, rfl, ck_take_last⟩) <|
    dall_cons (dok_mk X G a8 l8 c8 k8 sc_double_row (fun _ _ _ _ _ _ us hl => match us, hl with | [_], _ => rfl) ⟨d_double_row, rfl, ck_double_row⟩) <|
    dall_cons (dok_mk X G a9 l9 c9 k9 sc_double_credit (fun _ _ _ _ _ _ us hl => match us, hl with | [_], _ => rfl) ⟨d_double_credit, rfl, ck_double_credit⟩) <|
    dall_cons (dok_mk X G a10 l10 c10 k10 sc_queue_put (fun _ _ _ _ _ _ us hl => match us, hl with | [_, _], _ => rfl) ⟨d_queue_put, rfl, ck_queue_put⟩) <|
    dall_cons (dok_mk X G a11 l11 c11 k11 sc_queue_take (fun _ _ _ _ _ _ us hl => match us, hl with | [_], _ => rfl) ⟨d_queue_take, rfl, ck_queue_take⟩) <|
    dall_cons (dok_mk X G a12 l12 c12 k12 sc_queue_row (fun _ _ _ _ _ _ us hl => match us, hl with | [_], _ => rfl) ⟨d_queue_row, rfl, ck_queue_row⟩) <|
    dall_cons (dok_mk X G a13 l13 c13 k13 sc_queue_credit (fun _ _ _ _ _ _ us hl => match us, hl with | [_], _ => rfl) ⟨d_queue_credit, rfl, ck_queue_credit⟩) <|
    dall_cons (dok_mk X G a14 l14 c14 k14 sc__law_cell_at (fun _ _ _ _ _ _ us hl => match us, hl with | [_, _], _ => rfl) ⟨d__law_cell_at, rfl, ck__law_cell_at⟩) <|
    dall_cons (dok_mk X G a15 l15 c15 k15 sc__law_same (fun _ _ _ _ _ _ us hl => match us, hl with | [_, _], _ => rfl) ⟨d__law_same, rfl, ck__law_same⟩) <|
    dall_cons (dok_mk X G a16 l16 c16 k16 sc__law_thing_by (fun _ _ _ _ _ _ us hl => match us, hl with | [_], _ => rfl) ⟨d__law_thing_by, rfl, ck__law_thing_by⟩) <|
    dall_cons (dok_mk X G a17 l17 c17 k17 sc__law_take (fun _ _ _ _ _ _ us hl => match us, hl with | [_, _], _ => rfl) ⟨d__law_take, rfl, ck__law_take⟩) <|
    dall_cons (dok_mk X G a18 l18 c18 k18 sc__law_is_empty (fun _ _ _ _ _ _ us hl => match us, hl with | [_], _ => rfl) ⟨d__law_is_empty, rfl, ck__law_is_empty⟩) <|
    dall_cons (dok_mk X G a19 l19 c19 k19 sc__law_refused (fun _ _ _ _ _ _ us hl => match us, hl with | [_, _], _ => rfl) ⟨d__law_refused, rfl, ck__law_refused⟩) <|
    dall_cons (dok_mk X G a20 l20 c20 k20 sc__law_emptied (fun _ _ _ _ _ _ us hl => match us, hl with | [_, _], _ => rfl) ⟨d__law_emptied, rfl, ck__law_emptied⟩) <|
    dall_cons (dok_mk X G a21 l21 c21 k21 sc__law_bare (fun _ _ _ _ _ _ us hl => match us, hl with | [_], _ => rfl) ⟨d__law_bare, rfl, ck__law_bare⟩) <|
    dall_cons (dok_mk X G a22 l22 c22 k22 sc_law (fun _ _ _ _ _ _ us hl => match us, hl with | [_], _ => rfl) ⟨d_law, rfl, ck_law⟩) <|
    dall_nil
  have hB : BAll mg bl := ball_cons X G z0 <| ball_cons X G z1 <| ball_cons X G z2 <| ball_cons X G z3 <| ball_cons X G z4 <| ball_cons X G z5 <| ball_cons X G z6 <| ball_cons X G z7 <| ball_cons X G z8 <| ball_cons X G z9 <| ball_nil
  have hC : ClsOk K mg (fun d => ([(3, C3)] : List (Nat × Addr)).lookup d) (fun e => ([(0, C0), (1, C1), (2, C2), (3, C3), (4, C4), (5, C5), (6, C6), (7, C7), (8, C8), (9, C9), (10, C10), (11, C11), (12, C12), (13, 0)] : List (Nat × Addr)).lookup e) (fun d => rs.contains d) (fun d => ct.contains d) :=
    cls_mk rfl rfl
      (fa_cons (clsR_mk X G rfl xa3 xe3 xk3 xb3 xt3 xg3 xh3 xd3 xc3 xq xr xm3) <| fa_nil)
      (fa_cons (clsT_mk X G (by decide) rfl xa0 xb0 xt0 xi0) <| fa_cons (clsT_mk X G (by decide) rfl xa1 xb1 xt1 xi1) <| fa_cons (clsT_mk X G (by decide) rfl xa2 xb2 xt2 xi2) <| fa_cons (clsT_mk X G (by decide) rfl xa3 xb3 xt3 xi3) <| fa_cons (clsT_mk X G (by decide) rfl xa4 xb4 xt4 xi4) <| fa_cons (clsT_mk X G (by decide) rfl xa5 xb5 xt5 xi5) <| fa_cons (clsT_mk X G (by decide) rfl xa6 xb6 xt6 xi6) <| fa_cons (clsT_mk X G (by decide) rfl xa7 xb7 xt7 xi7) <| fa_cons (clsT_mk X G (by decide) rfl xa8 xb8 xt8 xi8) <| fa_cons (clsT_mk X G (by decide) rfl xa9 xb9 xt9 xi9) <| fa_cons (clsT_mk X G (by decide) rfl xa10 xb10 xt10 xi10) <| fa_cons (clsT_mk X G (by decide) rfl xa11 xb11 xt11 xi11) <| fa_cons (clsT_mk X G (by decide) rfl xa12 xb12 xt12 xi12) <| fa_cons (clsT_ve X G xz) <| fa_nil)
      (fa_cons (fa_cons (show ClsS K (3, C3) (0, C0) from xp3_0) <| fa_cons (show ClsS K (3, C3) (1, C1) from xp3_1) <| fa_cons (show ClsS K (3, C3) (2, C2) from xp3_2) <| fa_cons (show ClsS K (3, C3) (3, C3) from xp3_3) <| fa_cons (show ClsS K (3, C3) (4, C4) from xp3_4) <| fa_cons (show ClsS K (3, C3) (5, C5) from xp3_5) <| fa_cons (show ClsS K (3, C3) (6, C6) from xp3_6) <| fa_cons (show ClsS K (3, C3) (7, C7) from xp3_7) <| fa_cons (show ClsS K (3, C3) (8, C8) from xp3_8) <| fa_cons (show ClsS K (3, C3) (9, C9) from xp3_9) <| fa_cons (show ClsS K (3, C3) (10, C10) from xp3_10) <| fa_cons (show ClsS K (3, C3) (11, C11) from xp3_11) <| fa_cons (show ClsS K (3, C3) (12, C12) from xp3_12) <| fa_cons (show ClsS K (3, C3) (13, 0) from xv3) <| fa_nil) <| fa_nil)
      (fa_cons xs3 <| fa_nil)
  have hGl : GAll K mg gls := gall_cons (gall_int X G zg0) <| gall_nil
  obtain ⟨fd, D, F⟩ := law_fnG (Pr := PySem.Challenge.pw_creditworks_k38_empty_rows) (k := 20) hD hB hC hGl (fun _ => rfl) (show rl.lookup 260 = some r_law from rfl) fa hfa
  obtain ⟨oc, od, kV, doc, pm, an, cdv, ct, osl, rfl, lk, hcd⟩ := D.hF.ex
  exact ⟨_, fun s v => .of_eq rfl, fun base _ _ => fnX (F w base)⟩
end Fe
open PySem PySem.W PyProof.Rows
set_option maxHeartbeats 0 in
theorem PySem.Challenge.cw_creditworks_k38_empty_rows_holds : PySem.Challenge.rw_creditworks_k38_empty_rows.Holds := by
  w_on; o_law; k_head; (case hw => w_witness2)
  k_fill
  refine L2.walk_ofB (l := PySem.Challenge.rw_creditworks_k38_empty_rows) (n := 63) (k := 20) (x := "_law_script") (CX := fun w => L2.CX PySem.Challenge.pw_creditworks_k38_empty_rows w) (sp := fun w => Fe.spLawX _ (Fe.callF Fe.pg 20 260)) rfl (by decide) rfl ⟨rfl, by decide, by decide⟩ (fun w h Y => PySem.W.kIn_of Y) ?F (fun w H a ns hl hb hO hS => Fe.law_spX hO hS (Fe.main ns hl hb)) (fun _ _ _ _ _ h => Fe.cx_no h)
  case F =>
    intro w mg fa h KX G hmg
    refine' Fe.all_mk KX G hmg ?a0 ?l0 ?c0 ?k0 ?a1 ?l1 ?c1 ?k1 ?a2 ?l2 ?c2 ?k2 ?a3 ?l3 ?c3 ?k3 ?a4 ?l4 ?c4 ?k4 ?a5 ?l5 ?c5 ?k5 ?a6 ?l6 ?c6 ?k6 ?a7 ?l7 ?c7 ?k7 ?a8 ?l8 ?c8 ?k8 ?a9 ?l9 ?c9 ?k9 ?a10 ?l10 ?c10 ?k10 ?a11 ?l11 ?c11 ?k11 ?a12 ?l12 ?c12 ?k12 ?a13 ?l13 ?c13 ?k13 ?a14 ?l14 ?c14 ?k14 ?a15 ?l15 ?c15 ?k15 ?a16 ?l16 ?c16 ?k16 ?a17 ?l17 ?c17 ?k17 ?a18 ?l18 ?c18 ?k18 ?a19 ?l19 ?c19 ?k19 ?a20 ?l20 ?c20 ?k20 ?a21 ?l21 ?c21 ?k21 ?a22 ?l22 ?c22 ?k22 ?z0 ?z1 ?z2 ?z3 ?z4 ?z5 ?z6 ?z7 ?z8 ?z9 ?zg0 ?xa0 ?xb0 ?xt0 ?xa1 ?xb1 ?xt1 ?xa2 ?xb2 ?xt2 ?xa3 ?xb3 ?xt3 ?xa4 ?xb4 ?xt4 ?xa5 ?xb5 ?xt5 ?xa6 ?xb6 ?xt6 ?xa7 ?xb7 ?xt7 ?xa8 ?xb8 ?xt8 ?xa9 ?xb9 ?xt9 ?xa10 ?xb10 ?xt10 ?xa11 ?xb11 ?xt11 ?xa12 ?xb12 ?xt12 ?xi0 ?xi1 ?xi2 ?xi3 ?xi4 ?xi5 ?xi6 ?xi7 ?xi8 ?xi9 ?xi10 ?xi11 ?xi12 ?xe3 ?xk3 ?xg3 ?xh3 ?xd3 ?xc3 ?xm3 ?xs3 ?xp3_0 ?xp3_1 ?xp3_2 ?xp3_3 ?xp3_4 ?xp3_5 ?xp3_6 ?xp3_7 ?xp3_8 ?xp3_9 ?xp3_10 ?xp3_11 ?xp3_12 ?xv3 ?xz ?xq ?xr
    (case a0 => k_is)
    (case l0 => k_is)
    (case c0 => k_is)
    (case k0 => k_is)
    (case a1 => k_is)
    (case l1 => k_is)
    (case c1 => k_is)
    (case k1 => k_is)
    (case a2 => k_is)
    (case l2 => k_is)
    (case c2 => k_is)
    (case k2 => k_is)
    (case a3 => k_is)
    (case l3 => k_is)
    (case c3 => k_is)
    (case k3 => k_is)
    (case a4 => k_is)
    (case l4 => k_is)
    (case c4 => k_is)
    (case k4 => k_is)
    (case a5 => k_is)
    (case l5 => k_is)
    (case c5 => k_is)
    (case k5 => k_is)
    (case a6 => k_is)
    (case l6 => k_is)
    (case c6 => k_is)
    (case k6 => k_is)
    (case a7 => k_is)
    (case l7 => k_is)
    (case c7 => k_is)
    (case k7 => k_is)
    (case a8 => k_is)
    (case l8 => k_is)
    (case c8 => k_is)
    (case k8 => k_is)
    (case a9 => k_is)
    (case l9 => k_is)
    (case c9 => k_is)
    (case k9 => k_is)
    (case a10 => k_is)
    (case l10 => k_is)
    (case c10 => k_is)
    (case k10 => k_is)
    (case a11 => k_is)
    (case l11 => k_is)
    (case c11 => k_is)
    (case k11 => k_is)
    (case a12 => k_is)
    (case l12 => k_is)
    (case c12 => k_is)
    (case k12 => k_is)
    (case a13 => k_is)
    (case l13 => k_is)
    (case c13 => k_is)
    (case k13 => k_is)
    (case a14 => k_is)
    (case l14 => k_is)
    (case c14 => k_is)
    (case k14 => k_is)
    (case a15 => k_is)
    (case l15 => k_is)
    (case c15 => k_is)
    (case k15 => k_is)
    (case a16 => k_is)
    (case l16 => k_is)
    (case c16 => k_is)
    (case k16 => k_is)
    (case a17 => k_is)
    (case l17 => k_is)
    (case c17 => k_is)
    (case k17 => k_is)
    (case a18 => k_is)
    (case l18 => k_is)
    (case c18 => k_is)
    (case k18 => k_is)
    (case a19 => k_is)
    (case l19 => k_is)
    (case c19 => k_is)
    (case k19 => k_is)
    (case a20 => k_is)
    (case l20 => k_is)
    (case c20 => k_is)
    (case k20 => k_is)
    (case a21 => k_is)
    (case l21 => k_is)
    (case c21 => k_is)
    (case k21 => k_is)
    (case a22 => k_is)
    (case l22 => k_is)
    (case c22 => k_is)
    (case k22 => k_is)
    (case z0 => k_is)
    (case z1 => k_is)
    (case z2 => k_is)
    (case z3 => k_is)
    (case z4 => k_is)
    (case z5 => k_is)
    (case z6 => k_is)
    (case z7 => k_is)
    (case z8 => k_is)
    (case z9 => k_is)
    (case zg0 => k_is)
    (case xa0 => k_is)
    (case xb0 => k_is)
    (case xt0 => k_is)
    (case xa1 => k_is)
    (case xb1 => k_is)
    (case xt1 => k_is)
    (case xa2 => k_is)
    (case xb2 => k_is)
    (case xt2 => k_is)
    (case xa3 => k_is)
    (case xb3 => k_is)
    (case xt3 => k_is)
    (case xa4 => k_is)
    (case xb4 => k_is)
    (case xt4 => k_is)
    (case xa5 => k_is)
    (case xb5 => k_is)
    (case xt5 => k_is)
    (case xa6 => k_is)
    (case xb6 => k_is)
    (case xt6 => k_is)
    (case xa7 => k_is)
    (case xb7 => k_is)
    (case xt7 => k_is)
    (case xa8 => k_is)
    (case xb8 => k_is)
    (case xt8 => k_is)
    (case xa9 => k_is)
    (case xb9 => k_is)
    (case xt9 => k_is)
    (case xa10 => k_is)
    (case xb10 => k_is)
    (case xt10 => k_is)
    (case xa11 => k_is)
    (case xb11 => k_is)
    (case xt11 => k_is)
    (case xa12 => k_is)
    (case xb12 => k_is)
    (case xt12 => k_is)
    (case xi0 => k_is)
    (case xi1 => k_is)
    (case xi2 => k_is)
    (case xi3 => k_is)
    (case xi4 => k_is)
    (case xi5 => k_is)
    (case xi6 => k_is)
    (case xi7 => k_is)
    (case xi8 => k_is)
    (case xi9 => k_is)
    (case xi10 => k_is)
    (case xi11 => k_is)
    (case xi12 => k_is)
    (case xe3 => k_exc)
    (case xk3 => k_is)
    (case xg3 => k_is)
    (case xh3 => k_is)
    (case xd3 => k_is)
    (case xc3 => k_is)
    (case xm3 => k_is)
    (case xs3 => k_is)
    (case xp3_0 => k_is)
    (case xp3_1 => k_is)
    (case xp3_2 => k_is)
    (case xp3_3 => k_is)
    (case xp3_4 => k_is)
    (case xp3_5 => k_is)
    (case xp3_6 => k_is)
    (case xp3_7 => k_is)
    (case xp3_8 => k_is)
    (case xp3_9 => k_is)
    (case xp3_10 => k_is)
    (case xp3_11 => k_is)
    (case xp3_12 => k_is)
    (case xv3 => k_is)
    (case xz => k_is)
    (case xq => k_is)
    (case xr => k_is)
