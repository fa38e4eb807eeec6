import PyProof.Rows.All
import Wide.All
import OpenK.AllK
import Wide.FinOn
import PyProof.CollectIter
import KE.KUnpack
import HandS.ForMost
import HandS.ForExc
import HandS.NoneIn
import KE.GoesMore
import KE.GoesEnum
import HandS.Walk
import HandS.Zip
import HandS.Evl
import HandS.Codes
import HandS.Steps
import HandS.Wide
import HandS.WideBits
import HandS.TupAny
import HandS.SortInts
import HandS.IsInst
import HandS.Conv
import HandS.More
import HandS.RaiseMore
import HandS.Defaults
import KE.KStateDown
import HandS.WordsExc
import HandS.Head0
import HandS.Head1
import HandS.Head2
import HandS.HeadEnd
import HandS.HeadHook1
import HandS.HeadHook2
import HandS.HeadHook3
import HandS.HeadHook4
import KE.KEqDeep
import KE.KSortedM
import PySem.Challenge.RW_lendwell_k77_orders_looked_at
set_option Elab.async false
set_option linter.all false
set_option maxRecDepth 100000
set_option maxHeartbeats 4000000
namespace LW
open PySem PySem.Spec PyProof.Rows L2
section
variable {X : Cx} {pos : Pos}
/-- xs[i] of a list, as an operand of an augmented store -/
theorem get_list : PGet X (rIxL X.K) := by
  intro pins s σ H x y v u Q I rx ry h
  obtain ⟨p, xs, i, z, rfl, rfl, hq, he, q⟩ := h
  cases rx
  obtain ⟨t, rfl⟩ := ry
  obtain ⟨its, r, pl, hz⟩ := I.list hq
  obtain ⟨j, h1, h2, h3, h4, h5⟩ := atI_get he
  obtain ⟨w, ew, rw'⟩ := r.get h2
  have hl := r.length
  have hn := line63
  have fin : EP X pins σ Q w s := ⟨z, H, I, rw', q⟩
  by_cases h0 : 0 ≤ i
  · have hj : i.toNat = j := by
      rw [seqIndex_of h0 h5] at h1
      exact Option.some.inj h1
    exact wpAny_getItem_list pl.isList h0 (by omega) (by rw [hj]; simpa using ew) fin
  · have hj : (i + (its.toArray.size : Int)).toNat = j := by
      rw [seqIndex_neg (by omega) h4] at h1
      rw [List.size_toArray, ← hl]
      exact Option.some.inj h1
    exact wpAny_getItem_list_neg pl.isList (by omega) (by rw [List.size_toArray] <;> omega) (by omega) (by rw [hj]; simpa using ew) fin
end
/-! ### first, *rest = a list, a tuple -/
theorem walksS_shift {prog : Program} {w : World} {A : Around} {I : Addr} {fp wr : List Addr} {G : Array GenState → Array GenState → Prop} {n : Nat} {P : Nat → Value → Prop} {St : Nat → Shared → Prop}
    (W : WalksS prog w A I fp wr G n P St) (k : Nat) (hk : k ≤ n) : WalksS prog w A I fp wr G (n - k) (fun i => P (i + k)) (fun i => St (i + k)) where
  sub := W.sub
  grefl := W.grefl
  gtrans := W.gtrans
  frame := fun i s h' tk st htk hf => W.frame (i + k) s h' tk st htk hf
  item := fun i s Q E hi st hQ => W.item (i + k) s Q E (by omega) st fun v s' hP st' m => hQ v s' hP (by
    have e : i + 1 + k = i + k + 1 := by omega
    rw [e]
    exact st') m
  done := fun s Q E st hQ => W.done s Q E (by
    have e : n - k + k = n := by omega
    rw [e] at st
    exact st) hQ
  self := fun i s Q E st hQ => W.self (i + k) s Q E st hQ

section
variable {prog : Program} {w : World} {A : Around} {E : Value → Shared → Prop} {s : Shared}
theorem items_eq {items acc : Array Value} {k : Nat} (hk : k ≤ items.size) (h : ItemsOf (fun i v => items[i + k]? = some v) acc (items.size - k)) : acc.toList = items.toList.drop k := by
  obtain ⟨h1, h2⟩ := h
  refine List.ext_getElem? fun j => ?_
  rw [List.getElem?_drop]
  cases e : acc.toList[j]? with
  | some v =>
    have e' : acc[j]? = some v := by simpa using e
    have := h2 j v e'
    rw [Nat.add_comm k j]
    simpa using this.symm
  | none =>
    have hj : acc.size ≤ j := by simpa using e
    symm
    rw [List.getElem?_eq_none_iff]
    simp
    omega
/-- *rest in the last place, over a list -/
theorem star_list {l : Addr} {items : Array Value} {k n : Nat} {Q : List Value → Shared → Prop} (hh : A.handled = none) (hl : s.heap.IsList l items) (hk : k ≤ items.size) (hn : n = k + 1) (hz : items.size ≤ sizeLine)
    (hQ : ∀ (h1 : Heap) (tk : Nat), (∀ b o, s.heap.get? b = some o → h1.get? b = some o) →
      Q (items.toList.take k ++ [.ref h1.objs.size]) { s with heap := h1.push { cls := .type "list", data := .seq (items.toList.drop k).toArray }, toks := tk }) : wpAny (model prog w) A (unpackItems (.ref l) n (some k)) Q E s := by
  subst hn
  have hlt : l ≠ s.heap.objs.size := by obtain ⟨o, ho, _⟩ := hl; exact Nat.ne_of_lt (Heap.lt_size ho)
  unfold unpackItems
  refine wpAny_bind ?_
  unfold notIterableAtAll
  refine wpAny_bind (wpAny_specialOf hl.typeIs slot_list_iter.lookup ?_)
  refine wpAny_pure ?_
  simp only [Bool.false_eq_true, if_false]
  refine wpAny_bind (wpAny_holding (wpAny_pyIter_list hl ?_))
  refine wpAny_bind (wpAny_holding (PySem.W.kun_draw hlt k 0 _ _ ⟨_, Heap.get?_push_size _ rfl, rfl, rfl⟩ (hl.push _) (by omega) fun h₁ hit₁ hs₁ => ?_))
  rw [List.drop_zero]
  rw [if_neg (by simp; omega)]
  have hl₁ : h₁.IsList l items := (hl.push _).extBut hs₁.extBut hlt
  have hit₁' : h₁.IsListIter s.heap.objs.size l (0 + k) := by rw [Nat.zero_add] at hit₁ ⊢; exact hit₁
  refine wpAny_bind (wpAny_holding (wpAny_collect_iter (T := "list_iterator") (.inr (.inr (.inl rfl))) (walksS_shift (Walks.list (prog := prog) (w := w) (A := A.in1) hh s.heap.objs.size l hlt items).toS k hk) (fun i s st => ?_) ⟨hit₁', hl₁⟩ (fun b hb => ?_) (by simp) (fun s' acc mv ia => ?_) (by omega)))
  · obtain ⟨⟨o, e, c, d⟩, _⟩ := st
    exact ⟨o, e, c⟩
  · simp only [List.mem_cons, List.not_mem_nil, or_false] at hb
    rcases hb with rfl | rfl
    · obtain ⟨o, e, _⟩ := hit₁'
      exact Heap.lt_size e
    · obtain ⟨o, e, _⟩ := hl₁
      exact Heap.lt_size e
  · have ea := items_eq hk ia
    rw [ea]
    simp only [List.length_drop, Array.length_toList]
    have e0 : k + 1 - 1 - k = 0 := by omega
    rw [e0]
    rw [if_neg (by omega)]
    obtain ⟨hp', gs', dr', tk', os'⟩ := s'
    obtain ⟨m1, m2, m3, m4, m5⟩ := mv
    have m2 : gs' = s.gens := m2
    have m3 : dr' = s.drawn := m3
    have m4 : os' = s.os := m4
    subst m2 m3 m4
    refine wpAny_bind (wpAny_newObj_type (wpAny_pure ?_) ?_)
    · have e1 : items.size - k - 0 = items.size - k := by omega
      have e2 : (items.toList.drop k).take (items.size - k - 0) = items.toList.drop k := List.take_of_length_le (by simp)
      have e3 : (items.toList.drop k).drop (items.size - k - 0) = [] := List.drop_eq_nil_of_le (by simp)
      rw [e2, e3, List.append_nil]
      refine hQ hp' _ fun b o e => ?_
      refine m1 b o ?_ (hs₁.extBut b o ?_ (Heap.get?_push_of_some _ e))
      · simp
        exact Nat.ne_of_lt (Heap.lt_size e)
      · exact Nat.ne_of_lt (Heap.lt_size e)
    · show (List.take _ (items.toList.drop k)).toArray.size ≤ sizeLine
      simp
      omega
theorem walks_tup {prog : Program} {w : World} {A : Around} (hh : A.handled = none) (I ax : Addr) (hne : ax ≠ I) (items : Array Value) :
    Walks prog w A I [I, ax] [I] items.size (fun i v => items[i]? = some v) (fun i h => IsTupIter h I ax i ∧ IsTup h ax items) where
  sub := fun b hb => by simp at hb; simp [hb]
  frame := fun _ _ _ st hk => ⟨by
    obtain ⟨o, e, q⟩ := st.1
    exact ⟨o, hk I (by simp) o e, q⟩, by
    obtain ⟨o, e, q⟩ := st.2
    exact ⟨o, hk ax (by simp) o e, q⟩⟩
  item := fun i s Q E hi st hQ => by
    refine next_tuple_item st.1 st.2 (x := items[i]) (by simp [hi]) fun h' hit' hs' => ?_
    exact hQ _ h' s.toks (by simp [hi]) ⟨hit', st.2.extBut hs'.extBut hne⟩ fun b o hb e => hs'.extBut b o (fun h => hb (by simp [h])) e
  done := fun s Q E st hQ => next_tuple_end hh st.1 st.2 (by simp) fun h' he' => hQ h' s.toks fun b o hb e => he' b o (fun h => hb (by simp [h])) e
  self := fun _ _ _ _ st hQ => wpAny_pyIter_tupleiter st.1 hQ
/-- *rest in the last place, over a tuple -/
theorem star_tup {l : Addr} {items : Array Value} {k n : Nat} {Q : List Value → Shared → Prop} (hh : A.handled = none) (hl : IsTup s.heap l items) (hk : k ≤ items.size) (hn : n = k + 1) (hz : items.size ≤ sizeLine)
    (hQ : ∀ (h1 : Heap) (tk : Nat), (∀ b o, s.heap.get? b = some o → h1.get? b = some o) →
      Q (items.toList.take k ++ [.ref h1.objs.size]) { s with heap := h1.push { cls := .type "list", data := .seq (items.toList.drop k).toArray }, toks := tk }) : wpAny (model prog w) A (unpackItems (.ref l) n (some k)) Q E s := by
  subst hn
  have hlt : l ≠ s.heap.objs.size := by obtain ⟨o, ho, _⟩ := hl; exact Nat.ne_of_lt (Heap.lt_size ho)
  unfold unpackItems
  refine wpAny_bind ?_
  unfold notIterableAtAll
  refine wpAny_bind (wpAny_specialOf hl.typeIs slot_tuple_iter.lookup ?_)
  refine wpAny_pure ?_
  simp only [Bool.false_eq_true, if_false]
  refine wpAny_bind (wpAny_holding (iter_tuple hl ?_))
  refine wpAny_bind (wpAny_holding (draw_tuple hlt k 0 _ _ ⟨_, Heap.get?_push_size _ rfl, rfl, rfl⟩ (hl.push _) (by omega) fun h₁ hit₁ hs₁ => ?_))
  rw [List.drop_zero]
  rw [if_neg (by simp; omega)]
  have hl₁ : IsTup h₁ l items := (hl.push _).extBut hs₁.extBut hlt
  have hit₁' : IsTupIter h₁ s.heap.objs.size l (0 + k) := by rw [Nat.zero_add] at hit₁ ⊢; exact hit₁
  refine wpAny_bind (wpAny_holding (wpAny_collect_iter (T := "tuple_iterator") (.inr (.inr (.inr rfl))) (walksS_shift (walks_tup (prog := prog) (w := w) (A := A.in1) hh s.heap.objs.size l hlt items).toS k hk) (fun i s st => ?_) ⟨hit₁', hl₁⟩ (fun b hb => ?_) (by simp) (fun s' acc mv ia => ?_) (by omega)))
  · obtain ⟨⟨o, e, c, d⟩, _⟩ := st
    exact ⟨o, e, c⟩
  · simp only [List.mem_cons, List.not_mem_nil, or_false] at hb
    rcases hb with rfl | rfl
    · obtain ⟨o, e, _⟩ := hit₁'
      exact Heap.lt_size e
    · obtain ⟨o, e, _⟩ := hl₁
      exact Heap.lt_size e
  · have ea := items_eq hk ia
    rw [ea]
    simp only [List.length_drop, Array.length_toList]
    have e0 : k + 1 - 1 - k = 0 := by omega
    rw [e0]
    rw [if_neg (by omega)]
    obtain ⟨hp', gs', dr', tk', os'⟩ := s'
    obtain ⟨m1, m2, m3, m4, m5⟩ := mv
    have m2 : gs' = s.gens := m2
    have m3 : dr' = s.drawn := m3
    have m4 : os' = s.os := m4
    subst m2 m3 m4
    refine wpAny_bind (wpAny_newObj_type (wpAny_pure ?_) ?_)
    · have e1 : items.size - k - 0 = items.size - k := by omega
      have e2 : (items.toList.drop k).take (items.size - k - 0) = items.toList.drop k := List.take_of_length_le (by simp)
      have e3 : (items.toList.drop k).drop (items.size - k - 0) = [] := List.drop_eq_nil_of_le (by simp)
      rw [e2, e3, List.append_nil]
      refine hQ hp' _ fun b o e => ?_
      refine m1 b o ?_ (hs₁.extBut b o ?_ (Heap.get?_push_of_some _ e))
      · simp
        exact Nat.ne_of_lt (Heap.lt_size e)
      · exact Nat.ne_of_lt (Heap.lt_size e)
    · show (List.take _ (items.toList.drop k)).toArray.size ≤ sizeLine
      simp
      omega
end

/-- (a, .., *rest) = a list or a tuple -/
def gStar (K : PySem.W.Frag) (k : Nat) (t : TGs) : TG := fun v σ H Q => ∃ a xs, v = .ref a ∧ (SqL K H a xs ∨ SqT K H a xs) ∧ k ≤ xs.length ∧ ∀ p, H p = none → t (xs.take k ++ [.ref p]) σ (upd H p (.lst (xs.drop k))) Q
theorem pg_star {X : Cx} {pos : Pos} {es : List Expr} {kk k : Nat} {t : TGs} (hc : X.calm = true) (h : PGs X es t)
    (hn : (assignEach es X.env).length = k + 1 := by rfl) (hst : (assignEach es X.env).findIdx? (·.1) = some k := by rfl) : PG X (.Tuple es kk pos) (gStar X.K k t) := by
  refine ⟨fun pins s σ H v u Q I r hw => ?_⟩
  obtain ⟨a, xs, e1, hq, hl, hw⟩ := hw
  subst e1
  cases r
  rw [PyProof.Rows.assign_Tuple]
  refine wpAny_bind (wpAny_standAt ?_)
  unfold unpack
  rw [hn, hst]
  have fin : ∀ {its : List Value}, Vals xs its → xs.length ≤ sizeLine → ∀ (h1 : Heap) (tk : Nat), (∀ b o, s.heap.get? b = some o → h1.get? b = some o) →
      wpAny (model X.prog X.w) X.A (assignInOrder ((assignEach es X.env).map (·.2)) (its.toArray.toList.take k ++ [.ref h1.objs.size])) (fun _ s' => ∃ σ' H', Inv X pins σ' H' s' ∧ Q σ' H') X.xe
        { s with heap := h1.push { cls := .type "list", data := .seq (its.toArray.toList.drop k).toArray }, toks := tk } := fun {its} rv hz h1 tk kp => by
    have I1 : Inv X pins σ H { s with heap := h1, toks := tk } := I.kept (t' := tk) kp
    have hn1 : H h1.objs.size = none := I1.hok.fresh (Nat.le_refl _)
    have ob : ObjOk X.prog X.w (upd H h1.objs.size (.lst (xs.drop k))) (h1.push { cls := .type "list", data := .seq (its.toArray.toList.drop k).toArray }) h1.objs.size (.lst (xs.drop k)) :=
      ⟨by rw [List.length_drop]; omega, its.drop k, 0, rv.drop k, by
        have q : (h1.push { cls := .type "list", data := .seq (its.toArray.toList.drop k).toArray }).get? h1.objs.size = some { cls := .type "list", data := .seq (its.toArray.toList.drop k).toArray } := Heap.get?_push_size _ rfl
        simpa using q⟩
    have I2 := I1.laid (a := h1.objs.size) (h' := h1.push { cls := .type "list", data := .seq (its.toArray.toList.drop k).toArray }) (t' := tk) (fun b u e => Heap.get?_push_of_some _ e) (Nat.le_refl _) ob
    have rv2 : Vals (xs.take k ++ [V.ref h1.objs.size]) (its.toArray.toList.take k ++ [.ref h1.objs.size]) := by
      have q := (rv.take k).append (.cons (show RelV (V.ref h1.objs.size) (Value.ref h1.objs.size) from rfl) .nil)
      simpa using q
    exact h.run pins _ σ _ _ _ Q I2 rv2 (hw _ hn1)
  rcases hq with hq | hq
  · obtain ⟨its, rv, pl, hz⟩ := I.list hq
    have hl' : s.heap.IsList a its.toArray := by
      obtain ⟨o, m, e, c, d, q⟩ := pl
      exact ⟨o, e, c, m, q⟩
    have he := rv.length
    exact wpAny_bind (wpAny_holding (star_list (I.ok.hd hc) hl' (by simp; omega) rfl (by simp; omega) (fin rv (by omega))))
  · obtain ⟨its, rv, pl, hz⟩ := I.tuple hq
    have he := rv.length
    exact wpAny_bind (wpAny_holding (star_tup (I.ok.hd hc) pl (by simp; omega) rfl (by simp; omega) (fin rv (by omega))))
theorem pgs_star {X : Cx} {e : Expr} {sp : Pos} {t : TG} (h1 : PG X e t) : PGs X [.Starred e sp] (gCons t gNil) := by
  refine ⟨fun pins s σ H vs us Q I r h => ?_⟩
  obtain ⟨v, vr, e1, h⟩ := h
  subst e1
  cases r with
  | cons r rr =>
    show wpAny _ _ (assignInOrder [assign e X.env] _) _ _ _
    refine assignInOrder_cons (thn (h1.run pins s σ H _ _ _ I r h) fun _ s1 ⟨σ1, H1, I1, q1⟩ => ?_)
    obtain ⟨e2, q1⟩ := q1
    subst e2
    cases rr
    exact assignInOrder_nil ⟨σ1, H1, I1, q1⟩
end LW
namespace LW
open PySem PySem.Spec PyProof.Rows L2
/-! ### enumerate(tuple) -/
theorem meets_enum1 {v : Value} {o : Obj} {H : Heap → Prop} (B : Begins v o H) :
    Meets (Builtin.«enumerate.__new__» ⟨[.type "enumerate", v], []⟩) (fun _ R s => H s.heap ∧
      R (.ok (.ret (.ref (s.heap.push o).objs.size))) { s with heap := (s.heap.push o).push { cls := .type "enumerate", data := .fields #[.none, .bool false, .ref s.heap.objs.size, rawInt 0, .none, .none] } }) :=
  .of_wp fun prog w A R s h => by
    obtain ⟨hp, g, d, tk, os⟩ := s; obtain ⟨h1, h⟩ := h
    have hsub := sub_enumerate
    have q1 : ∀ {A' : Around} {E : Value → Shared → Prop} {Q : Value → Shared → Prop}, Q (.ref hp.objs.size) ⟨hp.push o, g, d, tk, os⟩ → wpAny (model prog w) A' (pyIter v) Q E ⟨hp, g, d, tk, os⟩ :=
      fun q => B.iter prog w _ _ ⟨hp, g, d, tk, os⟩ _ h1 q
    wp_walk using q1
    refine wpAny_stack_any fun st => wpAny_pure ?_
    split
    · rename_i c _ _ _ _ _
      cases (c == Value.type "enumerate")
      · wp_walk using q1
        exact ⟨_, rfl, h⟩
      · wp_walk using q1
        exact ⟨_, rfl, h⟩
    · wp_walk using q1
      exact ⟨_, rfl, h⟩
section
variable {prog : Program} {w : World} {A : Around} {E : Value → Shared → Prop} {s : Shared}
theorem enum_begins1 {v : Value} {o : Obj} {H : Heap → Prop} {Q : Value → Shared → Prop} (B : Begins v o H) (h1 : H s.heap)
    (h : ∀ h', IsEnum h' (s.heap.objs.size + 1) s.heap.objs.size 0 .none → h'.get? s.heap.objs.size = some o → h'.objs.size = s.heap.objs.size + 2 →
      (∀ b o, s.heap.get? b = some o → h'.get? b = some o) → Q (.ref (s.heap.objs.size + 1)) { s with heap := h' }) :
    wpAny (model prog w) A (call (.type "enumerate") [v]) Q E s := by
  refine callType_new F.called_enumerate (by decide) (F.typeCall_enumerate_1 _) (F.newCall_enumerate_1 _) (fun obj => F.args_object_init_2 obj _) F.entry_enumerate_new
    (meets_enum1 B) ⟨h1, ?_⟩
  have hz : (s.heap.push o).objs.size = s.heap.objs.size + 1 := Heap.size_push ..
  show _ ∧ _
  rw [hz]
  have he : IsEnum ((s.heap.push o).push { cls := .type "enumerate", data := .fields #[.none, .bool false, .ref s.heap.objs.size, rawInt 0, .none, .none] }) (s.heap.objs.size + 1) s.heap.objs.size 0 .none := by
    have := Heap.get?_push_size (s.heap.push o) (o := { cls := .type "enumerate", data := .fields #[.none, .bool false, .ref s.heap.objs.size, rawInt 0, .none, .none] }) rfl
    rw [hz] at this; exact this
  refine ⟨⟨_, he, rfl⟩, h _ he (Heap.get?_push_of_some _ (Heap.get?_push_size _ B.free)) (by rw [Heap.size_push, hz]) fun b o x => Heap.get?_push_of_some _ (Heap.get?_push_of_some _ x)⟩
end
theorem enumT_end {prog : Program} {w : World} {A : Around} {E : Value → Shared → Prop} {s : Shared} {e it l : Addr} {i : Nat} {items : Array Value} {old : Value} {Q : Option Value → Shared → Prop} (hh : A.handled = none)
    (he : IsEnum s.heap e it i old) (hit : IsTupIter s.heap it l i) (hl : IsTup s.heap l items) (hx : items[i]? = none)
    (hQ : ∀ h', Heap.ExtBut it s.heap h' → Q none { s with heap := h' }) : wpAny (model prog w) A (pyNext (.ref e)) Q E s := by
  have hT : s.TypeIs (.ref e) "enumerate" := ⟨_, he, rfl⟩
  unfold pyNext
  refine wpAny_bind (wpAny_attempt (wpAny_callSpecial?_slot (name := Str.ofString "__next__") hT F.slot_enumerate_next
    (wpAny_call_entry F.slot_enumerate_next hT F.entry_enumerate_next ?_ (F.args_enumerate_next_1 _))))
  show wpAny _ _ (field (.ref e) 2 >>= _) _ _ _
  refine wpAny_bind (wpAny_field he rfl (x := .ref it) rfl ?_)
  refine wpAny_bind (wpAny_nextOf_tuple_end hh hit hl hx fun h' x he' hx' => ?_)
  obtain ⟨o, ho, hc⟩ := hx'
  refine wpAny_bind (wpAny_isInstance (T := "StopIteration") (b := true) ⟨o, ho, hc⟩ isSubtype_stop ?_)
  exact wpAny_pure (hQ _ he')
/-- the tuple at a, each item in a new pair -/
def IteT (K : PySem.W.Frag) (a : Addr) : It :=
  ⟨fun i H => ∃ (xs : List V) (x : V), SqT K H a xs ∧ xs[i]? = some x, fun i H v H' => ∃ T x, v = .ref T ∧ H T = none ∧ H' = upd H T (.tup [.int (i : Nat), x]) ∧ ∀ xs, SqT K H a xs → xs[i]? = some x, fun i H => ∃ xs : List V, SqT K H a xs ∧ xs.length ≤ i⟩
theorem turn_enumT {P : Program} {w : World} {K : PySem.W.Frag} {elts : List Expr} {kk : Nat} {tpos : Pos} (a e it : Addr) :
    Turn P w K (.Tuple elts kk tpos) (IteT K a) [e, it] e (fun i h => (∃ old, IsEnum h e it ((i : Nat) : Int) old) ∧ IsTupIter h it a i ∧ e ≠ it) where
  mem := by simp
  obj := fun i h st b hb => by
    obtain ⟨⟨old, he⟩, ⟨o, ho, hc, hd⟩, _⟩ := st
    have e' : b = e ∨ b = it := by simpa using hb
    rcases e' with z | z
    · rw [z]; exact ⟨_, he, fun v q => nomatch q⟩
    · rw [z]; exact ⟨o, ho, fun v q => by rw [hd] at q; cases q⟩
  keep := fun i h h' st k => let ⟨⟨old, he⟩, ⟨o, ho, r⟩, hne⟩ := st; ⟨⟨old, k e (by simp) _ he⟩, ⟨o, k it (by simp) o ho, r⟩, hne⟩
  item := by
    intro X hP hw hK hc i pins s σ H E I hf st hg
    subst hP hw hK
    obtain ⟨⟨old, he⟩, hit, hne⟩ := st
    obtain ⟨xs, x, hq, hx⟩ := hg
    obtain ⟨its, rv, p, hz⟩ := I.tuple hq
    obtain ⟨u, hu, ru⟩ := rv.get hx
    have hel : e < s.heap.objs.size := Heap.lt_size he
    have hil : it < s.heap.objs.size := by obtain ⟨_, q, _⟩ := hit; exact Heap.lt_size q
    have hal : a < s.heap.objs.size := by obtain ⟨_, q, _⟩ := p; exact Heap.lt_size q
    have hlt : i < its.toArray.size := by simpa using (List.getElem?_eq_some_iff.mp hu).1
    have hna : a ≠ it := by
      rintro rfl
      obtain ⟨o1, q1, c1, _⟩ := hit
      obtain ⟨o2, q2, c2, _⟩ := p
      rw [q1] at q2
      cases q2
      rw [c1] at c2
      injection c2 with c3
      exact absurd c3 (by decide)
    have hea : e ≠ a := by
      rintro rfl
      obtain ⟨o2, q2, c2, _⟩ := p
      rw [show s.heap.get? e = _ from he] at q2
      cases q2
      injection c2 with c3
      exact absurd c3 (by decide)
    have D := (Draws.tuple (prog := X.prog) (w := X.w) (A := X.A.in1) (I.ok.hd hc) it a hna its.toArray)
    refine wpAny_pyNext_enum_itemD D he ⟨hit, p⟩ hlt hne (by simp [hne, hea]) fun y h' tk hy ho hst' hT hsz hk => ?_
    have hyu : y = u := by
      have q : its.toArray[i]? = some y := hy
      have q2 : its.toArray[i]? = some u := by simpa using hu
      rw [q] at q2
      exact Option.some.inj q2
    subst hyu
    obtain ⟨hit', _⟩ := hst'
    refine ⟨_, rfl, wpAny_letOwnedTupleGo_enum (s := { s with heap := h', toks := tk + 1 }) ho fun h'' he' sb => ?_⟩
    have hT2 : h''.get? s.heap.objs.size = some { cls := .type "tuple", data := .seq #[.int i tk, y] } := (sb.2 _ (Nat.ne_of_gt hel)).trans hT
    have new : ObjOk X.prog X.w (upd H s.heap.objs.size (.tup [.int (i : Nat), x])) h'' s.heap.objs.size (.tup [.int (i : Nat), x]) :=
      ⟨by show 2 ≤ sizeLine; decide, [.int i tk, y], .cons ⟨_, rfl⟩ (.cons ru .nil), ⟨_, hT2, rfl, _, rfl⟩⟩
    have I1 : Inv X pins σ (upd H s.heap.objs.size (.tup [.int (i : Nat), x])) { s with heap := h'', toks := tk + 1 } :=
      I.turnedNew (ch := [e, it]) (fun b ob hb q => (sb.2 b (fun z => hb (by simp [z]))).trans (hk b ob (fun z => hb (by simp [z])) (fun z => hb (by simp [z])) q)) hf (Nat.le_refl _) new
    refine ⟨.ref s.heap.objs.size, _, I1, rfl, ⟨_, x, rfl, I.hok.fresh (Nat.le_refl _), rfl, fun ys hy => by rw [I.tuple_inj hy hq]; exact hx⟩, ⟨⟨y, ?_⟩, ?_, hne⟩, fun b hb => ?_⟩
    · have e1 : ((i + 1 : Nat) : Int) = (i : Int) + 1 := by omega
      rw [e1]; exact he'
    · obtain ⟨o, ho', r⟩ := hit'
      exact ⟨o, (sb.2 it (Ne.symm hne)).trans ho', r⟩
    · have hb' : b < s.heap.objs.size := by
        have e' : b = e ∨ b = it := by simpa using hb
        rcases e' with z | z
        · rw [z]; exact hel
        · rw [z]; exact hil
      rw [upd_ne (Nat.ne_of_lt hb')]
      exact (hf b hb).1
  done := by
    intro X hP hw hK hc i pins s σ H E I hf st hg
    subst hP hw hK
    obtain ⟨⟨old, he⟩, hit, hne⟩ := st
    obtain ⟨xs, hq, hx⟩ := hg
    obtain ⟨its, rv, p, hz⟩ := I.tuple hq
    obtain ⟨f0, f1, f2, f3, f4, f5⟩ := hf it (by simp)
    have hl := rv.length
    exact enumT_end (I.ok.hd hc) he hit p (by simp; omega) fun h' eb => ⟨rfl, I.turned (t' := s.toks) (fun b o hb q => eb b o hb q) f0 f1 f3 f4 f5⟩
  self := fun A i s Q E st h => let ⟨⟨_, he⟩, _⟩ := st; wpAny_pyIter_enum he h
theorem walk_enumT {K : PySem.W.Frag} {a : Addr} {xs : List V} : Walk (IteT K a) xs.length (fun H => SqT K H a xs) (YPair (fun i => some (.int (i : Nat))) (fun i => xs[i]?)) := by
  refine ⟨fun i _ hi q => ⟨xs, xs[i], q, by simp [hi]⟩, fun _ q => ⟨xs, q, Nat.le_refl _⟩, fun i H v H' _ q y => ?_⟩
  obtain ⟨T, x, h1, h2, h3, h4⟩ := y
  exact ⟨T, .int (i : Nat), x, h1, h2, h3, rfl, h4 xs q⟩
abbrev SqA (K : PySem.W.Frag) (H : Hp) (a : Addr) (xs : List V) : Prop := SqL K H a xs ∨ SqT K H a xs
theorem SqA.ex {K : PySem.W.Frag} {H H' : Hp} {a : Addr} {xs : List V} (e : Evl.Ex H H') (h : SqA K H a xs) : SqA K H' a xs := h.imp (Evl.ex_l e) (Evl.ex_t e)
theorem enum_split {K : PySem.W.Frag} {H : Hp} {a : Addr} {xs : List V} {H0 : Hp} {R : It → Hp → Prop} (hS : SqA K H0 a xs) (ex : Evl.Ex H0 H)
    (h : ∀ (J : It) (G : Hp → Prop), Walk J xs.length G (YPair (fun i => some (.int (i : Nat))) (fun i => xs[i]?)) → (∀ H', Evl.Ex H0 H' → G H') → R J H) :
    (SqL K H a xs ∧ R (Ite K a) H) ∨ (SqT K H a xs ∧ R (IteT K a) H) := by
  rcases hS with hS | hS
  · exact .inl ⟨Evl.ex_l ex hS, h _ _ walk_enum fun H' e => Evl.ex_l e hS⟩
  · exact .inr ⟨Evl.ex_t ex hS, h _ _ walk_enumT fun H' e => Evl.ex_t e hS⟩
/-- enumerate of a list or a tuple -/
def iEnumA (K : PySem.W.Frag) (ta : TA) : TI := fun σ H R => ta σ H fun vs H1 => ∃ a xs H0, vs = [.ref a] ∧ SqA K H0 a xs ∧ Evl.Ex H0 H1 ∧ ∀ (J : It) (G : Hp → Prop), Walk J xs.length G (YPair (fun i => some (.int (i : Nat))) (fun i => xs[i]?)) → (∀ H', Evl.Ex H0 H' → G H') → R J H1
theorem pi_enumA {X : Cx} {e : Expr} {ta : TA} {p pos tpos : Pos} {elts : List Expr} {kk : Nat} (hg : Gl X "enumerate") (hm : X.mg "enumerate" = none) (ha : PA X [e] ta) (hs : starEach [e] X.env = [(false, eval e X.env)] := by rfl) :
    PI X (.Tuple elts kk tpos) (.Call (.Name "enumerate" p) [e] [] pos) (iEnumA X.K ta) := by
  refine ⟨fun pins s σ H R I h => ?_⟩
  refine Call_ (ld_blt I hg hm boot_enumerate (PyProof.Rows.callWith_type1 (thn (ha.run pos pins s σ H _ I h) fun us s1 ⟨vs, H1, I1, r1, q1⟩ => ?_) hs rfl))
  obtain ⟨a, xs, H0, ex, hs0, ex0, q0⟩ := q1
  have q := enum_split hs0 ex0 q0
  subst ex
  cases r1 with
  | cons r rr =>
    cases rr
    cases r
    have fp : ∀ b ∈ [s1.heap.objs.size + 1, s1.heap.objs.size], FpOk X pins H1 b := fun b hb => by
      have e' : b = s1.heap.objs.size + 1 ∨ b = s1.heap.objs.size := by simpa using hb
      have hle : s1.heap.objs.size ≤ b := by
        rcases e' with z | z
        · rw [z]; exact Nat.le_add_right _ _
        · rw [z]; exact Nat.le_refl _
      exact I1.fpOk hle (I1.hok.fresh hle)
    rcases q with ⟨hq, q⟩ | ⟨hq, q⟩
    · obtain ⟨its, rv, p', hz⟩ := I1.list hq
      refine call_enumerate_list p'.isList fun h' he hit hsz hk => wpAny_pyIter_enum he ?_
      have I2 : Inv X pins σ H1 { s1 with heap := h' } := I1.kept (t' := s1.toks) hk
      exact ⟨s1.heap.objs.size + 1, [s1.heap.objs.size + 1, s1.heap.objs.size], _, _, H1, rfl, I2, turn_enum a (s1.heap.objs.size + 1) s1.heap.objs.size, ⟨⟨.none, he⟩, hit, Nat.succ_ne_self _⟩, fp, q⟩
    · obtain ⟨its, rv, p', hz⟩ := I1.tuple hq
      refine enum_begins1 (begins_tuple a its.toArray) p' fun h' he hit hsz hk => wpAny_pyIter_enum he ?_
      have I2 : Inv X pins σ H1 { s1 with heap := h' } := I1.kept (t' := s1.toks) hk
      exact ⟨s1.heap.objs.size + 1, [s1.heap.objs.size + 1, s1.heap.objs.size], _, _, H1, rfl, I2, turn_enumT a (s1.heap.objs.size + 1) s1.heap.objs.size, ⟨⟨.none, he⟩, ⟨_, hit, rfl, rfl⟩, Nat.succ_ne_self _⟩, fp, q⟩
end LW
namespace LW
open PySem PySem.Spec PyProof.Rows L2
/-! ### readings by name -/
def rAddI : R2 := rI0 fun i j => .int (i + j)
def rSubI : R2 := rI0 fun i j => .int (i - j)
def rMulI : R2 := rI CMul fun i j => .int (i * j)
def rMulX : R2 := rI CMulX fun i j => .int (i * j)
def rDivW : R2 := rI CDivW fun i j => .int (i / j)
def rModI : R2 := rI (fun _ j => 0 < j) fun i j => .int (i % j)
def rPowI : R2 := rI CPow fun i j => .int (i ^ j.toNat)
def rLtI : R2 := rI0 fun i j => .bl (decide (i < j))
def rLeI : R2 := rI0 fun i j => .bl (decide (i ≤ j))
def rGtI : R2 := rI0 fun i j => .bl (decide (j < i))
def rGeI : R2 := rI0 fun i j => .bl (decide (j ≤ i))
def rAddS : R2 := fun x y H Q => ∃ i j, x = .str i ∧ y = .str j ∧ i.length + j.length ≤ sizeLine ∧ Q (.str (i ++ j)) H
def rLen (K : PySem.W.Frag) : List V → Hp → VK → Prop := fun xs H Q => ∃ x n, xs = [x] ∧ LenV K x H n ∧ Q (.int n) H
def rLenD : List V → Hp → VK → Prop := fun xs H Q => ∃ a kvs, xs = [V.ref a] ∧ H a = some (.dK kvs) ∧ Q (.int kvs.length) H
@[irreducible] def imax (i j : Int) : Int := if j > i then j else i
@[irreducible] def imin (i j : Int) : Int := if j < i then j else i
@[irreducible] def iabs (i : Int) : Int := if i < 0 then -i else i
theorem imax_eq (i j : Int) : imax i j = if j > i then j else i := by unfold imax; rfl
theorem imin_eq (i j : Int) : imin i j = if j < i then j else i := by unfold imin; rfl
theorem iabs_eq (i : Int) : iabs i = if i < 0 then -i else i := by unfold iabs; rfl
def rMax2I : List V → Hp → VK → Prop := fun xs H Q => ∃ i j, xs = [.int i, .int j] ∧ Q (.int (imax i j)) H
def rMin2I : List V → Hp → VK → Prop := fun xs H Q => ∃ i j, xs = [.int i, .int j] ∧ Q (.int (imin i j)) H
def rAbs : List V → Hp → VK → Prop := fun xs H Q => ∃ i, xs = [.int i] ∧ Q (.int (iabs i)) H
theorem call_absI {X : Cx} : CallR X (.builtin "abs") rAbs := by
  intro pins s σ H xs us Q I r h
  obtain ⟨i, e, q⟩ := h
  rw [iabs_eq] at q
  exact call_abs pins s σ H xs us Q I r ⟨i, e, q⟩
theorem call_max2I {X : Cx} (hc : X.calm = true) : CallR X (.builtin "max") rMax2I := by
  intro pins s σ H xs us Q I r h
  obtain ⟨i, j, e, q⟩ := h
  rw [imax_eq] at q
  exact call_max2 hc pins s σ H xs us Q I r ⟨i, j, e, q⟩
theorem call_min2I {X : Cx} (hc : X.calm = true) : CallR X (.builtin "min") rMin2I := by
  intro pins s σ H xs us Q I r h
  obtain ⟨i, j, e, q⟩ := h
  rw [imin_eq] at q
  exact call_min2 hc pins s σ H xs us Q I r ⟨i, j, e, q⟩
def rListOf (K : PySem.W.Frag) : List V → Hp → VK → Prop := fun xs H Q => ∃ p ys, xs = [.ref p] ∧ (SqL K H p ys ∨ SqT K H p ys) ∧ ∀ l, H l = none → Q (.ref l) (upd H l (.lst ys))
def rTupleOf (K : PySem.W.Frag) : List V → Hp → VK → Prop := fun xs H Q => ∃ p ys, xs = [.ref p] ∧ ((SqL K H p ys ∧ ∀ l, H l = none → Q (.ref l) (upd H l (.tup ys))) ∨ (SqT K H p ys ∧ Q (.ref p) H))
def rInt1 : List V → Hp → VK → Prop := fun xs H Q => (∃ i, xs = [.int i] ∧ Q (.int i) H) ∨ ∃ k, xs = [.bl k] ∧ Q (.int (if k then 1 else 0)) H
def rIntStr : List V → Hp → VK → Prop := fun xs H Q => ∃ a n, xs = [.str a] ∧ PySem.intText? a = some n ∧ a.length ≤ 640 ∧ Q (.int n) H
def rStrA : List V → Hp → VK → Prop := fun xs H Q => (∃ i, xs = [.int i] ∧ i.natAbs.log2 < 1920 ∧ Q (.str (toString i)) H) ∨ (∃ a, xs = [.str a] ∧ Q (.str a) H)
def rInsert : V → List V → Hp → VK → Prop := fun x vs H Q => ∃ (l : Addr) (xs : List V) (i : Int) (y : V), x = .ref l ∧ vs = [.int i, y] ∧ H l = some (.lst xs) ∧ xs.length < sizeLine ∧ 0 ≤ i ∧ i < 2 ^ 63 ∧ Q .non (upd H l (.lst (xs.take i.toNat ++ [y] ++ xs.drop i.toNat)))
def tTru (K : PySem.W.Frag) (ta : TE) : TT := fun σ H Q => ta σ H fun x H' => ∃ k, TruV K x H' k ∧ Q k H'
theorem call_strA {X : Cx} : CallR X (.type "str") rStrA := call_str_int.or SkE.call_str_str
theorem bt_len : bootBuiltins "len" = some (.builtin "len") := by decide +kernel
theorem bt_abs : bootBuiltins "abs" = some (.builtin "abs") := by decide +kernel
theorem bt_max : bootBuiltins "max" = some (.builtin "max") := by decide +kernel
theorem bt_min : bootBuiltins "min" = some (.builtin "min") := by decide +kernel
theorem bt_all : bootBuiltins "all" = some (.builtin "all") := by decide +kernel
theorem bt_any : bootBuiltins "any" = some (.builtin "any") := by decide +kernel
theorem bt_sorted : bootBuiltins "sorted" = some (.builtin "sorted") := by decide +kernel
theorem bt_isinstance : bootBuiltins "isinstance" = some (.builtin "isinstance") := by decide +kernel
theorem bt_int : bootBuiltins "int" = some (.type "int") := by decide +kernel
theorem bt_bool : bootBuiltins "bool" = some (.type "bool") := by decide +kernel
theorem bt_str : bootBuiltins "str" = some (.type "str") := by decide +kernel
theorem bt_list : bootBuiltins "list" = some (.type "list") := by decide +kernel
theorem bt_tuple : bootBuiltins "tuple" = some (.type "tuple") := by decide +kernel
theorem bt_dict : bootBuiltins "dict" = some (.type "dict") := by decide +kernel
theorem bt_range : bootBuiltins "range" = some (.type "range") := by decide +kernel
/-! ### a, b, .. = a list or a tuple -/
def gUn (K : PySem.W.Frag) (n : Nat) (t : TGs) : TG := fun v σ H Q => ∃ a xs, v = .ref a ∧ (SqL K H a xs ∨ SqT K H a xs) ∧ xs.length = n ∧ t xs σ H Q
theorem pg_un {X : Cx} {pos : Pos} {es : List Expr} {k : Nat} {t : TGs} {n : Nat} (hc : X.calm = true) (h : PGs X es t)
    (hn : (assignEach es X.env).length = n := by rfl) (hst : (assignEach es X.env).findIdx? (·.1) = none := by rfl) : PG X (.Tuple es k pos) (gUn X.K n t) := by
  refine ⟨fun pins s σ H v u Q I r hw => ?_⟩
  obtain ⟨a, xs, e1, hq | hq, hl, hw⟩ := hw
  · exact (pg_unl hc h hn hst).run pins s σ H v u Q I r ⟨a, xs, e1, hq, hl, hw⟩
  · exact (pg_tup hc h hn hst).run pins s σ H v u Q I r ⟨a, xs, e1, hq, hl, hw⟩
/-! ### for x in a list or a tuple -/
theorem seq_split {K : PySem.W.Frag} {H : Hp} {a : Addr} {xs : List V} {H0 : Hp} {R : It → Hp → Prop} (hS : SqA K H0 a xs) (ex : Evl.Ex H0 H)
    (h : ∀ (J : It) (G : Hp → Prop), Walk J xs.length G (YAt xs) → (∀ H', Evl.Ex H0 H' → G H') → R J H) :
    ((∃ xs, SqL K H a xs) ∧ R (Itl K a) H) ∨ ((∃ xs, SqT K H a xs) ∧ R (Itt K a) H) := by
  rcases hS with hS | hS
  · exact .inl ⟨⟨_, Evl.ex_l ex hS⟩, h _ _ walk_list fun H' e => Evl.ex_l e hS⟩
  · exact .inr ⟨⟨_, Evl.ex_t ex hS⟩, h _ _ walk_tup fun H' e => Evl.ex_t e hS⟩
def iSeq (K : PySem.W.Frag) (tl : TE) : TI := fun σ H R => tl σ H fun x H1 => ∃ a xs H0, x = .ref a ∧ SqA K H0 a xs ∧ Evl.Ex H0 H1 ∧ ∀ (J : It) (G : Hp → Prop), Walk J xs.length G (YAt xs) → (∀ H', Evl.Ex H0 H' → G H') → R J H1
theorem pi_seq {X : Cx} {tg l : Expr} {tl : TE} (hl : PE X l tl) : PI X tg l (iSeq X.K tl) := by
  refine ⟨fun pins s σ H R I h => ?_⟩
  refine thn (hl.run pins s σ H _ I h) fun v s1 ⟨x, H1, I1, r1, q1⟩ => ?_
  obtain ⟨a, xs0, H0, e, hs0, ex0, q0⟩ := q1
  rcases seq_split hs0 ex0 q0 with ⟨⟨xs, hq⟩, q⟩ | ⟨⟨xs, hq⟩, q⟩
  · subst e
    cases r1
    obtain ⟨its, rv, p, hz⟩ := I1.list hq
    refine wpAny_pyIter_list p.isList ?_
    refine ⟨s1.heap.objs.size, [s1.heap.objs.size], _, _, H1, rfl, I1.kept (t' := s1.toks) fun b o e => Heap.get?_push_of_some _ e, turn_list a _, ⟨_, Heap.get?_push_size _ rfl, rfl, rfl⟩, fun b hb => ?_, q⟩
    have e : b = s1.heap.objs.size := by simpa using hb
    subst e
    exact I1.fpOk (Nat.le_refl _) (I1.hok.fresh (Nat.le_refl _))
  · subst e
    cases r1
    obtain ⟨its, rv, p, hz⟩ := I1.tuple hq
    refine wpAny_pyIter_tuple (show s1.heap.IsTuple a its.toArray from p) ?_
    refine ⟨s1.heap.objs.size, [s1.heap.objs.size], _, _, H1, rfl, I1.kept (t' := s1.toks) fun b o e => Heap.get?_push_of_some _ e, turn_tuple a _, ⟨_, Heap.get?_push_size _ rfl, rfl, rfl⟩, fun b hb => ?_, q⟩
    have e : b = s1.heap.objs.size := by simpa using hb
    subst e
    exact I1.fpOk (Nat.le_refl _) (I1.hok.fresh (Nat.le_refl _))
/-! ### sorted of a list or a tuple of ints -/
def rSortedA (K : PySem.W.Frag) : List V → Hp → VK → Prop := fun vs H Q => ∃ (a : Addr) (ns : List Int), vs = [V.ref a] ∧ (SqL K H a (ns.map V.int) ∨ SqT K H a (ns.map V.int)) ∧
  ∀ (ns' : List Int) (p : Addr), ns'.Perm ns → ns'.Pairwise (· ≤ ·) → H p = none → Q (.ref p) (upd H p (.lst (ns'.map V.int)))
theorem sorted_tup {prog : Program} {w : World} {A : Around} {E : Value → Shared → Prop} {s : Shared} {l : Addr} {vs : List Value} {ltv : Value → Value → Bool} {Q : Value → Shared → Prop} (O : SrtO.Swo ltv) (hl : IsTup s.heap l vs.toArray) (hz : vs.length ≤ sizeLine)
    (hS : 2 ≤ vs.length → ∀ (h₁ : Heap) (a : Addr), h₁.get? a = some (seqObj "list" vs.toArray 0) → (∀ b o, s.heap.get? b = some o → b ≠ a ∧ h₁.get? b = some o) → SrtO.SortableO prog w A.in1.in1 { s with heap := h₁ } a vs ltv)
    (h : ∀ (h1 : Heap) (out : List Value), (∀ b o, s.heap.get? b = some o → h1.get? b = some o) → SrtO.Srtd ltv out → SrtO.Stb ltv out vs →
      Q (.ref h1.objs.size) { s with heap := sortedHeap (h1.push (seqObj "list" vs.toArray 0)) h1.objs.size vs out.toArray }) :
    wpAny (model prog w) A (call (.builtin "sorted") [.ref l]) Q E s := by
  obtain ⟨o, ho, hc, n, hd⟩ := hl
  refine Calls.call_function_entry kind_sorted plain_sorted entry_sorted (args_sorted1 _) ?_
  unfold Builtin.«sorted»
  refine wpAny_bind (m := checkCount "sorted" 1 1 _) (wpAny_pure ?_)
  refine wpAny_bind (wpAny_collect_seq l (T := "tuple") (.inr rfl) ho hc hd (fun h1 kp => ?_) (by simpa using hz))
  refine wpAny_bind (wpAny_newList ?_ (by simpa using hz))
  have e0 : vs.toArray.toList = vs := by simp
  rw [e0]
  have hoL : (h1.push (seqObj "list" vs.toArray 0)).get? h1.objs.size = some (seqObj "list" vs.toArray 0) := Heap.get?_push_size _ rfl
  have keep : ∀ b o, s.heap.get? b = some o → b ≠ h1.objs.size ∧ (h1.push (seqObj "list" vs.toArray 0)).get? b = some o := fun b o q =>
    ⟨Nat.ne_of_lt (Heap.lt_size (kp b o q)), Heap.get?_push_of_some _ (kp b o q)⟩
  refine wpAny_bind (wpAny_holding (wpAny_call_entry (s := { s with heap := h1.push (seqObj "list" vs.toArray 0) }) slot_list_sort ⟨_, hoL, rfl⟩ entry_list_sort (SrtO.list_sort_ord O hoL hz (fun h2 => hS h2 _ _ hoL keep) fun out hs hb => ⟨_, rfl, ?_⟩) (args_list_sort _)))
  exact wpAny_pure ⟨_, rfl, h h1 out kp hs hb⟩
theorem cr_sortedA {X : Cx} : CallR X (.builtin "sorted") (rSortedA X.K) := by
  intro pins s σ H vs us Q I r h
  obtain ⟨a, ns, rfl, hs | hs, q⟩ := h
  · exact cr_sortedI pins s σ H _ us Q I r ⟨a, ns, rfl, hs, q⟩
  · obtain ⟨its, rv, hl, hz⟩ := I.tuple hs
    rw [Vals.ref1 r]
    have hi := rv.ints
    refine sorted_tup SrtO.swo_int hl (by rw [← rv.length]; exact hz) (fun h2 h₁ a' _ _ => SrtO.ints_sortable hi h2) fun h1 out kp p1 p2 => ?_
    obtain ⟨k1, k2, k3⟩ := SrtO.ints_out hi p1 p2
    have I1 : Inv X pins σ H { s with heap := h1 } := I.kept (t' := s.toks) kp
    have hoL : (h1.push (seqObj "list" its.toArray 0)).get? h1.objs.size = some (seqObj "list" its.toArray 0) := Heap.get?_push_size _ rfl
    obtain ⟨ep, he'⟩ := PyProof.Rows.sortedHeap_at (vs := its) (out := out.toArray) hoL
    have hlen : ((out.map SrtO.iv).map V.int).length ≤ sizeLine := by
      rw [List.length_map, k2.length_eq]
      rw [List.length_map] at hz
      exact hz
    refine ⟨.ref _, upd H h1.objs.size (.lst ((out.map SrtO.iv).map V.int)), I1.laid (t' := s.toks) (fun b o q => ?_) (Nat.le_refl _) ⟨hlen, out, ep, vals_of_ints k1, he'⟩, rfl, q _ _ k2 k3 (I1.hok.fresh (Nat.le_refl _))⟩
    have hb : b < h1.objs.size := Heap.lt_size q
    rw [PyProof.Rows.sortedHeap_old (Nat.ne_of_lt hb) (by rw [Heap.size_push]; exact Nat.lt_succ_of_lt hb)]
    exact Heap.get?_push_of_some _ q
/-! ### xs[i] of a list or a tuple -/
def rIxA (K : PySem.W.Frag) : R2 := fun x y H Q => ∃ p xs i v, x = .ref p ∧ y = .int i ∧ SqA K H p xs ∧ atI xs i = some v ∧ Q v H
theorem ix_A {X : Cx} : IxR X (rIxA X.K) := by
  intro value slice pins s σ H x y v u Q I rx ry h hs
  obtain ⟨p, xs, i, z, e1, e2, hq | hq, he, q⟩ := h
  · exact ix_list value slice pins s σ H x y v u Q I rx ry ⟨p, xs, i, z, e1, e2, hq, he, q⟩ hs
  · exact ix_tup value slice pins s σ H x y v u Q I rx ry ⟨p, xs, i, z, e1, e2, hq, he, q⟩ hs
/-- a def of the top as the head has it -/
abbrev FnP (K : PySem.W.Frag) (x : Str) (st : Stmt) (f : Addr) (fd : FuncData) : Prop := FunD K x x (defArgs st) (defBody st) (defScope st) [] [] f fd
/-- the def of the module's name x keeps sp -/
structure Cal (P : Program) (w : World) (K : PySem.W.Frag) (mg : Str → Option Value) (base : Heap) (k : Nat) (x : Str) (sp : Sp) (dvs : List V) : Prop where
  ex : ∃ (f : Addr) (fd : FuncData) (ps : List Str) (ds : List Value), FnOk P w K mg base CX0 k f fd ps sp ∧ mg x = some (.ref f) ∧ PySem.W.keepIn K (.ref f) = true ∧ Binds K fd ps ds ∧ Vals dvs ds
section
variable {X : Cx} {e : Expr} {es : List Expr} {p pos : Pos} {k j : Nat} {x : Str} {sp : Sp} {dvs : List V} {t : TA}
theorem pe_c (c : Cal X.prog X.w X.K X.mg X.base k x sp dvs) (hr : Room j X.A) (hk : k ≤ j) (hg : Gl X x) (ha : PA X (e :: es) t)
    (hdb : (x == ("__debug__" : Str)) = false := by decide) (he : starEach (e :: es) X.env = (false, eval e X.env) :: starEach es X.env := by rfl) (hpl : (backTo pos (starEach es X.env)).any (·.1) = false := by rfl) :
    PE X (.Call (.Name x p) (e :: es) [] pos) (tCall sp dvs E0 t) := by
  obtain ⟨f, fd, ps, ds, F, hm, kp, b, d⟩ := c.ex
  exact pe_call F (hr.mono hk) hg hm kp b d pass0 ha hdb he hpl
theorem pe_gc {v : V} (hg : Gl X x) (h : ∃ u, X.mg x = some u ∧ RelV v u) (hd : (x == ("__debug__" : Str)) = false := by decide) : PE X (.Name x pos) (tC v) := by
  obtain ⟨u, hm, r⟩ := h
  exact pe_glob hg hm r hd
end
end LW
namespace LW
open PySem PySem.Spec PyProof.Rows L2
/-! ### stepping through a reading: the side conditions, the steps -/
abbrev St := L2.St
theorem sz100 {n : Nat} (h : n ≤ 100) : n ≤ sizeLine := Nat.le_trans h (by decide)
theorem sz1000 {n : Nat} (h : n < 1000) : n < sizeLine := Nat.lt_trans h (by decide)
theorem mod_b {x m : Int} (hm : 0 < m) (h : m ≤ 2 ^ 62) : (x % m).natAbs < 2 ^ 64 := by
  have h1 := Int.emod_nonneg x (Int.ne_of_gt hm)
  have h2 := Int.emod_lt_of_pos x hm
  omega
local macro_rules | `(tactic| walk_at "side") => `(tactic| first | assumption | (with_reducible show (0 : Int) < _; omega) | exact rfl | exact SqL.of (by assumption) | exact SqT.of (by assumption) | exact Or.inl ⟨rfl, _, SqL.of (by assumption)⟩ | exact SqL.of upd_same | exact upd_same | exact ClsV.ty _ | exact TyX.base (.int _) | exact TyX.base (.bl _) | exact TyX.base (.str _) | exact TyX.base .non | (show CMul _ _; first | exact Or.inl ⟨by omega, by omega⟩ | exact Or.inr ⟨by omega, by omega⟩) | (show CPow _ _; first | exact ⟨by omega, by omega, by decide⟩ | exact ⟨by omega, by omega, mod_b (by omega) (by omega)⟩) | exact Or.inl ⟨_, by assumption, rfl⟩ | exact Or.inl ⟨_, SqL.of (by assumption), rfl⟩ | exact Or.inr ⟨_, by assumption, rfl⟩ | exact sz100 (Nat.le_of_ble_eq_true rfl) | exact Or.inl (SqL.of (by assumption)) | exact Or.inr (SqT.of (by assumption)) | exact ⟨_, SqL.of (by assumption)⟩ | exact ⟨_, SqT.of (by assumption)⟩ | exact ⟨_, (by assumption)⟩ | exact Or.inr (SqT.of upd_same) | exact RgOk.of_le (by omega) (by omega) (by omega) (by omega) | exact Nat.le_of_ble_eq_true rfl | exact DGet.k (k := Sum.inl _) (by assumption) | exact DPut.k (k := Sum.inl _) (by assumption) (sz1000 (by omega)))
local macro_rules | `(tactic| walk_at "go") => `(tactic| repeat (first | ((fail_if_success (with_reducible refine ite2 (fun _ => ?_) (fun _ => ?_))); first | (refine And.intro (by walk_at "side") ?_) | (refine ⟨_, rfl, ?_⟩) | (refine ⟨_, _, rfl, rfl, ?_⟩) | (apply Exists.intro) | (refine Or.inl ⟨_, rfl, ?_⟩) | (refine Or.inr ⟨_, rfl, ?_⟩)) | ((fail_if_success (with_reducible show (if decide ((_ : Int) < (_ : Int)) = true then _ else _))); (fail_if_success (with_reducible show (if decide ((_ : Int) ≤ (_ : Int)) = true then _ else _))); (fail_if_success (with_reducible show (if decide (V.int _ = V.int _) = true then _ else _))); (fail_if_success (with_reducible show (if (!decide (V.int _ = V.int _)) = true then _ else _))); first | (refine iteF ?_) | (refine iteT ?_))))
theorem nxt {P : (St → Hp → Prop) → Prop} {R : St → Hp → Prop} (h : ∀ N : St → Hp → Prop, (∀ σ H, R σ H → N σ H) → P N) : ∃ N : St → Hp → Prop, (∀ σ' H', N σ' H' → R σ' H') ∧ P N := ⟨R, fun _ _ z => z, h R fun _ _ z => z⟩
/-- a for: the invariant I, what is behind a turn a letter N -/
theorem for_w {J : It} {n : Nat} {G : Hp → Prop} {Y : Nat → Hp → V → Hp → Prop} (w : Walk J n G Y) {g : TG} {tb : TS} {D : Ends} {σ : St} {H : Hp} (I : Nat → St → Hp → Prop) (h0 : I 0 σ H) (hG : ∀ i σ H, i ≤ n → I i σ H → G H)
    (hs : ∀ (N : St → Hp → Prop) i x σ H H', (∀ σ' H', I (i + 1) σ' H' → N σ' H') → i < n → I i σ H → Y i H x H' → g x σ H' fun σ2 H2 => tb { D with nx := N, ct := N, bk := D.nx } σ2 H2) (hd : ∀ σ H, I n σ H → D.nx σ H) :
    ∃ W : Nat → Nat → St → Hp → Prop, (∃ m, W 0 m σ H) ∧ ∀ i m σ H, W i m σ H →
      (J.stop i H ∧ D.nx σ H) ∨ (J.go i H ∧ ∃ N : St → Hp → Prop, (∀ σ' H', N σ' H' → ∃ m', m' < m ∧ W (i + 1) m' σ' H') ∧ ∀ x H', J.yld i H x H' → g x σ H' fun σ2 H2 => tb { D with nx := N, ct := N, bk := D.nx } σ2 H2) :=
  for_it w I h0 hG (fun i x σ H H' hi p y => hs (I (i + 1)) i x σ H H' (fun _ _ z => z) hi p y) hd
/-- a comprehension likewise -/
theorem lc_w {J : It} {n : Nat} {G : Hp → Prop} {Y : Nat → Hp → V → Hp → Prop} (w : Walk J n G Y) {g : TG} {tt : TT} {te : TE} {vs : List Nat} {σ : St} {H1 : Hp} {D : Addr} {Qd : Hp → Prop} (I : Nat → Hp → Prop) (h0 : I 0 (upd H1 D (.lst []))) (hG : ∀ i H, i ≤ n → I i H → G H)
    (hs : ∀ (N : Hp → Prop) i x H H', (∀ H', I (i + 1) H' → N H') → i < n → I i H → Y i H x H' → g x (wipe σ vs) H' fun σ2 H2 => wipe σ2 vs = wipe σ vs ∧ tt σ2 H2 fun b H3 =>
      if b = true then te σ2 H3 fun y H4 => ∃ acc, H4 D = some (.lst acc) ∧ acc.length < sizeLine ∧ N (upd H4 D (.lst (acc ++ [y]))) else N H3) (hd : ∀ H, I n H → Qd H) :
    ∃ W : Nat → Nat → Hp → Prop, (∃ m, W 0 m (upd H1 D (.lst []))) ∧ ∀ i m H, W i m H →
      (J.stop i H ∧ Qd H) ∨ (J.go i H ∧ ∃ Nx : Hp → Prop, (∀ H', Nx H' → ∃ m', m' < m ∧ W (i + 1) m' H') ∧ ∀ x H', J.yld i H x H' → g x (wipe σ vs) H' fun σ2 H2 => wipe σ2 vs = wipe σ vs ∧ tt σ2 H2 fun b H3 =>
        if b = true then te σ2 H3 fun y H4 => ∃ acc, H4 D = some (.lst acc) ∧ acc.length < sizeLine ∧ Nx (upd H4 D (.lst (acc ++ [y]))) else Nx H3) :=
  lc_it w I h0 hG (fun i x H H' hi p y => hs (I (i + 1)) i x H H' (fun _ z => z) hi p y) hd
/-! ### pools of draws -/
/-- the four cells of a pool -/
def poolV (l c k m : Int) : List V := [.int l, .int c, .int k, .int m]
def Pool (H : Hp) (a : Addr) : Prop := ∃ l c k m, 0 ≤ l ∧ H a = some (.lst (poolV l c k m))
/-- all but what stands at a is as it was -/
def Fr (a : Addr) (H H' : Hp) : Prop := ∀ b o, b ≠ a → H b = some o → H' b = some o
def sp__law_pool (K : PySem.W.Frag) : Sp := fun vs H Q _ => ∃ (a : Addr) (ns : List Int) (k : Nat), vs = [.ref a, .int k] ∧ SqL K H a (ns.map V.int) ∧
  ∀ p H', H p = none → Evl.Ex H H' → Pool H' p → Q (.ref p) H'
/-- not too wide a draw -/
structure Wd (n : Int) : Prop where
  le : n ≤ 10 ^ 40
def sp__law_take (K : PySem.W.Frag) : Sp := fun vs H Q _ => ∃ (a : Addr) (n : Int), vs = [.ref a, .int n] ∧ Pool H a ∧ 0 < n ∧ Wd n ∧
  ∀ v H', 0 ≤ v → v < n → Pool H' a → Fr a H H' → Q (.int v) H'
theorem len__law_pool {K : PySem.W.Frag} {vs : List V} {H : Hp} {Q : VK} {E : XK} (h : sp__law_pool K vs H Q E) : vs.length = 2 := by
  obtain ⟨_, _, _, rfl, _⟩ := h; rfl
theorem len__law_take {K : PySem.W.Frag} {vs : List V} {H : Hp} {Q : VK} {E : XK} (h : sp__law_take K vs H Q E) : vs.length = 2 := by
  obtain ⟨_, _, rfl, _⟩ := h; rfl
abbrev N__law_pool : List Str := ["_law_script", "_law_k", "_law_cell", "_law_left"]
def t__law_pool (K : PySem.W.Frag) (w : World) : TS :=
  (tSeq (tAsg (tC (.int 0)) (gName 2))
  (tSeq (tIfS (tTest (tOp rGtI (tCB (rLen K) (tCons (tVar 0) tNil)) (tC (.int 0)))) (tAsg (tOp (rIxL K) (tVar 0) (tOp rModI (tVar 1) (tCB (rLen K) (tCons (tVar 0) tNil)))) (gName 2)) tNext)
  (tSeq (tAsg (tC (.int 0)) (gName 3))
  (tSeq (tIfS (tAnd (tTest (tOp rLtI (tVar 1) (tCB (rLen K) (tCons (tVar 0) tNil)))) (tTest (tOp rGeI (tCB rAbs (tCons (tVar 2) tNil)) (tOp rPowI (tC (.int 10)) (tC (.int 18)))))) (tAsg (tCB rAbs (tCons (tVar 2) tNil)) (gName 3)) tNext)
  (tRet (tLst (tCons (tVar 3) (tCons (tVar 2) (tCons (tVar 1) (tCons (tC (.int 0)) tNil))))))))))


abbrev N__law_take : List Str := ["_law_pool_here", "_law_wide", "_law_found", "_law_reach", "_law_a", "_law_b"]
def t__law_take (K : PySem.W.Frag) (w : World) : TS :=
  (tSeq (tIfS (tTest (tOp rGtI (tOp (rIxL K) (tVar 0) (tC (.int 0))) (tC (.int 0)))) (tSeq (tAsg (tOp rModI (tOp (rIxL K) (tVar 0) (tC (.int 0))) (tVar 1)) (gName 2))
  (tSeq (tAsg (tOp rDivW (tOp (rIxL K) (tVar 0) (tC (.int 0))) (tVar 1)) (gSub (tVar 0) (tC (.int 0)) rSetL))
  (tRet (tVar 2)))) tNext)
  (tSeq (tAsg (tC (.int 0)) (gName 2))
  (tSeq (tAsg (tC (.int 1)) (gName 3))
  (tSeq (tWhile (tTest (tOp rLtI (tVar 3) (tVar 1)))
  (tSeq (tAugS (tVar 0) (tC (.int 3)) (tC (.int 1)) (rIxL K) (ipI fun i j => i + j) rSetL)
  (tSeq (tAsg (tOp rModI (tOp rAddI (tOp rAddI (tOp rAddI (tOp (rIxL K) (tVar 0) (tC (.int 1))) (tOp rMulI (tC (.int 7919)) (tOp (rIxL K) (tVar 0) (tC (.int 2))))) (tOp rMulI (tC (.int 104729)) (tOp (rIxL K) (tVar 0) (tC (.int 3))))) (tC (.int 57))) (tC (.int 2147483647))) (gName 4))
  (tSeq (tAsg (tOp rModI (tOp rPowI (tVar 4) (tC (.int 5))) (tC (.int 2147483629))) (gName 4))
  (tSeq (tAsg (tOp rModI (tOp rAddI (tOp rAddI (tVar 4) (tOp rMulI (tC (.int 40692)) (tOp (rIxL K) (tVar 0) (tC (.int 2))))) (tOp rMulI (tC (.int 6971)) (tOp (rIxL K) (tVar 0) (tC (.int 3))))) (tC (.int 2147483587))) (gName 5))
  (tSeq (tAsg (tOp rAddI (tOp rMulI (tVar 2) (tC (.int 1000000007))) (tOp rModI (tOp rAddI (tOp rModI (tOp rPowI (tVar 5) (tC (.int 5))) (tC (.int 2147483587))) (tVar 4)) (tC (.int 1000000007)))) (gName 2))
  (tAsg (tOp rMulI (tVar 3) (tC (.int 1000000007))) (gName 3))))))))
  (tRet (tOp rModI (tVar 2) (tVar 1)))))))


theorem pool_upd {H : Hp} {a : Addr} {l c k m : Int} (hl : 0 ≤ l) : Pool (upd H a (.lst (poolV l c k m))) a := ⟨l, c, k, m, hl, upd_same⟩
theorem Fr.refl (a : Addr) (H : Hp) : Fr a H H := fun _ _ _ h => h
theorem Fr.upd {a : Addr} {H H' : Hp} (f : Fr a H H') (o : HO) : Fr a H (L2.upd H' a o) := fun b u hb h => by
  rw [upd_ne hb]
  exact f b u hb h
theorem Fr.trans {a : Addr} {H H1 H2 : Hp} (f : Fr a H H1) (g : Fr a H1 H2) : Fr a H H2 := fun b o hb h => g b o hb (f b o hb h)
theorem pure__law_take {K : PySem.W.Frag} {w : World} {vs : List V} {H : Hp} {Q : VK} {E : XK} (h : sp__law_take K vs H Q E) : t__law_take K w { nx := fun _ H' => Q .non H', rt := Q } (start N__law_take vs) H := by
  obtain ⟨a, n, rfl, ⟨l, c, k, m, hl, ha⟩, hn, ⟨hN⟩, kQ⟩ := h
  have hS : SqL K H a (poolV l c k m) := SqL.of ha
  walk_at "go"
  refine ite2 (fun hc => ?_) (fun hc => ?_)
  · walk_at "go"
    refine And.intro (wide_div (b := 140) hn (by omega) (by decide) (by decide)) ?_
    walk_at "go"
    refine kQ _ _ (Int.emod_nonneg _ (Int.ne_of_gt hn)) (Int.emod_lt_of_pos _ hn) (pool_upd (Int.ediv_nonneg hl (Int.le_of_lt hn))) ((Fr.refl a H).upd _)
  · refine ⟨fun M σ H' => ∃ f r x y, σ = [some (.ref a), some (.int n), some (.int f), some (.int r), x, y] ∧ 1 ≤ r ∧ M = (n - r).toNat ∧ Pool H' a ∧ Fr a H H', ⟨_, 0, 1, none, none, rfl, by omega, rfl, ⟨l, c, k, m, hl, ha⟩, Fr.refl a H⟩, ?_⟩
    rintro M σ H' ⟨f, r, x, y, rfl, hr, rfl, ⟨l', c', k', m', hl', ha'⟩, fr⟩
    have hS' : SqL K H' a (poolV l' c' k' m') := SqL.of ha'
    walk_at "go"
    refine ite2 (fun hc => ?_) (fun hc => ?_)
    · refine nxt fun N hN => ?_
      walk_at "go"
      refine hN _ _ ⟨_, ?_, _, _, _, _, rfl, ?_, rfl, pool_upd hl', fr.upd _⟩
      · have := of_decide_eq_true hc
        omega
      · omega
    · walk_at "go"
      exact kQ _ _ (Int.emod_nonneg _ (Int.ne_of_gt hn)) (Int.emod_lt_of_pos _ hn) ⟨l', c', k', m', hl', ha'⟩ fr
theorem atI_mod {ns : List Int} (k : Int) (h : 0 < ((ns.map V.int).length : Int)) : ∃ z, atI (ns.map V.int) (k % ((ns.map V.int).length : Int)) = some (.int z) := by
  have h1 := Int.emod_nonneg k (Int.ne_of_gt h)
  have h2 := Int.emod_lt_of_pos k h
  obtain ⟨j, hj⟩ : ∃ j : Nat, k % ((ns.map V.int).length : Int) = (j : Int) := ⟨(k % ((ns.map V.int).length : Int)).toNat, by omega⟩
  rw [hj] at h2 ⊢
  have h3 : j < ns.length := by rw [List.length_map] at h2; omega
  exact ⟨ns[j], atI_nat (by rw [List.getElem?_map, List.getElem?_eq_getElem h3] <;> rfl)⟩
theorem abs_nn (z : Int) : 0 ≤ iabs z := by rw [iabs_eq]; split <;> omega
theorem pure__law_pool {K : PySem.W.Frag} {w : World} {vs : List V} {H : Hp} {Q : VK} {E : XK} (h : sp__law_pool K vs H Q E) : t__law_pool K w { nx := fun _ H' => Q .non H', rt := Q } (start N__law_pool vs) H := by
  obtain ⟨a, ns, k, rfl, hS, kQ⟩ := h
  walk_at "go"
  refine ite2 (fun hc => ?_) (fun hc => ?_)
  · have hc' := of_decide_eq_true hc
    obtain ⟨z, hz⟩ := atI_mod (ns := ns) k hc'
    walk_at "go"
    refine ite2 (fun h1 => ?_) (fun h1 => ?_)
    · walk_at "go"
      refine ite2 (fun h2 => ?_) (fun h2 => ?_)
      · walk_at "go"
        exact fun p hp => kQ p _ hp (Evl.Ex.new hp) ⟨_, _, _, _, abs_nn z, upd_same⟩
      · walk_at "go"
        exact fun p hp => kQ p _ hp (Evl.Ex.new hp) ⟨_, _, _, _, Int.le_refl 0, upd_same⟩
    · walk_at "go"
      exact fun p hp => kQ p _ hp (Evl.Ex.new hp) ⟨_, _, _, _, Int.le_refl 0, upd_same⟩
  · walk_at "go"
    refine ite2 (fun h1 => ?_) (fun h1 => ?_)
    · walk_at "go"
      refine ite2 (fun h2 => ?_) (fun h2 => ?_)
      · walk_at "go"
        exact fun p hp => kQ p _ hp (Evl.Ex.new hp) ⟨_, _, _, _, abs_nn 0, upd_same⟩
      · walk_at "go"
        exact fun p hp => kQ p _ hp (Evl.Ex.new hp) ⟨_, _, _, _, Int.le_refl 0, upd_same⟩
    · walk_at "go"
      exact fun p hp => kQ p _ hp (Evl.Ex.new hp) ⟨_, _, _, _, Int.le_refl 0, upd_same⟩
end LW
namespace LW
open PySem PySem.Spec PyProof.Rows L2
open Evl (Ex)
theorem kk {K : PySem.W.Frag} {n m : String} {b : Bool} (h : PySem.W.kitOne [] (.type n) (.type m) = some b) : PySem.W.kitOne K (.type n) (.type m) = some b := h
section
variable {K : PySem.W.Frag}
theorem kit_ii : PySem.W.kitOne K (.type "int") (.type "int") = some true := kk (by decide +kernel)
theorem kit_ib : PySem.W.kitOne K (.type "int") (.type "bool") = some false := kk (by decide +kernel)
theorem kit_bi : PySem.W.kitOne K (.type "bool") (.type "int") = some true := kk (by decide +kernel)
theorem kit_bb : PySem.W.kitOne K (.type "bool") (.type "bool") = some true := kk (by decide +kernel)
theorem kit_ni : PySem.W.kitOne K (.type "NoneType") (.type "int") = some false := kk (by decide +kernel)
theorem kit_nb : PySem.W.kitOne K (.type "NoneType") (.type "bool") = some false := kk (by decide +kernel)
theorem kit_si : PySem.W.kitOne K (.type "str") (.type "int") = some false := kk (by decide +kernel)
theorem kit_sb : PySem.W.kitOne K (.type "str") (.type "bool") = some false := kk (by decide +kernel)
end
local macro_rules | `(tactic| walk_at "kit") => `(tactic| first | exact kit_ii | exact kit_ib | exact kit_bi | exact kit_bb | exact kit_ni | exact kit_nb | exact kit_si | exact kit_sb)
local macro_rules | `(tactic| walk_at "side") => `(tactic| first | (with_reducible show PySem.W.kitOne _ _ _ = some _; walk_at "kit") | assumption | (with_reducible show (0 : Int) < _; omega) | exact Wd.mk (by omega) | exact rfl | exact SqL.of (by assumption) | exact SqT.of (by assumption) | exact Or.inl ⟨rfl, _, SqL.of (by assumption)⟩ | exact SqL.of upd_same | exact upd_same | exact ClsV.ty _ | exact TyX.base (.int _) | exact TyX.base (.bl _) | exact TyX.base (.str _) | exact TyX.base .non | (show CMul _ _; first | exact Or.inl ⟨by omega, by omega⟩ | exact Or.inr ⟨by omega, by omega⟩) | (show CPow _ _; first | exact ⟨by omega, by omega, by decide⟩ | exact ⟨by omega, by omega, mod_b (by omega) (by omega)⟩) | exact Or.inl ⟨_, by assumption, rfl⟩ | exact Or.inl ⟨_, SqL.of (by assumption), rfl⟩ | exact Or.inr ⟨_, by assumption, rfl⟩ | exact sz100 (Nat.le_of_ble_eq_true rfl) | exact Or.inl (SqL.of (by assumption)) | exact Or.inr (SqT.of (by assumption)) | exact ⟨_, SqL.of (by assumption)⟩ | exact ⟨_, SqT.of (by assumption)⟩ | exact ⟨_, (by assumption)⟩ | exact Or.inr (SqT.of upd_same) | exact RgOk.of_le (by omega) (by omega) (by omega) (by omega) | exact Nat.le_of_ble_eq_true rfl | exact DGet.k (k := Sum.inl _) (by assumption) | exact DPut.k (k := Sum.inl _) (by assumption) (sz1000 (by omega)))
local macro_rules | `(tactic| walk_at "go") => `(tactic| repeat (first | ((fail_if_success (with_reducible refine ite2 (fun _ => ?_) (fun _ => ?_))); first | (refine And.intro (by walk_at "side") ?_) | (refine ⟨_, rfl, ?_⟩) | (refine ⟨_, _, rfl, rfl, ?_⟩) | (apply Exists.intro) | (refine Or.inl ⟨_, rfl, ?_⟩) | (refine Or.inr ⟨_, rfl, ?_⟩)) | ((fail_if_success (with_reducible show (if decide ((_ : Int) < (_ : Int)) = true then _ else _))); (fail_if_success (with_reducible show (if decide ((_ : Int) ≤ (_ : Int)) = true then _ else _))); (fail_if_success (with_reducible show (if decide (V.int _ = V.int _) = true then _ else _))); (fail_if_success (with_reducible show (if (!decide (V.int _ = V.int _)) = true then _ else _))); first | (refine iteF ?_) | (refine iteT ?_))))
/-! ### operations, histories -/
abbrev Op := Bool × Int × Int × Option Int
def endV : Option Int → V
  | none => .non
  | some e => .int e
def kindS (w : Bool) : Str := if w then "write" else "read"
def opV (o : Op) : List V := [.str (kindS o.1), .int o.2.1, .int o.2.2.1, endV o.2.2.2]
abbrev OpAt (K : PySem.W.Frag) (H : Hp) (r : Addr) (o : Op) : Prop := SqA K H r (opV o)
structure HisAt (K : PySem.W.Frag) (H : Hp) (a : Addr) (rs : List Addr) (os : List Op) : Prop where
  sq : SqA K H a (rs.map V.ref)
  len : rs.length = os.length
  at_ : ∀ (i : Nat) (r : Addr) (o : Op), rs[i]? = some r → os[i]? = some o → OpAt K H r o
theorem HisAt.ex {K : PySem.W.Frag} {H H' : Hp} {a : Addr} {rs : List Addr} {os : List Op} (e : Ex H H') (h : HisAt K H a rs os) : HisAt K H' a rs os :=
  ⟨h.sq.ex e, h.len, fun i r o h1 h2 => (h.at_ i r o h1 h2).ex e⟩
def okOp : Op → Bool
  | (w, n, b, some e) => decide (b ≤ e) && decide ((if w then 1 else 0) ≤ n)
  | (true, n, _, none) => decide (1 ≤ n)
  | (false, _, _, none) => false
def wn (os : List Op) : List Int := os.filterMap fun o => if o.1 then some o.2.1 else none
structure WF (os : List Op) : Prop where
  len : os.length ≤ 40
  ok : ∀ o ∈ os, okOp o = true
  nd : (wn os).Nodup
theorem wn_take_succ {os : List Op} {i : Nat} {o : Op} (h : os[i]? = some o) : wn (os.take (i + 1)) = wn (os.take i) ++ (if o.1 then [o.2.1] else []) := by
  have hi : i < os.length := (List.getElem?_eq_some_iff.mp h).1
  have e : os.take (i + 1) = os.take i ++ [o] := by
    rw [List.take_succ, h]; rfl
  unfold wn
  rw [e, List.filterMap_append]
  congr 1
  cases hw : o.1 <;> simp [hw]
theorem wn_new {os : List Op} (nd : (wn os).Nodup) {i : Nat} {o : Op} (h : os[i]? = some o) (hw : o.1 = true) : o.2.1 ∉ wn (os.take i) := by
  have e : os = os.take (i + 1) ++ os.drop (i + 1) := (List.take_append_drop _ _).symm
  have e2 : wn os = wn (os.take (i + 1)) ++ wn (os.drop (i + 1)) := by
    unfold wn
    rw [← List.filterMap_append, ← e]
  rw [e2, wn_take_succ h, if_pos hw] at nd
  have n1 := (List.nodup_append.mp nd).1
  intro hm
  exact (List.nodup_append.mp n1).2.2 _ hm _ (List.mem_singleton.mpr rfl) rfl
/-! ### promises -/
def isInt : V → Bool
  | .int _ => true
  | _ => false
def sp_is_whole (K : PySem.W.Frag) : Sp := fun vs H Q _ => ∃ v : V, vs = [v] ∧ flatV v = true ∧ Q (.bl (isInt v)) H
def sp_is_operation (K : PySem.W.Frag) : Sp := fun vs H Q _ => ∃ (r : Addr) (o : Op), vs = [.ref r] ∧ OpAt K H r o ∧ ∀ H', Ex H H' → Q (.bl (okOp o)) H'
def sp_ask_history (K : PySem.W.Frag) : Sp := fun vs H Q _ => ∃ (a : Addr) (rs : List Addr) (os : List Op), vs = [.ref a] ∧ HisAt K H a rs os ∧ WF os ∧ ∀ H', Ex H H' → Q .non H'
theorem len_is_whole {K : PySem.W.Frag} {vs : List V} {H : Hp} {Q : VK} {E : XK} (h : sp_is_whole K vs H Q E) : vs.length = 1 := by
  obtain ⟨_, rfl, _⟩ := h; rfl
theorem len_is_operation {K : PySem.W.Frag} {vs : List V} {H : Hp} {Q : VK} {E : XK} (h : sp_is_operation K vs H Q E) : vs.length = 1 := by
  obtain ⟨_, _, rfl, _⟩ := h; rfl
theorem len_ask_history {K : PySem.W.Frag} {vs : List V} {H : Hp} {Q : VK} {E : XK} (h : sp_ask_history K vs H Q E) : vs.length = 1 := by
  obtain ⟨_, _, _, rfl, _⟩ := h; rfl
abbrev N_is_whole : List Str := ["thing"]
def t_is_whole (K : PySem.W.Frag) (w : World) : TS :=
  (tRet (tAndV (tCB (rIsi K) (tCons (tVar 0) (tCons (tC (.ty "int")) tNil))) (tNotV (tCB (rIsi K) (tCons (tVar 0) (tCons (tC (.ty "bool")) tNil))))))


abbrev N_is_operation : List Str := ["operation", "kind", "number", "begin", "end"]
def t_is_operation (K : PySem.W.Frag) (w : World) : TS :=
  (tSeq (tAsg (tVar 0) (gUn K 4 (gCons (gName 1) (gCons (gName 2) (gCons (gName 3) (gCons (gName 4) gNil))))))
  (tSeq (tIfS (tOr (tTest (tOp (rIn K true) (tVar 1) (tTup (tCons (tC (.str "write")) (tCons (tC (.str "read")) tNil))))) (tOr (tNot (tB (tCall (sp_is_whole K) [] E0 (tCons (tVar 2) tNil)))) (tNot (tB (tCall (sp_is_whole K) [] E0 (tCons (tVar 3) tNil)))))) (tRet (tC (.bl false))) tNext)
  (tSeq (tIfS (tAnd (tTest (tOp rEq (tVar 1) (tC (.str "write")))) (tTest (tOp rIsN (tVar 4) (tC .non)))) (tRet (tOp rGeI (tVar 2) (tC (.int 1)))) tNext)
  (tRet (tAndV (tCall (sp_is_whole K) [] E0 (tCons (tVar 4) tNil)) (tAndV (tOp rLeI (tVar 3) (tVar 4)) (tOp rGeI (tVar 2) (tCB rInt1 (tCons (tOp rEq (tVar 1) (tC (.str "write"))) tNil)))))))))


abbrev N_ask_history : List Str := ["history", "written", "at", "operation", "kind", "number", "moments"]
def t_ask_history (K : PySem.W.Frag) (w : World) : TS :=
  (tSeq (tAsg tDNewK (gName 1))
  (tFor (iEnumA K (tCons (tVar 0) tNil)) (gUn K 2 (gCons (gName 2) (gCons (gName 3) gNil)))
  (tSeq (tIfS (tOr (tTest (tOp rEq (tVar 2) (tC (.int 40)))) (tNot (tB (tCall (sp_is_operation K) [] E0 (tCons (tVar 3) tNil))))) tNever tNext)
  (tSeq (tAsg (tVar 3) (gStar K 2 (gCons (gName 4) (gCons (gName 5) (gCons (gName 6) gNil)))))
  (tSeq (tIfS (tAnd (tTest (tOp rEq (tVar 4) (tC (.str "write")))) (tB (tDIn (tVar 5) (tVar 1)))) tNever tNext)
  (tIfS (tTest (tOp rEq (tVar 4) (tC (.str "write")))) (sDPut (tVar 1) (tVar 5) (tVar 2)) tNext))))))


theorem pure_is_whole {K : PySem.W.Frag} {w : World} {vs : List V} {H : Hp} {Q : VK} {E : XK} (h : sp_is_whole K vs H Q E) : t_is_whole K w { nx := fun _ H' => Q .non H', rt := Q } (start N_is_whole vs) H := by
  obtain ⟨v, rfl, hf, k⟩ := h
  cases v with
  | int i => walk_at "go"; exact k
  | non => walk_at "go"; exact k
  | str x => walk_at "go"; exact k
  | bl x => walk_at "go"; exact k
  | byt _ => cases hf
  | flt _ => cases hf
  | ref _ => cases hf
  | ty _ => cases hf
theorem kt : kindS true = Str.ofString "write" := rfl
theorem kf : ¬ (kindS false = Str.ofString "write") := by decide +kernel
theorem pure_is_operation {K : PySem.W.Frag} {w : World} {vs : List V} {H : Hp} {Q : VK} {E : XK} (h : sp_is_operation K vs H Q E) : t_is_operation K w { nx := fun _ H' => Q .non H', rt := Q } (start N_is_operation vs) H := by
  obtain ⟨r, ⟨wr, n, b, e⟩, rfl, hO, k⟩ := h
  have hO' : SqL K H r (opV (wr, n, b, e)) ∨ SqT K H r (opV (wr, n, b, e)) := hO
  walk_at "go"
  intro p hp
  have k' := k _ (Evl.Ex.new (o := .tup [V.str (Str.ofString "write"), V.str (Str.ofString "read")]) hp)
  cases wr <;> cases e <;> walk_at "go"
  · exact k'
  · refine ite2 (fun h1 => ?_) (fun h1 => ?_)
    · walk_at "go"
      simpa [okOp, of_decide_eq_true h1, kt, kf] using k'
    · simpa [okOp, h1] using k'
  · exact k'
  · refine ite2 (fun h1 => ?_) (fun h1 => ?_)
    · walk_at "go"
      simpa [okOp, of_decide_eq_true h1, kt, kf] using k'
    · simpa [okOp, h1] using k'
end LW
namespace LW
open PySem PySem.Spec PyProof.Rows L2
open Evl (Ex)
local macro_rules | `(tactic| walk_at "kit") => `(tactic| first | exact kit_ii | exact kit_ib | exact kit_bi | exact kit_bb | exact kit_ni | exact kit_nb | exact kit_si | exact kit_sb)
local macro_rules | `(tactic| walk_at "side") => `(tactic| first | (with_reducible show PySem.W.kitOne _ _ _ = some _; walk_at "kit") | assumption | (with_reducible show (0 : Int) < _; omega) | exact Wd.mk (by omega) | exact rfl | exact SqL.of (by assumption) | exact SqT.of (by assumption) | exact Or.inl ⟨rfl, _, SqL.of (by assumption)⟩ | exact SqL.of upd_same | exact upd_same | exact ClsV.ty _ | exact TyX.base (.int _) | exact TyX.base (.bl _) | exact TyX.base (.str _) | exact TyX.base .non | (show CMul _ _; first | exact Or.inl ⟨by omega, by omega⟩ | exact Or.inr ⟨by omega, by omega⟩) | (show CPow _ _; first | exact ⟨by omega, by omega, by decide⟩ | exact ⟨by omega, by omega, mod_b (by omega) (by omega)⟩) | exact Or.inl ⟨_, by assumption, rfl⟩ | exact Or.inl ⟨_, SqL.of (by assumption), rfl⟩ | exact Or.inr ⟨_, by assumption, rfl⟩ | exact sz100 (Nat.le_of_ble_eq_true rfl) | exact Or.inl (SqL.of (by assumption)) | exact Or.inr (SqT.of (by assumption)) | exact ⟨_, SqL.of (by assumption)⟩ | exact ⟨_, SqT.of (by assumption)⟩ | exact ⟨_, (by assumption)⟩ | exact Or.inr (SqT.of upd_same) | exact RgOk.of_le (by omega) (by omega) (by omega) (by omega) | exact Nat.le_of_ble_eq_true rfl | exact DGet.k (k := Sum.inl _) (by assumption) | exact DPut.k (k := Sum.inl _) (by assumption) (sz1000 (by omega)))
local macro_rules | `(tactic| walk_at "go") => `(tactic| repeat (first | ((fail_if_success (with_reducible refine ite2 (fun _ => ?_) (fun _ => ?_))); first | (refine And.intro (by walk_at "side") ?_) | (refine ⟨_, rfl, ?_⟩) | (refine ⟨_, _, rfl, rfl, ?_⟩) | (apply Exists.intro) | (refine Or.inl ⟨_, rfl, ?_⟩) | (refine Or.inr ⟨_, rfl, ?_⟩)) | ((fail_if_success (with_reducible show (if decide ((_ : Int) < (_ : Int)) = true then _ else _))); (fail_if_success (with_reducible show (if decide ((_ : Int) ≤ (_ : Int)) = true then _ else _))); (fail_if_success (with_reducible show (if decide (V.int _ = V.int _) = true then _ else _))); (fail_if_success (with_reducible show (if (!decide (V.int _ = V.int _)) = true then _ else _))); first | (refine iteF ?_) | (refine iteT ?_))))
theorem pure_ask_history {K : PySem.W.Frag} {w : World} {vs : List V} {H : Hp} {Q : VK} {E : XK} (h : sp_ask_history K vs H Q E) : t_ask_history K w { nx := fun _ H' => Q .non H', rt := Q } (start N_ask_history vs) H := by
  obtain ⟨a, rs, os, rfl, hH, wf, k⟩ := h
  intro d hd
  have e1 : Ex H (upd H d (.dK [])) := Evl.Ex.new hd
  refine ⟨_, rfl, a, rs.map V.ref, H, rfl, hH.sq, e1, fun J G W hG => ?_⟩
  refine for_w W (fun i σ H' => ∃ (kvs : List (Key × V)) (x1 x2 x3 x4 x5 : Option V), σ = [some (.ref a), some (.ref d), x1, x2, x3, x4, x5] ∧ Ex H H' ∧ H' d = some (.dK kvs) ∧ kvs.length ≤ i ∧ ∀ n : Int, (valV kvs (Sum.inl n : Key)).isSome = true → n ∈ wn (os.take i))
    ⟨[], none, none, none, none, none, rfl, e1, upd_same, Nat.le_refl _, fun n z => by cases z⟩ ?_ ?_ ?_
  · rintro i σ H' hi ⟨kvs, x1, x2, x3, x4, x5, rfl, ex, hd', hl, hk⟩
    exact hG H' ex
  · rintro N i x σ H' H2 hN hi ⟨kvs, x1, x2, x3, x4, x5, rfl, ex, hd', hl, hk⟩ ⟨T, u, v, rfl, hT, rfl, hu, hv⟩
    rw [List.length_map] at hi
    cases hu
    have hv : (rs.map V.ref)[i]? = some v := hv
    have hio : i < os.length := hH.len ▸ hi
    have hr : rs[i]? = some rs[i] := List.getElem?_eq_getElem hi
    have ho : os[i]? = some os[i] := List.getElem?_eq_getElem hio
    rw [List.getElem?_map, hr] at hv
    cases hv
    generalize rs[i] = r at *
    generalize os[i] = o at *
    have e2 : Ex H' (upd H' T (.tup [.int (i : Nat), .ref r])) := Evl.Ex.new hT
    have hO := (hH.at_ i r o hr ho).ex (ex.trans e2)
    have hTT : SqA K (upd H' T (.tup [.int (i : Nat), .ref r])) T [.int (i : Nat), .ref r] := .inr (SqT.of upd_same)
    have hok := wf.ok o (List.mem_of_getElem? ho)
    have hlen := wf.len
    walk_at "go"
    refine ite2 (fun hc => ?_) (fun hc => ?_)
    · exfalso
      have h1 := of_decide_eq_true hc
      injection h1 with h1
      have := wf.len
      omega
    walk_at "go"
    intro H3 e3
    rw [hok]
    have hO3 := hO.ex e3
    walk_at "go"
    intro p hp
    have e4 : Ex H3 (upd H3 p (.lst ((opV o).drop 2))) := Evl.Ex.new hp
    have e5 : Ex H' (upd H3 p (.lst ((opV o).drop 2))) := (e2.trans e3).trans e4
    have hd5 := e5 d _ hd'
    have hsucc := wn_take_succ ho
    obtain ⟨wr, n, b, e⟩ := o
    cases wr with
    | true =>
      have hv0 : valV kvs (Sum.inl n : Key) = none := by
        cases q : valV kvs (Sum.inl n : Key) with
        | none => rfl
        | some z => exact absurd (hk n (by rw [q]; rfl)) (wn_new wf.nd ho rfl)
      walk_at "go"
      rw [hv0]
      walk_at "go"
      refine hN _ _ ⟨_, _, _, _, _, _, rfl, Evl.Ex.mut (ex.trans e5) hd, upd_same, ?_, fun j hj => ?_⟩
      · rw [putK_new _ hv0, List.length_append]
        show kvs.length + 1 ≤ i + 1
        omega
      · rw [valV_put] at hj
        rw [hsucc, if_pos rfl, List.mem_append]
        by_cases hjn : (Sum.inl j : Key) = Sum.inl n
        · injection hjn with hjn
          exact .inr (List.mem_singleton.mpr hjn)
        · rw [if_neg hjn] at hj
          exact .inl (hk j hj)
    | false =>
      walk_at "go"
      refine hN _ _ ⟨kvs, _, _, _, _, _, rfl, ex.trans e5, hd5, by omega, fun j hj => ?_⟩
      rw [hsucc]
      simp
      exact hk j hj
  · rintro σ H' ⟨kvs, x1, x2, x3, x4, x5, rfl, ex, hd', hl, hk⟩
    exact k H' ex
end LW
namespace LW
open PySem PySem.Spec PyProof.Rows L2
open Evl (Ex)
local macro_rules | `(tactic| walk_at "kit") => `(tactic| first | exact kit_ii | exact kit_ib | exact kit_bi | exact kit_bb | exact kit_ni | exact kit_nb | exact kit_si | exact kit_sb)
local macro_rules | `(tactic| walk_at "side") => `(tactic| first | (with_reducible show PySem.W.kitOne _ _ _ = some _; walk_at "kit") | assumption | (with_reducible show (0 : Int) < _; omega) | exact Wd.mk (by omega) | exact rfl | exact SqL.of (by assumption) | exact SqT.of (by assumption) | exact Or.inl ⟨rfl, _, SqL.of (by assumption)⟩ | exact SqL.of upd_same | exact upd_same | exact ClsV.ty _ | exact TyX.base (.int _) | exact TyX.base (.bl _) | exact TyX.base (.str _) | exact TyX.base .non | (show CMul _ _; first | exact Or.inl ⟨by omega, by omega⟩ | exact Or.inr ⟨by omega, by omega⟩) | (show CPow _ _; first | exact ⟨by omega, by omega, by decide⟩ | exact ⟨by omega, by omega, mod_b (by omega) (by omega)⟩) | exact Or.inl ⟨_, by assumption, rfl⟩ | exact Or.inl ⟨_, SqL.of (by assumption), rfl⟩ | exact Or.inr ⟨_, by assumption, rfl⟩ | exact sz100 (Nat.le_of_ble_eq_true rfl) | exact Or.inl (SqL.of (by assumption)) | exact Or.inr (SqT.of (by assumption)) | exact ⟨_, SqL.of (by assumption)⟩ | exact ⟨_, SqT.of (by assumption)⟩ | exact ⟨_, (by assumption)⟩ | exact Or.inr (SqT.of upd_same) | exact RgOk.of_le (by omega) (by omega) (by omega) (by omega) | exact Nat.le_of_ble_eq_true rfl | exact DGet.k (k := Sum.inl _) (by assumption) | exact DPut.k (k := Sum.inl _) (by assumption) (sz1000 (by omega)))
local macro_rules | `(tactic| walk_at "go") => `(tactic| repeat (first | ((fail_if_success (with_reducible refine ite2 (fun _ => ?_) (fun _ => ?_))); first | (refine And.intro (by walk_at "side") ?_) | (refine ⟨_, rfl, ?_⟩) | (refine ⟨_, _, rfl, rfl, ?_⟩) | (apply Exists.intro) | (refine Or.inl ⟨_, rfl, ?_⟩) | (refine Or.inr ⟨_, rfl, ?_⟩)) | ((fail_if_success (with_reducible show (if decide ((_ : Int) < (_ : Int)) = true then _ else _))); (fail_if_success (with_reducible show (if decide ((_ : Int) ≤ (_ : Int)) = true then _ else _))); (fail_if_success (with_reducible show (if decide (V.int _ = V.int _) = true then _ else _))); (fail_if_success (with_reducible show (if (!decide (V.int _ = V.int _)) = true then _ else _))); first | (refine iteF ?_) | (refine iteT ?_))))
/-! ### orders: the mirror -/
def laterT (now : Option Int) (b : Int) : Int := match now with
  | none => b
  | some t => imax t b
def pastE (e : Option Int) (t : Int) : Bool := match e with
  | none => false
  | some e => decide (e < t)
def stepO (o : Op) (now : Option Int) (last : Int) : Option (Int × Int) :=
  if pastE o.2.2.2 (laterT now o.2.2.1) = true then none
  else if o.1 = true then some (laterT now o.2.2.1, o.2.1)
  else if o.2.1 = last then some (laterT now o.2.2.1, last) else none
def walkO (os : List Op) : List Int → Option Int → Int → Bool
  | [], _, _ => true
  | i :: r, now, last => match os[i.toNat]? with
    | none => false
    | some o => match stepO o now last with
      | none => false
      | some p => walkO os r (some p.1) p.2
def rgI (n : Nat) : List Int := (List.range n).map fun i => ((i : Nat) : Int)
def permB (n : Nat) (ns : List Int) : Bool := ns.isPerm (rgI n)
def isOrd (os : List Op) (ns : List Int) : Bool := permB os.length ns && walkO os ns none 0
theorem rgV_rgI (n : Nat) : rgV 0 (n : Int) = (rgI n).map V.int := by
  unfold rgV rgI
  rw [List.map_map]
  have e : ((n : Int) - 0).toNat = n := by omega
  rw [e]
  apply List.map_congr_left
  intro i _
  show V.int (0 + (i : Int)) = V.int (i : Int)
  rw [Int.zero_add]
theorem rgI_sorted (n : Nat) : (rgI n).Pairwise (· ≤ ·) := by
  unfold rgI
  rw [List.pairwise_map]
  exact List.pairwise_lt_range.imp fun {a b} h => by omega
theorem perm_eq {n : Nat} {ns ns' : List Int} (h : ns'.Perm ns) (hs : ns'.Pairwise (· ≤ ·)) : decide (ns' = rgI n) = permB n ns := by
  unfold permB
  rw [Bool.eq_iff_iff, decide_eq_true_iff, List.isPerm_iff]
  constructor
  · intro e
    rw [← e]
    exact h.symm
  · intro p
    exact PySem.W.ksm_same (h.trans p) hs (rgI_sorted n)
theorem perm_in {n : Nat} {ns : List Int} (h : permB n ns = true) {i : Nat} {z : Int} (hz : ns[i]? = some z) : ∃ j : Nat, z = (j : Int) ∧ j < n := by
  have p := List.isPerm_iff.mp h
  have hm : z ∈ rgI n := p.mem_iff.mp (List.mem_of_getElem? hz)
  unfold rgI at hm
  obtain ⟨j, hj, rfl⟩ := List.mem_map.mp hm
  exact ⟨j, rfl, List.mem_range.mp hj⟩
/-! ### promises -/
def spOrd (K : PySem.W.Frag) (wf : Bool) : Sp := fun vs H Q _ => ∃ (a p : Addr) (rs : List Addr) (os : List Op) (ns : List Int), vs = [.ref a, .ref p] ∧ HisAt K H a rs os ∧ (wf = true → WF os) ∧ os.length ≤ 1000 ∧ SqA K H p (ns.map V.int) ∧
  ∀ H', Ex H H' → Q (.bl (isOrd os ns)) H'
def sp_is_order (K : PySem.W.Frag) : Sp := spOrd K true
def sp__law_walks (K : PySem.W.Frag) : Sp := spOrd K false
theorem len_is_order {K : PySem.W.Frag} {vs : List V} {H : Hp} {Q : VK} {E : XK} (h : sp_is_order K vs H Q E) : vs.length = 2 := by
  obtain ⟨_, _, _, _, _, rfl, _⟩ := h; rfl
theorem len__law_walks {K : PySem.W.Frag} {vs : List V} {H : Hp} {Q : VK} {E : XK} (h : sp__law_walks K vs H Q E) : vs.length = 2 := by
  obtain ⟨_, _, _, _, _, rfl, _⟩ := h; rfl
abbrev N_is_order : List Str := ["history", "places", "now", "last", "at", "kind", "number", "begin", "end"]
def t_is_order (K : PySem.W.Frag) (w : World) : TS :=
  (tSeq (tDrop (tCall (sp_ask_history K) [] E0 (tCons (tVar 0) tNil)))
  (tSeq (tIfS (tTest (tOp (rNeD K) (tCB (rSortedA K) (tCons (tVar 1) tNil)) (tLstRg (tRg1 (tCB (rLen K) (tCons (tVar 0) tNil)))))) (tRet (tC (.bl false))) tNext)
  (tSeq (tAsg (tC .non) (gName 2))
  (tSeq (tAsg (tC (.int 0)) (gName 3))
  (tSeq (tFor (iSeq K (tVar 1)) (gName 4)
  (tSeq (tAsg (tOp (rIxA K) (tVar 0) (tVar 4)) (gUn K 4 (gCons (gName 5) (gCons (gName 6) (gCons (gName 7) (gCons (gName 8) gNil))))))
  (tSeq (tIfS (tOr (tTest (tOp rIsN (tVar 2) (tC .non))) (tTest (tOp rGtI (tVar 7) (tVar 2)))) (tAsg (tVar 7) (gName 2)) tNext)
  (tSeq (tIfS (tAnd (tTest (tOp rNotN (tVar 8) (tC .non))) (tTest (tOp rGtI (tVar 2) (tVar 8)))) (tRet (tC (.bl false))) tNext)
  (tIfS (tTest (tOp rEq (tVar 5) (tC (.str "write")))) (tAsg (tVar 6) (gName 3)) (tIfS (tTest (tOp rNe (tVar 6) (tVar 3))) (tRet (tC (.bl false))) tNext))))))
  (tRet (tC (.bl true))))))))


abbrev N__law_walks : List Str := ["_law_history", "_law_places", "_law_now", "_law_last", "_law_at", "_law_kind", "_law_number", "_law_begin", "_law_end"]
def t__law_walks (K : PySem.W.Frag) (w : World) : TS :=
  (tSeq (tIfS (tTest (tOp (rNeD K) (tCB (rSortedA K) (tCons (tVar 1) tNil)) (tLstRg (tRg1 (tCB (rLen K) (tCons (tVar 0) tNil)))))) (tRet (tC (.bl false))) tNext)
  (tSeq (tAsg (tC .non) (gName 2))
  (tSeq (tAsg (tC (.int 0)) (gName 3))
  (tSeq (tFor (iSeq K (tVar 1)) (gName 4)
  (tSeq (tAsg (tOp (rIxA K) (tVar 0) (tVar 4)) (gUn K 4 (gCons (gName 5) (gCons (gName 6) (gCons (gName 7) (gCons (gName 8) gNil))))))
  (tSeq (tAsg (tIf (tTest (tOp rIsN (tVar 2) (tC .non))) (tVar 7) (tCB rMax2I (tCons (tVar 2) (tCons (tVar 7) tNil)))) (gName 2))
  (tSeq (tIfS (tAnd (tTest (tOp rNotN (tVar 8) (tC .non))) (tTest (tOp rLtI (tVar 8) (tVar 2)))) (tRet (tC (.bl false))) tNext)
  (tSeq (tIfS (tTest (tOp rEq (tVar 5) (tC (.str "write")))) (tAsg (tVar 6) (gName 3)) tNext)
  (tIfS (tTest (tOp rNe (tVar 6) (tVar 3))) (tRet (tC (.bl false))) tNext))))))
  (tRet (tC (.bl true)))))))


theorem dp_ints {K : PySem.W.Frag} {H : Hp} : ∀ ns : List Int, DpAll K H (ns.map V.int) (ns.map PyData.int)
  | [] => .nil
  | n :: r => .cons (.int n) (dp_ints r)
theorem drop_at {α : Type} {l : List α} {i : Nat} {x : α} (h : l[i]? = some x) : l.drop i = x :: l.drop (i + 1) := by
  have hi := (List.getElem?_eq_some_iff.mp h).1
  rw [List.drop_eq_getElem_cons hi]
  rw [List.getElem?_eq_getElem hi] at h
  rw [Option.some.inj h]
theorem SqA.len {K : PySem.W.Frag} {H : Hp} {a : Addr} {xs : List V} (h : SqA K H a xs) : LenV K (.ref a) H xs.length := by
  rcases h with h | h
  · exact .inl ⟨_, h, rfl⟩
  · exact .inr ⟨_, h, rfl⟩
theorem eqv_ints (ns ms : List Int) : PyData.eqv (.list (ns.map PyData.int)) (.list (ms.map PyData.int)) = decide (ns = ms) := by
  rw [PyData.eqv]
  exact PySem.W.ked_eqvAll ns ms
/-- sorted(places) != list(range(n)) -/
theorem ne_sorted {K : PySem.W.Frag} {H : Hp} {q q2 : Addr} {ns ns' : List Int} {n : Nat} {Q : VK} (h1 : H q = some (.lst (ns'.map V.int))) (h2 : H q2 = some (.lst (rgV 0 (n : Int)))) (hp : ns'.Perm ns) (hs : ns'.Pairwise (· ≤ ·)) (h : Q (.bl (!permB n ns)) H) :
    rNeD K (.ref q) (.ref q2) H Q := by
  rw [rgV_rgI] at h2
  refine ⟨_, _, .lst (SqL.of h1) (dp_ints ns'), .lst (SqL.of h2) (dp_ints _), PySem.W.ke_shaped_ints _, PySem.W.ke_shaped_ints _, ?_⟩
  rw [eqv_ints, perm_eq hp hs]
  exact h
theorem walk_one {os : List Op} {ns : List Int} {i j : Nat} {o : Op} {now : Option Int} {last : Int} (hz : ns[i]? = some (j : Int)) (ho : os[j]? = some o) :
    walkO os (ns.drop i) now last = match stepO o now last with
      | none => false
      | some p => walkO os (ns.drop (i + 1)) (some p.1) p.2 := by
  rw [drop_at hz]
  show (match os[((j : Int)).toNat]? with
    | none => false
    | some o => match stepO o now last with
      | none => false
      | some p => walkO os (ns.drop (i + 1)) (some p.1) p.2) = _
  rw [Int.toNat_natCast, ho]
theorem bool_f {b : Bool} (h : ¬ b = true) : b = false := by cases b <;> simp_all
theorem ne_int {n m : Int} (h : (!decide (V.int n = V.int m)) = true) : n ≠ m := by
  rintro rfl
  simp at h
theorem eq_int {n m : Int} (h : ¬ (!decide (V.int n = V.int m)) = true) : n = m := by
  by_cases e : n = m
  · exact e
  · exfalso
    apply h
    have : ¬ V.int n = V.int m := fun q => e (by injection q)
    rw [decide_eq_false this]
    rfl
section
variable {wr : Bool} {n b : Int} {e : Option Int} {now : Option Int} {last : Int}
theorem step_past (h : pastE e (laterT now b) = true) : stepO (wr, n, b, e) now last = none := if_pos h
theorem step_w (h : pastE e (laterT now b) = false) : stepO (true, n, b, e) now last = some (laterT now b, n) := by
  unfold stepO
  rw [if_neg (by rw [h]; decide), if_pos rfl]
theorem step_r (h : pastE e (laterT now b) = false) (hn : n = last) : stepO (false, n, b, e) now last = some (laterT now b, last) := by
  unfold stepO
  rw [if_neg (by rw [h]; decide), if_neg Bool.false_ne_true, if_pos hn]
theorem step_rn (h : pastE e (laterT now b) = false) (hn : n ≠ last) : stepO (false, n, b, e) now last = none := by
  unfold stepO
  rw [if_neg (by rw [h]; decide), if_neg Bool.false_ne_true, if_neg hn]
end
section
variable {wr : Bool} {n b T t : Int} {e : Option Int} {now : Option Int} {last : Int}
theorem later_gt (h : t < b) : laterT (some t) b = b := by
  show imax t b = b
  rw [imax_eq, if_pos h]
theorem later_le (h : ¬ t < b) : laterT (some t) b = t := by
  show imax t b = t
  rw [imax_eq, if_neg h]
theorem step_pastT (hT : laterT now b = T) (h : pastE e T = true) : stepO (wr, n, b, e) now last = none := step_past (by rw [hT]; exact h)
theorem step_wT (hT : laterT now b = T) (h : pastE e T = false) : stepO (true, n, b, e) now last = some (T, n) := by
  subst hT
  exact step_w h
theorem step_rT (hT : laterT now b = T) (h : pastE e T = false) (hn : n = last) : stepO (false, n, b, e) now last = some (T, last) := by
  subst hT
  exact step_r h hn
theorem step_rnT (hT : laterT now b = T) (h : pastE e T = false) (hn : n ≠ last) : stepO (false, n, b, e) now last = none := step_rn (by rw [hT]; exact h) hn
end
theorem pure__law_walks {K : PySem.W.Frag} {w : World} {vs : List V} {H : Hp} {Q : VK} {E : XK} (h : sp__law_walks K vs H Q E) : t__law_walks K w { nx := fun _ H' => Q .non H', rt := Q } (start N__law_walks vs) H := by
  obtain ⟨a, p, rs, os, ns, rfl, hH, _, hlen, hP, k⟩ := h
  walk_at "go"
  intro ns' q hperm hsort hq
  have e1 : Ex H (upd H q (.lst (ns'.map V.int))) := Evl.Ex.new hq
  have hL := (hH.sq.ex e1).len
  have hn : (rs.map V.ref).length = os.length := by rw [List.length_map, hH.len]
  rw [hn] at hL
  walk_at "go"
  intro q2 hq2
  have e2 : Ex H (upd (upd H q (.lst (ns'.map V.int))) q2 (.lst (rgV 0 (os.length : Int)))) := e1.trans (Evl.Ex.new hq2)
  refine ne_sorted (n := os.length) (ns := ns) (ns' := ns') (Evl.Ex.new hq2 q _ upd_same) upd_same hperm hsort ⟨_, rfl, ?_⟩
  generalize (upd (upd H q (.lst (ns'.map V.int))) q2 (.lst (rgV 0 (os.length : Int)))) = H1 at e2
  cases hb : permB os.length ns with
  | false =>
    have k1 := k H1 e2
    unfold isOrd at k1
    rw [hb] at k1
    exact k1
  | true =>
    refine iteF ?_
    refine ⟨_, rfl, p, ns.map V.int, H, rfl, hP, e2, fun J G W hG => ?_⟩
    refine for_w W (fun i σ H' => ∃ (now : Option Int) (last : Int) (x1 x2 x3 x4 x5 : Option V), σ = [some (.ref a), some (.ref p), some (endV now), some (.int last), x1, x2, x3, x4, x5] ∧ Ex H H' ∧ isOrd os ns = walkO os (ns.drop i) now last)
      ⟨none, 0, none, none, none, none, none, rfl, e2, ?_⟩ ?_ ?_ ?_
    · unfold isOrd
      rw [hb, List.drop_zero]
      rfl
    · rintro i σ H' hi ⟨now, last, x1, x2, x3, x4, x5, rfl, ex, hw⟩
      exact hG H' ex
    · rintro N i x σ H' H2 hN hi ⟨now, last, x1, x2, x3, x4, x5, rfl, ex, hw⟩ ⟨rfl, hx⟩
      rw [List.length_map] at hi
      rw [List.getElem?_map] at hx
      obtain ⟨z, hz, rfl⟩ := Option.map_eq_some_iff.mp hx
      obtain ⟨j, rfl, hj⟩ := perm_in hb hz
      have ho : os[j]? = some os[j] := List.getElem?_eq_getElem hj
      have hjr : j < rs.length := hH.len ▸ hj
      have hr : rs[j]? = some rs[j] := List.getElem?_eq_getElem hjr
      have hat : atI (rs.map V.ref) (j : Int) = some (.ref rs[j]) := atI_nat (by rw [List.getElem?_map, hr] <;> rfl)
      have hO := (hH.at_ j _ _ hr ho).ex ex
      have hsq := hH.sq.ex ex
      rw [walk_one hz ho] at hw
      generalize rs[j] = r at *
      generalize os[j] = o at *
      obtain ⟨wr, n, b, e⟩ := o
      have bad : stepO (wr, n, b, e) now last = none → Q (.bl false) H2 := fun hs => by
        have k1 := k H2 ex
        rw [hw, hs] at k1
        exact k1
      have good : ∀ t l (z1 z2 z3 z4 z5 : Option V), stepO (wr, n, b, e) now last = some (t, l) → N [some (.ref a), some (.ref p), some (.int t), some (.int l), z1, z2, z3, z4, z5] H2 := fun t l z1 z2 z3 z4 z5 hs =>
        hN _ _ ⟨some t, l, z1, z2, z3, z4, z5, rfl, ex, by rw [hw, hs]⟩
      walk_at "go"
      cases now <;> walk_at "go" <;> cases e <;> walk_at "go"
      · cases wr <;> walk_at "go"
        · exact ite2 (fun hc => bad (step_rn rfl (ne_int hc))) (fun hc => good (laterT _ _) _ _ _ _ _ _ (step_r rfl (eq_int hc)))
        · exact ite2 (fun hd => absurd rfl (ne_int hd)) (fun _ => good (laterT _ _) _ _ _ _ _ _ (step_w rfl))
      · refine ite2 (fun hc => bad (step_past hc)) (fun hc => ?_)
        walk_at "go"
        cases wr <;> walk_at "go"
        · exact ite2 (fun hd => bad (step_rn (bool_f hc) (ne_int hd))) (fun hd => good (laterT _ _) _ _ _ _ _ _ (step_r (bool_f hc) (eq_int hd)))
        · exact ite2 (fun hd => absurd rfl (ne_int hd)) (fun _ => good (laterT _ _) _ _ _ _ _ _ (step_w (bool_f hc)))
      · cases wr <;> walk_at "go"
        · exact ite2 (fun hc => bad (step_rn rfl (ne_int hc))) (fun hc => good (laterT _ _) _ _ _ _ _ _ (step_r rfl (eq_int hc)))
        · exact ite2 (fun hd => absurd rfl (ne_int hd)) (fun _ => good (laterT _ _) _ _ _ _ _ _ (step_w rfl))
      · refine ite2 (fun hc => bad (step_past hc)) (fun hc => ?_)
        walk_at "go"
        cases wr <;> walk_at "go"
        · exact ite2 (fun hd => bad (step_rn (bool_f hc) (ne_int hd))) (fun hd => good (laterT _ _) _ _ _ _ _ _ (step_r (bool_f hc) (eq_int hd)))
        · exact ite2 (fun hd => absurd rfl (ne_int hd)) (fun _ => good (laterT _ _) _ _ _ _ _ _ (step_w (bool_f hc)))
    · rintro σ H' ⟨now, last, x1, x2, x3, x4, x5, rfl, ex, hw⟩
      rw [List.length_map, List.drop_length] at hw
      have k1 := k H' ex
      rw [hw] at k1
      exact k1
theorem pure_is_order {K : PySem.W.Frag} {w : World} {vs : List V} {H : Hp} {Q : VK} {E : XK} (h : sp_is_order K vs H Q E) : t_is_order K w { nx := fun _ H' => Q .non H', rt := Q } (start N_is_order vs) H := by
  obtain ⟨a, p, rs, os, ns, rfl, hH0, wf, hlen, hP0, k0⟩ := h
  refine ⟨_, rfl, a, rs, os, rfl, hH0, wf rfl, fun H0 e0 => ?_⟩
  have hH := hH0.ex e0
  have hP := hP0.ex e0
  have k : ∀ H', Ex H0 H' → Q (.bl (isOrd os ns)) H' := fun H' e => k0 H' (e0.trans e)
  clear k0
  generalize hHH : H0 = H at *
  walk_at "go"
  intro ns' q hperm hsort hq
  have e1 : Ex H (upd H q (.lst (ns'.map V.int))) := Evl.Ex.new hq
  have hL := (hH.sq.ex e1).len
  have hn : (rs.map V.ref).length = os.length := by rw [List.length_map, hH.len]
  rw [hn] at hL
  walk_at "go"
  intro q2 hq2
  have e2 : Ex H (upd (upd H q (.lst (ns'.map V.int))) q2 (.lst (rgV 0 (os.length : Int)))) := e1.trans (Evl.Ex.new hq2)
  refine ne_sorted (n := os.length) (ns := ns) (ns' := ns') (Evl.Ex.new hq2 q _ upd_same) upd_same hperm hsort ⟨_, rfl, ?_⟩
  generalize (upd (upd H q (.lst (ns'.map V.int))) q2 (.lst (rgV 0 (os.length : Int)))) = H1 at e2
  cases hb : permB os.length ns with
  | false =>
    have k1 := k H1 e2
    unfold isOrd at k1
    rw [hb] at k1
    exact k1
  | true =>
    refine iteF ?_
    refine ⟨_, rfl, p, ns.map V.int, H, rfl, hP, e2, fun J G W hG => ?_⟩
    refine for_w W (fun i σ H' => ∃ (now : Option Int) (last : Int) (x1 x2 x3 x4 x5 : Option V), σ = [some (.ref a), some (.ref p), some (endV now), some (.int last), x1, x2, x3, x4, x5] ∧ Ex H H' ∧ isOrd os ns = walkO os (ns.drop i) now last)
      ⟨none, 0, none, none, none, none, none, rfl, e2, ?_⟩ ?_ ?_ ?_
    · unfold isOrd
      rw [hb, List.drop_zero]
      rfl
    · rintro i σ H' hi ⟨now, last, x1, x2, x3, x4, x5, rfl, ex, hw⟩
      exact hG H' ex
    · rintro N i x σ H' H2 hN hi ⟨now, last, x1, x2, x3, x4, x5, rfl, ex, hw⟩ ⟨rfl, hx⟩
      rw [List.length_map] at hi
      rw [List.getElem?_map] at hx
      obtain ⟨z, hz, rfl⟩ := Option.map_eq_some_iff.mp hx
      obtain ⟨j, rfl, hj⟩ := perm_in hb hz
      have ho : os[j]? = some os[j] := List.getElem?_eq_getElem hj
      have hjr : j < rs.length := hH.len ▸ hj
      have hr : rs[j]? = some rs[j] := List.getElem?_eq_getElem hjr
      have hat : atI (rs.map V.ref) (j : Int) = some (.ref rs[j]) := atI_nat (by rw [List.getElem?_map, hr] <;> rfl)
      have hO := (hH.at_ j _ _ hr ho).ex ex
      have hsq := hH.sq.ex ex
      rw [walk_one hz ho] at hw
      generalize rs[j] = r at *
      generalize os[j] = o at *
      obtain ⟨wr, n, b, e⟩ := o
      have bad : stepO (wr, n, b, e) now last = none → Q (.bl false) H2 := fun hs => by
        have k1 := k H2 ex
        rw [hw, hs] at k1
        exact k1
      have good : ∀ t l (z1 z2 z3 z4 z5 : Option V), stepO (wr, n, b, e) now last = some (t, l) → N [some (.ref a), some (.ref p), some (.int t), some (.int l), z1, z2, z3, z4, z5] H2 := fun t l z1 z2 z3 z4 z5 hs =>
        hN _ _ ⟨some t, l, z1, z2, z3, z4, z5, rfl, ex, by rw [hw, hs]⟩
      walk_at "go"
      cases now with
      | none =>
        walk_at "go"
        cases e <;> walk_at "go"
        · cases wr <;> walk_at "go"
          · exact ite2 (fun hc => bad (step_rnT rfl rfl (ne_int hc))) (fun hc => good b _ _ _ _ _ _ (step_rT rfl rfl (eq_int hc)))
          · exact good b _ _ _ _ _ _ (step_wT rfl rfl)
        · refine ite2 (fun hc => bad (step_pastT rfl hc)) (fun hc => ?_)
          walk_at "go"
          cases wr <;> walk_at "go"
          · exact ite2 (fun hd => bad (step_rnT rfl (bool_f hc) (ne_int hd))) (fun hd => good b _ _ _ _ _ _ (step_rT rfl (bool_f hc) (eq_int hd)))
          · exact good b _ _ _ _ _ _ (step_wT rfl (bool_f hc))
      | some t =>
        walk_at "go"
        refine ite2 (fun hg => ?_) (fun hg => ?_)
        · walk_at "go"
          cases e <;> walk_at "go"
          · cases wr <;> walk_at "go"
            · exact ite2 (fun hc => bad (step_rnT (later_gt (of_decide_eq_true hg)) rfl (ne_int hc))) (fun hc => good b _ _ _ _ _ _ (step_rT (later_gt (of_decide_eq_true hg)) rfl (eq_int hc)))
            · exact good b _ _ _ _ _ _ (step_wT (later_gt (of_decide_eq_true hg)) rfl)
          · refine ite2 (fun hc => bad (step_pastT (later_gt (of_decide_eq_true hg)) hc)) (fun hc => ?_)
            walk_at "go"
            cases wr <;> walk_at "go"
            · exact ite2 (fun hd => bad (step_rnT (later_gt (of_decide_eq_true hg)) (bool_f hc) (ne_int hd))) (fun hd => good b _ _ _ _ _ _ (step_rT (later_gt (of_decide_eq_true hg)) (bool_f hc) (eq_int hd)))
            · exact good b _ _ _ _ _ _ (step_wT (later_gt (of_decide_eq_true hg)) (bool_f hc))
        · walk_at "go"
          cases e <;> walk_at "go"
          · cases wr <;> walk_at "go"
            · exact ite2 (fun hc => bad (step_rnT (later_le (of_decide_eq_false (bool_f hg))) rfl (ne_int hc))) (fun hc => good t _ _ _ _ _ _ (step_rT (later_le (of_decide_eq_false (bool_f hg))) rfl (eq_int hc)))
            · exact good t _ _ _ _ _ _ (step_wT (later_le (of_decide_eq_false (bool_f hg))) rfl)
          · refine ite2 (fun hc => bad (step_pastT (later_le (of_decide_eq_false (bool_f hg))) hc)) (fun hc => ?_)
            walk_at "go"
            cases wr <;> walk_at "go"
            · exact ite2 (fun hd => bad (step_rnT (later_le (of_decide_eq_false (bool_f hg))) (bool_f hc) (ne_int hd))) (fun hd => good t _ _ _ _ _ _ (step_rT (later_le (of_decide_eq_false (bool_f hg))) (bool_f hc) (eq_int hd)))
            · exact good t _ _ _ _ _ _ (step_wT (later_le (of_decide_eq_false (bool_f hg))) (bool_f hc))
    · rintro σ H' ⟨now, last, x1, x2, x3, x4, x5, rfl, ex, hw⟩
      rw [List.length_map, List.drop_length] at hw
      have k1 := k H' ex
      rw [hw] at k1
      exact k1
end LW
namespace LW
open PySem PySem.Spec PyProof.Rows L2
open Evl (Ex)
local macro_rules | `(tactic| walk_at "kit") => `(tactic| first | exact kit_ii | exact kit_ib | exact kit_bi | exact kit_bb | exact kit_ni | exact kit_nb | exact kit_si | exact kit_sb)
local macro_rules | `(tactic| walk_at "side") => `(tactic| first | (with_reducible show PySem.W.kitOne _ _ _ = some _; walk_at "kit") | assumption | (with_reducible show (0 : Int) < _; omega) | exact Wd.mk (by omega) | exact rfl | exact SqL.of (by assumption) | exact SqT.of (by assumption) | exact Or.inl ⟨rfl, _, SqL.of (by assumption)⟩ | exact SqL.of upd_same | exact upd_same | exact ClsV.ty _ | exact TyX.base (.int _) | exact TyX.base (.bl _) | exact TyX.base (.str _) | exact TyX.base .non | (show CMul _ _; first | exact Or.inl ⟨by omega, by omega⟩ | exact Or.inr ⟨by omega, by omega⟩) | (show CPow _ _; first | exact ⟨by omega, by omega, by decide⟩ | exact ⟨by omega, by omega, mod_b (by omega) (by omega)⟩) | exact Or.inl ⟨_, by assumption, rfl⟩ | exact Or.inl ⟨_, SqL.of (by assumption), rfl⟩ | exact Or.inr ⟨_, by assumption, rfl⟩ | exact sz100 (Nat.le_of_ble_eq_true rfl) | exact Or.inl (SqL.of (by assumption)) | exact Or.inr (SqT.of (by assumption)) | exact ⟨_, SqL.of (by assumption)⟩ | exact ⟨_, SqT.of (by assumption)⟩ | exact ⟨_, (by assumption)⟩ | exact Or.inr (SqT.of upd_same) | exact RgOk.of_le (by omega) (by omega) (by omega) (by omega) | exact Nat.le_of_ble_eq_true rfl | exact DGet.k (k := Sum.inl _) (by assumption) | exact DPut.k (k := Sum.inl _) (by assumption) (sz1000 (by omega)))
local macro_rules | `(tactic| walk_at "go") => `(tactic| repeat (first | ((fail_if_success (with_reducible refine ite2 (fun _ => ?_) (fun _ => ?_))); first | (refine And.intro (by walk_at "side") ?_) | (refine ⟨_, rfl, ?_⟩) | (refine ⟨_, _, rfl, rfl, ?_⟩) | (apply Exists.intro) | (refine Or.inl ⟨_, rfl, ?_⟩) | (refine Or.inr ⟨_, rfl, ?_⟩)) | ((fail_if_success (with_reducible show (if decide ((_ : Int) < (_ : Int)) = true then _ else _))); (fail_if_success (with_reducible show (if decide ((_ : Int) ≤ (_ : Int)) = true then _ else _))); (fail_if_success (with_reducible show (if decide (V.int _ = V.int _) = true then _ else _))); (fail_if_success (with_reducible show (if (!decide (V.int _ = V.int _)) = true then _ else _))); first | (refine iteF ?_) | (refine iteT ?_))))
section
variable {a p : Addr} {H H' H1 H2 : Hp} {o : HO} {K : PySem.W.Frag}
theorem Fr.of_ex (e : Ex H H') : Fr a H H' := fun b u _ h => e b u h
theorem Fr.mut (f : Fr a H H') (hp : H p = none) : Fr a H (L2.upd H' p o) := fun b u hb h => by
  rw [upd_ne (ne_of_none h hp)]
  exact f b u hb h
theorem Pool.ex (e : Ex H H') (h : Pool H a) : Pool H' a := by
  obtain ⟨l, c, k, m, hl, ha⟩ := h
  exact ⟨l, c, k, m, hl, e _ _ ha⟩
theorem Pool.ne (h : Pool H a) (hp : H p = none) : p ≠ a := by
  obtain ⟨l, c, k, m, hl, ha⟩ := h
  exact (ne_of_none ha hp).symm
theorem Pool.upd (h : Pool H a) (hp : p ≠ a) : Pool (L2.upd H p o) a := by
  obtain ⟨l, c, k, m, hl, ha⟩ := h
  exact ⟨l, c, k, m, hl, by rw [upd_ne hp.symm]; exact ha⟩
theorem sqt_fr {xs : List V} {b : Addr} (f : Fr a H H') (h : Pool H a) (s : SqT K H b xs) : SqT K H' b xs := by
  obtain ⟨l, c, k, m, hl, ha⟩ := h
  rcases s with (s | ⟨ob, s⟩) | s
  · exact .inl (.inl (f b _ (ne_of s ha (by intro z; cases z)) s))
  · exact .inl (.inr ⟨ob, f b _ (ne_of s ha (by intro z; cases z)) s⟩)
  · exact .inr s
end
theorem sz10000 {n : Nat} (h : n < 10000) : n < sizeLine := Nat.lt_trans h (by decide)
def sp__law_mix (K : PySem.W.Frag) : Sp := fun vs H Q _ => ∃ (a l : Addr) (xs : List V), vs = [.ref a, .ref l] ∧ Pool H a ∧ SqA K H l xs ∧ xs.length ≤ 1000 ∧
  ∀ p H' ys, H p = none → Fr a H H' → Pool H' a → ys.Perm xs → H' p = some (.lst ys) → Q (.ref p) H'
theorem len__law_mix {K : PySem.W.Frag} {vs : List V} {H : Hp} {Q : VK} {E : XK} (h : sp__law_mix K vs H Q E) : vs.length = 2 := by
  obtain ⟨_, _, _, rfl, _⟩ := h; rfl
abbrev N__law_mix : List Str := ["_law_pool_here", "_law_things", "_law_left", "_law_found"]
def t__law_mix (K : PySem.W.Frag) (w : World) : TS :=
  (tSeq (tAsg (tCB (rListOf K) (tCons (tVar 1) tNil)) (gName 2))
  (tSeq (tAsg (tLst tNil) (gName 3))
  (tSeq (tWhile (tTest (tOp rGtI (tCB (rLen K) (tCons (tVar 2) tNil)) (tC (.int 0))))
  (tDrop (tBM K "list" rAppend (tVar 3) (tCons (tBM K "list" rPopAt (tVar 2) (tCons (tCall (sp__law_take K) [] E0 (tCons (tVar 0) (tCons (tCB (rLen K) (tCons (tVar 2) tNil)) tNil))) tNil)) tNil))))
  (tRet (tVar 3)))))


theorem pure__law_mix {K : PySem.W.Frag} {w : World} {vs : List V} {H : Hp} {Q : VK} {E : XK} (h : sp__law_mix K vs H Q E) : t__law_mix K w { nx := fun _ H' => Q .non H', rt := Q } (start N__law_mix vs) H := by
  obtain ⟨a, l, xs, rfl, hP, hS, hlen, kQ⟩ := h
  walk_at "go"
  intro l2 hl2
  walk_at "go"
  intro f hf
  have hf0 : H f = none := by
    rw [upd_ne] at hf
    · exact hf
    · rintro rfl
      rw [upd_same] at hf
      cases hf
  have nlf : l2 ≠ f := by
    rintro rfl
    rw [upd_same] at hf
    cases hf
  have nla : l2 ≠ a := hP.ne hl2
  have nfa : f ≠ a := hP.ne hf0
  refine ⟨fun M σ H' => ∃ us vs, σ = [some (.ref a), some (.ref l), some (.ref l2), some (.ref f)] ∧ M = us.length ∧ H' l2 = some (.lst us) ∧ H' f = some (.lst vs) ∧ (us ++ vs).Perm xs ∧ Pool H' a ∧ Fr a H H',
    ⟨_, xs, [], rfl, rfl, by rw [upd_ne nlf]; exact upd_same, upd_same, by rw [List.append_nil], (hP.upd nla).upd nfa, ((Fr.refl a H).mut hl2).mut hf0⟩, ?_⟩
  rintro M σ H' ⟨us, vs, rfl, rfl, h1, h2, hp, hP', fr⟩
  walk_at "go"
  refine ite2 (fun hc => ?_) (fun hc => ?_)
  · refine nxt fun N hN => ?_
    have hpos : 0 < (us.length : Int) := of_decide_eq_true hc
    have hle : us.length ≤ 1000 := by
      have := hp.length_eq
      rw [List.length_append] at this
      omega
    have h40 : Wd (us.length : Int) := ⟨by omega⟩
    walk_at "go"
    intro v H2 hv0 hvn hP2 fr2
    have g1 := fr2 _ _ nla h1
    have g2 := fr2 _ _ nfa h2
    obtain ⟨j, rfl⟩ : ∃ j : Nat, v = (j : Int) := ⟨v.toNat, by omega⟩
    have hj : j < us.length := by omega
    have g3 : seqIndex? (j : Int) us.length = some j := by
      rw [seqIndex_of (by omega) (by omega), Int.toNat_natCast]
    have g4 : us[j]? = some us[j] := List.getElem?_eq_getElem hj
    have b1 : -(2 ^ 63) ≤ (j : Int) := by omega
    have b2 : (j : Int) < 2 ^ 63 := by omega
    have g5 : upd H2 l2 (.lst (us.eraseIdx j)) f = some (.lst vs) := by rw [upd_ne nlf.symm]; exact g2
    have sz : vs.length < sizeLine := by
      have := hp.length_eq
      rw [List.length_append] at this
      exact sz10000 (by omega)
    refine ⟨l2, us, (j : Int), j, us[j], rfl, rfl, g1, b1, b2, g3, g4, ?_⟩
    clear b1 b2
    walk_at "go"
    have el : (us.eraseIdx j).length + 1 = us.length := by
      rw [List.length_eraseIdx, if_pos hj]
      omega
    refine hN _ _ ⟨(us.eraseIdx j).length, by omega, us.eraseIdx j, vs ++ [us[j]], rfl, rfl, by rw [upd_ne nlf]; exact upd_same, upd_same, ?_, (hP2.upd nla).upd nfa, ((fr.trans fr2).mut hl2).mut hf0⟩
    refine List.Perm.trans ?_ hp
    have q : (us[j] :: us.eraseIdx j).Perm us := by
      have := List.eraseIdx_eq_take_drop_succ (l := us) (i := j)
      rw [this]
      have e : us = us.take j ++ us[j] :: us.drop (j + 1) := by
        rw [← List.drop_eq_getElem_cons hj, List.take_append_drop]
      have e2 : (us[j] :: (us.take j ++ us.drop (j + 1))).Perm (us.take j ++ us[j] :: us.drop (j + 1)) := List.perm_middle.symm
      exact e2.trans (by rw [← e])
    have q2 : (us.eraseIdx j ++ (vs ++ [us[j]])).Perm ((us[j] :: us.eraseIdx j) ++ vs) := by
      rw [← List.append_assoc]
      exact (List.perm_append_comm (l₁ := us.eraseIdx j ++ vs) (l₂ := [us[j]]))
    exact q2.trans (q.append_right vs)
  · walk_at "go"
    have h0 : us = [] := by
      have : ¬ 0 < (us.length : Int) := of_decide_eq_false (bool_f hc)
      exact List.eq_nil_of_length_eq_zero (by omega)
    subst h0
    exact kQ f H' vs hf0 fr hP' hp h2
end LW
namespace LW
open PySem PySem.Spec PyProof.Rows L2
open Evl (Ex)
local macro_rules | `(tactic| walk_at "kit") => `(tactic| first | exact kit_ii | exact kit_ib | exact kit_bi | exact kit_bb | exact kit_ni | exact kit_nb | exact kit_si | exact kit_sb)
local macro_rules | `(tactic| walk_at "side") => `(tactic| first | (with_reducible show PySem.W.kitOne _ _ _ = some _; walk_at "kit") | assumption | (with_reducible show (0 : Int) < _; omega) | exact Wd.mk (by omega) | exact rfl | exact SqL.of (by assumption) | exact SqT.of (by assumption) | exact Or.inl ⟨rfl, _, SqL.of (by assumption)⟩ | exact SqL.of upd_same | exact upd_same | exact ClsV.ty _ | exact TyX.base (.int _) | exact TyX.base (.bl _) | exact TyX.base (.str _) | exact TyX.base .non | (show CMul _ _; first | exact Or.inl ⟨by omega, by omega⟩ | exact Or.inr ⟨by omega, by omega⟩) | (show CPow _ _; first | exact ⟨by omega, by omega, by decide⟩ | exact ⟨by omega, by omega, mod_b (by omega) (by omega)⟩) | exact Or.inl ⟨_, by assumption, rfl⟩ | exact Or.inl ⟨_, SqL.of (by assumption), rfl⟩ | exact Or.inr ⟨_, by assumption, rfl⟩ | exact sz100 (Nat.le_of_ble_eq_true rfl) | exact Or.inl (SqL.of (by assumption)) | exact Or.inr (SqT.of (by assumption)) | exact ⟨_, SqL.of (by assumption)⟩ | exact ⟨_, SqT.of (by assumption)⟩ | exact ⟨_, (by assumption)⟩ | exact Or.inr (SqT.of upd_same) | exact RgOk.of_le (by omega) (by omega) (by omega) (by omega) | exact Nat.le_of_ble_eq_true rfl | exact DGet.k (k := Sum.inl _) (by assumption) | exact DPut.k (k := Sum.inl _) (by assumption) (sz1000 (by omega)))
local macro_rules | `(tactic| walk_at "go") => `(tactic| repeat (first | ((fail_if_success (with_reducible refine ite2 (fun _ => ?_) (fun _ => ?_))); first | (refine And.intro (by walk_at "side") ?_) | (refine ⟨_, rfl, ?_⟩) | (refine ⟨_, _, rfl, rfl, ?_⟩) | (apply Exists.intro) | (refine Or.inl ⟨_, rfl, ?_⟩) | (refine Or.inr ⟨_, rfl, ?_⟩)) | ((fail_if_success (with_reducible show (if decide ((_ : Int) < (_ : Int)) = true then _ else _))); (fail_if_success (with_reducible show (if decide ((_ : Int) ≤ (_ : Int)) = true then _ else _))); (fail_if_success (with_reducible show (if decide (V.int _ = V.int _) = true then _ else _))); (fail_if_success (with_reducible show (if (!decide (V.int _ = V.int _)) = true then _ else _))); first | (refine iteF ?_) | (refine iteT ?_))))
/-! ### rows of operations, as tuples -/
structure RowsT (H : Hp) (rs : List Addr) (os : List Op) : Prop where
  len : rs.length = os.length
  at_ : ∀ (i : Nat) (r : Addr) (o : Op), rs[i]? = some r → os[i]? = some o → H r = some (.tup (opV o))
theorem RowsT.nil {H : Hp} : RowsT H [] [] := ⟨rfl, fun i r o h => by simp at h⟩
theorem RowsT.mono {H H' : Hp} {rs : List Addr} {os : List Op} (h : RowsT H rs os) (k : ∀ r xs, H r = some (.tup xs) → H' r = some (.tup xs)) : RowsT H' rs os :=
  ⟨h.len, fun i r o h1 h2 => k r _ (h.at_ i r o h1 h2)⟩
theorem RowsT.snoc {H : Hp} {rs : List Addr} {os : List Op} {t : Addr} {o : Op} (h : RowsT H rs os) (ht : H t = some (.tup (opV o))) : RowsT H (rs ++ [t]) (os ++ [o]) := by
  refine ⟨by simp [h.len], fun i r q h1 h2 => ?_⟩
  by_cases hi : i < rs.length
  · rw [List.getElem?_append_left hi] at h1
    rw [List.getElem?_append_left (h.len ▸ hi)] at h2
    exact h.at_ i r q h1 h2
  · have hl := h.len
    rw [List.getElem?_append_right (by omega)] at h1 h2
    have e : i - rs.length = 0 := by
      have := (List.getElem?_eq_some_iff.mp h1).1
      simp at this
      omega
    rw [e] at h1
    rw [← hl, e] at h2
    simp at h1 h2
    subst h1 h2
    exact ht
section
variable {a p : Addr} {H H' H1 H2 : Hp} {o : HO} {K : PySem.W.Frag}
theorem fr_none (f : Fr a H H') (h : Pool H' a) (hp : H' p = none) : H p = none := by
  cases q : H p with
  | none => rfl
  | some u =>
    have e : p ≠ a := h.ne hp
    rw [f p u e q] at hp
    cases hp
theorem tup_fr (f : Fr a H H') (h : Pool H a) {r : Addr} {xs : List V} (s : H r = some (.tup xs)) : H' r = some (.tup xs) := by
  obtain ⟨l, c, k, m, hl, ha⟩ := h
  exact f r _ (ne_of s ha (by intro z; cases z)) s
end
/-- a pool, a list of names, a list of rows -/
structure LI (H0 : Hp) (a nm rw : Addr) (us : List Int) (rs : List Addr) (os : List Op) (H : Hp) : Prop where
  pool : Pool H a
  fr : Fr a H0 H
  hn : H nm = some (.lst (us.map V.int))
  hr : H rw = some (.lst (rs.map V.ref))
  rows : RowsT H rs os
section
variable {H0 H H' : Hp} {a nm rw t : Addr} {us : List Int} {rs : List Addr} {os : List Op} {o : Op} {n : Int}
theorem LI.step (L : LI H0 a nm rw us rs os H) (na : nm ≠ a) (ra : rw ≠ a) (f : Fr a H H') (hP : Pool H' a) : LI H0 a nm rw us rs os H' :=
  ⟨hP, L.fr.trans f, f _ _ na L.hn, f _ _ ra L.hr, L.rows.mono fun r xs h => tup_fr f L.pool h⟩
theorem LI.snoc (L : LI H0 a nm rw us rs os H) (na : nm ≠ a) (ra : rw ≠ a) (nr : nm ≠ rw) (r0 : H0 rw = none) (ht : H t = none) :
    LI H0 a nm rw us (rs ++ [t]) (os ++ [o]) (upd (upd H t (.tup (opV o))) rw (.lst (rs.map V.ref ++ [V.ref t]))) := by
  have t0 : H0 t = none := fr_none L.fr L.pool ht
  have nt : nm ≠ t := ne_of_none L.hn ht
  have rt : rw ≠ t := ne_of_none L.hr ht
  have ta : t ≠ a := L.pool.ne ht
  refine ⟨(L.pool.upd ta).upd ra, (L.fr.mut t0).mut r0, ?_, ?_, ?_⟩
  · rw [upd_ne nr, upd_ne nt]; exact L.hn
  · rw [upd_same, List.map_append]; rfl
  · refine RowsT.snoc (L.rows.mono fun r xs h => ?_) ?_
    · rw [upd_ne (ne_of h L.hr (by intro z; cases z)), upd_ne (ne_of_none h ht)]; exact h
    · rw [upd_ne rt.symm]; exact upd_same
theorem LI.pop (L : LI H0 a nm rw (us ++ [n]) rs os H) (na : nm ≠ a) (nr : nm ≠ rw) (n0 : H0 nm = none) : LI H0 a nm rw us rs os (upd H nm (.lst (us.map V.int))) := by
  refine ⟨L.pool.upd na, L.fr.mut n0, upd_same, ?_, L.rows.mono fun r xs h => ?_⟩
  · rw [upd_ne nr.symm]; exact L.hr
  · rw [upd_ne (ne_of h L.hn (by intro z; cases z))]; exact h
end
theorem wn_snoc (os : List Op) (o : Op) : wn (os ++ [o]) = wn os ++ (if o.1 then [o.2.1] else []) := by
  unfold wn
  rw [List.filterMap_append]
  congr 1
  cases hw : o.1 <;> simp [hw]
theorem imax0 (x : Int) : 0 ≤ imax 0 x := by rw [imax_eq]; split <;> omega
theorem imax0_le {x y : Int} (h : x ≤ y) (hy : 0 ≤ y) : imax 0 x ≤ y := by rw [imax_eq]; split <;> omega
/-! ### a history along a line -/
/-- a history of tuples, and a tuple of places -/
def TwoAt (K : PySem.W.Frag) (H : Hp) (h p : Addr) (rs : List Addr) (os : List Op) (ns : List Int) : Prop :=
  SqT K H h (rs.map V.ref) ∧ RowsT H rs os ∧ WF os ∧ 1 ≤ os.length ∧ SqT K H p (ns.map V.int) ∧ 1 ≤ ns.length ∧ ns.length ≤ 100
def sp__law_line_of (K : PySem.W.Frag) : Sp := fun vs H Q _ => ∃ (a : Addr) (many wide : Int), vs = [.ref a, .int many, .int wide] ∧ Pool H a ∧ 1 ≤ many ∧ many ≤ 40 ∧ 1 ≤ wide ∧ wide ≤ 100 ∧
  ∀ t h p H' rs os ns, Fr a H H' → Pool H' a → H' t = some (.tup [.ref h, .ref p]) → TwoAt K H' h p rs os ns → Q (.ref t) H'
theorem len__law_line_of {K : PySem.W.Frag} {vs : List V} {H : Hp} {Q : VK} {E : XK} (h : sp__law_line_of K vs H Q E) : vs.length = 3 := by
  obtain ⟨_, _, _, rfl, _⟩ := h; rfl
abbrev N__law_line_of : List Str := ["_law_pool_here", "_law_many", "_law_wide", "_law_names", "_law_rows", "_law_now", "_law_last", "_law_k", "_law_begin", "_law_end", "_law_places", "_law_at"]
def t__law_line_of (K : PySem.W.Frag) (w : World) : TS :=
  (tSeq (tAsg (tCall (sp__law_mix K) [] E0 (tCons (tVar 0) (tCons (tLstRg (tRg2 (tC (.int 1)) (tOp rAddI (tVar 1) (tC (.int 1))))) tNil))) (gName 3))
  (tSeq (tAsg (tLst tNil) (gName 4))
  (tSeq (tAsg (tCall (sp__law_take K) [] E0 (tCons (tVar 0) (tCons (tC (.int 9)) tNil))) (gName 5))
  (tSeq (tAsg (tC (.int 0)) (gName 6))
  (tSeq (tFor (iRng1 (tCons (tVar 1) tNil)) (gName 7)
  (tSeq (tAsg (tOp rAddI (tVar 5) (tCall (sp__law_take K) [] E0 (tCons (tVar 0) (tCons (tVar 2) tNil)))) (gName 5))
  (tSeq (tAsg (tCB rMax2I (tCons (tC (.int 0)) (tCons (tOp rSubI (tVar 5) (tCall (sp__law_take K) [] E0 (tCons (tVar 0) (tCons (tOp rMulI (tC (.int 3)) (tVar 2)) tNil)))) tNil))) (gName 8))
  (tSeq (tAsg (tOp rAddI (tVar 5) (tCall (sp__law_take K) [] E0 (tCons (tVar 0) (tCons (tOp rMulI (tC (.int 3)) (tVar 2)) tNil)))) (gName 9))
  (tIfS (tTest (tOp rEq (tCall (sp__law_take K) [] E0 (tCons (tVar 0) (tCons (tC (.int 3)) tNil))) (tC (.int 0)))) (tSeq (tAsg (tBM0 K "list" rPop (tVar 3)) (gName 6))
  (tDrop (tBM K "list" rAppend (tVar 4) (tCons (tTup (tCons (tC (.str "write")) (tCons (tVar 6) (tCons (tVar 8) (tCons (tIf (tTest (tOp rEq (tCall (sp__law_take K) [] E0 (tCons (tVar 0) (tCons (tC (.int 4)) tNil))) (tC (.int 0)))) (tC .non) (tVar 9)) tNil))))) tNil)))) (tDrop (tBM K "list" rAppend (tVar 4) (tCons (tTup (tCons (tC (.str "read")) (tCons (tVar 6) (tCons (tVar 8) (tCons (tVar 9) tNil))))) tNil))))))))
  (tSeq (tAsg (tCall (sp__law_mix K) [] E0 (tCons (tVar 0) (tCons (tLstRg (tRg1 (tVar 1))) tNil))) (gName 10))
  (tRet (tTup (tCons (tCB (rTupleOf K) (tCons (tLc (iList K (tVar 10)) (gName 11) tYes (tOp (rIxL K) (tVar 4) (tVar 11)) [11]) tNil)) (tCons (tCB (rTupleOf K) (tCons (tLc (iRng1 (tCons (tVar 1) tNil)) (gName 7) tYes (tBM K "list" (rIndex K) (tVar 10) (tCons (tVar 7) tNil)) [7]) tNil)) tNil))))))))))


theorem rgV1 (n : Nat) : rgV 1 ((n : Int) + 1) = ((List.range n).map fun i => ((i : Nat) : Int) + 1).map V.int := by
  unfold rgV
  rw [List.map_map]
  have e : ((n : Int) + 1 - 1).toNat = n := by omega
  rw [e]
  apply List.map_congr_left
  intro i _
  show V.int (1 + (i : Int)) = V.int ((i : Int) + 1)
  rw [Int.add_comm]
def unI : V → Int
  | .int i => i
  | _ => 0
theorem unI_map (ns : List Int) : (ns.map V.int).map unI = ns := by
  rw [List.map_map]
  exact List.map_id'' (fun _ => rfl) _
theorem perm_ints {ys : List V} {ns : List Int} (h : ys.Perm (ns.map V.int)) : ∃ ms : List Int, ys = ms.map V.int ∧ ms.Perm ns := by
  refine ⟨ys.map unI, ?_, ?_⟩
  · rw [List.map_map]
    have q : ∀ v ∈ ys, id v = (V.int ∘ unI) v := fun v hv => by
      obtain ⟨z, _, rfl⟩ := List.mem_map.mp (h.mem_iff.mp hv)
      rfl
    rw [← List.map_congr_left q, List.map_id]
  · have q := h.map unI
    rw [unI_map] at q
    exact q
theorem first_at {k : Int} : ∀ {ps : List Int}, k ∈ ps → ∃ j : Nat, ps[j]? = some k ∧ ∀ m : Nat, m < j → ps[m]? ≠ some k
  | [], h => by cases h
  | x :: r, h => by
    by_cases e : x = k
    · subst e
      exact ⟨0, rfl, fun m hm => absurd hm (Nat.not_lt_zero m)⟩
    · have hr : k ∈ r := by
        rcases List.mem_cons.mp h with q | q
        · exact absurd q.symm e
        · exact q
      obtain ⟨j, h1, h2⟩ := first_at hr
      refine ⟨j + 1, h1, fun m hm => ?_⟩
      cases m with
      | zero =>
        intro q
        simp at q
        exact e q
      | succ m => exact h2 m (by omega)
def dOp : Op := (false, 0, 0, none)
theorem line_tail (K : PySem.W.Frag) {H H' : Hp} {Q : VK} {a nm rw0 : Addr} {n : Nat} {wide now last : Int} {us : List Int} {rs : List Addr} {os : List Op} {x7 x8 x9 : Option V} (hm1 : 1 ≤ (n : Int)) (hm2 : (n : Int) ≤ 40) (nma : nm ≠ a) (rwa : rw0 ≠ a) (L : LI H a nm rw0 us rs os H')
    (hlen : os.length = n) (hok : ∀ o ∈ os, okOp o = true) (hnd : (wn os).Nodup)
    (kQ : ∀ t h p H' rs os ns, Fr a H H' → Pool H' a → H' t = some (.tup [.ref h, .ref p]) → TwoAt K H' h p rs os ns → Q (.ref t) H') :
    (tSeq (tAsg (tCall (sp__law_mix K) [] E0 (tCons (tVar 0) (tCons (tLstRg (tRg1 (tVar 1))) tNil))) (gName 10))
  (tRet (tTup (tCons (tCB (rTupleOf K) (tCons (tLc (iList K (tVar 10)) (gName 11) tYes (tOp (rIxL K) (tVar 4) (tVar 11)) [11]) tNil)) (tCons (tCB (rTupleOf K) (tCons (tLc (iRng1 (tCons (tVar 1) tNil)) (gName 7) tYes (tBM K "list" (rIndex K) (tVar 10) (tCons (tVar 7) tNil)) [7]) tNil)) tNil))))) { nx := fun _ H' => Q .non H', rt := Q } [some (.ref a), some (.int n), some (.int wide), some (.ref nm), some (.ref rw0), some (.int now), some (.int last), x7, x8, x9, none, none] H' := by
  have hPa := L.pool
  walk_at "go"
  intro q1 hq1
  have na1 := hPa.ne hq1
  refine ⟨a, q1, _, rfl, hPa.upd na1, .inl (SqL.of upd_same), by rw [rgV_length]; omega, fun pl H2 ys hpl fr2 hP2 hperm hys => ?_⟩
  rw [rgV_rgI] at hperm
  obtain ⟨ps, rfl, hps⟩ := perm_ints hperm
  have frA : Fr a H' H2 := (Fr.of_ex (Evl.Ex.new hq1)).trans fr2
  have L2 := L.step nma rwa frA hP2
  have plen : ps.length = n := by
    rw [hps.length_eq]
    unfold rgI
    rw [List.length_map, List.length_range]
  have hin : ∀ (j : Nat) (z : Int), ps[j]? = some z → ∃ k : Nat, z = (k : Int) ∧ k < n := fun j z h => perm_in (List.isPerm_iff.mpr hps) h
  have rlen : rs.length = n := by rw [L2.rows.len, hlen]
  have hr2 := L2.hr
  have rows2 := L2.rows
  walk_at "go"
  intro D hD
  refine lc_w walk_list (fun i H3 => Ex H2 H3 ∧ H3 D = some (.lst (((ps.take i).map fun z => rs.getD z.toNat 0).map V.ref))) ⟨Evl.Ex.new hD, upd_same⟩ (fun i H3 _ ⟨e3, _⟩ => SqL.of (e3 _ _ hys)) ?_ ?_
  · rintro N i x H3 H4 hN hi ⟨e3, hD3⟩ ⟨rfl, hx⟩
    rw [List.getElem?_map] at hx
    obtain ⟨z, hz, rfl⟩ := Option.map_eq_some_iff.mp hx
    obtain ⟨k, rfl, hk⟩ := hin i z hz
    have hkr : k < rs.length := by omega
    have hr3 := e3 _ _ hr2
    have hat : atI (rs.map V.ref) (k : Int) = some (.ref rs[k]) := atI_nat (by rw [List.getElem?_map, List.getElem?_eq_getElem hkr] <;> rfl)
    have sz : (((ps.take i).map fun z => rs.getD z.toNat 0).map V.ref).length < sizeLine := by
      rw [List.length_map, List.length_map, List.length_take]
      exact sz1000 (by omega)
    refine ⟨rfl, ?_⟩
    walk_at "go"
    refine hN _ ⟨?_, ?_⟩
    · exact Evl.Ex.mut e3 hD
    · rw [upd_same, List.take_succ, hz]
      simp [List.getElem?_eq_getElem hkr]
  rintro H3 ⟨e3, hD3⟩
  rw [List.length_map, List.take_length] at hD3
  refine ⟨D, _, rfl, .inl ⟨SqL.of hD3, fun h hh => ?_⟩⟩
  have e4 : Ex H3 (upd H3 h (.tup ((ps.map fun z => rs.getD z.toNat 0).map V.ref))) := Evl.Ex.new hh
  have hh4 : upd H3 h (.tup ((ps.map fun z => rs.getD z.toNat 0).map V.ref)) h = some (.tup ((ps.map fun z => rs.getD z.toNat 0).map V.ref)) := upd_same
  generalize upd H3 h (.tup ((ps.map fun z => rs.getD z.toNat 0).map V.ref)) = H4 at *
  walk_at "go"
  refine And.intro (by omega) (And.intro (by omega) ?_)
  intro D2 hD2
  refine lc_w (walk_range (lo := 0) (n := n)) (fun i H5 => Ex H4 H5 ∧ ∃ ms : List Int, ms.length = i ∧ H5 D2 = some (.lst (ms.map V.int))) ⟨Evl.Ex.new hD2, [], rfl, upd_same⟩ (fun _ _ _ _ => trivial) ?_ ?_
  · rintro N i x H5 H6 hN hi ⟨e5, ms, hms, hD5⟩ ⟨rfl, rfl⟩
    have hy5 := e5 _ _ (e4 _ _ (e3 _ _ hys))
    have hmem : (0 + (i : Int)) ∈ ps := by
      rw [hps.mem_iff]
      unfold rgI
      exact List.mem_map.mpr ⟨i, List.mem_range.mpr hi, by omega⟩
    obtain ⟨j, hj1, hj2⟩ := first_at hmem
    refine ⟨rfl, ?_⟩
    walk_at "go"
    have hjm : (ps.map V.int)[j]? = some (.int (0 + (i : Int))) := by rw [List.getElem?_map, hj1]; rfl
    refine And.intro ?_ (And.intro hjm (And.intro ?_ (And.intro ?_ ?_)))
    · rw [List.all_eq_true]
      intro v hv
      obtain ⟨z, _, rfl⟩ := List.mem_map.mp hv
      rfl
    · exact beq_self_eq_true _
    · intro m z' hm hz'
      rw [List.getElem?_map] at hz'
      obtain ⟨z, hz, rfl⟩ := Option.map_eq_some_iff.mp hz'
      show (z == (0 + (i : Int))) = false
      have : z ≠ 0 + (i : Int) := fun e => hj2 m hm (by rw [hz, e])
      simpa using this
    · refine ⟨ms.map V.int, hD5, ?_, ?_⟩
      · rw [List.length_map]
        exact sz1000 (by omega)
      · exact hN _ ⟨Evl.Ex.mut e5 hD2, ms ++ [(j : Int)], by simp [hms], by rw [upd_same, List.map_append]; rfl⟩
  rintro H5 ⟨e5, ms, hms, hD5⟩
  refine ⟨D2, _, rfl, .inl ⟨SqL.of hD5, fun p hp => ?_⟩⟩
  have e6 : Ex H5 (upd H5 p (.tup (ms.map V.int))) := Evl.Ex.new hp
  have hp6 : upd H5 p (.tup (ms.map V.int)) p = some (.tup (ms.map V.int)) := upd_same
  generalize upd H5 p (.tup (ms.map V.int)) = H6 at *
  walk_at "go"
  intro t ht
  have e7 : Ex H6 (upd H6 t (.tup [.ref h, .ref p])) := Evl.Ex.new ht
  have eA : Ex H2 (upd H6 t (.tup [.ref h, .ref p])) := (((e3.trans e4).trans e5).trans e6).trans e7
  have opick : (ps.map fun z => os.getD z.toNat dOp).Perm os := by
    have q := hps.map fun z : Int => os.getD z.toNat dOp
    refine q.trans ?_
    unfold rgI
    rw [List.map_map]
    have e : (List.range n).map ((fun z : Int => os.getD z.toNat dOp) ∘ fun i : Nat => (i : Int)) = os := by
      apply List.ext_getElem
      · simp [hlen]
      · intro i h1 h2
        simp [h2]
    rw [e]
  refine kQ t h p _ (ps.map fun z => rs.getD z.toNat 0) (ps.map fun z => os.getD z.toNat dOp) ms ((L2.fr).trans (Fr.of_ex eA)) (L2.pool.ex eA) upd_same
    ⟨SqT.of (e7 _ _ (e6 _ _ (e5 _ _ hh4))), ⟨by simp, fun i r o h1 h2 => ?_⟩, ⟨?_, ?_, ?_⟩, ?_, SqT.of (e7 _ _ hp6), by omega, by omega⟩
  · rw [List.getElem?_map] at h1 h2
    obtain ⟨z, hz, rfl⟩ := Option.map_eq_some_iff.mp h1
    rw [hz] at h2
    cases h2
    obtain ⟨k, rfl, hk⟩ := hin i z hz
    have hkr : k < rs.length := by omega
    have hko : k < os.length := by omega
    have q := rows2.at_ k rs[k] os[k] (List.getElem?_eq_getElem hkr) (List.getElem?_eq_getElem hko)
    have q2 := eA _ _ q
    simpa [List.getElem?_eq_getElem hkr, List.getElem?_eq_getElem hko] using q2
  · rw [List.length_map, plen]; omega
  · intro o ho
    exact hok o (opick.mem_iff.mp ho)
  · have : (wn (ps.map fun z => os.getD z.toNat dOp)).Perm (wn os) := by
      unfold wn
      exact opick.filterMap _
    exact this.nodup_iff.mpr hnd
  · rw [List.length_map, plen]; omega
theorem pure__law_line_of {K : PySem.W.Frag} {w : World} {vs : List V} {H : Hp} {Q : VK} {E : XK} (h : sp__law_line_of K vs H Q E) : t__law_line_of K w { nx := fun _ H' => Q .non H', rt := Q } (start N__law_line_of vs) H := by
  obtain ⟨a, many, wide, rfl, hP, hm1, hm2, hw1, hw2, kQ⟩ := h
  obtain ⟨n, rfl⟩ : ∃ n : Nat, many = (n : Int) := ⟨many.toNat, by omega⟩
  walk_at "go"
  intro q0 hq0
  have na0 := hP.ne hq0
  refine ⟨a, q0, _, rfl, hP.upd na0, .inl (SqL.of upd_same), by rw [rgV_length]; omega, fun nm H1 ys hnm fr1 hP1 hperm hys => ?_⟩
  rw [rgV1] at hperm
  obtain ⟨us0, rfl, hus⟩ := perm_ints hperm
  have fr1' : Fr a H H1 := (Fr.of_ex (Evl.Ex.new hq0)).trans fr1
  walk_at "go"
  intro rw0 hrw
  have nma : nm ≠ a := (hP.upd na0).ne hnm
  have rwa : rw0 ≠ a := hP1.ne hrw
  have nrw : nm ≠ rw0 := ne_of_none hys hrw
  have nm0 : H nm = none := by
    cases q : H nm with
    | none => rfl
    | some u =>
      rw [Evl.Ex.new hq0 _ _ q] at hnm
      cases hnm
  have rw00 : H rw0 = none := fr_none fr1' hP1 hrw
  have L0 : LI H a nm rw0 us0 [] [] (upd H1 rw0 (.lst [])) := ⟨hP1.upd rwa, fr1'.mut rw00, by rw [upd_ne nrw]; exact hys, upd_same, RowsT.nil⟩
  have nd0 : us0.Nodup := hus.nodup_iff.mpr (by
    exact List.pairwise_map.mpr (List.nodup_range.imp fun {x y} h e => h (by omega)))
  have pos0 : ∀ z ∈ us0, 1 ≤ z := fun z hz => by
    obtain ⟨i, _, rfl⟩ := List.mem_map.mp (hus.mem_iff.mp hz)
    omega
  have len0 : us0.length = n := by rw [hus.length_eq, List.length_map, List.length_range]
  have hP2 := L0.pool
  generalize (upd H1 rw0 (.lst [])) = H2 at *
  walk_at "go"
  intro v0 H3 hv0 hv0' hP3 fr3
  have L3 := L0.step nma rwa fr3 hP3
  walk_at "go"
  refine And.intro (by omega) (And.intro (by omega) ?_)
  refine for_w (walk_range (lo := 0) (n := n)) (fun i σ H' => ∃ us rs os now last x7 x8 x9, σ = [some (.ref a), some (.int n), some (.int wide), some (.ref nm), some (.ref rw0), some (.int now), some (.int last), x7, x8, x9, none, none] ∧
      LI H a nm rw0 us rs os H' ∧ os.length = i ∧ (∀ o ∈ os, okOp o = true) ∧ (wn os ++ us).Nodup ∧ (∀ z ∈ us, 1 ≤ z) ∧ n ≤ us.length + i ∧ 0 ≤ now ∧ 0 ≤ last)
    ⟨us0, [], [], v0, 0, none, none, none, rfl, L3, rfl, (by intro o ho; cases ho), nd0, pos0, by omega, hv0, Int.le_refl 0⟩ (fun _ _ _ _ _ => trivial) ?_ ?_
  · rintro N i x σ H' H4 hN hi ⟨us, rs, os, now, last, x7, x8, x9, rfl, L, hlen, hok, hnd, hpos, hus', hnow, hlast⟩ ⟨rfl, rfl⟩
    have hPa := L.pool
    walk_at "go"
    intro v1 H5 hv1 hv1' hP5 fr5
    have L5 := L.step nma rwa fr5 hP5
    walk_at "go"
    intro v2 H6 hv2 hv2' hP6 fr6
    have L6 := L5.step nma rwa fr6 hP6
    walk_at "go"
    intro v3 H7 hv3 hv3' hP7 fr7
    have L7 := L6.step nma rwa fr7 hP7
    walk_at "go"
    intro v4 H8 hv4 hv4' hP8 fr8
    have L8 := L7.step nma rwa fr8 hP8
    have hr8 := L8.hr
    walk_at "go"
    have hbe : imax 0 (now + v1 - v2) ≤ now + v1 + v3 := imax0_le (by omega) (by omega)
    refine ite2 (fun hc => ?_) (fun hc => ?_)
    · obtain ⟨us', m, rfl⟩ : ∃ us' m, us = us' ++ [m] := by
        rcases List.eq_nil_or_concat us with h | ⟨l, b, h⟩
        · subst h
          simp at hus'
          omega
        · exact ⟨l, b, by simpa using h⟩
      have hn8 := L8.hn
      have hlast8 : ((us' ++ [m]).map V.int)[((us' ++ [m]).map V.int).length - 1]? = some (.int m) := by simp
      have edrop : ((us' ++ [m]).map V.int).dropLast = us'.map V.int := by simp
      refine ⟨_, rfl, Or.inl ⟨rfl, _, SqL.of hn8⟩, nm, _, .int m, rfl, rfl, hn8, hlast8, ?_⟩
      rw [edrop]
      have L9 := L8.pop nma nrw nm0
      have hr9 := L9.hr
      have hP9 := L9.pool
      have hm1' : 1 ≤ m := hpos m (by simp)
      have hnd' : ∀ e : Option Int, (wn (os ++ [((true, m, imax 0 (now + v1 - v2), e) : Op)]) ++ us').Nodup := fun e => by
        rw [wn_snoc]
        simp only [if_true]
        refine (List.Perm.nodup_iff ?_).mp hnd
        rw [List.append_assoc]
        exact (List.perm_append_comm (l₁ := us') (l₂ := [m])).append_left _
      generalize upd H8 nm (.lst (us'.map V.int)) = H9 at *
      walk_at "go"
      intro v5 H10 hv5 hv5' hP10 fr10
      have L10 := L9.step nma rwa fr10 hP10
      have fin : ∀ (e : Option Int) (t : Addr), okOp ((true, m, imax 0 (now + v1 - v2), e) : Op) = true → H10 t = none →
          N [some (.ref a), some (.int n), some (.int wide), some (.ref nm), some (.ref rw0), some (.int (now + v1)), some (.int m), some (.int (0 + (i : Int))), some (.int (imax 0 (now + v1 - v2))), some (.int (now + v1 + v3)), none, none]
            (upd (upd H10 t (.tup (opV (true, m, imax 0 (now + v1 - v2), e)))) rw0 (.lst (rs.map V.ref ++ [V.ref t]))) := fun e t hoe ht =>
        hN _ _ ⟨us', rs ++ [t], os ++ [(true, m, imax 0 (now + v1 - v2), e)], now + v1, m, _, _, _, rfl, L10.snoc nma rwa nrw rw00 ht, by simp [hlen], (by
          intro o ho
          rcases List.mem_append.mp ho with h | h
          · exact hok o h
          · rw [List.mem_singleton.mp h]; exact hoe), hnd' e, fun z hz => hpos z (List.mem_append_left _ hz), by
          rw [List.length_append] at hus'
          simp at hus'
          omega, by omega, by omega⟩
      have szr : (rs.map V.ref).length < sizeLine := by
        rw [List.length_map, L10.rows.len, hlen]
        exact sz1000 (by omega)
      walk_at "go"
      refine ite2 (fun hd => ?_) (fun hd => ?_)
      · walk_at "go"
        intro t ht
        have hrt : upd H10 t (.tup [V.str (Str.ofString "write"), .int m, .int (imax 0 (now + v1 - v2)), .non]) rw0 = some (.lst (rs.map V.ref)) := by rw [upd_ne (ne_of_none L10.hr ht)]; exact L10.hr
        walk_at "go"
        exact fin none t (by simp [okOp, hm1']) ht
      · walk_at "go"
        intro t ht
        have hrt : upd H10 t (.tup [V.str (Str.ofString "write"), .int m, .int (imax 0 (now + v1 - v2)), .int (now + v1 + v3)]) rw0 = some (.lst (rs.map V.ref)) := by rw [upd_ne (ne_of_none L10.hr ht)]; exact L10.hr
        walk_at "go"
        exact fin (some (now + v1 + v3)) t (by simp [okOp, hm1', hbe]) ht
    · walk_at "go"
      intro t ht
      have szr : (rs.map V.ref).length < sizeLine := by
        rw [List.length_map, L8.rows.len, hlen]
        exact sz1000 (by omega)
      have hrt : upd H8 t (.tup [V.str (Str.ofString "read"), .int last, .int (imax 0 (now + v1 - v2)), .int (now + v1 + v3)]) rw0 = some (.lst (rs.map V.ref)) := by rw [upd_ne (ne_of_none L8.hr ht)]; exact L8.hr
      walk_at "go"
      exact hN _ _ ⟨us, rs ++ [t], os ++ [(false, last, imax 0 (now + v1 - v2), some (now + v1 + v3))], now + v1, last, _, _, _, rfl, L8.snoc nma rwa nrw rw00 ht, by simp [hlen], (by
          intro o ho
          rcases List.mem_append.mp ho with h | h
          · exact hok o h
          · rw [List.mem_singleton.mp h]
            simp [okOp, hbe, hlast]), by
          rw [wn_snoc]
          simpa using hnd, hpos, by omega, by omega, hlast⟩
  · rintro σ H' ⟨us, rs, os, now, last, x7, x8, x9, rfl, L, hlen, hok, hnd, hpos, hus', hnow, hlast⟩
    exact line_tail K hm1 hm2 nma rwa L hlen hok ((List.nodup_append.mp hnd).1) kQ
end LW
namespace LW
open PySem PySem.Spec PyProof.Rows L2
open Evl (Ex)
local macro_rules | `(tactic| walk_at "kit") => `(tactic| first | exact kit_ii | exact kit_ib | exact kit_bi | exact kit_bb | exact kit_ni | exact kit_nb | exact kit_si | exact kit_sb)
local macro_rules | `(tactic| walk_at "side") => `(tactic| first | (with_reducible show PySem.W.kitOne _ _ _ = some _; walk_at "kit") | assumption | (with_reducible show (0 : Int) < _; omega) | exact Wd.mk (by omega) | exact rfl | exact SqL.of (by assumption) | exact SqT.of (by assumption) | exact Or.inl ⟨rfl, _, SqL.of (by assumption)⟩ | exact SqL.of upd_same | exact upd_same | exact ClsV.ty _ | exact TyX.base (.int _) | exact TyX.base (.bl _) | exact TyX.base (.str _) | exact TyX.base .non | (show CMul _ _; first | exact Or.inl ⟨by omega, by omega⟩ | exact Or.inr ⟨by omega, by omega⟩) | (show CPow _ _; first | exact ⟨by omega, by omega, by decide⟩ | exact ⟨by omega, by omega, mod_b (by omega) (by omega)⟩) | exact Or.inl ⟨_, by assumption, rfl⟩ | exact Or.inl ⟨_, SqL.of (by assumption), rfl⟩ | exact Or.inr ⟨_, by assumption, rfl⟩ | exact sz100 (Nat.le_of_ble_eq_true rfl) | exact Or.inl (SqL.of (by assumption)) | exact Or.inr (SqT.of (by assumption)) | exact ⟨_, SqL.of (by assumption)⟩ | exact ⟨_, SqT.of (by assumption)⟩ | exact ⟨_, (by assumption)⟩ | exact Or.inr (SqT.of upd_same) | exact RgOk.of_le (by omega) (by omega) (by omega) (by omega) | exact Nat.le_of_ble_eq_true rfl | exact DGet.k (k := Sum.inl _) (by assumption) | exact DPut.k (k := Sum.inl _) (by assumption) (sz1000 (by omega)))
local macro_rules | `(tactic| walk_at "go") => `(tactic| repeat (first | ((fail_if_success (with_reducible refine ite2 (fun _ => ?_) (fun _ => ?_))); first | (refine And.intro (by walk_at "side") ?_) | (refine ⟨_, rfl, ?_⟩) | (refine ⟨_, _, rfl, rfl, ?_⟩) | (apply Exists.intro) | (refine Or.inl ⟨_, rfl, ?_⟩) | (refine Or.inr ⟨_, rfl, ?_⟩)) | ((fail_if_success (with_reducible show (if decide ((_ : Int) < (_ : Int)) = true then _ else _))); (fail_if_success (with_reducible show (if decide ((_ : Int) ≤ (_ : Int)) = true then _ else _))); (fail_if_success (with_reducible show (if decide (V.int _ = V.int _) = true then _ else _))); (fail_if_success (with_reducible show (if (!decide (V.int _ = V.int _)) = true then _ else _))); first | (refine iteF ?_) | (refine iteT ?_))))
theorem perm_map {α β : Type} (f : α → β) : ∀ {ys zs : List β}, ys.Perm zs → ∀ l : List α, zs = l.map f → ∃ l' : List α, ys = l'.map f ∧ l'.Perm l := by
  intro ys zs h
  induction h with
  | nil => intro l e; exact ⟨[], rfl, by
      have : l = [] := by simpa using e.symm
      rw [this]⟩
  | @cons x l1 l2 h ih =>
    intro l e
    cases l with
    | nil => simp at e
    | cons b r =>
      simp at e
      obtain ⟨r', e1, e2⟩ := ih r e.2
      exact ⟨b :: r', by simp [e1, e.1], e2.cons b⟩
  | swap x y r0 =>
    intro l e
    match l, e with
    | [], e => simp at e
    | [_], e => simp at e
    | b :: c :: r, e =>
      simp at e
      exact ⟨c :: b :: r, by simp [e.1, e.2.1, e.2.2], List.Perm.swap b c r⟩
  | trans h1 h2 ih1 ih2 =>
    intro l e
    obtain ⟨l2, e2, p2⟩ := ih2 l e
    obtain ⟨l1, e1, p1⟩ := ih1 l2 e2
    exact ⟨l1, e1, p1.trans p2⟩
theorem zip_eq {α β : Type} : ∀ {rs : List α} {os : List β}, rs.length = os.length → (rs.zip os).map (·.1) = rs ∧ (rs.zip os).map (·.2) = os
  | [], [], _ => ⟨rfl, rfl⟩
  | [], _ :: _, h => by simp at h
  | _ :: _, [], h => by simp at h
  | r :: rs, o :: os, h => by
    have ih := zip_eq (rs := rs) (os := os) (by simpa using h)
    simp [ih.1, ih.2]
theorem rowsT_of {H : Hp} {l : List (Addr × Op)} (h : ∀ p ∈ l, H p.1 = some (.tup (opV p.2))) : RowsT H (l.map (·.1)) (l.map (·.2)) := by
  refine ⟨by simp, fun i r o h1 h2 => ?_⟩
  rw [List.getElem?_map] at h1 h2
  obtain ⟨p, hp, rfl⟩ := Option.map_eq_some_iff.mp h1
  rw [hp] at h2
  cases h2
  exact h p (List.mem_of_getElem? hp)
theorem perm_rows {H : Hp} {ys : List V} {rs : List Addr} {os : List Op} (R : RowsT H rs os) (h : ys.Perm (rs.map V.ref)) : ∃ rs' os', ys = rs'.map V.ref ∧ RowsT H rs' os' ∧ os'.Perm os := by
  obtain ⟨z1, z2⟩ := zip_eq R.len
  have e : rs.map V.ref = (rs.zip os).map (fun p => V.ref p.1) := by
    conv => lhs; rw [← z1]
    rw [List.map_map]; rfl
  obtain ⟨l', e1, p1⟩ := perm_map (fun p : Addr × Op => V.ref p.1) h (rs.zip os) e
  refine ⟨l'.map (·.1), l'.map (·.2), by rw [e1, List.map_map]; rfl, rowsT_of fun p hp => ?_, ?_⟩
  · have hm := p1.mem_iff.mp hp
    obtain ⟨i, hi⟩ := List.mem_iff_getElem?.mp hm
    rw [List.getElem?_zip_eq_some] at hi
    exact R.at_ i p.1 p.2 hi.1 hi.2
  · have q := p1.map (·.2)
    rw [z2] at q
    exact q
theorem cut_map {α : Type} (f : α → V) (zs : List α) (lo hi : Option Int) : ∃ A B : Nat, cutV (zs.map f) lo hi = ((zs.drop A).take B).map f := by
  unfold cutV
  exact ⟨_, _, by rw [List.map_take, List.map_drop]⟩
theorem cut_sub {zs : List Int} {A B : Nat} : ((zs.drop A).take B).Sublist zs := (List.take_sublist _ _).trans (List.drop_sublist _ _)
theorem WF.perm {os os' : List Op} (h : os'.Perm os) (w : WF os) : WF os' :=
  ⟨by rw [h.length_eq]; exact w.len, fun o ho => w.ok o (h.mem_iff.mp ho), (show (wn os').Perm (wn os) from h.filterMap _).nodup_iff.mpr w.nd⟩
def sp__law_any_history (K : PySem.W.Frag) : Sp := fun vs H Q _ => ∃ (a : Addr) (many : Int), vs = [.ref a, .int many] ∧ Pool H a ∧ 1 ≤ many ∧ many ≤ 30 ∧
  ∀ h H' rs os, Fr a H H' → Pool H' a → SqT K H' h (rs.map V.ref) → RowsT H' rs os → WF os → 1 ≤ os.length → Q (.ref h) H'
theorem len__law_any_history {K : PySem.W.Frag} {vs : List V} {H : Hp} {Q : VK} {E : XK} (h : sp__law_any_history K vs H Q E) : vs.length = 2 := by
  obtain ⟨_, _, rfl, _⟩ := h; rfl
abbrev N__law_any_history : List Str := ["_law_pool_here", "_law_many", "_law_rows", "_law_names", "_law_free", "_law_wide", "_law_k", "_law_begin", "_law_end", "_law_kind", "_law_number"]
def t__law_any_history (K : PySem.W.Frag) (w : World) : TS :=
  (tSeq (tAsg (tLst tNil) (gName 2))
  (tSeq (tAsg (tSl (rSlL K) (tCall (sp__law_mix K) [] E0 (tCons (tVar 0) (tCons (tLst (tCons (tC (.int 1)) (tCons (tC (.int 2)) (tCons (tC (.int 3)) (tCons (tC (.int 4)) (tCons (tC (.int 5)) (tCons (tC (.int 6)) (tCons (tC (.int 7)) (tCons (tC (.int 8)) (tCons (tC (.int 9)) tNil)))))))))) tNil))) tNoPart (tPart (tOp rAddI (tC (.int 1)) (tCall (sp__law_take K) [] E0 (tCons (tVar 0) (tCons (tC (.int 6)) tNil)))))) (gName 3))
  (tSeq (tAsg (tCB (rListOf K) (tCons (tVar 3) tNil)) (gName 4))
  (tSeq (tAsg (tOp rAddI (tC (.int 2)) (tCall (sp__law_take K) [] E0 (tCons (tVar 0) (tCons (tOp rAddI (tC (.int 4)) (tOp rMulI (tC (.int 2)) (tVar 1))) tNil)))) (gName 5))
  (tSeq (tFor (iRng1 (tCons (tVar 1) tNil)) (gName 6)
  (tSeq (tAsg (tCall (sp__law_take K) [] E0 (tCons (tVar 0) (tCons (tVar 5) tNil))) (gName 7))
  (tSeq (tAsg (tOp rAddI (tVar 7) (tCall (sp__law_take K) [] E0 (tCons (tVar 0) (tCons (tOp rAddI (tC (.int 1)) (tCall (sp__law_take K) [] E0 (tCons (tVar 0) (tCons (tVar 5) tNil)))) tNil)))) (gName 8))
  (tSeq (tAsg (tCall (sp__law_take K) [] E0 (tCons (tVar 0) (tCons (tC (.int 3)) tNil))) (gName 9))
  (tIfS (tAnd (tTest (tOp rEq (tVar 9) (tC (.int 0)))) (tTest (tOp rGtI (tCB (rLen K) (tCons (tVar 4) tNil)) (tC (.int 0))))) (tDrop (tBM K "list" rAppend (tVar 2) (tCons (tTup (tCons (tC (.str "write")) (tCons (tBM0 K "list" rPop (tVar 4)) (tCons (tVar 7) (tCons (tIf (tTest (tOp rEq (tCall (sp__law_take K) [] E0 (tCons (tVar 0) (tCons (tC (.int 4)) tNil))) (tC (.int 0)))) (tC .non) (tVar 8)) tNil))))) tNil))) (tSeq (tAsg (tOp (rIxA K) (tOp rCat (tLst (tCons (tC (.int 0)) tNil)) (tVar 3)) (tCall (sp__law_take K) [] E0 (tCons (tVar 0) (tCons (tOp rAddI (tCB (rLen K) (tCons (tVar 3) tNil)) (tC (.int 1))) tNil)))) (gName 10))
  (tDrop (tBM K "list" rAppend (tVar 2) (tCons (tTup (tCons (tC (.str "read")) (tCons (tVar 10) (tCons (tVar 7) (tCons (tVar 8) tNil))))) tNil)))))))))
  (tSeq (tFor (iList K (tSl (rSlL K) (tVar 4) (tPart (tOp rDivW (tCall (sp__law_take K) [] E0 (tCons (tVar 0) (tCons (tC (.int 5)) tNil))) (tC (.int 4)))) tNoPart)) (gName 10)
  (tIfS (tTest (tOp rLtI (tCB (rLen K) (tCons (tVar 2) tNil)) (tC (.int 40)))) (tDrop (tBM K "list" rAppend (tVar 2) (tCons (tTup (tCons (tC (.str "write")) (tCons (tVar 10) (tCons (tCall (sp__law_take K) [] E0 (tCons (tVar 0) (tCons (tVar 5) tNil))) (tCons (tC .non) tNil))))) tNil))) tNext))
  (tRet (tCB (rTupleOf K) (tCons (tCall (sp__law_mix K) [] E0 (tCons (tVar 0) (tCons (tVar 2) tNil))) tNil)))))))))


theorem atI_ints {ms : List Int} {j : Nat} (h : j < ms.length) : atI (ms.map V.int) (j : Int) = some (.int ms[j]) := atI_nat (by rw [List.getElem?_map, List.getElem?_eq_getElem h] <;> rfl)
theorem any_read (K : PySem.W.Frag) {H H7 : Hp} {Q : VK} {N : St → Hp → Prop} {bk : St → Hp → Prop} {a fe rw0 nn : Addr} {n : Nat} {wide b e v5 : Int} {us ws : List Int} {rs : List Addr} {os : List Op} {x6 x10 : Option V}
    (fea : fe ≠ a) (rwa : rw0 ≠ a) (fer : fe ≠ rw0) (nna : nn ≠ a) (nnr : nn ≠ rw0) (rw00 : H rw0 = none) (L : LI H a fe rw0 us rs os H7) (hn : H7 nn = some (.lst (ws.map V.int))) (wlen : ws.length ≤ 9) (wpos : ∀ z ∈ ws, 1 ≤ z) (hlen : os.length ≤ 100) (hbe : b ≤ e)
    (hN : ∀ z t H8, 0 ≤ z → LI H a fe rw0 us (rs ++ [t]) (os ++ [((false, z, b, some e) : Op)]) H8 → H8 nn = some (.lst (ws.map V.int)) → N [some (.ref a), some (.int n), some (.ref rw0), some (.ref nn), some (.ref fe), some (.int wide), x6, some (.int b), some (.int e), some (.int v5), some (.int z)] H8) :
    (tSeq (tAsg (tOp (rIxA K) (tOp rCat (tLst (tCons (tC (.int 0)) tNil)) (tVar 3)) (tCall (sp__law_take K) [] E0 (tCons (tVar 0) (tCons (tOp rAddI (tCB (rLen K) (tCons (tVar 3) tNil)) (tC (.int 1))) tNil)))) (gName 10))
  (tDrop (tBM K "list" rAppend (tVar 2) (tCons (tTup (tCons (tC (.str "read")) (tCons (tVar 10) (tCons (tVar 7) (tCons (tVar 8) tNil))))) tNil)))) { nx := N, rt := Q, bk := bk, ct := N } [some (.ref a), some (.int n), some (.ref rw0), some (.ref nn), some (.ref fe), some (.int wide), x6, some (.int b), some (.int e), some (.int v5), x10] H7 := by
  have hPa := L.pool
  have hr := L.hr
  walk_at "go"
  intro q1 hq1
  have e1 : Ex H7 (upd H7 q1 (.lst [.int 0])) := Evl.Ex.new hq1
  have hq1' : upd H7 q1 (.lst [.int 0]) q1 = some (.lst [.int 0]) := upd_same
  have hn1 := e1 _ _ hn
  have L1 := L.step fea rwa (Fr.of_ex e1) (hPa.ex e1)
  generalize upd H7 q1 (.lst [.int 0]) = H8 at *
  have szc : ([V.int 0] ++ ws.map V.int).length ≤ sizeLine := sz100 (by simp; omega)
  refine ⟨_, rfl, q1, nn, _, _, rfl, rfl, hq1', hn1, sz100 (by simp; omega), fun q2 hq2 => ?_⟩
  have e2 : Ex H8 (upd H8 q2 (.lst ([V.int 0] ++ ws.map V.int))) := Evl.Ex.new hq2
  have hq2' : upd H8 q2 (.lst ([V.int 0] ++ ws.map V.int)) q2 = some (.lst ((0 :: ws).map V.int)) := upd_same
  have hn2 := e2 _ _ hn1
  have L2 := L1.step fea rwa (Fr.of_ex e2) (L1.pool.ex e2)
  generalize upd H8 q2 (.lst ([V.int 0] ++ ws.map V.int)) = H9 at *
  have hP2 := L2.pool
  have q2a : q2 ≠ a := by
    intro z
    subst z
    exact absurd rfl (L1.pool.ne hq2)
  have hw40 : Wd (((ws.map V.int).length : Int) + 1) := ⟨by
    rw [List.length_map]
    omega⟩
  have hw0 : 0 < ((ws.map V.int).length : Int) + 1 := by omega
  walk_at "go"
  intro v H10 hv hv' hP10 fr10
  have L3 := L2.step fea rwa fr10 hP10
  have hn3 := fr10 _ _ nna hn2
  have hq3 := fr10 _ _ q2a hq2'
  obtain ⟨j, rfl⟩ : ∃ j : Nat, v = (j : Int) := ⟨v.toNat, by omega⟩
  have hj : j < (0 :: ws).length := by
    simp at hv' ⊢
    omega
  have hat := atI_ints hj
  have hz : 0 ≤ (0 :: ws)[j] := by
    have hm := List.getElem_mem hj
    rcases List.mem_cons.mp hm with h | h
    · rw [h]; exact Int.le_refl 0
    · have := wpos _ h
      omega
  generalize (0 :: ws)[j] = z at *
  have hr3 := L3.hr
  walk_at "go"
  intro t ht
  have szr : (rs.map V.ref).length < sizeLine := by
    rw [List.length_map, L3.rows.len]
    exact sz1000 (by omega)
  have hrt : upd H10 t (.tup [V.str (Str.ofString "read"), .int z, .int b, .int e]) rw0 = some (.lst (rs.map V.ref)) := by rw [upd_ne (ne_of_none L3.hr ht)]; exact L3.hr
  walk_at "go"
  refine hN z t _ hz (L3.snoc fea rwa fer rw00 ht) ?_
  rw [upd_ne nnr, upd_ne (ne_of_none hn3 ht)]
  exact hn3
theorem any_tail (K : PySem.W.Frag) {H H7 : Hp} {Q : VK} {a fe rw0 nn : Addr} {n : Nat} {wide : Int} {us : List Int} {rs : List Addr} {os : List Op} {x6 x7 x8 x9 x10 : Option V}
    (fea : fe ≠ a) (rwa : rw0 ≠ a) (fer : fe ≠ rw0) (rw00 : H rw0 = none) (L : LI H a fe rw0 us rs os H7) (hn1 : 1 ≤ (n : Int)) (hn2 : (n : Int) ≤ 30) (hw1 : 1 ≤ wide) (hw2 : wide ≤ 1000) (hul : us.length ≤ 9) (hlen : os.length = n) (hok : ∀ o ∈ os, okOp o = true) (hnd : (wn os ++ us).Nodup) (hpos : ∀ z ∈ us, 1 ≤ z)
    (kQ : ∀ h H' rs os, Fr a H H' → Pool H' a → SqT K H' h (rs.map V.ref) → RowsT H' rs os → WF os → 1 ≤ os.length → Q (.ref h) H') :
    (tSeq (tFor (iList K (tSl (rSlL K) (tVar 4) (tPart (tOp rDivW (tCall (sp__law_take K) [] E0 (tCons (tVar 0) (tCons (tC (.int 5)) tNil))) (tC (.int 4)))) tNoPart)) (gName 10)
  (tIfS (tTest (tOp rLtI (tCB (rLen K) (tCons (tVar 2) tNil)) (tC (.int 40)))) (tDrop (tBM K "list" rAppend (tVar 2) (tCons (tTup (tCons (tC (.str "write")) (tCons (tVar 10) (tCons (tCall (sp__law_take K) [] E0 (tCons (tVar 0) (tCons (tVar 5) tNil))) (tCons (tC .non) tNil))))) tNil))) tNext))
  (tRet (tCB (rTupleOf K) (tCons (tCall (sp__law_mix K) [] E0 (tCons (tVar 0) (tCons (tVar 2) tNil))) tNil)))) { nx := fun _ H' => Q .non H', rt := Q } [some (.ref a), some (.int n), some (.ref rw0), some (.ref nn), some (.ref fe), some (.int wide), x6, x7, x8, x9, x10] H7 := by
  have hPa := L.pool
  walk_at "go"
  intro v H8 hv hv' hP8 fr8
  have L8 := L.step fea rwa fr8 hP8
  have hf8 := L8.hn
  walk_at "go"
  refine And.intro (wide_div (b := 3) (by omega) (by decide) (by decide) (by decide)) ?_
  walk_at "go"
  intro sl hsl
  obtain ⟨A, B, ecut⟩ := cut_map V.int us (some (v / 4)) none
  rw [ecut]
  have hsub : ((us.drop A).take B).Sublist us := cut_sub
  have hnd2 : (wn os ++ ((us.drop A).take B)).Nodup := (hsub.append_left (wn os)).nodup hnd
  have hpos2 : ∀ z ∈ (us.drop A).take B, 1 ≤ z := fun z hz => hpos z (hsub.mem hz)
  have hl2 : ((us.drop A).take B).length ≤ 9 := Nat.le_trans hsub.length_le hul
  generalize (us.drop A).take B = vs at *
  have e9 : Ex H8 (upd H8 sl (.lst (vs.map V.int))) := Evl.Ex.new hsl
  have hs9 : upd H8 sl (.lst (vs.map V.int)) sl = some (.lst (vs.map V.int)) := upd_same
  have L9 := L8.step fea rwa (Fr.of_ex e9) (L8.pool.ex e9)
  have sla : sl ≠ a := L8.pool.ne hsl
  have slr : sl ≠ rw0 := (ne_of_none L8.hr hsl).symm
  generalize upd H8 sl (.lst (vs.map V.int)) = H9 at *
  refine ⟨sl, rfl, ⟨_, SqL.of hs9⟩, ?_⟩
  refine for_w (walk_list (K := K) (a := sl) (xs := vs.map V.int)) (fun i σ H' => ∃ rs os x10, σ = [some (.ref a), some (.int n), some (.ref rw0), some (.ref nn), some (.ref fe), some (.int wide), x6, x7, x8, x9, x10] ∧
      LI H a fe rw0 us rs os H' ∧ H' sl = some (.lst (vs.map V.int)) ∧ os.length ≤ n + i ∧ 1 ≤ os.length ∧ (∀ o ∈ os, okOp o = true) ∧ (wn os ++ vs.drop i).Nodup)
    ⟨rs, os, x10, rfl, L9, hs9, by omega, by omega, hok, hnd2⟩ (fun i σ H' _ ⟨_, _, _, _, _, h, _⟩ => SqL.of h) ?_ ?_
  · rintro N i x σ H' H10 hN hi ⟨rs, os, x10, rfl, L10, hs10, hlen10, hl1, hok10, hnd10⟩ ⟨rfl, hx⟩
    rw [List.length_map] at hi
    rw [List.getElem?_map] at hx
    obtain ⟨z, hz, rfl⟩ := Option.map_eq_some_iff.mp hx
    have hz1 := hpos2 z (List.mem_of_getElem? hz)
    have hdrop := drop_at hz
    have hr10 := L10.hr
    have hP10 := L10.pool
    walk_at "go"
    refine ite2 (fun hc => ?_) (fun hc => ?_)
    · walk_at "go"
      intro v2 H11 hv2 hv2' hP11 fr11
      have L11 := L10.step fea rwa fr11 hP11
      have hs11 := fr11 _ _ sla hs10
      walk_at "go"
      intro t ht
      have szr : (rs.map V.ref).length < sizeLine := by
        rw [List.length_map, L11.rows.len]
        exact sz1000 (by omega)
      have hrt : upd H11 t (.tup [V.str (Str.ofString "write"), .int z, .int v2, .non]) rw0 = some (.lst (rs.map V.ref)) := by rw [upd_ne (ne_of_none L11.hr ht)]; exact L11.hr
      walk_at "go"
      refine hN _ _ ⟨rs ++ [t], os ++ [(true, z, v2, none)], _, rfl, L11.snoc fea rwa fer rw00 ht, ?_, by simp; omega, by simp, (by
        intro o ho
        rcases List.mem_append.mp ho with h | h
        · exact hok10 o h
        · rw [List.mem_singleton.mp h]
          simp [okOp, hz1]), ?_⟩
      · rw [upd_ne slr, upd_ne (ne_of_none hs11 ht)]
        exact hs11
      · rw [wn_snoc]
        simp only [if_true]
        rw [List.append_assoc]
        rw [hdrop] at hnd10
        exact hnd10
    · walk_at "go"
      refine hN _ _ ⟨rs, os, _, rfl, L10, hs10, by omega, hl1, hok10, ?_⟩
      rw [hdrop] at hnd10
      exact ((List.sublist_cons_self z (vs.drop (i + 1))).append_left (wn os)).nodup hnd10
  · rintro σ H' ⟨rs, os, x10, rfl, L10, hs10, hlen10, hl1, hok10, hnd10⟩
    rw [List.length_map] at hlen10
    walk_at "go"
    have llen : (rs.map V.ref).length ≤ 1000 := by
      rw [List.length_map, L10.rows.len]
      omega
    refine And.intro L10.pool (And.intro (.inl (SqL.of L10.hr)) (And.intro llen fun p H2 ys hp fr2 hP2 hperm hys => ?_))
    have rows2 : RowsT H2 rs os := L10.rows.mono fun r xs h => tup_fr fr2 L10.pool h
    obtain ⟨rs', os', rfl, R', po⟩ := perm_rows rows2 hperm
    refine ⟨p, _, rfl, .inl ⟨SqL.of hys, fun h hh => ?_⟩⟩
    have eh : Ex H2 (upd H2 h (.tup (rs'.map V.ref))) := Evl.Ex.new hh
    refine kQ h _ rs' os' ((L10.fr.trans fr2).trans (Fr.of_ex eh)) (hP2.ex eh) (SqT.of upd_same) (R'.mono fun r xs h' => eh _ _ h') (WF.perm po ⟨by omega, hok10, (List.nodup_append.mp hnd10).1⟩) ?_
    rw [po.length_eq]
    exact hl1
theorem pure__law_any_history {K : PySem.W.Frag} {w : World} {vs : List V} {H : Hp} {Q : VK} {E : XK} (h : sp__law_any_history K vs H Q E) : t__law_any_history K w { nx := fun _ H' => Q .non H', rt := Q } (start N__law_any_history vs) H := by
  obtain ⟨a, many, rfl, hP, hm1, hm2, kQ⟩ := h
  obtain ⟨n, rfl⟩ : ∃ n : Nat, many = (n : Int) := ⟨many.toNat, by omega⟩
  walk_at "go"
  intro rw0 hrw
  have rwa : rw0 ≠ a := hP.ne hrw
  have rw00 : H rw0 = none := hrw
  have hP1 : Pool (upd H rw0 (.lst [])) a := hP.upd rwa
  have e1 : Ex H (upd H rw0 (.lst [])) := Evl.Ex.new hrw
  have hr1 : upd H rw0 (.lst []) rw0 = some (.lst (([] : List Addr).map V.ref)) := upd_same
  generalize upd H rw0 (.lst []) = H1 at *
  walk_at "go"
  intro q0 hq0
  have e2 : Ex H1 (upd H1 q0 (.lst [V.int 1, .int 2, .int 3, .int 4, .int 5, .int 6, .int 7, .int 8, .int 9])) := Evl.Ex.new hq0
  refine ⟨a, q0, _, rfl, hP1.ex e2, .inl (SqL.of upd_same), by show 9 ≤ 1000; decide, fun p0 H2 ys hp0 fr2 hP2 hperm hys => ?_⟩
  obtain ⟨zs, rfl, hzs⟩ := perm_ints (ns := [1, 2, 3, 4, 5, 6, 7, 8, 9]) hperm
  have fr2' : Fr a H1 H2 := (Fr.of_ex e2).trans fr2
  have hr2 := fr2' _ _ rwa hr1
  walk_at "go"
  intro v0 H3 hv0 hv0' hP3 fr3
  have hr3 := fr3 _ _ rwa hr2
  have p0a : p0 ≠ a := (hP1.ex e2).ne hp0
  have hy3 := fr3 _ _ p0a hys
  walk_at "go"
  intro nn hnn
  obtain ⟨A, B, ecut⟩ := cut_map V.int zs none (some (1 + v0))
  rw [ecut]
  have hsub : ((zs.drop A).take B).Sublist zs := cut_sub
  have wnd : ((zs.drop A).take B).Nodup := hsub.nodup (hzs.nodup_iff.mpr (by decide))
  have wpos : ∀ z ∈ (zs.drop A).take B, 1 ≤ z := fun z hz => by
    have := hzs.mem_iff.mp (hsub.mem hz)
    revert this
    simp
    omega
  have wlen : ((zs.drop A).take B).length ≤ 9 := by
    have := hsub.length_le
    rw [hzs.length_eq] at this
    exact this
  generalize (zs.drop A).take B = ws at *
  have e4 : Ex H3 (upd H3 nn (.lst (ws.map V.int))) := Evl.Ex.new hnn
  have hn4 : upd H3 nn (.lst (ws.map V.int)) nn = some (.lst (ws.map V.int)) := upd_same
  have hr4 := e4 _ _ hr3
  have nna : nn ≠ a := hP3.ne hnn
  have hP4 := hP3.ex e4
  have nnr : nn ≠ rw0 := (ne_of_none hr3 hnn).symm
  have frH3 : Fr a H H3 := ((Fr.of_ex e1).trans fr2').trans fr3
  have frH4 : Fr a H (upd H3 nn (.lst (ws.map V.int))) := frH3.trans (Fr.of_ex e4)
  generalize upd H3 nn (.lst (ws.map V.int)) = H4 at *
  walk_at "go"
  intro fe hfe
  have fea : fe ≠ a := hP4.ne hfe
  have fer : fe ≠ rw0 := (ne_of_none hr4 hfe).symm
  have fen : fe ≠ nn := (ne_of_none hn4 hfe).symm
  have fe0 : H fe = none := fr_none frH4 hP4 hfe
  have e5 : Ex H4 (upd H4 fe (.lst (ws.map V.int))) := Evl.Ex.new hfe
  have L5 : LI H a fe rw0 ws [] [] (upd H4 fe (.lst (ws.map V.int))) := ⟨hP4.ex e5, frH4.trans (Fr.of_ex e5), upd_same, e5 _ _ hr4, RowsT.nil⟩
  have hn5 := e5 _ _ hn4
  have hP5 := L5.pool
  generalize upd H4 fe (.lst (ws.map V.int)) = H5 at *
  walk_at "go"
  intro v1 H6 hv1 hv1' hP6 fr6
  have L6 := L5.step fea rwa fr6 hP6
  have hn6 := fr6 _ _ nna hn5
  walk_at "go"
  refine And.intro (by omega) (And.intro (by omega) ?_)
  refine for_w (walk_range (lo := 0) (n := n)) (fun i σ H' => ∃ us rs os x6 x7 x8 x9 x10, σ = [some (.ref a), some (.int n), some (.ref rw0), some (.ref nn), some (.ref fe), some (.int (2 + v1)), x6, x7, x8, x9, x10] ∧
      LI H a fe rw0 us rs os H' ∧ H' nn = some (.lst (ws.map V.int)) ∧ os.length = i ∧ (∀ o ∈ os, okOp o = true) ∧ (wn os ++ us).Nodup ∧ (∀ z ∈ us, 1 ≤ z) ∧ us.length ≤ 9)
    ⟨ws, [], [], none, none, none, none, none, rfl, L6, hn6, rfl, (by intro o ho; cases ho), wnd, wpos, wlen⟩ (fun _ _ _ _ _ => trivial) ?_ ?_
  · rintro N i x σ H' H7 hN hi ⟨us, rs, os, x6, x7, x8, x9, x10, rfl, L, hnn7, hlen, hok, hnd, hpos, hul⟩ ⟨rfl, rfl⟩
    have hPa := L.pool
    walk_at "go"
    intro v2 H8 hv2 hv2' hP8 fr8
    have L8 := L.step fea rwa fr8 hP8
    have hn8 := fr8 _ _ nna hnn7
    walk_at "go"
    intro v3 H9 hv3 hv3' hP9 fr9
    have L9 := L8.step fea rwa fr9 hP9
    have hn9 := fr9 _ _ nna hn8
    walk_at "go"
    intro v4 H10 hv4 hv4' hP10 fr10
    have L10 := L9.step fea rwa fr10 hP10
    have hn10 := fr10 _ _ nna hn9
    walk_at "go"
    intro v5 H11 hv5 hv5' hP11 fr11
    have L11 := L10.step fea rwa fr11 hP11
    have hn11 := fr11 _ _ nna hn10
    have hr11 := L11.hr
    have hf11 := L11.hn
    have szr : (rs.map V.ref).length < sizeLine := by
      rw [List.length_map, L11.rows.len, hlen]
      exact sz1000 (by omega)
    walk_at "go"
    have hbe : v2 ≤ v2 + v4 := by omega
    have hrd : ∀ z t H8, 0 ≤ z → LI H a fe rw0 us (rs ++ [t]) (os ++ [((false, z, v2, some (v2 + v4)) : Op)]) H8 → H8 nn = some (.lst (ws.map V.int)) → N [some (.ref a), some (.int n), some (.ref rw0), some (.ref nn), some (.ref fe), some (.int (2 + v1)), some (.int (0 + (i : Int))), some (.int v2), some (.int (v2 + v4)), some (.int v5), some (.int z)] H8 := fun z t H8 hz L' hn' =>
      hN _ _ ⟨us, rs ++ [t], os ++ [(false, z, v2, some (v2 + v4))], _, _, _, _, _, rfl, L', hn', by simp [hlen], (by
        intro o ho
        rcases List.mem_append.mp ho with h | h
        · exact hok o h
        · rw [List.mem_singleton.mp h]
          simp [okOp, hbe, hz]), by
        rw [wn_snoc]
        simpa using hnd, hpos, hul⟩
    refine ite2 (fun hc => ?_) (fun hc => ?_)
    · walk_at "go"
      refine ite2 (fun hd => ?_) (fun hd => ?_)
      · obtain ⟨us', m, rfl⟩ : ∃ us' m, us = us' ++ [m] := by
          rcases List.eq_nil_or_concat us with h | ⟨l, b, h⟩
          · subst h
            simp at hd
          · exact ⟨l, b, by simpa using h⟩
        have hlast : ((us' ++ [m]).map V.int)[((us' ++ [m]).map V.int).length - 1]? = some (.int m) := by simp
        have edrop : ((us' ++ [m]).map V.int).dropLast = us'.map V.int := by simp
        have L12 := L11.pop fea fer fe0
        rw [← edrop] at L12
        have hn12 : upd H11 fe (.lst ((us' ++ [m]).map V.int).dropLast) nn = some (.lst (ws.map V.int)) := by
          rw [upd_ne fen.symm]
          exact hn11
        have hP12 := L12.pool
        have hm1' : 1 ≤ m := hpos m (by simp)
        have hnd' : ∀ e : Option Int, (wn (os ++ [((true, m, v2, e) : Op)]) ++ us').Nodup := fun e => by
          rw [wn_snoc]
          simp only [if_true]
          refine (List.Perm.nodup_iff ?_).mp hnd
          rw [List.append_assoc]
          exact (List.perm_append_comm (l₁ := us') (l₂ := [m])).append_left _
        walk_at "go"
        intro v6 H13 hv6 hv6' hP13 fr13
        have L13 := L12.step fea rwa fr13 hP13
        have hn13 := fr13 _ _ nna hn12
        have hr13 := L13.hr
        have fin : ∀ (e : Option Int) (t : Addr), okOp ((true, m, v2, e) : Op) = true → H13 t = none →
            N [some (.ref a), some (.int n), some (.ref rw0), some (.ref nn), some (.ref fe), some (.int (2 + v1)), some (.int (0 + (i : Int))), some (.int v2), some (.int (v2 + v4)), some (.int v5), x10]
              (upd (upd H13 t (.tup (opV (true, m, v2, e)))) rw0 (.lst (rs.map V.ref ++ [V.ref t]))) := fun e t hoe ht =>
          hN _ _ ⟨us', rs ++ [t], os ++ [(true, m, v2, e)], _, _, _, _, _, rfl, L13.snoc fea rwa fer rw00 ht, by rw [upd_ne nnr, upd_ne (ne_of_none hn13 ht)]; exact hn13, by simp [hlen], (by
            intro o ho
            rcases List.mem_append.mp ho with h | h
            · exact hok o h
            · rw [List.mem_singleton.mp h]; exact hoe), hnd' e, fun z hz => hpos z (List.mem_append_left _ hz), by
            rw [List.length_append] at hul
            omega⟩
        walk_at "go"
        refine ite2 (fun hd => ?_) (fun hd => ?_)
        · walk_at "go"
          intro t ht
          have hrt : upd H13 t (.tup [V.str (Str.ofString "write"), .int m, .int v2, .non]) rw0 = some (.lst (rs.map V.ref)) := by rw [upd_ne (ne_of_none L13.hr ht)]; exact L13.hr
          walk_at "go"
          exact fin none t (by simp [okOp, hm1']) ht
        · walk_at "go"
          intro t ht
          have hrt : upd H13 t (.tup [V.str (Str.ofString "write"), .int m, .int v2, .int (v2 + v4)]) rw0 = some (.lst (rs.map V.ref)) := by rw [upd_ne (ne_of_none L13.hr ht)]; exact L13.hr
          walk_at "go"
          exact fin (some (v2 + v4)) t (by simp [okOp, hm1', hbe]) ht
      · exact any_read K fea rwa fer nna nnr rw00 L11 hn11 wlen wpos (by omega) hbe hrd
    · exact any_read K fea rwa fer nna nnr rw00 L11 hn11 wlen wpos (by omega) hbe hrd
  · rintro σ H' ⟨us, rs, os, x6, x7, x8, x9, x10, rfl, L, hnn7, hlen, hok, hnd, hpos, hul⟩
    exact any_tail K fea rwa fer rw00 L hm1 hm2 (by omega) (by omega) hul hlen hok hnd hpos kQ
end LW
namespace LW
open PySem PySem.Spec PyProof.Rows L2
open Evl (Ex)
local macro_rules | `(tactic| walk_at "kit") => `(tactic| first | exact kit_ii | exact kit_ib | exact kit_bi | exact kit_bb | exact kit_ni | exact kit_nb | exact kit_si | exact kit_sb)
local macro_rules | `(tactic| walk_at "side") => `(tactic| first | (with_reducible show PySem.W.kitOne _ _ _ = some _; walk_at "kit") | assumption | (with_reducible show (0 : Int) < _; omega) | exact Wd.mk (by omega) | exact rfl | exact SqL.of (by assumption) | exact SqT.of (by assumption) | exact Or.inl ⟨rfl, _, SqL.of (by assumption)⟩ | exact SqL.of upd_same | exact upd_same | exact ClsV.ty _ | exact TyX.base (.int _) | exact TyX.base (.bl _) | exact TyX.base (.str _) | exact TyX.base .non | (show CMul _ _; first | exact Or.inl ⟨by omega, by omega⟩ | exact Or.inr ⟨by omega, by omega⟩) | (show CPow _ _; first | exact ⟨by omega, by omega, by decide⟩ | exact ⟨by omega, by omega, mod_b (by omega) (by omega)⟩) | exact Or.inl ⟨_, by assumption, rfl⟩ | exact Or.inl ⟨_, SqL.of (by assumption), rfl⟩ | exact Or.inr ⟨_, by assumption, rfl⟩ | exact sz100 (Nat.le_of_ble_eq_true rfl) | exact Or.inl (by assumption) | exact Or.inr (by assumption) | exact Or.inl (SqL.of (by assumption)) | exact Or.inr (SqT.of (by assumption)) | exact ⟨_, SqL.of (by assumption)⟩ | exact ⟨_, SqT.of (by assumption)⟩ | exact ⟨_, (by assumption)⟩ | exact Or.inr (SqT.of upd_same) | exact RgOk.of_le (by omega) (by omega) (by omega) (by omega) | exact Nat.le_of_ble_eq_true rfl | exact DGet.k (k := Sum.inl _) (by assumption) | exact DPut.k (k := Sum.inl _) (by assumption) (sz1000 (by omega)))
local macro_rules | `(tactic| walk_at "go") => `(tactic| repeat (first | ((fail_if_success (with_reducible refine ite2 (fun _ => ?_) (fun _ => ?_))); first | (refine And.intro (by walk_at "side") ?_) | (refine ⟨_, rfl, ?_⟩) | (refine ⟨_, _, rfl, rfl, ?_⟩) | (apply Exists.intro) | (refine Or.inl ⟨_, rfl, ?_⟩) | (refine Or.inr ⟨_, rfl, ?_⟩)) | ((fail_if_success (with_reducible show (if decide ((_ : Int) < (_ : Int)) = true then _ else _))); (fail_if_success (with_reducible show (if decide ((_ : Int) ≤ (_ : Int)) = true then _ else _))); (fail_if_success (with_reducible show (if decide (V.int _ = V.int _) = true then _ else _))); (fail_if_success (with_reducible show (if (!decide (V.int _ = V.int _)) = true then _ else _))); first | (refine iteF ?_) | (refine iteT ?_))))
local macro_rules | `(tactic| walk_at "gof") => `(tactic| repeat (first | ((fail_if_success (with_reducible refine ite2 (fun _ => ?_) (fun _ => ?_))); first | (refine And.intro (by walk_at "side") ?_) | (refine ⟨_, rfl, ?_⟩) | (refine ⟨_, _, rfl, rfl, ?_⟩) | (apply Exists.intro) | (refine Or.inl ⟨_, rfl, ?_⟩) | (refine Or.inr ⟨_, rfl, ?_⟩)) | ((fail_if_success (with_reducible show (if decide ((_ : Int) < (_ : Int)) = true then _ else _))); (fail_if_success (with_reducible show (if decide ((_ : Int) ≤ (_ : Int)) = true then _ else _))); first | (refine iteF ?_) | (refine iteT ?_))))
def sp__law_bent (K : PySem.W.Frag) : Sp := fun vs H Q _ => ∃ (a p : Addr) (ns : List Int), vs = [.ref a, .ref p] ∧ Pool H a ∧ SqT K H p (ns.map V.int) ∧ 1 ≤ ns.length ∧ ns.length ≤ 100 ∧
  ∀ t H' (ms : List Int), Fr a H H' → Pool H' a → SqT K H' t (ms.map V.int) → Q (.ref t) H'
theorem len__law_bent {K : PySem.W.Frag} {vs : List V} {H : Hp} {Q : VK} {E : XK} (h : sp__law_bent K vs H Q E) : vs.length = 2 := by
  obtain ⟨_, _, _, rfl, _⟩ := h; rfl
abbrev N__law_bent : List Str := ["_law_pool_here", "_law_places", "_law_way", "_law_at", "_law_to", "_law_found"]
def t__law_bent (K : PySem.W.Frag) (w : World) : TS :=
  (tSeq (tAsg (tCall (sp__law_take K) [] E0 (tCons (tVar 0) (tCons (tC (.int 8)) tNil))) (gName 2))
  (tSeq (tAsg (tCall (sp__law_take K) [] E0 (tCons (tVar 0) (tCons (tCB (rLen K) (tCons (tVar 1) tNil)) tNil))) (gName 3))
  (tSeq (tAsg (tCall (sp__law_take K) [] E0 (tCons (tVar 0) (tCons (tCB (rLen K) (tCons (tVar 1) tNil)) tNil))) (gName 4))
  (tSeq (tAsg (tCB (rListOf K) (tCons (tVar 1) tNil)) (gName 5))
  (tSeq (tIfS (tTest (tOp rEq (tVar 2) (tC (.int 0)))) (tAsg (tTup (tCons (tOp (rIxL K) (tVar 5) (tVar 4)) (tCons (tOp (rIxL K) (tVar 5) (tVar 3)) tNil))) (gUn K 2 (gCons (gSub (tVar 5) (tVar 3) rSetL) (gCons (gSub (tVar 5) (tVar 4) rSetL) gNil)))) tNext)
  (tSeq (tIfS (tTest (tOp rEq (tVar 2) (tC (.int 1)))) (tDrop (tBM K "list" rPopAt (tVar 5) (tCons (tVar 3) tNil))) tNext)
  (tSeq (tIfS (tTest (tOp rEq (tVar 2) (tC (.int 2)))) (tDrop (tBM K "list" rInsert (tVar 5) (tCons (tVar 4) (tCons (tOp (rIxL K) (tVar 5) (tVar 3)) tNil)))) tNext)
  (tSeq (tIfS (tTest (tOp rEq (tVar 2) (tC (.int 3)))) (tAsg (tOp (rIxL K) (tVar 5) (tVar 4)) (gSub (tVar 5) (tVar 3) rSetL)) tNext)
  (tSeq (tIfS (tTest (tOp rEq (tVar 2) (tC (.int 4)))) (tAsg (tOp (rIxL K) (tLst (tCons (tUn (rU fun i => .int (-i)) (tC (.int 1))) (tCons (tCB (rLen K) (tCons (tVar 1) tNil)) (tCons (tOp rPowI (tC (.int 10)) (tC (.int 30))) (tCons (tUn (rU fun i => .int (-i)) (tCB (rLen K) (tCons (tVar 1) tNil))) tNil))))) (tCall (sp__law_take K) [] E0 (tCons (tVar 0) (tCons (tC (.int 4)) tNil)))) (gSub (tVar 5) (tVar 3) rSetL)) tNext)
  (tSeq (tIfS (tTest (tOp rEq (tVar 2) (tC (.int 5)))) (tDrop (tBM0 K "list" rReverse (tVar 5))) tNext)
  (tRet (tCB (rTupleOf K) (tCons (tVar 5) tNil)))))))))))))


def t4 (K : PySem.W.Frag) (w : World) (fo : Addr) (i : Nat) (a p : Addr) (j : Nat) (Q : VK) (H5 : Hp) (q : Addr) : Prop :=
  tCall (sp__law_take K) [] E0 (tCons (tVar 0) (tCons (tC (V.int 4)) tNil)) (((((start N__law_bent [V.ref a, V.ref p]).set 2 (some (V.int 4))).set 3 (some (V.int ↑i))).set 4 (some (V.int ↑j))).set 5 (some (V.ref fo))) H5
    fun y H2 => rIxL K (V.ref q) y H2 fun x H1 => gSub (tVar 5) (tVar 3) rSetL x (((((start N__law_bent [V.ref a, V.ref p]).set 2 (some (V.int 4))).set 3 (some (V.int ↑i))).set 4 (some (V.int ↑j))).set 5 (some (V.ref fo))) H1
        (tSeq (tIfS (tTest (tOp rEq (tVar 2) (tC (V.int 5)))) (tDrop (tBM0 K "list" rReverse (tVar 5))) tNext) (tRet (tCB (rTupleOf K) (tCons (tVar 5) tNil))) { nx := fun _ H' => Q V.non H', rt := Q })
theorem eraseIdx_mapL {α β : Type} (f : α → β) : ∀ (l : List α) (i : Nat), (l.map f).eraseIdx i = (l.eraseIdx i).map f
  | [], _ => rfl
  | _ :: _, 0 => rfl
  | x :: l, i + 1 => by
    rw [List.map_cons, List.eraseIdx_cons_succ, List.eraseIdx_cons_succ, List.map_cons, eraseIdx_mapL f l i]
theorem ixN_at {n j : Nat} (h : j < n) : ixN n (j : Int) = some j := Evl.ixN_nat h
theorem pure__law_bent {K : PySem.W.Frag} {w : World} {vs : List V} {H : Hp} {Q : VK} {E : XK} (h : sp__law_bent K vs H Q E) : t__law_bent K w { nx := fun _ H' => Q .non H', rt := Q } (start N__law_bent vs) H := by
  obtain ⟨a, p, ns, rfl, hP, hS, h1, h2, kQ⟩ := h
  have hL : LenV K (.ref p) H ns.length := by
    have := SqA.len (K := K) (H := H) (a := p) (xs := ns.map V.int) (.inr hS)
    rwa [List.length_map] at this
  walk_at "go"
  intro way H1 hw0 hw1 hP1 fr1
  have hS1 := sqt_fr fr1 hP hS
  have hL1 : LenV K (.ref p) H1 ns.length := by
    have := SqA.len (K := K) (H := H1) (a := p) (xs := ns.map V.int) (.inr hS1)
    rwa [List.length_map] at this
  walk_at "go"
  intro at1 H2 ha0 ha1 hP2 fr2
  have hS2 := sqt_fr fr2 hP1 hS1
  have hL2 : LenV K (.ref p) H2 ns.length := by
    have := SqA.len (K := K) (H := H2) (a := p) (xs := ns.map V.int) (.inr hS2)
    rwa [List.length_map] at this
  walk_at "go"
  intro to1 H3 ht0 ht1 hP3 fr3
  have hS3 := sqt_fr fr3 hP2 hS2
  have hL3 : LenV K (.ref p) H3 ns.length := by
    have := SqA.len (K := K) (H := H3) (a := p) (xs := ns.map V.int) (.inr hS3)
    rwa [List.length_map] at this
  walk_at "go"
  intro fo hfo
  have foa : fo ≠ a := hP3.ne hfo
  have e4 : Ex H3 (upd H3 fo (.lst (ns.map V.int))) := Evl.Ex.new hfo
  have hf4 : upd H3 fo (.lst (ns.map V.int)) fo = some (.lst (ns.map V.int)) := upd_same
  have hP4 := hP3.ex e4
  have fr4 : Fr a H (upd H3 fo (.lst (ns.map V.int))) := ((fr1.trans fr2).trans fr3).trans (Fr.of_ex e4)
  have hL4 : LenV K (.ref p) (upd H3 fo (.lst (ns.map V.int))) ns.length := by
    have := SqA.len (K := K) (a := p) (xs := ns.map V.int) (.inr (Evl.ex_t e4 hS3))
    rwa [List.length_map] at this
  have fo0 : H fo = none := fr_none ((fr1.trans fr2).trans fr3) hP3 hfo
  obtain ⟨i, rfl⟩ : ∃ i : Nat, at1 = (i : Int) := ⟨at1.toNat, by omega⟩
  obtain ⟨j, rfl⟩ : ∃ j : Nat, to1 = (j : Int) := ⟨to1.toNat, by omega⟩
  have hi : i < ns.length := by omega
  have hj : j < ns.length := by omega
  have hai := atI_ints hi
  have haj := atI_ints hj
  have fin : ∀ H5 (ms : List Int), Fr a H H5 → Pool H5 a → H5 fo = some (.lst (ms.map V.int)) →
      (SqL K H5 fo (ms.map V.int) ∧ ∀ l, H5 l = none → Q (.ref l) (upd H5 l (.tup (ms.map V.int)))) ∨ (SqT K H5 fo (ms.map V.int) ∧ Q (.ref fo) H5) := fun H5 ms fr5 hP5 hf5 => by
    refine .inl ⟨SqL.of hf5, fun t ht => ?_⟩
    have et : Ex H5 (upd H5 t (.tup (ms.map V.int))) := Evl.Ex.new ht
    exact kQ t _ ms (fr5.trans (Fr.of_ex et)) (hP5.ex et) (SqT.of upd_same)
  generalize upd H3 fo (.lst (ns.map V.int)) = H4 at *
  have hw : way = 0 ∨ way = 1 ∨ way = 2 ∨ way = 3 ∨ way = 4 ∨ way = 5 ∨ way = 6 ∨ way = 7 := by omega
  have hsi : ∀ xs : List Int, xs.length = ns.length → ixN (xs.map V.int).length (i : Int) = some i := fun xs hx => ixN_at (by rw [List.length_map]; omega)
  have hsj : ∀ xs : List Int, xs.length = ns.length → ixN (xs.map V.int).length (j : Int) = some j := fun xs hx => ixN_at (by rw [List.length_map]; omega)
  have upd_fin : ∀ (H5 : Hp) (ms : List Int), Fr a H H5 → Pool H5 a → Fr a H (upd H5 fo (.lst (ms.map V.int))) ∧ Pool (upd H5 fo (.lst (ms.map V.int))) a := fun H5 ms f q => ⟨f.mut fo0, q.upd foa⟩
  have hsin := hsi ns rfl
  have hsjn := hsj ns rfl
  rcases hw with rfl | rfl | rfl | rfl | rfl | rfl | rfl | rfl
  · walk_at "gof"
    intro tt htt
    have e5 : Ex H4 (upd H4 tt (.tup [.int ns[j], .int ns[i]])) := Evl.Ex.new htt
    have hf5 := e5 _ _ hf4
    have hP5 := hP4.ex e5
    have fr5 := fr4.trans (Fr.of_ex (a := a) e5)
    have ht5 : SqA K (upd H4 tt (.tup [.int ns[j], .int ns[i]])) tt [.int ns[j], .int ns[i]] := .inr (SqT.of upd_same)
    have hs2 : ixN ((ns.map V.int).set i (V.int ns[j])).length (j : Int) = some j := ixN_at (by simp; omega)
    generalize upd H4 tt (.tup [.int ns[j], .int ns[i]]) = H5 at *
    walk_at "gof"
    refine fin _ ((ns.set i ns[j]).set j ns[i]) ((fr5.mut fo0).mut fo0) ((hP5.upd foa).upd foa) ?_
    rw [upd_same, List.map_set, List.map_set]
  · walk_at "go"
    refine iteF ?_
    walk_at "go"
    refine iteT ?_
    have g3 : seqIndex? (i : Int) (ns.map V.int).length = some i := by
      rw [seqIndex_of (by omega) (by rw [List.length_map]; omega), Int.toNat_natCast]
    have g4 : (ns.map V.int)[i]? = some (.int ns[i]) := by rw [List.getElem?_map, List.getElem?_eq_getElem hi]; rfl
    refine ⟨_, rfl, Or.inl ⟨rfl, _, SqL.of hf4⟩, _, rfl, fo, _, (i : Int), i, .int ns[i], rfl, rfl, hf4, by omega, by omega, g3, g4, ?_⟩
    walk_at "gof"
    refine fin _ (ns.eraseIdx i) (fr4.mut fo0) (hP4.upd foa) ?_
    rw [upd_same, eraseIdx_mapL]
  · walk_at "go"
    refine iteF ?_
    walk_at "go"
    refine iteF ?_
    walk_at "go"
    refine iteT ?_
    have szf : (ns.map V.int).length < sizeLine := by
      rw [List.length_map]
      exact sz1000 (by omega)
    refine ⟨_, rfl, Or.inl ⟨rfl, _, SqL.of hf4⟩, _, rfl, _, rfl, _, rfl, fo, _, (i : Int), .int ns[i], rfl, rfl, SqL.of hf4, hai, fo, _, (j : Int), .int ns[i], rfl, rfl, hf4, szf, by omega, by omega, ?_⟩
    walk_at "gof"
    refine fin _ (ns.take j ++ [ns[i]] ++ ns.drop j) (fr4.mut fo0) (hP4.upd foa) ?_
    rw [upd_same]
    simp [List.map_take, List.map_drop]
  · walk_at "gof"
    refine fin _ (ns.set i ns[j]) (fr4.mut fo0) (hP4.upd foa) ?_
    rw [upd_same, List.map_set]
  · walk_at "go"
    refine iteF ?_
    walk_at "go"
    refine iteF ?_
    walk_at "go"
    refine iteF ?_
    walk_at "go"
    refine iteF ?_
    walk_at "go"
    refine iteT ?_
    walk_at "go"
    intro q hq
    obtain ⟨H5, hH5⟩ : ∃ H5, H5 = upd H4 q (.lst [.int (-1), .int (ns.length : Int), .int (10 ^ (30 : Int).toNat), .int (-(ns.length : Int))]) := ⟨_, rfl⟩
    have e5 : Ex H4 H5 := by rw [hH5]; exact Evl.Ex.new hq
    have hq5 : H5 q = some (.lst ([-1, (ns.length : Int), 10 ^ (30 : Int).toNat, -(ns.length : Int)].map V.int)) := by rw [hH5]; exact upd_same
    have go4 : ∀ ms4 : List Int, ms4.length = 4 → H5 q = some (.lst (ms4.map V.int)) → t4 K w fo i a p j Q H5 q := fun ms4 hm hq5 => by
      have hf5 := e5 _ _ hf4
      have hP5 := hP4.ex e5
      have fr5 := fr4.trans (Fr.of_ex (a := a) e5)
      walk_at "go"
      intro v H6 hv0 hv1 hP6 fr6
      have hf6 := fr6 _ _ foa hf5
      have hq6 := fr6 _ _ (hP4.ne hq) hq5
      have fr7 := fr5.trans fr6
      obtain ⟨m, rfl⟩ : ∃ m : Nat, v = (m : Int) := ⟨v.toNat, by omega⟩
      have hm4 : m < ms4.length := by omega
      have ham := atI_ints hm4
      walk_at "gof"
      refine fin _ (ns.set i ms4[m]) (fr7.mut fo0) (hP6.upd foa) ?_
      rw [upd_same, List.map_set]
    rw [hH5] at go4 hq5
    exact go4 _ rfl hq5
  · walk_at "gof"
    refine fin _ ns.reverse (fr4.mut fo0) (hP4.upd foa) ?_
    rw [upd_same, List.map_reverse]
  · walk_at "gof"
    exact fin H4 ns fr4 hP4 hf4
  · walk_at "gof"
    exact fin H4 ns fr4 hP4 hf4
end LW
namespace LW
open PySem PySem.Spec PyProof.Rows L2
open Evl (Ex)
local macro_rules | `(tactic| walk_at "kit") => `(tactic| first | exact kit_ii | exact kit_ib | exact kit_bi | exact kit_bb | exact kit_ni | exact kit_nb | exact kit_si | exact kit_sb)
local macro_rules | `(tactic| walk_at "side") => `(tactic| first | (with_reducible show PySem.W.kitOne _ _ _ = some _; walk_at "kit") | assumption | (with_reducible show (0 : Int) < _; omega) | exact Wd.mk (by omega) | exact rfl | exact SqL.of (by assumption) | exact SqT.of (by assumption) | exact Or.inl ⟨rfl, _, SqL.of (by assumption)⟩ | exact SqL.of upd_same | exact upd_same | exact ClsV.ty _ | exact TyX.base (.int _) | exact TyX.base (.bl _) | exact TyX.base (.str _) | exact TyX.base .non | (show CMul _ _; first | exact Or.inl ⟨by omega, by omega⟩ | exact Or.inr ⟨by omega, by omega⟩) | (show CPow _ _; first | exact ⟨by omega, by omega, by decide⟩ | exact ⟨by omega, by omega, mod_b (by omega) (by omega)⟩) | exact Or.inl ⟨_, by assumption, rfl⟩ | exact Or.inl ⟨_, SqL.of (by assumption), rfl⟩ | exact Or.inr ⟨_, by assumption, rfl⟩ | exact sz100 (Nat.le_of_ble_eq_true rfl) | exact Or.inl (by assumption) | exact Or.inr (by assumption) | exact Or.inl (SqL.of (by assumption)) | exact Or.inr (SqT.of (by assumption)) | exact ⟨_, SqL.of (by assumption)⟩ | exact ⟨_, SqT.of (by assumption)⟩ | exact ⟨_, (by assumption)⟩ | exact Or.inr (SqT.of upd_same) | exact RgOk.of_le (by omega) (by omega) (by omega) (by omega) | exact Nat.le_of_ble_eq_true rfl | exact DGet.k (k := Sum.inl _) (by assumption) | exact DPut.k (k := Sum.inl _) (by assumption) (sz1000 (by omega)))
local macro_rules | `(tactic| walk_at "go") => `(tactic| repeat (first | ((fail_if_success (with_reducible refine ite2 (fun _ => ?_) (fun _ => ?_))); first | (refine And.intro (by walk_at "side") ?_) | (refine ⟨_, rfl, ?_⟩) | (refine ⟨_, _, rfl, rfl, ?_⟩) | (apply Exists.intro) | (refine Or.inl ⟨_, rfl, ?_⟩) | (refine Or.inr ⟨_, rfl, ?_⟩)) | ((fail_if_success (with_reducible show (if decide ((_ : Int) < (_ : Int)) = true then _ else _))); (fail_if_success (with_reducible show (if decide ((_ : Int) ≤ (_ : Int)) = true then _ else _))); (fail_if_success (with_reducible show (if decide (V.int _ = V.int _) = true then _ else _))); (fail_if_success (with_reducible show (if (!decide (V.int _ = V.int _)) = true then _ else _))); first | (refine iteF ?_) | (refine iteT ?_))))
local macro_rules | `(tactic| walk_at "gof") => `(tactic| repeat (first | ((fail_if_success (with_reducible refine ite2 (fun _ => ?_) (fun _ => ?_))); first | (refine And.intro (by walk_at "side") ?_) | (refine ⟨_, rfl, ?_⟩) | (refine ⟨_, _, rfl, rfl, ?_⟩) | (apply Exists.intro) | (refine Or.inl ⟨_, rfl, ?_⟩) | (refine Or.inr ⟨_, rfl, ?_⟩)) | ((fail_if_success (with_reducible show (if decide ((_ : Int) < (_ : Int)) = true then _ else _))); (fail_if_success (with_reducible show (if decide ((_ : Int) ≤ (_ : Int)) = true then _ else _))); first | (refine iteF ?_) | (refine iteT ?_))))

def sp_law (K : PySem.W.Frag) : Sp := fun vs H Q _ => ∃ (a : Addr) (ns : List Int), vs = [.ref a] ∧ SqL K H a (ns.map V.int) ∧ ns.length ≤ 63 ∧ ∀ H', Q (.bl true) H'
theorem len_law {K : PySem.W.Frag} {vs : List V} {H : Hp} {Q : VK} {E : XK} (h : sp_law K vs H Q E) : vs.length = 1 := by
  obtain ⟨_, _, rfl, _⟩ := h; rfl
theorem law_in {K : PySem.W.Frag} {H : Hp} {a : Addr} {ns : List Int} (hl : ns.length ≤ 63) (hS : SqL K H a (ns.map V.int)) : sp_law K [.ref a] H (fun v _ => v = .bl true) fun _ _ _ => False :=
  ⟨a, ns, rfl, hS, hl, fun _ => rfl⟩
abbrev N_law : List Str := ["_law_script", "_law_pool_here", "_law_line", "_law_history", "_law_places", "_law_first", "_law_k", "_law_row", "_law_due", "_law_told", "_law_one"]
def t_law (K : PySem.W.Frag) (w : World) : TS :=
  (tSeq (tAsg (tCall (sp__law_pool K) [] E0 (tCons (tVar 0) (tCons (tC (.int 0)) tNil))) (gName 1))
  (tSeq (tAsg (tCall (sp__law_take K) [] E0 (tCons (tVar 1) (tCons (tC (.int 3)) tNil))) (gName 2))
  (tSeq (tAsg (tCall (sp__law_line_of K) [] E0 (tCons (tVar 1) (tCons (tOp rAddI (tC (.int 1)) (tCall (sp__law_take K) [] E0 (tCons (tVar 1) (tCons (tOp (rIxL K) (tLst (tCons (tC (.int 6)) (tCons (tC (.int 40)) tNil))) (tCall (sp__law_take K) [] E0 (tCons (tVar 1) (tCons (tC (.int 2)) tNil)))) tNil)))) (tCons (tOp rAddI (tC (.int 1)) (tCall (sp__law_take K) [] E0 (tCons (tVar 1) (tCons (tC (.int 4)) tNil)))) tNil)))) (gUn K 2 (gCons (gName 3) (gCons (gName 4) gNil))))
  (tSeq (tAsg (tVar 4) (gName 5))
  (tSeq (tIfS (tTest (tOp rEq (tVar 2) (tC (.int 0)))) (tSeq (tAsg (tCall (sp__law_any_history K) [] E0 (tCons (tVar 1) (tCons (tOp rAddI (tC (.int 1)) (tCall (sp__law_take K) [] E0 (tCons (tVar 1) (tCons (tC (.int 8)) tNil)))) tNil))) (gName 3))
  (tAsg (tCB (rTupleOf K) (tCons (tCall (sp__law_mix K) [] E0 (tCons (tVar 1) (tCons (tLstRg (tRg1 (tCB (rLen K) (tCons (tVar 3) tNil)))) tNil))) tNil)) (gName 5))) tNext)
  (tSeq (tFor (iRng1 (tCons (tC (.int 3)) tNil)) (gName 6)
  (tFor (iTup K (tTup (tCons (tCall (sp__law_bent K) [] E0 (tCons (tVar 1) (tCons (tVar 5) tNil))) (tCons (tVar 5) tNil)))) (gName 7)
  (tSeq (tAsg (tCall (sp__law_walks K) [] E0 (tCons (tVar 3) (tCons (tVar 7) tNil))) (gName 8))
  (tFor (iTup K (tTup (tCons (tCall (sp_is_order K) [] E0 (tCons (tVar 3) (tCons (tVar 7) tNil))) (tCons (tCall (sp_is_order K) [] E0 (tCons (tLc (iSeq K (tVar 3)) (gName 10) tYes (tCB (rListOf K) (tCons (tVar 10) tNil)) [10]) (tCons (tCB (rListOf K) (tCons (tVar 7) tNil)) tNil))) tNil)))) (gName 9)
  (tIfS (tOr (tNot (tB (tCB (rIsi K) (tCons (tVar 9) (tCons (tC (.ty "bool")) tNil))))) (tTest (tOp rNe (tVar 9) (tVar 8)))) (tRet (tC (.bl false))) tNext)))))
  (tRet (tC (.bl true)))))))))
def t_row (K : PySem.W.Frag) : TS :=
  (tSeq (tAsg (tCall (sp__law_walks K) [] E0 (tCons (tVar 3) (tCons (tVar 7) tNil))) (gName 8))
  (tFor (iTup K (tTup (tCons (tCall (sp_is_order K) [] E0 (tCons (tVar 3) (tCons (tVar 7) tNil))) (tCons (tCall (sp_is_order K) [] E0 (tCons (tLc (iSeq K (tVar 3)) (gName 10) tYes (tCB (rListOf K) (tCons (tVar 10) tNil)) [10]) (tCons (tCB (rListOf K) (tCons (tVar 7) tNil)) tNil))) tNil)))) (gName 9)
  (tIfS (tOr (tNot (tB (tCB (rIsi K) (tCons (tVar 9) (tCons (tC (.ty "bool")) tNil))))) (tTest (tOp rNe (tVar 9) (tVar 8)))) (tRet (tC (.bl false))) tNext)))
def t_rows (K : PySem.W.Frag) : TS :=
  (tSeq (tFor (iRng1 (tCons (tC (.int 3)) tNil)) (gName 6)
  (tFor (iTup K (tTup (tCons (tCall (sp__law_bent K) [] E0 (tCons (tVar 1) (tCons (tVar 5) tNil))) (tCons (tVar 5) tNil)))) (gName 7) (t_row K)))
  (tRet (tC (.bl true))))
theorem RowsT.his {K : PySem.W.Frag} {H : Hp} {h : Addr} {rs : List Addr} {os : List Op} (R : RowsT H rs os) (s : SqA K H h (rs.map V.ref)) : HisAt K H h rs os :=
  ⟨s, R.len, fun i r o h1 h2 => .inr (SqT.of (R.at_ i r o h1 h2))⟩
theorem row_in (K : PySem.W.Frag) {H : Hp} {D : Ends} {h r : Addr} {rs : List Addr} {os : List Op} {ns : List Int} {x0 x1 x2 x4 x5 x6 x8 x9 x10 : Option V} (hS : SqT K H h (rs.map V.ref)) (R : RowsT H rs os) (w : WF os) (hr : SqT K H r (ns.map V.int))
    (k : ∀ H' x8 x9 x10, Ex H H' → D.nx [x0, x1, x2, some (.ref h), x4, x5, x6, some (.ref r), x8, x9, x10] H') : t_row K D [x0, x1, x2, some (.ref h), x4, x5, x6, some (.ref r), x8, x9, x10] H := by
  have hl : os.length ≤ 1000 := Nat.le_trans w.len (by decide)
  refine ⟨_, rfl, _, rfl, h, r, rs, os, ns, rfl, R.his (.inr hS), fun e => Bool.noConfusion e, hl, .inr hr, fun H1 e1 => ?_⟩
  have hS1 := Evl.ex_t e1 hS
  have hr1 := Evl.ex_t e1 hr
  have R1 := R.mono fun r xs z => e1 _ _ z
  refine ⟨_, rfl, _, rfl, h, r, rs, os, ns, rfl, R1.his (.inr hS1), fun _ => w, hl, .inr hr1, fun H2 e2 => ?_⟩
  have hS2 := Evl.ex_t e2 hS1
  have hr2 := Evl.ex_t e2 hr1
  have R2 := R1.mono fun r xs z => e2 _ _ z
  refine ⟨_, rfl, h, _, H2, rfl, .inr hS2, Evl.Ex.refl _, fun J G hJ hG => ?_⟩
  intro C hC
  refine lc_w hJ (fun i H3 => Ex H2 H3 ∧ ∃ qs : List Addr, qs.length = i ∧ H3 C = some (.lst (qs.map V.ref)) ∧ ∀ (j : Nat) (q : Addr) (o : Op), qs[j]? = some q → os[j]? = some o → H3 q = some (.lst (opV o)))
    ⟨Evl.Ex.new hC, [], rfl, upd_same, fun j q o hq => by simp at hq⟩ (fun i H3 _ ⟨e3, _⟩ => hG H3 e3) ?_ ?_
  · rintro N i x H3 H4 hN hi ⟨e3, qs, hql, hC3, hq3⟩ ⟨rfl, hx⟩
    rw [List.getElem?_map] at hx
    obtain ⟨z, hz, rfl⟩ := Option.map_eq_some_iff.mp hx
    have hi' : i < os.length := by
      rw [List.length_map, R.len] at hi
      exact hi
    have ho : os[i]? = some os[i] := List.getElem?_eq_getElem hi'
    have hz3 : SqT K H4 z (opV os[i]) := SqT.of (e3 _ _ (R2.at_ i z _ hz ho))
    have sz : (qs.map V.ref).length < sizeLine := by
      rw [List.length_map]
      exact sz1000 (by have := w.len; omega)
    refine ⟨rfl, ?_⟩
    walk_at "go"
    intro l hlf
    have lC : C ≠ l := ne_of_none hC3 hlf
    have e4 : Ex H4 (upd H4 l (.lst (opV os[i]))) := Evl.Ex.new hlf
    refine ⟨_, e4 _ _ hC3, sz, hN _ ⟨(e3.trans e4).mut hC, qs ++ [l], by simp [hql], by rw [upd_same, List.map_append]; rfl, fun j q o hq hoj => ?_⟩⟩
    by_cases hj : j < qs.length
    · rw [List.getElem?_append_left hj] at hq
      have h3 := hq3 j q o hq hoj
      have qC : q ≠ C := fun e => by
        rw [e, hC3] at h3
        have h5 : qs.map V.ref = opV o := HO.lst.inj (Option.some.inj h3)
        match qs, hj, h5 with
        | _ :: _, _, h5 => exact V.noConfusion (List.cons.inj h5).1
      rw [upd_ne qC]
      exact e4 _ _ h3
    · have hj2 := (List.getElem?_eq_some_iff.mp hq).1
      rw [List.length_append, List.length_singleton] at hj2
      obtain rfl : j = qs.length := by omega
      rw [List.getElem?_append_right (Nat.le_refl _), Nat.sub_self] at hq
      cases hq
      rw [hql, ho] at hoj
      cases hoj
      rw [upd_ne lC.symm, upd_same]
  rintro H3 ⟨e3, qs, hql, hC3, hq3⟩
  have hr3 := Evl.ex_t e3 hr2
  refine ⟨_, rfl, r, _, rfl, .inr hr3, fun l hlf => ?_⟩
  have e4 : Ex H3 (upd H3 l (.lst (ns.map V.int))) := Evl.Ex.new hlf
  have hl4 : upd H3 l (.lst (ns.map V.int)) l = some (.lst (ns.map V.int)) := upd_same
  generalize upd H3 l (.lst (ns.map V.int)) = H4 at *
  have hH4 : HisAt K H4 C qs os := ⟨.inl (SqL.of (e4 _ _ hC3)), by rw [hql, List.length_map, R.len], fun i q o h1 h2 => .inl (SqL.of (e4 _ _ (hq3 i q o h1 h2)))⟩
  refine ⟨C, l, qs, os, ns, rfl, hH4, fun _ => w, hl, .inl (SqL.of hl4), fun H5 e5 => ?_⟩
  refine ⟨sz100 (Nat.le_of_ble_eq_true rfl), fun tt htt => ?_⟩
  have e6 : Ex H5 (upd H5 tt (.tup [.bl (isOrd os ns), .bl (isOrd os ns)])) := Evl.Ex.new htt
  have ht6 : upd H5 tt (.tup [.bl (isOrd os ns), .bl (isOrd os ns)]) tt = some (.tup [.bl (isOrd os ns), .bl (isOrd os ns)]) := upd_same
  have eA : Ex H (upd H5 tt (.tup [.bl (isOrd os ns), .bl (isOrd os ns)])) := ((((e1.trans e2).trans e3).trans e4).trans e5).trans e6
  generalize upd H5 tt (.tup [.bl (isOrd os ns), .bl (isOrd os ns)]) = H6 at *
  refine ⟨tt, rfl, ⟨_, SqT.of ht6⟩, ?_⟩
  refine for_w (walk_tup (K := K) (a := tt) (xs := [.bl (isOrd os ns), .bl (isOrd os ns)])) (fun i σ H' => ∃ x9, σ = [x0, x1, x2, some (.ref h), x4, x5, x6, some (.ref r), some (.bl (isOrd os ns)), x9, x10] ∧ Ex H6 H')
    ⟨_, rfl, Evl.Ex.refl _⟩ (fun i σ H' _ ⟨_, _, e⟩ => SqT.of (e _ _ ht6)) ?_ ?_
  · rintro N i x σ H7 H8 hN hi ⟨x9, rfl, e7⟩ ⟨rfl, hx⟩
    have hxe : x = .bl (isOrd os ns) := by
      match i, hx with
      | 0, hx => exact (Option.some.inj hx).symm
      | 1, hx => exact (Option.some.inj hx).symm
    subst hxe
    walk_at "go"
    have hd : (!decide (V.bl (isOrd os ns) = V.bl (isOrd os ns))) = false := by simp
    rw [hd]
    exact hN _ _ ⟨_, rfl, e7⟩
  · rintro σ H7 ⟨x9, rfl, e7⟩
    exact k _ _ _ _ (eA.trans e7)
theorem rows_in (K : PySem.W.Frag) {H : Hp} {Q : VK} {a h f : Addr} {rs : List Addr} {os : List Op} {ns : List Int} {x0 x2 x4 x6 x7 x8 x9 x10 : Option V} (hP : Pool H a) (hS : SqT K H h (rs.map V.ref)) (R : RowsT H rs os) (w : WF os) (hf : SqT K H f (ns.map V.int)) (h1 : 1 ≤ ns.length) (h2 : ns.length ≤ 100)
    (k : ∀ H', Q (.bl true) H') : t_rows K { nx := fun _ H' => Q .non H', rt := Q } [x0, some (.ref a), x2, some (.ref h), x4, some (.ref f), x6, x7, x8, x9, x10] H := by
  refine ⟨3, rfl, by decide, by decide, ?_⟩
  refine for_w (walk_range (lo := 0) (n := 3)) (fun i σ H' => ∃ x6 x7 x8 x9 x10, σ = [x0, some (.ref a), x2, some (.ref h), x4, some (.ref f), x6, x7, x8, x9, x10] ∧ Fr a H H' ∧ Pool H' a)
    ⟨_, _, _, _, _, rfl, Fr.refl _ _, hP⟩ (fun _ _ _ _ _ => trivial) ?_ ?_
  · rintro N i x σ H1 H1' hN hi ⟨x6, x7, x8, x9, x10, rfl, fr1, hP1⟩ ⟨rfl, rfl⟩
    have hf1 := sqt_fr fr1 hP hf
    refine ⟨_, rfl, _, rfl, a, f, ns, rfl, hP1, hf1, h1, h2, fun b H2 ms fr2 hP2 hb => ?_⟩
    refine ⟨_, rfl, sz100 (Nat.le_of_ble_eq_true rfl), fun tt htt => ?_⟩
    have e3 : Ex H2 (upd H2 tt (.tup [.ref b, .ref f])) := Evl.Ex.new htt
    have ht3 : upd H2 tt (.tup [.ref b, .ref f]) tt = some (.tup [.ref b, .ref f]) := upd_same
    have hP3 := hP2.ex e3
    have hb3 := Evl.ex_t e3 hb
    have fr3 := (fr1.trans fr2).trans (Fr.of_ex (a := a) e3)
    generalize upd H2 tt (.tup [.ref b, .ref f]) = H3 at *
    have hf3 := sqt_fr fr3 hP hf
    have hS3 := sqt_fr fr3 hP hS
    have R3 := R.mono fun r xs z => tup_fr fr3 hP z
    refine ⟨tt, rfl, ⟨_, SqT.of ht3⟩, ?_⟩
    refine for_w (walk_tup (K := K) (a := tt) (xs := [.ref b, .ref f])) (fun i' σ H' => ∃ x7 x8 x9 x10, σ = [x0, some (.ref a), x2, some (.ref h), x4, some (.ref f), some (.int (0 + (i : Int))), x7, x8, x9, x10] ∧ Ex H3 H')
      ⟨_, _, _, _, rfl, Evl.Ex.refl _⟩ (fun i σ H' _ ⟨_, _, _, _, _, e⟩ => SqT.of (e _ _ ht3)) ?_ ?_
    · rintro N2 i' x σ H4 H4' hN2 hi' ⟨x7, x8, x9, x10, rfl, e4⟩ ⟨rfl, hx⟩
      have hxe : ∃ (r : Addr) (ms : List Int), x = .ref r ∧ SqT K H4' r (ms.map V.int) := by
        match i', hx with
        | 0, hx => exact ⟨b, ms, (Option.some.inj hx).symm, Evl.ex_t e4 hb3⟩
        | 1, hx => exact ⟨f, ns, (Option.some.inj hx).symm, Evl.ex_t e4 hf3⟩
      obtain ⟨r, ms', rfl, hr⟩ := hxe
      exact row_in K (Evl.ex_t e4 hS3) (R3.mono fun r xs z => e4 _ _ z) w hr fun H' y8 y9 y10 e5 => hN2 _ _ ⟨_, _, _, _, rfl, e4.trans e5⟩
    · rintro σ H4 ⟨x7, x8, x9, x10, rfl, e4⟩
      exact hN _ _ ⟨_, _, _, _, _, rfl, fr3.trans (Fr.of_ex e4), hP3.ex e4⟩
  · rintro σ H1 ⟨x6, x7, x8, x9, x10, rfl, fr1, hP1⟩
    exact k _
theorem pure_law {K : PySem.W.Frag} {w : World} {vs : List V} {H : Hp} {Q : VK} {E : XK} (h : sp_law K vs H Q E) : t_law K w { nx := fun _ H' => Q .non H', rt := Q } (start N_law vs) H := by
  obtain ⟨s, ns, rfl, hS, hl, k⟩ := h
  walk_at "go"
  intro p H1 hp e1 hP1
  walk_at "go"
  intro line H2 hl0 hl1 hP2 fr2
  walk_at "go"
  intro q hq
  have e3 : Ex H2 (upd H2 q (.lst [.int 6, .int 40])) := Evl.Ex.new hq
  have hq3 : upd H2 q (.lst [.int 6, .int 40]) q = some (.lst ([6, 40].map V.int)) := upd_same
  have hP3 := hP2.ex e3
  have qp := hP2.ne hq
  generalize upd H2 q (.lst [.int 6, .int 40]) = H3 at *
  walk_at "go"
  intro v0 H4 hv0 hv0' hP4 fr4
  have hq4 := fr4 _ _ qp hq3
  obtain ⟨m, rfl⟩ : ∃ m : Nat, v0 = (m : Int) := ⟨v0.toNat, by omega⟩
  have hat : ∃ z : Int, atI ([6, 40].map V.int) (m : Int) = some (.int z) ∧ 1 ≤ z ∧ z ≤ 40 := by
    match m, hv0' with
    | 0, _ => exact ⟨6, rfl, by decide, by decide⟩
    | 1, _ => exact ⟨40, rfl, by decide, by decide⟩
  obtain ⟨z, hz, hz1, hz2⟩ := hat
  generalize ([6, 40] : List Int).map V.int = xs at *
  walk_at "go"
  intro v1 H5 hv1 hv1' hP5 fr5
  walk_at "go"
  intro v2 H6 hv2 hv2' hP6 fr6
  refine ⟨_, _, rfl, rfl, ?_⟩
  refine ⟨p, 1 + v1, 1 + v2, rfl, hP6, by omega, by omega, by omega, by omega, fun t h f H7 rs os ms fr7 hP7 ht7 hT => ?_⟩
  have ht7' : SqA K H7 t [.ref h, .ref f] := .inr (SqT.of ht7)
  obtain ⟨hS7, R7, w7, hos7, hf7, hm1, hm2⟩ := hT
  walk_at "go"
  refine ite2 (fun hc => ?_) (fun hc => ?_)
  · walk_at "go"
    intro v3 H8 hv3 hv3' hP8 fr8
    refine ⟨_, _, rfl, rfl, ?_⟩
    refine ⟨p, 1 + v3, rfl, hP8, by omega, by omega, fun h' H9 rs os fr9 hP9 hS9 R9 w9 hos9 => ?_⟩
    have hL9 : LenV K (.ref h') H9 os.length := by
      have := SqA.len (K := K) (H := H9) (a := h') (xs := rs.map V.ref) (.inr hS9)
      rwa [List.length_map, R9.len] at this
    have hos40 := w9.len
    walk_at "go"
    intro l hl9
    have eg : rgV 0 (os.length : Int) = (rgI os.length).map V.int := rgV_rgI os.length
    rw [eg]
    have e10 : Ex H9 (upd H9 l (.lst ((rgI os.length).map V.int))) := Evl.Ex.new hl9
    have hl10 : upd H9 l (.lst ((rgI os.length).map V.int)) l = some (.lst ((rgI os.length).map V.int)) := upd_same
    have hP10 := hP9.ex e10
    have hS10 := Evl.ex_t e10 hS9
    have R10 := R9.mono fun r xs z => e10 _ _ z
    generalize upd H9 l (.lst ((rgI os.length).map V.int)) = H10 at *
    have hgl : (rgI os.length).length = os.length := by simp [rgI]
    refine ⟨p, l, (rgI os.length).map V.int, rfl, hP10, .inl (SqL.of hl10), by rw [List.length_map, hgl]; omega, fun g H11 ys hg0 fr11 hP11 hperm hg => ?_⟩
    obtain ⟨zs, rfl, hzs⟩ := perm_ints hperm
    have hzl : zs.length = os.length := by rw [hzs.length_eq, hgl]
    refine ⟨g, _, rfl, .inl ⟨SqL.of hg, fun t ht => ?_⟩⟩
    have e12 : Ex H11 (upd H11 t (.tup (zs.map V.int))) := Evl.Ex.new ht
    have ht12 : SqT K (upd H11 t (.tup (zs.map V.int))) t (zs.map V.int) := SqT.of upd_same
    have hS11 := sqt_fr fr11 hP10 hS10
    have R11 := R10.mono fun r xs z => tup_fr fr11 hP10 z
    exact rows_in K (hP11.ex e12) (Evl.ex_t e12 hS11) (R11.mono fun r xs z => e12 _ _ z) w9 ht12 (by omega) (by omega) k
  · exact rows_in K hP7 hS7 R7 w7 hf7 hm1 hm2 k
end LW
namespace LW
open PySem PySem.Spec PyProof.Rows L2
def top (i : Nat) : Stmt := PySem.Challenge.pw_lendwell_k77_orders_looked_at.main.body.getD i (.Pass ⟨0, 0, 0, 0⟩)
/-- what the top has left of names -/
structure Tx (K : PySem.W.Frag) (mg : Str → Option Value) : Prop where
  z_abs : mg "abs" = none
  z_bool : mg "bool" = none
  z_enumerate : mg "enumerate" = none
  z_int : mg "int" = none
  z_isinstance : mg "isinstance" = none
  z_len : mg "len" = none
  z_list : mg "list" = none
  z_max : mg "max" = none
  z_range : mg "range" = none
  z_sorted : mg "sorted" = none
  z_tuple : mg "tuple" = none
  g_MOST : ∃ u, mg "MOST" = some u ∧ RelV (.int 40) u
section
variable {P : Program} {w : World} {K : PySem.W.Frag} {mg : Str → Option Value} {base : Heap} {fd : FuncData}
abbrev s_is_whole : Stmt := top 5
theorem sc_is_whole : FnScope N_is_whole ["thing"] (defScope s_is_whole) := ⟨rfl, rfl, rfl, by decide +kernel, rfl, by decide +kernel, by decide +kernel⟩
theorem ok_is_whole (T : Tx K mg) (F : FnP K "is_whole" s_is_whole (He.ga K "is_whole") fd) (hg : mg "is_whole" = some (.ref (He.ga K "is_whole"))) : Cal P w K mg base 1 "is_whole" (sp_is_whole K) [] := by
  refine ⟨_, fd, ["thing"], [], F.ok sc_is_whole (fun vs H Q E h => len_is_whole h) (fun cdv A outer s H vs Q E hr h => ⟨t_is_whole K w, PSs.nox ?_, pure_is_whole h⟩), hg, F.kp, FunD.bindsN F (fun _ _ _ _ _ _ us hl => match us, hl with | [_], _ => rfl), .nil⟩
  have hu := hu_of hr
  exact (pss_one (ps_ret (pe_and (pe_callB call_isi rfl T.z_isinstance bt_isinstance (pa_cons (pv 0) (pa_cons (pe_bltn rfl T.z_int bt_int rfl) pa_nil))) (pe_one (pe_not (pe_callB call_isi rfl T.z_isinstance bt_isinstance (pa_cons (pv 0) (pa_cons (pe_bltn rfl T.z_bool bt_bool rfl) pa_nil))))))))

abbrev s_is_operation : Stmt := top 6
theorem sc_is_operation : FnScope N_is_operation ["operation"] (defScope s_is_operation) := ⟨rfl, rfl, rfl, by decide +kernel, rfl, by decide +kernel, by decide +kernel⟩
theorem ok_is_operation (T : Tx K mg) (F : FnP K "is_operation" s_is_operation (He.ga K "is_operation") fd) (hg : mg "is_operation" = some (.ref (He.ga K "is_operation"))) (c_is_whole : Cal P w K mg base 1 "is_whole" (sp_is_whole K) []) : Cal P w K mg base 2 "is_operation" (sp_is_operation K) [] := by
  refine ⟨_, fd, ["operation"], [], F.ok sc_is_operation (fun vs H Q E h => len_is_operation h) (fun cdv A outer s H vs Q E hr h => ⟨t_is_operation K w, PSs.nox ?_, pure_is_operation h⟩), hg, F.kp, FunD.bindsN F (fun _ _ _ _ _ _ us hl => match us, hl with | [_], _ => rfl), .nil⟩
  have hu := hu_of hr
  exact (pss_cons (ps_asg (pv 0) (pg_un rfl (pgs_cons (pg_name (i := 1) sc_is_operation.nd rfl (Or.inl rfl)) (pgs_cons (pg_name (i := 2) sc_is_operation.nd rfl (Or.inl rfl)) (pgs_cons (pg_name (i := 3) sc_is_operation.nd rfl (Or.inl rfl)) (pgs_cons (pg_name (i := 4) sc_is_operation.nd rfl (Or.inl rfl)) pgs_nil))))))
  (pss_cons (ps_if (PW.pt (pw_or (pt_cmpR op_notIn_seq (pv 1) (pe_tup (pa_cons pe_str (pa_cons pe_str pa_nil))) rfl) (pw_or (pt_not (pt_val (pe_c c_is_whole hr (by decide) rfl (pa_cons (pv 2) pa_nil)))) (pw_or1 (pt_not (pt_val (pe_c c_is_whole hr (by decide) rfl (pa_cons (pv 3) pa_nil)))))))) (pss_one (ps_ret pe_bl)) pss_nil)
  (pss_cons (ps_if (PW.pt (pw_and (pt_cmpR op_eq (pv 1) pe_str rfl) (pw_and1 (pt_cmpR op_isN1 (pv 4) pe_non rfl)))) (pss_one (ps_ret (pe_cmpR op_ge (pv 2) pe_int rfl))) pss_nil)
  (pss_one (ps_ret (pe_and (pe_c c_is_whole hr (by decide) rfl (pa_cons (pv 4) pa_nil)) (pe_and (pe_cmpR op_le (pv 3) (pv 4) rfl) (pe_one (pe_cmpR op_ge (pv 2) (pe_callTy call_int1 rfl T.z_int bt_int (pa_cons (pe_cmpR op_eq (pv 1) pe_str rfl) pa_nil)) rfl)))))))))

abbrev s_ask_history : Stmt := top 7
theorem sc_ask_history : FnScope N_ask_history ["history"] (defScope s_ask_history) := ⟨rfl, rfl, rfl, by decide +kernel, rfl, by decide +kernel, by decide +kernel⟩
theorem ok_ask_history (T : Tx K mg) (F : FnP K "ask_history" s_ask_history (He.ga K "ask_history") fd) (hg : mg "ask_history" = some (.ref (He.ga K "ask_history"))) (c_is_operation : Cal P w K mg base 2 "is_operation" (sp_is_operation K) []) : Cal P w K mg base 3 "ask_history" (sp_ask_history K) [] := by
  refine ⟨_, fd, ["history"], [], F.ok sc_ask_history (fun vs H Q E h => len_ask_history h) (fun cdv A outer s H vs Q E hr h => ⟨t_ask_history K w, PSs.nox ?_, pure_ask_history h⟩), hg, F.kp, FunD.bindsN F (fun _ _ _ _ _ _ us hl => match us, hl with | [_], _ => rfl), .nil⟩
  have hu := hu_of hr
  exact (pss_cons (ps_set (i := 1) sc_ask_history.nd rfl (Or.inl rfl) pe_dnewK)
  (pss_one (ps_for PassesOwn.never rfl (pi_enumA rfl T.z_enumerate (pa_cons (pv 0) pa_nil)) (pg_un rfl (pgs_cons (pg_name (i := 2) sc_ask_history.nd rfl (Or.inl rfl)) (pgs_cons (pg_name (i := 3) sc_ask_history.nd rfl (Or.inl rfl)) pgs_nil)))
  (pss_cons (ps_if (PW.pt (pw_or (pt_cmpR op_eq (pv 2) (pe_gc rfl T.g_MOST) rfl) (pw_or1 (pt_not (pt_val (pe_c c_is_operation hr (by decide) rfl (pa_cons (pv 3) pa_nil))))))) (pss_one ps_never) pss_nil)
  (pss_cons (ps_asg (pv 3) (pg_star rfl (pgs_cons (pg_name (i := 4) sc_ask_history.nd rfl (Or.inl rfl)) (pgs_cons (pg_name (i := 5) sc_ask_history.nd rfl (Or.inl rfl)) (pgs_star (pg_name (i := 6) sc_ask_history.nd rfl (Or.inl rfl)))))))
  (pss_cons (ps_if (PW.pt (pw_and (pt_cmpR op_eq (pv 4) pe_str rfl) (pw_and1 (pt_cmp (pc_din hu (pv 5) (pv 1)))))) (pss_one ps_never) pss_nil)
  (pss_one (ps_if (pt_cmpR op_eq (pv 4) pe_str rfl) (pss_one (ps_dput hu (pv 1) (pv 5) (pv 2) rfl)) pss_nil))))))))

abbrev s_is_order : Stmt := top 8
theorem sc_is_order : FnScope N_is_order ["history", "places"] (defScope s_is_order) := ⟨rfl, rfl, rfl, by decide +kernel, rfl, by decide +kernel, by decide +kernel⟩
theorem ok_is_order (T : Tx K mg) (F : FnP K "is_order" s_is_order (He.ga K "is_order") fd) (hg : mg "is_order" = some (.ref (He.ga K "is_order"))) (c_ask_history : Cal P w K mg base 3 "ask_history" (sp_ask_history K) []) : Cal P w K mg base 4 "is_order" (sp_is_order K) [] := by
  refine ⟨_, fd, ["history", "places"], [], F.ok sc_is_order (fun vs H Q E h => len_is_order h) (fun cdv A outer s H vs Q E hr h => ⟨t_is_order K w, PSs.nox ?_, pure_is_order h⟩), hg, F.kp, FunD.bindsN F (fun _ _ _ _ _ _ us hl => match us, hl with | [_, _], _ => rfl), .nil⟩
  have hu := hu_of hr
  exact (pss_cons (ps_expr (pe_c c_ask_history hr (by decide) rfl (pa_cons (pv 0) pa_nil)))
  (pss_cons (ps_if (pt_cmpR (op_neD hr.units) (pe_callB cr_sortedA rfl T.z_sorted bt_sorted (pa_cons (pv 1) pa_nil)) (pe_listRg rfl rfl T.z_list (prg_1 rfl T.z_range (pe_callB call_len rfl T.z_len bt_len (pa_cons (pv 0) pa_nil)))) rfl) (pss_one (ps_ret pe_bl)) pss_nil)
  (pss_cons (ps_set (i := 2) sc_is_order.nd rfl (Or.inl rfl) pe_non)
  (pss_cons (ps_set (i := 3) sc_is_order.nd rfl (Or.inl rfl) pe_int)
  (pss_cons (ps_for PassesOwn.never rfl (pi_seq (pv 1)) (pg_name (i := 4) sc_is_order.nd rfl (Or.inl rfl))
  (pss_cons (ps_asg (pe_ix ix_A (pv 0) (pv 4) (fun _ _ => rfl)) (pg_un rfl (pgs_cons (pg_name (i := 5) sc_is_order.nd rfl (Or.inl rfl)) (pgs_cons (pg_name (i := 6) sc_is_order.nd rfl (Or.inl rfl)) (pgs_cons (pg_name (i := 7) sc_is_order.nd rfl (Or.inl rfl)) (pgs_cons (pg_name (i := 8) sc_is_order.nd rfl (Or.inl rfl)) pgs_nil))))))
  (pss_cons (ps_if (PW.pt (pw_or (pt_cmpR op_isN1 (pv 2) pe_non rfl) (pw_or1 (pt_cmpR op_gt (pv 7) (pv 2) rfl)))) (pss_one (ps_set (i := 2) sc_is_order.nd rfl (Or.inl rfl) (pv 7))) pss_nil)
  (pss_cons (ps_if (PW.pt (pw_and (pt_cmpR op_notN1 (pv 8) pe_non rfl) (pw_and1 (pt_cmpR op_gt (pv 2) (pv 8) rfl)))) (pss_one (ps_ret pe_bl)) pss_nil)
  (pss_one (ps_if (pt_cmpR op_eq (pv 5) pe_str rfl) (pss_one (ps_set (i := 3) sc_is_order.nd rfl (Or.inl rfl) (pv 6))) (pss_one (ps_if (pt_cmpR op_ne (pv 6) (pv 3) rfl) (pss_one (ps_ret pe_bl)) pss_nil))))))))
  (pss_one (ps_ret pe_bl)))))))

abbrev s__law_walks : Stmt := top 10
theorem sc__law_walks : FnScope N__law_walks ["_law_history", "_law_places"] (defScope s__law_walks) := ⟨rfl, rfl, rfl, by decide +kernel, rfl, by decide +kernel, by decide +kernel⟩
theorem ok__law_walks (T : Tx K mg) (F : FnP K "_law_walks" s__law_walks (He.ga K "_law_walks") fd) (hg : mg "_law_walks" = some (.ref (He.ga K "_law_walks"))) : Cal P w K mg base 1 "_law_walks" (sp__law_walks K) [] := by
  refine ⟨_, fd, ["_law_history", "_law_places"], [], F.ok sc__law_walks (fun vs H Q E h => len__law_walks h) (fun cdv A outer s H vs Q E hr h => ⟨t__law_walks K w, PSs.nox ?_, pure__law_walks h⟩), hg, F.kp, FunD.bindsN F (fun _ _ _ _ _ _ us hl => match us, hl with | [_, _], _ => rfl), .nil⟩
  have hu := hu_of hr
  exact (pss_cons (ps_if (pt_cmpR (op_neD hr.units) (pe_callB cr_sortedA rfl T.z_sorted bt_sorted (pa_cons (pv 1) pa_nil)) (pe_listRg rfl rfl T.z_list (prg_1 rfl T.z_range (pe_callB call_len rfl T.z_len bt_len (pa_cons (pv 0) pa_nil)))) rfl) (pss_one (ps_ret pe_bl)) pss_nil)
  (pss_cons (ps_set (i := 2) sc__law_walks.nd rfl (Or.inl rfl) pe_non)
  (pss_cons (ps_set (i := 3) sc__law_walks.nd rfl (Or.inl rfl) pe_int)
  (pss_cons (ps_for PassesOwn.never rfl (pi_seq (pv 1)) (pg_name (i := 4) sc__law_walks.nd rfl (Or.inl rfl))
  (pss_cons (ps_asg (pe_ix ix_A (pv 0) (pv 4) (fun _ _ => rfl)) (pg_un rfl (pgs_cons (pg_name (i := 5) sc__law_walks.nd rfl (Or.inl rfl)) (pgs_cons (pg_name (i := 6) sc__law_walks.nd rfl (Or.inl rfl)) (pgs_cons (pg_name (i := 7) sc__law_walks.nd rfl (Or.inl rfl)) (pgs_cons (pg_name (i := 8) sc__law_walks.nd rfl (Or.inl rfl)) pgs_nil))))))
  (pss_cons (ps_set (i := 2) sc__law_walks.nd rfl (Or.inl rfl) (pe_ifExp (pt_cmpR op_isN1 (pv 2) pe_non rfl) (pv 7) (pe_callB (call_max2I rfl) rfl T.z_max bt_max (pa_cons (pv 2) (pa_cons (pv 7) pa_nil)))))
  (pss_cons (ps_if (PW.pt (pw_and (pt_cmpR op_notN1 (pv 8) pe_non rfl) (pw_and1 (pt_cmpR op_lt (pv 8) (pv 2) rfl)))) (pss_one (ps_ret pe_bl)) pss_nil)
  (pss_cons (ps_if (pt_cmpR op_eq (pv 5) pe_str rfl) (pss_one (ps_set (i := 3) sc__law_walks.nd rfl (Or.inl rfl) (pv 6))) pss_nil)
  (pss_one (ps_if (pt_cmpR op_ne (pv 6) (pv 3) rfl) (pss_one (ps_ret pe_bl)) pss_nil)))))))
  (pss_one (ps_ret pe_bl))))))

abbrev s__law_pool : Stmt := top 13
theorem sc__law_pool : FnScope N__law_pool ["_law_script", "_law_k"] (defScope s__law_pool) := ⟨rfl, rfl, rfl, by decide +kernel, rfl, by decide +kernel, by decide +kernel⟩
theorem ok__law_pool (T : Tx K mg) (F : FnP K "_law_pool" s__law_pool (He.ga K "_law_pool") fd) (hg : mg "_law_pool" = some (.ref (He.ga K "_law_pool"))) : Cal P w K mg base 1 "_law_pool" (sp__law_pool K) [] := by
  refine ⟨_, fd, ["_law_script", "_law_k"], [], F.ok sc__law_pool (fun vs H Q E h => len__law_pool h) (fun cdv A outer s H vs Q E hr h => ⟨t__law_pool K w, PSs.nox ?_, pure__law_pool h⟩), hg, F.kp, FunD.bindsN F (fun _ _ _ _ _ _ us hl => match us, hl with | [_, _], _ => rfl), .nil⟩
  have hu := hu_of hr
  exact (pss_cons (ps_set (i := 2) sc__law_pool.nd rfl (Or.inl rfl) pe_int)
  (pss_cons (ps_if (pt_cmpR op_gt (pe_callB call_len rfl T.z_len bt_len (pa_cons (pv 0) pa_nil)) pe_int rfl) (pss_one (ps_set (i := 2) sc__law_pool.nd rfl (Or.inl rfl) (pe_ix ix_list (pv 0) (pe_op op_mod (pv 1) (pe_callB call_len rfl T.z_len bt_len (pa_cons (pv 0) pa_nil))) (fun _ _ => rfl)))) pss_nil)
  (pss_cons (ps_set (i := 3) sc__law_pool.nd rfl (Or.inl rfl) pe_int)
  (pss_cons (ps_if (PW.pt (pw_and (pt_cmpR op_lt (pv 1) (pe_callB call_len rfl T.z_len bt_len (pa_cons (pv 0) pa_nil)) rfl) (pw_and1 (pt_cmpR op_ge (pe_callB call_absI rfl T.z_abs bt_abs (pa_cons (pv 2) pa_nil)) (pe_op op_pow pe_int pe_int) rfl)))) (pss_one (ps_set (i := 3) sc__law_pool.nd rfl (Or.inl rfl) (pe_callB call_absI rfl T.z_abs bt_abs (pa_cons (pv 2) pa_nil)))) pss_nil)
  (pss_one (ps_ret (pe_lst (pa_cons (pv 3) (pa_cons (pv 2) (pa_cons (pv 1) (pa_cons pe_int pa_nil)))))))))))

abbrev s__law_take : Stmt := top 14
theorem sc__law_take : FnScope N__law_take ["_law_pool_here", "_law_wide"] (defScope s__law_take) := ⟨rfl, rfl, rfl, by decide +kernel, rfl, by decide +kernel, by decide +kernel⟩
theorem ok__law_take (T : Tx K mg) (F : FnP K "_law_take" s__law_take (He.ga K "_law_take") fd) (hg : mg "_law_take" = some (.ref (He.ga K "_law_take"))) : Cal P w K mg base 1 "_law_take" (sp__law_take K) [] := by
  refine ⟨_, fd, ["_law_pool_here", "_law_wide"], [], F.ok sc__law_take (fun vs H Q E h => len__law_take h) (fun cdv A outer s H vs Q E hr h => ⟨t__law_take K w, PSs.nox ?_, pure__law_take h⟩), hg, F.kp, FunD.bindsN F (fun _ _ _ _ _ _ us hl => match us, hl with | [_, _], _ => rfl), .nil⟩
  have hu := hu_of hr
  exact (pss_cons (ps_if (pt_cmpR op_gt (pe_ix ix_list (pv 0) pe_int (fun _ _ => rfl)) pe_int rfl) (pss_cons (ps_set (i := 2) sc__law_take.nd rfl (Or.inl rfl) (pe_op op_mod (pe_ix ix_list (pv 0) pe_int (fun _ _ => rfl)) (pv 1)))
  (pss_cons (ps_asg (pe_op op_fdivW (pe_ix ix_list (pv 0) pe_int (fun _ _ => rfl)) (pv 1)) (pg_sub (pv 0) pe_int set_list))
  (pss_one (ps_ret (pv 2))))) pss_nil)
  (pss_cons (ps_set (i := 2) sc__law_take.nd rfl (Or.inl rfl) pe_int)
  (pss_cons (ps_set (i := 3) sc__law_take.nd rfl (Or.inl rfl) pe_int)
  (pss_cons (ps_while PassesOwn.never (pt_cmpR op_lt (pv 3) (pv 1) rfl)
  (pss_cons (ps_augS (pv 0) pe_int get_list pe_int ip_add set_list)
  (pss_cons (ps_set (i := 4) sc__law_take.nd rfl (Or.inl rfl) (pe_op op_mod (pe_op op_add (pe_op op_add (pe_op op_add (pe_ix ix_list (pv 0) pe_int (fun _ _ => rfl)) (pe_op op_mul pe_int (pe_ix ix_list (pv 0) pe_int (fun _ _ => rfl)))) (pe_op op_mul pe_int (pe_ix ix_list (pv 0) pe_int (fun _ _ => rfl)))) pe_int) pe_int))
  (pss_cons (ps_set (i := 4) sc__law_take.nd rfl (Or.inl rfl) (pe_op op_mod (pe_op op_pow (pv 4) pe_int) pe_int))
  (pss_cons (ps_set (i := 5) sc__law_take.nd rfl (Or.inl rfl) (pe_op op_mod (pe_op op_add (pe_op op_add (pv 4) (pe_op op_mul pe_int (pe_ix ix_list (pv 0) pe_int (fun _ _ => rfl)))) (pe_op op_mul pe_int (pe_ix ix_list (pv 0) pe_int (fun _ _ => rfl)))) pe_int))
  (pss_cons (ps_set (i := 2) sc__law_take.nd rfl (Or.inl rfl) (pe_op op_add (pe_op op_mul (pv 2) pe_int) (pe_op op_mod (pe_op op_add (pe_op op_mod (pe_op op_pow (pv 5) pe_int) pe_int) (pv 4)) pe_int)))
  (pss_one (ps_set (i := 3) sc__law_take.nd rfl (Or.inl rfl) (pe_op op_mul (pv 3) pe_int)))))))))
  (pss_one (ps_ret (pe_op op_mod (pv 2) (pv 1))))))))

abbrev s__law_mix : Stmt := top 15
theorem sc__law_mix : FnScope N__law_mix ["_law_pool_here", "_law_things"] (defScope s__law_mix) := ⟨rfl, rfl, rfl, by decide +kernel, rfl, by decide +kernel, by decide +kernel⟩
theorem ok__law_mix (T : Tx K mg) (F : FnP K "_law_mix" s__law_mix (He.ga K "_law_mix") fd) (hg : mg "_law_mix" = some (.ref (He.ga K "_law_mix"))) (c__law_take : Cal P w K mg base 1 "_law_take" (sp__law_take K) []) : Cal P w K mg base 2 "_law_mix" (sp__law_mix K) [] := by
  refine ⟨_, fd, ["_law_pool_here", "_law_things"], [], F.ok sc__law_mix (fun vs H Q E h => len__law_mix h) (fun cdv A outer s H vs Q E hr h => ⟨t__law_mix K w, PSs.nox ?_, pure__law_mix h⟩), hg, F.kp, FunD.bindsN F (fun _ _ _ _ _ _ us hl => match us, hl with | [_, _], _ => rfl), .nil⟩
  have hu := hu_of hr
  exact (pss_cons (ps_set (i := 2) sc__law_mix.nd rfl (Or.inl rfl) (pe_callTy call_list_of rfl T.z_list bt_list (pa_cons (pv 1) pa_nil)))
  (pss_cons (ps_set (i := 3) sc__law_mix.nd rfl (Or.inl rfl) (pe_lst pa_nil))
  (pss_cons (ps_while PassesOwn.never (pt_cmpR op_gt (pe_callB call_len rfl T.z_len bt_len (pa_cons (pv 2) pa_nil)) pe_int rfl)
  (pss_one (ps_expr (pe_bm PySem.F.plainAttrs_list PySem.F.slot_list_append PySem.F.type_list_append mt_append (pv 3) (pa_cons (pe_bm PySem.F.plainAttrs_list PySem.F.slot_list_pop PySem.F.type_list_pop mt_popAt (pv 2) (pa_cons (pe_c c__law_take hr (by decide) rfl (pa_cons (pv 0) (pa_cons (pe_callB call_len rfl T.z_len bt_len (pa_cons (pv 2) pa_nil)) pa_nil))) pa_nil)) pa_nil)))))
  (pss_one (ps_ret (pv 3))))))

abbrev s__law_line_of : Stmt := top 11
theorem sc__law_line_of : FnScope N__law_line_of ["_law_pool_here", "_law_many", "_law_wide"] (defScope s__law_line_of) := ⟨rfl, rfl, rfl, by decide +kernel, rfl, by decide +kernel, by decide +kernel⟩
theorem ok__law_line_of (T : Tx K mg) (F : FnP K "_law_line_of" s__law_line_of (He.ga K "_law_line_of") fd) (hg : mg "_law_line_of" = some (.ref (He.ga K "_law_line_of"))) (c__law_mix : Cal P w K mg base 2 "_law_mix" (sp__law_mix K) []) (c__law_take : Cal P w K mg base 1 "_law_take" (sp__law_take K) []) : Cal P w K mg base 3 "_law_line_of" (sp__law_line_of K) [] := by
  refine ⟨_, fd, ["_law_pool_here", "_law_many", "_law_wide"], [], F.ok sc__law_line_of (fun vs H Q E h => len__law_line_of h) (fun cdv A outer s H vs Q E hr h => ⟨t__law_line_of K w, PSs.nox ?_, pure__law_line_of h⟩), hg, F.kp, FunD.bindsN F (fun _ _ _ _ _ _ us hl => match us, hl with | [_, _, _], _ => rfl), .nil⟩
  have hu := hu_of hr
  exact (pss_cons (ps_set (i := 3) sc__law_line_of.nd rfl (Or.inl rfl) (pe_c c__law_mix hr (by decide) rfl (pa_cons (pv 0) (pa_cons (pe_listRg rfl rfl T.z_list (prg_2 rfl T.z_range pe_int (pe_op op_add (pv 1) pe_int))) pa_nil))))
  (pss_cons (ps_set (i := 4) sc__law_line_of.nd rfl (Or.inr rfl) (pe_lst pa_nil))
  (pss_cons (ps_set (i := 5) sc__law_line_of.nd rfl (Or.inl rfl) (pe_c c__law_take hr (by decide) rfl (pa_cons (pv 0) (pa_cons pe_int pa_nil))))
  (pss_cons (ps_set (i := 6) sc__law_line_of.nd rfl (Or.inl rfl) pe_int)
  (pss_cons (ps_for PassesOwn.never rfl (pi_range1 rfl T.z_range (pa_cons (pv 1) pa_nil)) (pg_name (i := 7) sc__law_line_of.nd rfl (Or.inl rfl))
  (pss_cons (ps_set (i := 5) sc__law_line_of.nd rfl (Or.inl rfl) (pe_op op_add (pv 5) (pe_c c__law_take hr (by decide) rfl (pa_cons (pv 0) (pa_cons (pv 2) pa_nil)))))
  (pss_cons (ps_set (i := 8) sc__law_line_of.nd rfl (Or.inl rfl) (pe_callB (call_max2I rfl) rfl T.z_max bt_max (pa_cons pe_int (pa_cons (pe_op op_sub (pv 5) (pe_c c__law_take hr (by decide) rfl (pa_cons (pv 0) (pa_cons (pe_op op_mul pe_int (pv 2)) pa_nil)))) pa_nil))))
  (pss_cons (ps_set (i := 9) sc__law_line_of.nd rfl (Or.inl rfl) (pe_op op_add (pv 5) (pe_c c__law_take hr (by decide) rfl (pa_cons (pv 0) (pa_cons (pe_op op_mul pe_int (pv 2)) pa_nil)))))
  (pss_one (ps_if (pt_cmpR op_eq (pe_c c__law_take hr (by decide) rfl (pa_cons (pv 0) (pa_cons pe_int pa_nil))) pe_int rfl) (pss_cons (ps_set (i := 6) sc__law_line_of.nd rfl (Or.inl rfl) (pe_bm0 PySem.F.plainAttrs_list PySem.F.slot_list_pop PySem.F.type_list_pop mt_pop (pv 3)))
  (pss_one (ps_expr (pe_bm PySem.F.plainAttrs_list PySem.F.slot_list_append PySem.F.type_list_append mt_append (pv 4) (pa_cons (pe_tup (pa_cons pe_str (pa_cons (pv 6) (pa_cons (pv 8) (pa_cons (pe_ifExp (pt_cmpR op_eq (pe_c c__law_take hr (by decide) rfl (pa_cons (pv 0) (pa_cons pe_int pa_nil))) pe_int rfl) pe_non (pv 9)) pa_nil))))) pa_nil))))) (pss_one (ps_expr (pe_bm PySem.F.plainAttrs_list PySem.F.slot_list_append PySem.F.type_list_append mt_append (pv 4) (pa_cons (pe_tup (pa_cons pe_str (pa_cons (pv 6) (pa_cons (pv 8) (pa_cons (pv 9) pa_nil))))) pa_nil))))))))))
  (pss_cons (ps_set (i := 10) sc__law_line_of.nd rfl (Or.inr rfl) (pe_c c__law_mix hr (by decide) rfl (pa_cons (pv 0) (pa_cons (pe_listRg rfl rfl T.z_list (prg_1 rfl T.z_range (pv 1))) pa_nil))))
  (pss_one (ps_ret (pe_tup (pa_cons (pe_callTy call_tuple_of rfl T.z_tuple bt_tuple (pa_cons (pe_lc (own := [("_law_at", 11)]) rfl sc__law_line_of.nd (pi_list (pv 10)) (blkOk_by (N := N__law_line_of) (sc := defScope s__law_line_of) (by decide +kernel)) (fun _ _ _ _ _ => (pg_name (i := 11) sc__law_line_of.nd rfl (by first | exact Or.inl rfl | exact Or.inr rfl))) (fun _ _ _ _ _ => pts_nil) (fun _ _ _ _ _ => (pe_ix ix_list (pv 4) (pv 11) (fun _ _ => rfl)))) pa_nil)) (pa_cons (pe_callTy call_tuple_of rfl T.z_tuple bt_tuple (pa_cons (pe_lc (own := [("_law_k", 7)]) rfl sc__law_line_of.nd (pi_range1 rfl T.z_range (pa_cons (pv 1) pa_nil)) (blkOk_by (N := N__law_line_of) (sc := defScope s__law_line_of) (by decide +kernel)) (fun _ _ _ _ _ => (pg_name (i := 7) sc__law_line_of.nd rfl (by first | exact Or.inl rfl | exact Or.inr rfl))) (fun _ _ _ _ _ => pts_nil) (fun _ _ _ _ _ => (pe_bm PySem.F.plainAttrs_list PySem.F.slot_list_index PySem.F.type_list_index mt_index (pv 10) (pa_cons (pv 7) pa_nil)))) pa_nil)) pa_nil)))))))))))

abbrev s__law_any_history : Stmt := top 12
theorem sc__law_any_history : FnScope N__law_any_history ["_law_pool_here", "_law_many"] (defScope s__law_any_history) := ⟨rfl, rfl, rfl, by decide +kernel, rfl, by decide +kernel, by decide +kernel⟩
theorem ok__law_any_history (T : Tx K mg) (F : FnP K "_law_any_history" s__law_any_history (He.ga K "_law_any_history") fd) (hg : mg "_law_any_history" = some (.ref (He.ga K "_law_any_history"))) (c__law_mix : Cal P w K mg base 2 "_law_mix" (sp__law_mix K) []) (c__law_take : Cal P w K mg base 1 "_law_take" (sp__law_take K) []) : Cal P w K mg base 3 "_law_any_history" (sp__law_any_history K) [] := by
  refine ⟨_, fd, ["_law_pool_here", "_law_many"], [], F.ok sc__law_any_history (fun vs H Q E h => len__law_any_history h) (fun cdv A outer s H vs Q E hr h => ⟨t__law_any_history K w, PSs.nox ?_, pure__law_any_history h⟩), hg, F.kp, FunD.bindsN F (fun _ _ _ _ _ _ us hl => match us, hl with | [_, _], _ => rfl), .nil⟩
  have hu := hu_of hr
  exact (pss_cons (ps_set (i := 2) sc__law_any_history.nd rfl (Or.inl rfl) (pe_lst pa_nil))
  (pss_cons (ps_set (i := 3) sc__law_any_history.nd rfl (Or.inl rfl) (pe_slice sl_list (pe_c c__law_mix hr (by decide) rfl (pa_cons (pv 0) (pa_cons (pe_lst (pa_cons pe_int (pa_cons pe_int (pa_cons pe_int (pa_cons pe_int (pa_cons pe_int (pa_cons pe_int (pa_cons pe_int (pa_cons pe_int (pa_cons pe_int pa_nil)))))))))) pa_nil))) po_none (po_some (pe_op op_add pe_int (pe_c c__law_take hr (by decide) rfl (pa_cons (pv 0) (pa_cons pe_int pa_nil)))))))
  (pss_cons (ps_set (i := 4) sc__law_any_history.nd rfl (Or.inl rfl) (pe_callTy call_list_of rfl T.z_list bt_list (pa_cons (pv 3) pa_nil)))
  (pss_cons (ps_set (i := 5) sc__law_any_history.nd rfl (Or.inl rfl) (pe_op op_add pe_int (pe_c c__law_take hr (by decide) rfl (pa_cons (pv 0) (pa_cons (pe_op op_add pe_int (pe_op op_mul pe_int (pv 1))) pa_nil)))))
  (pss_cons (ps_for PassesOwn.never rfl (pi_range1 rfl T.z_range (pa_cons (pv 1) pa_nil)) (pg_name (i := 6) sc__law_any_history.nd rfl (Or.inl rfl))
  (pss_cons (ps_set (i := 7) sc__law_any_history.nd rfl (Or.inl rfl) (pe_c c__law_take hr (by decide) rfl (pa_cons (pv 0) (pa_cons (pv 5) pa_nil))))
  (pss_cons (ps_set (i := 8) sc__law_any_history.nd rfl (Or.inl rfl) (pe_op op_add (pv 7) (pe_c c__law_take hr (by decide) rfl (pa_cons (pv 0) (pa_cons (pe_op op_add pe_int (pe_c c__law_take hr (by decide) rfl (pa_cons (pv 0) (pa_cons (pv 5) pa_nil)))) pa_nil)))))
  (pss_cons (ps_set (i := 9) sc__law_any_history.nd rfl (Or.inl rfl) (pe_c c__law_take hr (by decide) rfl (pa_cons (pv 0) (pa_cons pe_int pa_nil))))
  (pss_one (ps_if (PW.pt (pw_and (pt_cmpR op_eq (pv 9) pe_int rfl) (pw_and1 (pt_cmpR op_gt (pe_callB call_len rfl T.z_len bt_len (pa_cons (pv 4) pa_nil)) pe_int rfl)))) (pss_one (ps_expr (pe_bm PySem.F.plainAttrs_list PySem.F.slot_list_append PySem.F.type_list_append mt_append (pv 2) (pa_cons (pe_tup (pa_cons pe_str (pa_cons (pe_bm0 PySem.F.plainAttrs_list PySem.F.slot_list_pop PySem.F.type_list_pop mt_pop (pv 4)) (pa_cons (pv 7) (pa_cons (pe_ifExp (pt_cmpR op_eq (pe_c c__law_take hr (by decide) rfl (pa_cons (pv 0) (pa_cons pe_int pa_nil))) pe_int rfl) pe_non (pv 8)) pa_nil))))) pa_nil)))) (pss_cons (ps_set (i := 10) sc__law_any_history.nd rfl (Or.inl rfl) (pe_ix ix_A (pe_op op_cat (pe_lst (pa_cons pe_int pa_nil)) (pv 3)) (pe_c c__law_take hr (by decide) rfl (pa_cons (pv 0) (pa_cons (pe_op op_add (pe_callB call_len rfl T.z_len bt_len (pa_cons (pv 3) pa_nil)) pe_int) pa_nil))) (fun _ _ => rfl)))
  (pss_one (ps_expr (pe_bm PySem.F.plainAttrs_list PySem.F.slot_list_append PySem.F.type_list_append mt_append (pv 2) (pa_cons (pe_tup (pa_cons pe_str (pa_cons (pv 10) (pa_cons (pv 7) (pa_cons (pv 8) pa_nil))))) pa_nil)))))))))))
  (pss_cons (ps_for PassesOwn.never rfl (pi_list (pe_slice sl_list (pv 4) (po_some (pe_op op_fdivW (pe_c c__law_take hr (by decide) rfl (pa_cons (pv 0) (pa_cons pe_int pa_nil))) pe_int)) po_none)) (pg_name (i := 10) sc__law_any_history.nd rfl (Or.inl rfl))
  (pss_one (ps_if (pt_cmpR op_lt (pe_callB call_len rfl T.z_len bt_len (pa_cons (pv 2) pa_nil)) pe_int rfl) (pss_one (ps_expr (pe_bm PySem.F.plainAttrs_list PySem.F.slot_list_append PySem.F.type_list_append mt_append (pv 2) (pa_cons (pe_tup (pa_cons pe_str (pa_cons (pv 10) (pa_cons (pe_c c__law_take hr (by decide) rfl (pa_cons (pv 0) (pa_cons (pv 5) pa_nil))) (pa_cons pe_non pa_nil))))) pa_nil)))) pss_nil)))
  (pss_one (ps_ret (pe_callTy call_tuple_of rfl T.z_tuple bt_tuple (pa_cons (pe_c c__law_mix hr (by decide) rfl (pa_cons (pv 0) (pa_cons (pv 2) pa_nil))) pa_nil))))))))))

abbrev s__law_bent : Stmt := top 16
theorem sc__law_bent : FnScope N__law_bent ["_law_pool_here", "_law_places"] (defScope s__law_bent) := ⟨rfl, rfl, rfl, by decide +kernel, rfl, by decide +kernel, by decide +kernel⟩
theorem ok__law_bent (T : Tx K mg) (F : FnP K "_law_bent" s__law_bent (He.ga K "_law_bent") fd) (hg : mg "_law_bent" = some (.ref (He.ga K "_law_bent"))) (c__law_take : Cal P w K mg base 1 "_law_take" (sp__law_take K) []) : Cal P w K mg base 2 "_law_bent" (sp__law_bent K) [] := by
  refine ⟨_, fd, ["_law_pool_here", "_law_places"], [], F.ok sc__law_bent (fun vs H Q E h => len__law_bent h) (fun cdv A outer s H vs Q E hr h => ⟨t__law_bent K w, PSs.nox ?_, pure__law_bent h⟩), hg, F.kp, FunD.bindsN F (fun _ _ _ _ _ _ us hl => match us, hl with | [_, _], _ => rfl), .nil⟩
  have hu := hu_of hr
  exact (pss_cons (ps_set (i := 2) sc__law_bent.nd rfl (Or.inl rfl) (pe_c c__law_take hr (by decide) rfl (pa_cons (pv 0) (pa_cons pe_int pa_nil))))
  (pss_cons (ps_set (i := 3) sc__law_bent.nd rfl (Or.inl rfl) (pe_c c__law_take hr (by decide) rfl (pa_cons (pv 0) (pa_cons (pe_callB call_len rfl T.z_len bt_len (pa_cons (pv 1) pa_nil)) pa_nil))))
  (pss_cons (ps_set (i := 4) sc__law_bent.nd rfl (Or.inl rfl) (pe_c c__law_take hr (by decide) rfl (pa_cons (pv 0) (pa_cons (pe_callB call_len rfl T.z_len bt_len (pa_cons (pv 1) pa_nil)) pa_nil))))
  (pss_cons (ps_set (i := 5) sc__law_bent.nd rfl (Or.inl rfl) (pe_callTy call_list_of rfl T.z_list bt_list (pa_cons (pv 1) pa_nil)))
  (pss_cons (ps_if (pt_cmpR op_eq (pv 2) pe_int rfl) (pss_one (ps_asg (pe_tup (pa_cons (pe_ix ix_list (pv 5) (pv 4) (fun _ _ => rfl)) (pa_cons (pe_ix ix_list (pv 5) (pv 3) (fun _ _ => rfl)) pa_nil))) (pg_un rfl (pgs_cons (pg_sub (pv 5) (pv 3) set_list) (pgs_cons (pg_sub (pv 5) (pv 4) set_list) pgs_nil))))) pss_nil)
  (pss_cons (ps_if (pt_cmpR op_eq (pv 2) pe_int rfl) (pss_one (ps_expr (pe_bm PySem.F.plainAttrs_list PySem.F.slot_list_pop PySem.F.type_list_pop mt_popAt (pv 5) (pa_cons (pv 3) pa_nil)))) pss_nil)
  (pss_cons (ps_if (pt_cmpR op_eq (pv 2) pe_int rfl) (pss_one (ps_expr (pe_bm PySem.F.plainAttrs_list PySem.F.slot_list_insert PySem.F.type_list_insert mt_insert (pv 5) (pa_cons (pv 4) (pa_cons (pe_ix ix_list (pv 5) (pv 3) (fun _ _ => rfl)) pa_nil))))) pss_nil)
  (pss_cons (ps_if (pt_cmpR op_eq (pv 2) pe_int rfl) (pss_one (ps_asg (pe_ix ix_list (pv 5) (pv 4) (fun _ _ => rfl)) (pg_sub (pv 5) (pv 3) set_list))) pss_nil)
  (pss_cons (ps_if (pt_cmpR op_eq (pv 2) pe_int rfl) (pss_one (ps_asg (pe_ix ix_list (pe_lst (pa_cons (pe_un un_neg pe_int) (pa_cons (pe_callB call_len rfl T.z_len bt_len (pa_cons (pv 1) pa_nil)) (pa_cons (pe_op op_pow pe_int pe_int) (pa_cons (pe_un un_neg (pe_callB call_len rfl T.z_len bt_len (pa_cons (pv 1) pa_nil))) pa_nil))))) (pe_c c__law_take hr (by decide) rfl (pa_cons (pv 0) (pa_cons pe_int pa_nil))) (fun _ _ => rfl)) (pg_sub (pv 5) (pv 3) set_list))) pss_nil)
  (pss_cons (ps_if (pt_cmpR op_eq (pv 2) pe_int rfl) (pss_one (ps_expr (pe_bm0 PySem.F.plainAttrs_list PySem.F.slot_list_reverse PySem.F.type_list_reverse mt_reverse (pv 5)))) pss_nil)
  (pss_one (ps_ret (pe_callTy call_tuple_of rfl T.z_tuple bt_tuple (pa_cons (pv 5) pa_nil))))))))))))))

abbrev s_law : Stmt := top 17
theorem sc_law : FnScope N_law ["_law_script"] (defScope s_law) := ⟨rfl, rfl, rfl, by decide +kernel, rfl, by decide +kernel, by decide +kernel⟩
theorem ok_law {f : Addr} (T : Tx K mg) (F : FnP K "law" s_law f fd) (c__law_any_history : Cal P w K mg base 3 "_law_any_history" (sp__law_any_history K) []) (c__law_bent : Cal P w K mg base 2 "_law_bent" (sp__law_bent K) []) (c__law_line_of : Cal P w K mg base 3 "_law_line_of" (sp__law_line_of K) []) (c__law_mix : Cal P w K mg base 2 "_law_mix" (sp__law_mix K) []) (c__law_pool : Cal P w K mg base 1 "_law_pool" (sp__law_pool K) []) (c__law_take : Cal P w K mg base 1 "_law_take" (sp__law_take K) []) (c__law_walks : Cal P w K mg base 1 "_law_walks" (sp__law_walks K) []) (c_is_order : Cal P w K mg base 4 "is_order" (sp_is_order K) []) : FnOk P w K mg base CX0 5 f fd ["_law_script"] (sp_law K) := by
  refine F.ok sc_law (fun vs H Q E h => len_law h) (fun cdv A outer s H vs Q E hr h => ⟨t_law K w, PSs.nox ?_, pure_law h⟩)
  have hu := hu_of hr
  exact (pss_cons (ps_set (i := 1) sc_law.nd rfl (Or.inl rfl) (pe_c c__law_pool hr (by decide) rfl (pa_cons (pv 0) (pa_cons pe_int pa_nil))))
  (pss_cons (ps_set (i := 2) sc_law.nd rfl (Or.inl rfl) (pe_c c__law_take hr (by decide) rfl (pa_cons (pv 1) (pa_cons pe_int pa_nil))))
  (pss_cons (ps_asg (pe_c c__law_line_of hr (by decide) rfl (pa_cons (pv 1) (pa_cons (pe_op op_add pe_int (pe_c c__law_take hr (by decide) rfl (pa_cons (pv 1) (pa_cons (pe_ix ix_list (pe_lst (pa_cons pe_int (pa_cons pe_int pa_nil))) (pe_c c__law_take hr (by decide) rfl (pa_cons (pv 1) (pa_cons pe_int pa_nil))) (fun _ _ => rfl)) pa_nil)))) (pa_cons (pe_op op_add pe_int (pe_c c__law_take hr (by decide) rfl (pa_cons (pv 1) (pa_cons pe_int pa_nil)))) pa_nil)))) (pg_un rfl (pgs_cons (pg_name (i := 3) sc_law.nd rfl (Or.inl rfl)) (pgs_cons (pg_name (i := 4) sc_law.nd rfl (Or.inl rfl)) pgs_nil))))
  (pss_cons (ps_set (i := 5) sc_law.nd rfl (Or.inl rfl) (pv 4))
  (pss_cons (ps_if (pt_cmpR op_eq (pv 2) pe_int rfl) (pss_cons (ps_set (i := 3) sc_law.nd rfl (Or.inl rfl) (pe_c c__law_any_history hr (by decide) rfl (pa_cons (pv 1) (pa_cons (pe_op op_add pe_int (pe_c c__law_take hr (by decide) rfl (pa_cons (pv 1) (pa_cons pe_int pa_nil)))) pa_nil))))
  (pss_one (ps_set (i := 5) sc_law.nd rfl (Or.inl rfl) (pe_callTy call_tuple_of rfl T.z_tuple bt_tuple (pa_cons (pe_c c__law_mix hr (by decide) rfl (pa_cons (pv 1) (pa_cons (pe_listRg rfl rfl T.z_list (prg_1 rfl T.z_range (pe_callB call_len rfl T.z_len bt_len (pa_cons (pv 3) pa_nil)))) pa_nil))) pa_nil))))) pss_nil)
  (pss_cons (ps_for PassesOwn.never rfl (pi_range1 rfl T.z_range (pa_cons pe_int pa_nil)) (pg_name (i := 6) sc_law.nd rfl (Or.inl rfl))
  (pss_one (ps_for PassesOwn.never rfl (pi_tup (pe_tup (pa_cons (pe_c c__law_bent hr (by decide) rfl (pa_cons (pv 1) (pa_cons (pv 5) pa_nil))) (pa_cons (pv 5) pa_nil)))) (pg_name (i := 7) sc_law.nd rfl (Or.inl rfl))
  (pss_cons (ps_set (i := 8) sc_law.nd rfl (Or.inl rfl) (pe_c c__law_walks hr (by decide) rfl (pa_cons (pv 3) (pa_cons (pv 7) pa_nil))))
  (pss_one (ps_for PassesOwn.never rfl (pi_tup (pe_tup (pa_cons (pe_c c_is_order hr (by decide) rfl (pa_cons (pv 3) (pa_cons (pv 7) pa_nil))) (pa_cons (pe_c c_is_order hr (by decide) rfl (pa_cons (pe_lc (own := [("_law_one", 10)]) rfl sc_law.nd (pi_seq (pv 3)) (blkOk_by (N := N_law) (sc := defScope s_law) (by decide +kernel)) (fun _ _ _ _ _ => (pg_name (i := 10) sc_law.nd rfl (by first | exact Or.inl rfl | exact Or.inr rfl))) (fun _ _ _ _ _ => pts_nil) (fun _ _ _ _ _ => (pe_callTy call_list_of rfl T.z_list bt_list (pa_cons (pv 10) pa_nil)))) (pa_cons (pe_callTy call_list_of rfl T.z_list bt_list (pa_cons (pv 7) pa_nil)) pa_nil))) pa_nil)))) (pg_name (i := 9) sc_law.nd rfl (Or.inl rfl))
  (pss_one (ps_if (PW.pt (pw_or (pt_not (pt_val (pe_callB call_isi rfl T.z_isinstance bt_isinstance (pa_cons (pv 9) (pa_cons (pe_bltn rfl T.z_bool bt_bool rfl) pa_nil))))) (pw_or1 (pt_cmpR op_ne (pv 9) (pv 8) rfl)))) (pss_one (ps_ret pe_bl)) pss_nil))))))))
  (pss_one (ps_ret pe_bl))))))))
end
def d_is_whole : He.DefD := ⟨("is_whole", none), "is_whole", "is_whole", defArgs s_is_whole, defBody s_is_whole, defScope s_is_whole, [], []⟩
def d_is_operation : He.DefD := ⟨("is_operation", none), "is_operation", "is_operation", defArgs s_is_operation, defBody s_is_operation, defScope s_is_operation, [], []⟩
def d_ask_history : He.DefD := ⟨("ask_history", none), "ask_history", "ask_history", defArgs s_ask_history, defBody s_ask_history, defScope s_ask_history, [], []⟩
def d_is_order : He.DefD := ⟨("is_order", none), "is_order", "is_order", defArgs s_is_order, defBody s_is_order, defScope s_is_order, [], []⟩
def d__law_walks : He.DefD := ⟨("_law_walks", none), "_law_walks", "_law_walks", defArgs s__law_walks, defBody s__law_walks, defScope s__law_walks, [], []⟩
def d__law_pool : He.DefD := ⟨("_law_pool", none), "_law_pool", "_law_pool", defArgs s__law_pool, defBody s__law_pool, defScope s__law_pool, [], []⟩
def d__law_take : He.DefD := ⟨("_law_take", none), "_law_take", "_law_take", defArgs s__law_take, defBody s__law_take, defScope s__law_take, [], []⟩
def d__law_mix : He.DefD := ⟨("_law_mix", none), "_law_mix", "_law_mix", defArgs s__law_mix, defBody s__law_mix, defScope s__law_mix, [], []⟩
def d__law_line_of : He.DefD := ⟨("_law_line_of", none), "_law_line_of", "_law_line_of", defArgs s__law_line_of, defBody s__law_line_of, defScope s__law_line_of, [], []⟩
def d__law_any_history : He.DefD := ⟨("_law_any_history", none), "_law_any_history", "_law_any_history", defArgs s__law_any_history, defBody s__law_any_history, defScope s__law_any_history, [], []⟩
def d__law_bent : He.DefD := ⟨("_law_bent", none), "_law_bent", "_law_bent", defArgs s__law_bent, defBody s__law_bent, defScope s__law_bent, [], []⟩
def d_law : He.DefD := ⟨("law", none), "law", "law", defArgs s_law, defBody s_law, defScope s_law, [], []⟩
def fn : List He.DefD := [d_is_whole, d_is_operation, d_ask_history, d_is_order, d__law_walks, d__law_pool, d__law_take, d__law_mix, d__law_line_of, d__law_any_history, d__law_bent, d_law]
def fa : List He.Fa := [.glo "is_whole", .glo "is_operation", .glo "ask_history", .glo "is_order", .glo "_law_walks", .glo "_law_pool", .glo "_law_take", .glo "_law_mix", .glo "_law_line_of", .glo "_law_any_history", .glo "_law_bent", .glo "law", .free "abs", .free "bool", .free "enumerate", .free "int", .free "isinstance", .free "len", .free "list", .free "max", .free "range", .free "sorted", .free "tuple", .int "MOST" 40]
def loose0 : List PySem.Str := ["LendError", "NoHistory", "MOST", "is_whole", "is_operation", "ask_history", "is_order", "_law_walks", "_law_line_of", "_law_any_history", "_law_pool", "_law_take", "_law_mix", "_law_bent"]
def loose : List PySem.Str := ["LendError", "NoHistory", "MOST", "is_whole", "is_operation", "ask_history", "is_order", "_law_walks", "_law_line_of", "_law_any_history", "_law_pool", "_law_take", "_law_mix", "_law_bent"]
abbrev R : PySem.W.OpenRow := PySem.W.OpenLaw.row PySem.Challenge.rw_lendwell_k77_orders_looked_at
abbrev hk : PySem.W.Hook := He.hookX 5 fa fn [] [] (fun _ => true)
def ob (s : PySem.W.SharedT) : He.AlX := He.obsX 5 fa fn [] [] (fun _ => true) (HandSHeadRun.getT s)
theorem ob_eq (s : PySem.W.SharedT) : ob s = hk.obs s.abs := He.obsX_eq (HandSHeadRun.getT_eq s)
theorem run (w : World) : HandSHeadRun.RunEq R (PySem.W.view R.prog [17]) hk ob 2000 loose w := by
  intro os
  kernel_rfl
theorem facts {P : Program} {w : World} {K : PySem.W.Frag} {h : Heap} {mg : Str → Option Value} {f : Addr} (X : K.In h) (G : h.Ns mainGlobals mg) (hfa : mg ("law" : Str) = some (.ref f)) (c : He.SaysD fa fn K) :
    ∃ fd : FuncData, (∀ (s : Shared) (v : Value), BindsTo s fd ⟨[v], []⟩ [("_law_script", v)]) ∧ ∀ base : Heap, K.In base → base.Ns mainGlobals mg → FnOk P w K mg base CX0 5 f fd ["_law_script"] (sp_law K) := by
  have T : Tx K mg := { z_abs := He.free_ok X G (c.fact 12 (f := .free "abs")), z_bool := He.free_ok X G (c.fact 13 (f := .free "bool")), z_enumerate := He.free_ok X G (c.fact 14 (f := .free "enumerate")), z_int := He.free_ok X G (c.fact 15 (f := .free "int")), z_isinstance := He.free_ok X G (c.fact 16 (f := .free "isinstance")), z_len := He.free_ok X G (c.fact 17 (f := .free "len")), z_list := He.free_ok X G (c.fact 18 (f := .free "list")), z_max := He.free_ok X G (c.fact 19 (f := .free "max")), z_range := He.free_ok X G (c.fact 20 (f := .free "range")), z_sorted := He.free_ok X G (c.fact 21 (f := .free "sorted")), z_tuple := He.free_ok X G (c.fact 22 (f := .free "tuple")), g_MOST := let ⟨t, e⟩ := He.int_ok X G (c.fact 23 (f := .int "MOST" 40)); ⟨_, e, ⟨t, rfl⟩⟩ }
  obtain ⟨fd_is_whole, F_is_whole⟩ := c.def_ 0 (d := d_is_whole) rfl
  have g_is_whole : mg "is_whole" = some (.ref (He.ga K "is_whole")) := He.glo_ok X G (c.fact 0 (f := .glo "is_whole") rfl)
  obtain ⟨fd_is_operation, F_is_operation⟩ := c.def_ 1 (d := d_is_operation) rfl
  have g_is_operation : mg "is_operation" = some (.ref (He.ga K "is_operation")) := He.glo_ok X G (c.fact 1 (f := .glo "is_operation") rfl)
  obtain ⟨fd_ask_history, F_ask_history⟩ := c.def_ 2 (d := d_ask_history) rfl
  have g_ask_history : mg "ask_history" = some (.ref (He.ga K "ask_history")) := He.glo_ok X G (c.fact 2 (f := .glo "ask_history") rfl)
  obtain ⟨fd_is_order, F_is_order⟩ := c.def_ 3 (d := d_is_order) rfl
  have g_is_order : mg "is_order" = some (.ref (He.ga K "is_order")) := He.glo_ok X G (c.fact 3 (f := .glo "is_order") rfl)
  obtain ⟨fd__law_walks, F__law_walks⟩ := c.def_ 4 (d := d__law_walks) rfl
  have g__law_walks : mg "_law_walks" = some (.ref (He.ga K "_law_walks")) := He.glo_ok X G (c.fact 4 (f := .glo "_law_walks") rfl)
  obtain ⟨fd__law_pool, F__law_pool⟩ := c.def_ 5 (d := d__law_pool) rfl
  have g__law_pool : mg "_law_pool" = some (.ref (He.ga K "_law_pool")) := He.glo_ok X G (c.fact 5 (f := .glo "_law_pool") rfl)
  obtain ⟨fd__law_take, F__law_take⟩ := c.def_ 6 (d := d__law_take) rfl
  have g__law_take : mg "_law_take" = some (.ref (He.ga K "_law_take")) := He.glo_ok X G (c.fact 6 (f := .glo "_law_take") rfl)
  obtain ⟨fd__law_mix, F__law_mix⟩ := c.def_ 7 (d := d__law_mix) rfl
  have g__law_mix : mg "_law_mix" = some (.ref (He.ga K "_law_mix")) := He.glo_ok X G (c.fact 7 (f := .glo "_law_mix") rfl)
  obtain ⟨fd__law_line_of, F__law_line_of⟩ := c.def_ 8 (d := d__law_line_of) rfl
  have g__law_line_of : mg "_law_line_of" = some (.ref (He.ga K "_law_line_of")) := He.glo_ok X G (c.fact 8 (f := .glo "_law_line_of") rfl)
  obtain ⟨fd__law_any_history, F__law_any_history⟩ := c.def_ 9 (d := d__law_any_history) rfl
  have g__law_any_history : mg "_law_any_history" = some (.ref (He.ga K "_law_any_history")) := He.glo_ok X G (c.fact 9 (f := .glo "_law_any_history") rfl)
  obtain ⟨fd__law_bent, F__law_bent⟩ := c.def_ 10 (d := d__law_bent) rfl
  have g__law_bent : mg "_law_bent" = some (.ref (He.ga K "_law_bent")) := He.glo_ok X G (c.fact 10 (f := .glo "_law_bent") rfl)
  obtain ⟨fd_law, F_law⟩ := c.def_ 11 (d := d_law) rfl
  have g_law : mg "law" = some (.ref (He.ga K "law")) := He.glo_ok X G (c.fact 11 (f := .glo "law") rfl)
  have e := hfa.symm.trans g_law
  cases e
  have b := FunD.bindsA (ps := ["_law_script"]) F_law fun _ _ _ _ _ _ us hl => match us, hl with | [_], _ => rfl
  refine ⟨fd_law, fun s v => b s [v] rfl, fun base _ _ => ?_⟩
  have k_is_whole := ok_is_whole (P := P) (w := w) (base := base) T F_is_whole g_is_whole 
  have k_is_operation := ok_is_operation (P := P) (w := w) (base := base) T F_is_operation g_is_operation k_is_whole
  have k_ask_history := ok_ask_history (P := P) (w := w) (base := base) T F_ask_history g_ask_history k_is_operation
  have k_is_order := ok_is_order (P := P) (w := w) (base := base) T F_is_order g_is_order k_ask_history
  have k__law_walks := ok__law_walks (P := P) (w := w) (base := base) T F__law_walks g__law_walks 
  have k__law_pool := ok__law_pool (P := P) (w := w) (base := base) T F__law_pool g__law_pool 
  have k__law_take := ok__law_take (P := P) (w := w) (base := base) T F__law_take g__law_take 
  have k__law_mix := ok__law_mix (P := P) (w := w) (base := base) T F__law_mix g__law_mix k__law_take
  have k__law_line_of := ok__law_line_of (P := P) (w := w) (base := base) T F__law_line_of g__law_line_of k__law_mix k__law_take
  have k__law_any_history := ok__law_any_history (P := P) (w := w) (base := base) T F__law_any_history g__law_any_history k__law_mix k__law_take
  have k__law_bent := ok__law_bent (P := P) (w := w) (base := base) T F__law_bent g__law_bent k__law_take
  exact ok_law T F_law k__law_any_history k__law_bent k__law_line_of k__law_mix k__law_pool k__law_take k__law_walks k_is_order
end LW
open PySem PySem.W PySem.Calls PyProof.Rows
set_option maxHeartbeats 0 in
theorem PySem.Challenge.cw_lendwell_k77_orders_looked_at_holds : PySem.Challenge.rw_lendwell_k77_orders_looked_at.Holds := by
  w_on; o_law
  refine HandSHeadRun.head_any (r := OpenLaw.row PySem.Challenge.rw_lendwell_k77_orders_looked_at) (q := view (OpenLaw.row PySem.Challenge.rw_lendwell_k77_orders_looked_at).prog [17]) (H := LW.hk) (ob := LW.ob) (M := 2000) (loose := LW.loose) (d := HandSHeadRun.topDef (OpenLaw.row PySem.Challenge.rw_lendwell_k77_orders_looked_at).prog 17) (kwd := []) LW.ob_eq
    (by kernel_rfl) (fun s => by kernel_rfl) LW.run (by kernel_rfl) (by kernel_rfl) (by kernel_rfl) (by rfl) (by first | assumption | decide +kernel) (by decide +kernel) ⟨rfl, rfl, rfl, rfl, rfl, by decide +kernel⟩ ?hw ?hc
  case hw => w_witness2
  case hc =>
    refine L2.walk_ofE (l := PySem.Challenge.rw_lendwell_k77_orders_looked_at) (n := 63) (k := 5) (x := "_law_script") (CX := L2.CX0) rfl (by decide) (by kernel_rfl) ⟨rfl, by decide, by decide⟩ ?F (fun _ _ _ _ z => z)
    intro w mg fa h Y G hmg0
    obtain ⟨K, KX, c⟩ := Y
    have hmg : mg ("law" : PySem.Str) = some (.ref fa) := by
      have e : (HandSHeadRun.topDef (OpenLaw.row PySem.Challenge.rw_lendwell_k77_orders_looked_at).prog 17).name = ("law" : PySem.Str) := by kernel_rfl
      rw [← e]
      exact hmg0
    obtain ⟨fd, hb, hF⟩ := LW.facts (P := (PySem.Challenge.rw_lendwell_k77_orders_looked_at).prog) (w := w) KX G hmg c.t.d
    exact ⟨K, fd, LW.sp_law K, KX, hb, fun H a ns hl _ hS => LW.law_in hl hS, hF⟩
