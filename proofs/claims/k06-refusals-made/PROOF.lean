import PyProof.Rows.All
import Wide.All
import OpenK.AllK
import Wide.FinOn
import PyProof.CollectIter
import KE.KUnpack
import HandS.ForMost
import HandS.ForExc
import HandS.NoneIn
import KE.GoesMore
import KE.GoesEnum
import HandS.Walk
import HandS.Zip
import HandS.Evl
import HandS.Codes
import HandS.Steps
import HandS.Wide
import HandS.WideBits
import HandS.TupAny
import HandS.SortInts
import HandS.IsInst
import HandS.Conv
import HandS.More
import HandS.RaiseMore
import HandS.Defaults
import KE.KStateDown
import HandS.WordsExc
import HandS.Head0
import HandS.Head1
import HandS.Head2
import HandS.HeadEnd
import HandS.HeadHook1
import HandS.HeadHook2
import HandS.HeadHook3
import HandS.HeadHook4
import KE.KDictOf
import HandS.Text
import HandS.Iter
import HandS.Exc
import HandS.TupMul
import HandS.Deep
import HandS.Flow
import HandS.Style
import HandS.TupLen
import KE.KSortedM
import HandS.SetKeys
import HandS.DictTup
import PyProof.DictMoreH
import HandS.ListItems
import HandS.CallSlots
import HandS.MakeKwOnly
import HandS.ExcOwn
import HandS.ExcCtx
import HandS.MakeKw
import HandS.ExcInit
import HandS.ExcField
import HandS.TryOnly
import HandS.EndBits
import HandS.SortKw
import KE.DataMinMax
import HandS.HotCalls
import HandS.ExcIs
import HandS.ReplaceLit
import HandS.ReplaceList
import OpenK.KOps
import PyProof.InstNe
import KE.KTryMore
import PySem.Challenge.RW_lendwell_k06_refusals_made
set_option Elab.async false
set_option linter.all false
set_option maxRecDepth 100000
set_option maxHeartbeats 2000000
namespace LW
open PySem PySem.Spec PyProof.Rows L2
section
variable {X : Cx} {pos : Pos}
/-- xs[i] of a list, as an operand of an augmented store -/
theorem get_list : PGet X (rIxL X.K) := by
  intro pins s σ H x y v u Q I rx ry h
  obtain ⟨p, xs, i, z, rfl, rfl, hq, he, q⟩ := h
  cases rx
  obtain ⟨t, rfl⟩ := ry
  obtain ⟨its, r, pl, hz⟩ := I.list hq
  obtain ⟨j, h1, h2, h3, h4, h5⟩ := atI_get he
  obtain ⟨w, ew, rw'⟩ := r.get h2
  have hl := r.length
  have hn := line63
  have fin : EP X pins σ Q w s := ⟨z, H, I, rw', q⟩
  by_cases h0 : 0 ≤ i
  · have hj : i.toNat = j := by
      rw [seqIndex_of h0 h5] at h1
      exact Option.some.inj h1
    exact wpAny_getItem_list pl.isList h0 (by omega) (by rw [hj]; simpa using ew) fin
  · have hj : (i + (its.toArray.size : Int)).toNat = j := by
      rw [seqIndex_neg (by omega) h4] at h1
      rw [List.size_toArray, ← hl]
      exact Option.some.inj h1
    exact wpAny_getItem_list_neg pl.isList (by omega) (by rw [List.size_toArray] <;> omega) (by omega) (by rw [hj]; simpa using ew) fin
end
/-! ### first, *rest = a list, a tuple -/
theorem walksS_shift {prog : Program} {w : World} {A : Around} {I : Addr} {fp wr : List Addr} {G : Array GenState → Array GenState → Prop} {n : Nat} {P : Nat → Value → Prop} {St : Nat → Shared → Prop}
    (W : WalksS prog w A I fp wr G n P St) (k : Nat) (hk : k ≤ n) : WalksS prog w A I fp wr G (n - k) (fun i => P (i + k)) (fun i => St (i + k)) where
  sub := W.sub
  grefl := W.grefl
  gtrans := W.gtrans
  frame := fun i s h' tk st htk hf => W.frame (i + k) s h' tk st htk hf
  item := fun i s Q E hi st hQ => W.item (i + k) s Q E (by omega) st fun v s' hP st' m => hQ v s' hP (by
    have e : i + 1 + k = i + k + 1 := by omega
    rw [e]
    exact st') m
  done := fun s Q E st hQ => W.done s Q E (by
    have e : n - k + k = n := by omega
    rw [e] at st
    exact st) hQ
  self := fun i s Q E st hQ => W.self (i + k) s Q E st hQ

section
variable {prog : Program} {w : World} {A : Around} {E : Value → Shared → Prop} {s : Shared}
theorem items_eq {items acc : Array Value} {k : Nat} (hk : k ≤ items.size) (h : ItemsOf (fun i v => items[i + k]? = some v) acc (items.size - k)) : acc.toList = items.toList.drop k := by
  obtain ⟨h1, h2⟩ := h
  refine List.ext_getElem? fun j => ?_
  rw [List.getElem?_drop]
  cases e : acc.toList[j]? with
  | some v =>
    have e' : acc[j]? = some v := by simpa using e
    have := h2 j v e'
    rw [Nat.add_comm k j]
    simpa using this.symm
  | none =>
    have hj : acc.size ≤ j := by simpa using e
    symm
    rw [List.getElem?_eq_none_iff]
    simp
    omega
/-- *rest in the last place, over a list -/
theorem star_list {l : Addr} {items : Array Value} {k n : Nat} {Q : List Value → Shared → Prop} (hh : A.handled = none) (hl : s.heap.IsList l items) (hk : k ≤ items.size) (hn : n = k + 1) (hz : items.size ≤ sizeLine)
    (hQ : ∀ (h1 : Heap) (tk : Nat), (∀ b o, s.heap.get? b = some o → h1.get? b = some o) →
      Q (items.toList.take k ++ [.ref h1.objs.size]) { s with heap := h1.push { cls := .type "list", data := .seq (items.toList.drop k).toArray }, toks := tk }) : wpAny (model prog w) A (unpackItems (.ref l) n (some k)) Q E s := by
  subst hn
  have hlt : l ≠ s.heap.objs.size := by obtain ⟨o, ho, _⟩ := hl; exact Nat.ne_of_lt (Heap.lt_size ho)
  unfold unpackItems
  refine wpAny_bind ?_
  unfold notIterableAtAll
  refine wpAny_bind (wpAny_specialOf hl.typeIs slot_list_iter.lookup ?_)
  refine wpAny_pure ?_
  simp only [Bool.false_eq_true, if_false]
  refine wpAny_bind (wpAny_holding (wpAny_pyIter_list hl ?_))
  refine wpAny_bind (wpAny_holding (PySem.W.kun_draw hlt k 0 _ _ ⟨_, Heap.get?_push_size _ rfl, rfl, rfl⟩ (hl.push _) (by omega) fun h₁ hit₁ hs₁ => ?_))
  rw [List.drop_zero]
  rw [if_neg (by simp; omega)]
  have hl₁ : h₁.IsList l items := (hl.push _).extBut hs₁.extBut hlt
  have hit₁' : h₁.IsListIter s.heap.objs.size l (0 + k) := by rw [Nat.zero_add] at hit₁ ⊢; exact hit₁
  refine wpAny_bind (wpAny_holding (wpAny_collect_iter (T := "list_iterator") (.inr (.inr (.inl rfl))) (walksS_shift (Walks.list (prog := prog) (w := w) (A := A.in1) hh s.heap.objs.size l hlt items).toS k hk) (fun i s st => ?_) ⟨hit₁', hl₁⟩ (fun b hb => ?_) (by simp) (fun s' acc mv ia => ?_) (by omega)))
  · obtain ⟨⟨o, e, c, d⟩, _⟩ := st
    exact ⟨o, e, c⟩
  · simp only [List.mem_cons, List.not_mem_nil, or_false] at hb
    rcases hb with rfl | rfl
    · obtain ⟨o, e, _⟩ := hit₁'
      exact Heap.lt_size e
    · obtain ⟨o, e, _⟩ := hl₁
      exact Heap.lt_size e
  · have ea := items_eq hk ia
    rw [ea]
    simp only [List.length_drop, Array.length_toList]
    have e0 : k + 1 - 1 - k = 0 := by omega
    rw [e0]
    rw [if_neg (by omega)]
    obtain ⟨hp', gs', dr', tk', os'⟩ := s'
    obtain ⟨m1, m2, m3, m4, m5⟩ := mv
    have m2 : gs' = s.gens := m2
    have m3 : dr' = s.drawn := m3
    have m4 : os' = s.os := m4
    subst m2 m3 m4
    refine wpAny_bind (wpAny_newObj_type (wpAny_pure ?_) ?_)
    · have e1 : items.size - k - 0 = items.size - k := by omega
      have e2 : (items.toList.drop k).take (items.size - k - 0) = items.toList.drop k := List.take_of_length_le (by simp)
      have e3 : (items.toList.drop k).drop (items.size - k - 0) = [] := List.drop_eq_nil_of_le (by simp)
      rw [e2, e3, List.append_nil]
      refine hQ hp' _ fun b o e => ?_
      refine m1 b o ?_ (hs₁.extBut b o ?_ (Heap.get?_push_of_some _ e))
      · simp
        exact Nat.ne_of_lt (Heap.lt_size e)
      · exact Nat.ne_of_lt (Heap.lt_size e)
    · show (List.take _ (items.toList.drop k)).toArray.size ≤ sizeLine
      simp
      omega
theorem walks_tup {prog : Program} {w : World} {A : Around} (hh : A.handled = none) (I ax : Addr) (hne : ax ≠ I) (items : Array Value) :
    Walks prog w A I [I, ax] [I] items.size (fun i v => items[i]? = some v) (fun i h => IsTupIter h I ax i ∧ IsTup h ax items) where
  sub := fun b hb => by simp at hb; simp [hb]
  frame := fun _ _ _ st hk => ⟨by
    obtain ⟨o, e, q⟩ := st.1
    exact ⟨o, hk I (by simp) o e, q⟩, by
    obtain ⟨o, e, q⟩ := st.2
    exact ⟨o, hk ax (by simp) o e, q⟩⟩
  item := fun i s Q E hi st hQ => by
    refine next_tuple_item st.1 st.2 (x := items[i]) (by simp [hi]) fun h' hit' hs' => ?_
    exact hQ _ h' s.toks (by simp [hi]) ⟨hit', st.2.extBut hs'.extBut hne⟩ fun b o hb e => hs'.extBut b o (fun h => hb (by simp [h])) e
  done := fun s Q E st hQ => next_tuple_end hh st.1 st.2 (by simp) fun h' he' => hQ h' s.toks fun b o hb e => he' b o (fun h => hb (by simp [h])) e
  self := fun _ _ _ _ st hQ => wpAny_pyIter_tupleiter st.1 hQ
/-- *rest in the last place, over a tuple -/
theorem star_tup {l : Addr} {items : Array Value} {k n : Nat} {Q : List Value → Shared → Prop} (hh : A.handled = none) (hl : IsTup s.heap l items) (hk : k ≤ items.size) (hn : n = k + 1) (hz : items.size ≤ sizeLine)
    (hQ : ∀ (h1 : Heap) (tk : Nat), (∀ b o, s.heap.get? b = some o → h1.get? b = some o) →
      Q (items.toList.take k ++ [.ref h1.objs.size]) { s with heap := h1.push { cls := .type "list", data := .seq (items.toList.drop k).toArray }, toks := tk }) : wpAny (model prog w) A (unpackItems (.ref l) n (some k)) Q E s := by
  subst hn
  have hlt : l ≠ s.heap.objs.size := by obtain ⟨o, ho, _⟩ := hl; exact Nat.ne_of_lt (Heap.lt_size ho)
  unfold unpackItems
  refine wpAny_bind ?_
  unfold notIterableAtAll
  refine wpAny_bind (wpAny_specialOf hl.typeIs slot_tuple_iter.lookup ?_)
  refine wpAny_pure ?_
  simp only [Bool.false_eq_true, if_false]
  refine wpAny_bind (wpAny_holding (iter_tuple hl ?_))
  refine wpAny_bind (wpAny_holding (draw_tuple hlt k 0 _ _ ⟨_, Heap.get?_push_size _ rfl, rfl, rfl⟩ (hl.push _) (by omega) fun h₁ hit₁ hs₁ => ?_))
  rw [List.drop_zero]
  rw [if_neg (by simp; omega)]
  have hl₁ : IsTup h₁ l items := (hl.push _).extBut hs₁.extBut hlt
  have hit₁' : IsTupIter h₁ s.heap.objs.size l (0 + k) := by rw [Nat.zero_add] at hit₁ ⊢; exact hit₁
  refine wpAny_bind (wpAny_holding (wpAny_collect_iter (T := "tuple_iterator") (.inr (.inr (.inr rfl))) (walksS_shift (walks_tup (prog := prog) (w := w) (A := A.in1) hh s.heap.objs.size l hlt items).toS k hk) (fun i s st => ?_) ⟨hit₁', hl₁⟩ (fun b hb => ?_) (by simp) (fun s' acc mv ia => ?_) (by omega)))
  · obtain ⟨⟨o, e, c, d⟩, _⟩ := st
    exact ⟨o, e, c⟩
  · simp only [List.mem_cons, List.not_mem_nil, or_false] at hb
    rcases hb with rfl | rfl
    · obtain ⟨o, e, _⟩ := hit₁'
      exact Heap.lt_size e
    · obtain ⟨o, e, _⟩ := hl₁
      exact Heap.lt_size e
  · have ea := items_eq hk ia
    rw [ea]
    simp only [List.length_drop, Array.length_toList]
    have e0 : k + 1 - 1 - k = 0 := by omega
    rw [e0]
    rw [if_neg (by omega)]
    obtain ⟨hp', gs', dr', tk', os'⟩ := s'
    obtain ⟨m1, m2, m3, m4, m5⟩ := mv
    have m2 : gs' = s.gens := m2
    have m3 : dr' = s.drawn := m3
    have m4 : os' = s.os := m4
    subst m2 m3 m4
    refine wpAny_bind (wpAny_newObj_type (wpAny_pure ?_) ?_)
    · have e1 : items.size - k - 0 = items.size - k := by omega
      have e2 : (items.toList.drop k).take (items.size - k - 0) = items.toList.drop k := List.take_of_length_le (by simp)
      have e3 : (items.toList.drop k).drop (items.size - k - 0) = [] := List.drop_eq_nil_of_le (by simp)
      rw [e2, e3, List.append_nil]
      refine hQ hp' _ fun b o e => ?_
      refine m1 b o ?_ (hs₁.extBut b o ?_ (Heap.get?_push_of_some _ e))
      · simp
        exact Nat.ne_of_lt (Heap.lt_size e)
      · exact Nat.ne_of_lt (Heap.lt_size e)
    · show (List.take _ (items.toList.drop k)).toArray.size ≤ sizeLine
      simp
      omega
end

/-- (a, .., *rest) = a list or a tuple -/
def gStar (K : PySem.W.Frag) (k : Nat) (t : TGs) : TG := fun v σ H Q => ∃ a xs, v = .ref a ∧ (SqL K H a xs ∨ SqT K H a xs) ∧ k ≤ xs.length ∧ ∀ p, H p = none → t (xs.take k ++ [.ref p]) σ (upd H p (.lst (xs.drop k))) Q
theorem pg_star {X : Cx} {pos : Pos} {es : List Expr} {kk k : Nat} {t : TGs} (hc : X.calm = true) (h : PGs X es t)
    (hn : (assignEach es X.env).length = k + 1 := by rfl) (hst : (assignEach es X.env).findIdx? (·.1) = some k := by rfl) : PG X (.Tuple es kk pos) (gStar X.K k t) := by
  refine ⟨fun pins s σ H v u Q I r hw => ?_⟩
  obtain ⟨a, xs, e1, hq, hl, hw⟩ := hw
  subst e1
  cases r
  rw [PyProof.Rows.assign_Tuple]
  refine wpAny_bind (wpAny_standAt ?_)
  unfold unpack
  rw [hn, hst]
  have fin : ∀ {its : List Value}, Vals xs its → xs.length ≤ sizeLine → ∀ (h1 : Heap) (tk : Nat), (∀ b o, s.heap.get? b = some o → h1.get? b = some o) →
      wpAny (model X.prog X.w) X.A (assignInOrder ((assignEach es X.env).map (·.2)) (its.toArray.toList.take k ++ [.ref h1.objs.size])) (fun _ s' => ∃ σ' H', Inv X pins σ' H' s' ∧ Q σ' H') X.xe
        { s with heap := h1.push { cls := .type "list", data := .seq (its.toArray.toList.drop k).toArray }, toks := tk } := fun {its} rv hz h1 tk kp => by
    have I1 : Inv X pins σ H { s with heap := h1, toks := tk } := I.kept (t' := tk) kp
    have hn1 : H h1.objs.size = none := I1.hok.fresh (Nat.le_refl _)
    have ob : ObjOk X.prog X.w (upd H h1.objs.size (.lst (xs.drop k))) (h1.push { cls := .type "list", data := .seq (its.toArray.toList.drop k).toArray }) h1.objs.size (.lst (xs.drop k)) :=
      ⟨by rw [List.length_drop]; omega, its.drop k, 0, rv.drop k, by
        have q : (h1.push { cls := .type "list", data := .seq (its.toArray.toList.drop k).toArray }).get? h1.objs.size = some { cls := .type "list", data := .seq (its.toArray.toList.drop k).toArray } := Heap.get?_push_size _ rfl
        simpa using q⟩
    have I2 := I1.laid (a := h1.objs.size) (h' := h1.push { cls := .type "list", data := .seq (its.toArray.toList.drop k).toArray }) (t' := tk) (fun b u e => Heap.get?_push_of_some _ e) (Nat.le_refl _) ob
    have rv2 : Vals (xs.take k ++ [V.ref h1.objs.size]) (its.toArray.toList.take k ++ [.ref h1.objs.size]) := by
      have q := (rv.take k).append (.cons (show RelV (V.ref h1.objs.size) (Value.ref h1.objs.size) from rfl) .nil)
      simpa using q
    exact h.run pins _ σ _ _ _ Q I2 rv2 (hw _ hn1)
  rcases hq with hq | hq
  · obtain ⟨its, rv, pl, hz⟩ := I.list hq
    have hl' : s.heap.IsList a its.toArray := by
      obtain ⟨o, m, e, c, d, q⟩ := pl
      exact ⟨o, e, c, m, q⟩
    have he := rv.length
    exact wpAny_bind (wpAny_holding (star_list (I.ok.hd hc) hl' (by simp; omega) rfl (by simp; omega) (fin rv (by omega))))
  · obtain ⟨its, rv, pl, hz⟩ := I.tuple hq
    have he := rv.length
    exact wpAny_bind (wpAny_holding (star_tup (I.ok.hd hc) pl (by simp; omega) rfl (by simp; omega) (fin rv (by omega))))
theorem pgs_star {X : Cx} {e : Expr} {sp : Pos} {t : TG} (h1 : PG X e t) : PGs X [.Starred e sp] (gCons t gNil) := by
  refine ⟨fun pins s σ H vs us Q I r h => ?_⟩
  obtain ⟨v, vr, e1, h⟩ := h
  subst e1
  cases r with
  | cons r rr =>
    show wpAny _ _ (assignInOrder [assign e X.env] _) _ _ _
    refine assignInOrder_cons (thn (h1.run pins s σ H _ _ _ I r h) fun _ s1 ⟨σ1, H1, I1, q1⟩ => ?_)
    obtain ⟨e2, q1⟩ := q1
    subst e2
    cases rr
    exact assignInOrder_nil ⟨σ1, H1, I1, q1⟩
end LW
set_option Elab.async false
set_option linter.all false
set_option maxRecDepth 100000
set_option maxHeartbeats 2000000
namespace LW
open PySem PySem.Spec PyProof.Rows L2
/-! ### enumerate(tuple) -/
theorem meets_enum1 {v : Value} {o : Obj} {H : Heap → Prop} (B : Begins v o H) :
    Meets (Builtin.«enumerate.__new__» ⟨[.type "enumerate", v], []⟩) (fun _ R s => H s.heap ∧
      R (.ok (.ret (.ref (s.heap.push o).objs.size))) { s with heap := (s.heap.push o).push { cls := .type "enumerate", data := .fields #[.none, .bool false, .ref s.heap.objs.size, rawInt 0, .none, .none] } }) :=
  .of_wp fun prog w A R s h => by
    obtain ⟨hp, g, d, tk, os⟩ := s; obtain ⟨h1, h⟩ := h
    have hsub := sub_enumerate
    have q1 : ∀ {A' : Around} {E : Value → Shared → Prop} {Q : Value → Shared → Prop}, Q (.ref hp.objs.size) ⟨hp.push o, g, d, tk, os⟩ → wpAny (model prog w) A' (pyIter v) Q E ⟨hp, g, d, tk, os⟩ :=
      fun q => B.iter prog w _ _ ⟨hp, g, d, tk, os⟩ _ h1 q
    wp_walk using q1
    refine wpAny_stack_any fun st => wpAny_pure ?_
    split
    · rename_i c _ _ _ _ _
      cases (c == Value.type "enumerate")
      · wp_walk using q1
        exact ⟨_, rfl, h⟩
      · wp_walk using q1
        exact ⟨_, rfl, h⟩
    · wp_walk using q1
      exact ⟨_, rfl, h⟩
section
variable {prog : Program} {w : World} {A : Around} {E : Value → Shared → Prop} {s : Shared}
theorem enum_begins1 {v : Value} {o : Obj} {H : Heap → Prop} {Q : Value → Shared → Prop} (B : Begins v o H) (h1 : H s.heap)
    (h : ∀ h', IsEnum h' (s.heap.objs.size + 1) s.heap.objs.size 0 .none → h'.get? s.heap.objs.size = some o → h'.objs.size = s.heap.objs.size + 2 →
      (∀ b o, s.heap.get? b = some o → h'.get? b = some o) → Q (.ref (s.heap.objs.size + 1)) { s with heap := h' }) :
    wpAny (model prog w) A (call (.type "enumerate") [v]) Q E s := by
  refine callType_new F.called_enumerate (by decide) (F.typeCall_enumerate_1 _) (F.newCall_enumerate_1 _) (fun obj => F.args_object_init_2 obj _) F.entry_enumerate_new
    (meets_enum1 B) ⟨h1, ?_⟩
  have hz : (s.heap.push o).objs.size = s.heap.objs.size + 1 := Heap.size_push ..
  show _ ∧ _
  rw [hz]
  have he : IsEnum ((s.heap.push o).push { cls := .type "enumerate", data := .fields #[.none, .bool false, .ref s.heap.objs.size, rawInt 0, .none, .none] }) (s.heap.objs.size + 1) s.heap.objs.size 0 .none := by
    have := Heap.get?_push_size (s.heap.push o) (o := { cls := .type "enumerate", data := .fields #[.none, .bool false, .ref s.heap.objs.size, rawInt 0, .none, .none] }) rfl
    rw [hz] at this; exact this
  refine ⟨⟨_, he, rfl⟩, h _ he (Heap.get?_push_of_some _ (Heap.get?_push_size _ B.free)) (by rw [Heap.size_push, hz]) fun b o x => Heap.get?_push_of_some _ (Heap.get?_push_of_some _ x)⟩
end
theorem enumT_end {prog : Program} {w : World} {A : Around} {E : Value → Shared → Prop} {s : Shared} {e it l : Addr} {i : Nat} {items : Array Value} {old : Value} {Q : Option Value → Shared → Prop} (hh : A.handled = none)
    (he : IsEnum s.heap e it i old) (hit : IsTupIter s.heap it l i) (hl : IsTup s.heap l items) (hx : items[i]? = none)
    (hQ : ∀ h', Heap.ExtBut it s.heap h' → Q none { s with heap := h' }) : wpAny (model prog w) A (pyNext (.ref e)) Q E s := by
  have hT : s.TypeIs (.ref e) "enumerate" := ⟨_, he, rfl⟩
  unfold pyNext
  refine wpAny_bind (wpAny_attempt (wpAny_callSpecial?_slot (name := Str.ofString "__next__") hT F.slot_enumerate_next
    (wpAny_call_entry F.slot_enumerate_next hT F.entry_enumerate_next ?_ (F.args_enumerate_next_1 _))))
  show wpAny _ _ (field (.ref e) 2 >>= _) _ _ _
  refine wpAny_bind (wpAny_field he rfl (x := .ref it) rfl ?_)
  refine wpAny_bind (wpAny_nextOf_tuple_end hh hit hl hx fun h' x he' hx' => ?_)
  obtain ⟨o, ho, hc⟩ := hx'
  refine wpAny_bind (wpAny_isInstance (T := "StopIteration") (b := true) ⟨o, ho, hc⟩ isSubtype_stop ?_)
  exact wpAny_pure (hQ _ he')
/-- the tuple at a, each item in a new pair -/
def IteT (K : PySem.W.Frag) (a : Addr) : It :=
  ⟨fun i H => ∃ (xs : List V) (x : V), SqT K H a xs ∧ xs[i]? = some x, fun i H v H' => ∃ T x, v = .ref T ∧ H T = none ∧ H' = upd H T (.tup [.int (i : Nat), x]) ∧ ∀ xs, SqT K H a xs → xs[i]? = some x, fun i H => ∃ xs : List V, SqT K H a xs ∧ xs.length ≤ i⟩
theorem turn_enumT {P : Program} {w : World} {K : PySem.W.Frag} {elts : List Expr} {kk : Nat} {tpos : Pos} (a e it : Addr) :
    Turn P w K (.Tuple elts kk tpos) (IteT K a) [e, it] e (fun i h => (∃ old, IsEnum h e it ((i : Nat) : Int) old) ∧ IsTupIter h it a i ∧ e ≠ it) where
  mem := by simp
  obj := fun i h st b hb => by
    obtain ⟨⟨old, he⟩, ⟨o, ho, hc, hd⟩, _⟩ := st
    have e' : b = e ∨ b = it := by simpa using hb
    rcases e' with z | z
    · rw [z]; exact ⟨_, he, fun v q => nomatch q⟩
    · rw [z]; exact ⟨o, ho, fun v q => by rw [hd] at q; cases q⟩
  keep := fun i h h' st k => let ⟨⟨old, he⟩, ⟨o, ho, r⟩, hne⟩ := st; ⟨⟨old, k e (by simp) _ he⟩, ⟨o, k it (by simp) o ho, r⟩, hne⟩
  item := by
    intro X hP hw hK hc i pins s σ H E I hf st hg
    subst hP hw hK
    obtain ⟨⟨old, he⟩, hit, hne⟩ := st
    obtain ⟨xs, x, hq, hx⟩ := hg
    obtain ⟨its, rv, p, hz⟩ := I.tuple hq
    obtain ⟨u, hu, ru⟩ := rv.get hx
    have hel : e < s.heap.objs.size := Heap.lt_size he
    have hil : it < s.heap.objs.size := by obtain ⟨_, q, _⟩ := hit; exact Heap.lt_size q
    have hal : a < s.heap.objs.size := by obtain ⟨_, q, _⟩ := p; exact Heap.lt_size q
    have hlt : i < its.toArray.size := by simpa using (List.getElem?_eq_some_iff.mp hu).1
    have hna : a ≠ it := by
      rintro rfl
      obtain ⟨o1, q1, c1, _⟩ := hit
      obtain ⟨o2, q2, c2, _⟩ := p
      rw [q1] at q2
      cases q2
      rw [c1] at c2
      injection c2 with c3
      exact absurd c3 (by decide)
    have hea : e ≠ a := by
      rintro rfl
      obtain ⟨o2, q2, c2, _⟩ := p
      rw [show s.heap.get? e = _ from he] at q2
      cases q2
      injection c2 with c3
      exact absurd c3 (by decide)
    have D := (Draws.tuple (prog := X.prog) (w := X.w) (A := X.A.in1) (I.ok.hd hc) it a hna its.toArray)
    refine wpAny_pyNext_enum_itemD D he ⟨hit, p⟩ hlt hne (by simp [hne, hea]) fun y h' tk hy ho hst' hT hsz hk => ?_
    have hyu : y = u := by
      have q : its.toArray[i]? = some y := hy
      have q2 : its.toArray[i]? = some u := by simpa using hu
      rw [q] at q2
      exact Option.some.inj q2
    subst hyu
    obtain ⟨hit', _⟩ := hst'
    refine ⟨_, rfl, wpAny_letOwnedTupleGo_enum (s := { s with heap := h', toks := tk + 1 }) ho fun h'' he' sb => ?_⟩
    have hT2 : h''.get? s.heap.objs.size = some { cls := .type "tuple", data := .seq #[.int i tk, y] } := (sb.2 _ (Nat.ne_of_gt hel)).trans hT
    have new : ObjOk X.prog X.w (upd H s.heap.objs.size (.tup [.int (i : Nat), x])) h'' s.heap.objs.size (.tup [.int (i : Nat), x]) :=
      ⟨by show 2 ≤ sizeLine; decide, [.int i tk, y], .cons ⟨_, rfl⟩ (.cons ru .nil), ⟨_, hT2, rfl, _, rfl⟩⟩
    have I1 : Inv X pins σ (upd H s.heap.objs.size (.tup [.int (i : Nat), x])) { s with heap := h'', toks := tk + 1 } :=
      I.turnedNew (ch := [e, it]) (fun b ob hb q => (sb.2 b (fun z => hb (by simp [z]))).trans (hk b ob (fun z => hb (by simp [z])) (fun z => hb (by simp [z])) q)) hf (Nat.le_refl _) new
    refine ⟨.ref s.heap.objs.size, _, I1, rfl, ⟨_, x, rfl, I.hok.fresh (Nat.le_refl _), rfl, fun ys hy => by rw [I.tuple_inj hy hq]; exact hx⟩, ⟨⟨y, ?_⟩, ?_, hne⟩, fun b hb => ?_⟩
    · have e1 : ((i + 1 : Nat) : Int) = (i : Int) + 1 := by omega
      rw [e1]; exact he'
    · obtain ⟨o, ho', r⟩ := hit'
      exact ⟨o, (sb.2 it (Ne.symm hne)).trans ho', r⟩
    · have hb' : b < s.heap.objs.size := by
        have e' : b = e ∨ b = it := by simpa using hb
        rcases e' with z | z
        · rw [z]; exact hel
        · rw [z]; exact hil
      rw [upd_ne (Nat.ne_of_lt hb')]
      exact (hf b hb).1
  done := by
    intro X hP hw hK hc i pins s σ H E I hf st hg
    subst hP hw hK
    obtain ⟨⟨old, he⟩, hit, hne⟩ := st
    obtain ⟨xs, hq, hx⟩ := hg
    obtain ⟨its, rv, p, hz⟩ := I.tuple hq
    obtain ⟨f0, f1, f2, f3, f4, f5⟩ := hf it (by simp)
    have hl := rv.length
    exact enumT_end (I.ok.hd hc) he hit p (by simp; omega) fun h' eb => ⟨rfl, I.turned (t' := s.toks) (fun b o hb q => eb b o hb q) f0 f1 f3 f4 f5⟩
  self := fun A i s Q E st h => let ⟨⟨_, he⟩, _⟩ := st; wpAny_pyIter_enum he h
theorem walk_enumT {K : PySem.W.Frag} {a : Addr} {xs : List V} : Walk (IteT K a) xs.length (fun H => SqT K H a xs) (YPair (fun i => some (.int (i : Nat))) (fun i => xs[i]?)) := by
  refine ⟨fun i _ hi q => ⟨xs, xs[i], q, by simp [hi]⟩, fun _ q => ⟨xs, q, Nat.le_refl _⟩, fun i H v H' _ q y => ?_⟩
  obtain ⟨T, x, h1, h2, h3, h4⟩ := y
  exact ⟨T, .int (i : Nat), x, h1, h2, h3, rfl, h4 xs q⟩
abbrev SqA (K : PySem.W.Frag) (H : Hp) (a : Addr) (xs : List V) : Prop := SqL K H a xs ∨ SqT K H a xs
theorem SqA.ex {K : PySem.W.Frag} {H H' : Hp} {a : Addr} {xs : List V} (e : Evl.Ex H H') (h : SqA K H a xs) : SqA K H' a xs := h.imp (Evl.ex_l e) (Evl.ex_t e)
theorem enum_split {K : PySem.W.Frag} {H : Hp} {a : Addr} {xs : List V} {H0 : Hp} {R : It → Hp → Prop} (hS : SqA K H0 a xs) (ex : Evl.Ex H0 H)
    (h : ∀ (J : It) (G : Hp → Prop), Walk J xs.length G (YPair (fun i => some (.int (i : Nat))) (fun i => xs[i]?)) → (∀ H', Evl.Ex H0 H' → G H') → R J H) :
    (SqL K H a xs ∧ R (Ite K a) H) ∨ (SqT K H a xs ∧ R (IteT K a) H) := by
  rcases hS with hS | hS
  · exact .inl ⟨Evl.ex_l ex hS, h _ _ walk_enum fun H' e => Evl.ex_l e hS⟩
  · exact .inr ⟨Evl.ex_t ex hS, h _ _ walk_enumT fun H' e => Evl.ex_t e hS⟩
/-- enumerate of a list or a tuple -/
def iEnumA (K : PySem.W.Frag) (ta : TA) : TI := fun σ H R => ta σ H fun vs H1 => ∃ a xs H0, vs = [.ref a] ∧ SqA K H0 a xs ∧ Evl.Ex H0 H1 ∧ ∀ (J : It) (G : Hp → Prop), Walk J xs.length G (YPair (fun i => some (.int (i : Nat))) (fun i => xs[i]?)) → (∀ H', Evl.Ex H0 H' → G H') → R J H1
theorem pi_enumA {X : Cx} {e : Expr} {ta : TA} {p pos tpos : Pos} {elts : List Expr} {kk : Nat} (hg : Gl X "enumerate") (hm : X.mg "enumerate" = none) (ha : PA X [e] ta) (hs : starEach [e] X.env = [(false, eval e X.env)] := by rfl) :
    PI X (.Tuple elts kk tpos) (.Call (.Name "enumerate" p) [e] [] pos) (iEnumA X.K ta) := by
  refine ⟨fun pins s σ H R I h => ?_⟩
  refine Call_ (ld_blt I hg hm boot_enumerate (PyProof.Rows.callWith_type1 (thn (ha.run pos pins s σ H _ I h) fun us s1 ⟨vs, H1, I1, r1, q1⟩ => ?_) hs rfl))
  obtain ⟨a, xs, H0, ex, hs0, ex0, q0⟩ := q1
  have q := enum_split hs0 ex0 q0
  subst ex
  cases r1 with
  | cons r rr =>
    cases rr
    cases r
    have fp : ∀ b ∈ [s1.heap.objs.size + 1, s1.heap.objs.size], FpOk X pins H1 b := fun b hb => by
      have e' : b = s1.heap.objs.size + 1 ∨ b = s1.heap.objs.size := by simpa using hb
      have hle : s1.heap.objs.size ≤ b := by
        rcases e' with z | z
        · rw [z]; exact Nat.le_add_right _ _
        · rw [z]; exact Nat.le_refl _
      exact I1.fpOk hle (I1.hok.fresh hle)
    rcases q with ⟨hq, q⟩ | ⟨hq, q⟩
    · obtain ⟨its, rv, p', hz⟩ := I1.list hq
      refine call_enumerate_list p'.isList fun h' he hit hsz hk => wpAny_pyIter_enum he ?_
      have I2 : Inv X pins σ H1 { s1 with heap := h' } := I1.kept (t' := s1.toks) hk
      exact ⟨s1.heap.objs.size + 1, [s1.heap.objs.size + 1, s1.heap.objs.size], _, _, H1, rfl, I2, turn_enum a (s1.heap.objs.size + 1) s1.heap.objs.size, ⟨⟨.none, he⟩, hit, Nat.succ_ne_self _⟩, fp, q⟩
    · obtain ⟨its, rv, p', hz⟩ := I1.tuple hq
      refine enum_begins1 (begins_tuple a its.toArray) p' fun h' he hit hsz hk => wpAny_pyIter_enum he ?_
      have I2 : Inv X pins σ H1 { s1 with heap := h' } := I1.kept (t' := s1.toks) hk
      exact ⟨s1.heap.objs.size + 1, [s1.heap.objs.size + 1, s1.heap.objs.size], _, _, H1, rfl, I2, turn_enumT a (s1.heap.objs.size + 1) s1.heap.objs.size, ⟨⟨.none, he⟩, ⟨_, hit, rfl, rfl⟩, Nat.succ_ne_self _⟩, fp, q⟩
end LW
set_option Elab.async false
set_option linter.all false
set_option maxRecDepth 100000
set_option maxHeartbeats 2000000
namespace LW
open PySem PySem.Spec PyProof.Rows L2
/-! ### readings by name -/
def rAddI : R2 := rI0 fun i j => .int (i + j)
def rSubI : R2 := rI0 fun i j => .int (i - j)
def rMulI : R2 := rI CMul fun i j => .int (i * j)
def rMulX : R2 := rI CMulX fun i j => .int (i * j)
def rDivW : R2 := rI CDivW fun i j => .int (i / j)
def rModI : R2 := rI (fun _ j => 0 < j) fun i j => .int (i % j)
def rPowI : R2 := rI CPow fun i j => .int (i ^ j.toNat)
def rLtI : R2 := rI0 fun i j => .bl (decide (i < j))
def rLeI : R2 := rI0 fun i j => .bl (decide (i ≤ j))
def rGtI : R2 := rI0 fun i j => .bl (decide (j < i))
def rGeI : R2 := rI0 fun i j => .bl (decide (j ≤ i))
def rAddS : R2 := fun x y H Q => ∃ i j, x = .str i ∧ y = .str j ∧ i.length + j.length ≤ sizeLine ∧ Q (.str (i ++ j)) H
def rLen (K : PySem.W.Frag) : List V → Hp → VK → Prop := fun xs H Q => ∃ x n, xs = [x] ∧ LenV K x H n ∧ Q (.int n) H
def rLenD : List V → Hp → VK → Prop := fun xs H Q => ∃ a kvs, xs = [V.ref a] ∧ H a = some (.dK kvs) ∧ Q (.int kvs.length) H
@[irreducible] def imax (i j : Int) : Int := if j > i then j else i
@[irreducible] def imin (i j : Int) : Int := if j < i then j else i
@[irreducible] def iabs (i : Int) : Int := if i < 0 then -i else i
theorem imax_eq (i j : Int) : imax i j = if j > i then j else i := by unfold imax; rfl
theorem imin_eq (i j : Int) : imin i j = if j < i then j else i := by unfold imin; rfl
theorem iabs_eq (i : Int) : iabs i = if i < 0 then -i else i := by unfold iabs; rfl
def rMax2I : List V → Hp → VK → Prop := fun xs H Q => ∃ i j, xs = [.int i, .int j] ∧ Q (.int (imax i j)) H
def rMin2I : List V → Hp → VK → Prop := fun xs H Q => ∃ i j, xs = [.int i, .int j] ∧ Q (.int (imin i j)) H
def rAbs : List V → Hp → VK → Prop := fun xs H Q => ∃ i, xs = [.int i] ∧ Q (.int (iabs i)) H
theorem call_absI {X : Cx} : CallR X (.builtin "abs") rAbs := by
  intro pins s σ H xs us Q I r h
  obtain ⟨i, e, q⟩ := h
  rw [iabs_eq] at q
  exact call_abs pins s σ H xs us Q I r ⟨i, e, q⟩
theorem call_max2I {X : Cx} (hc : X.calm = true) : CallR X (.builtin "max") rMax2I := by
  intro pins s σ H xs us Q I r h
  obtain ⟨i, j, e, q⟩ := h
  rw [imax_eq] at q
  exact call_max2 hc pins s σ H xs us Q I r ⟨i, j, e, q⟩
theorem call_min2I {X : Cx} (hc : X.calm = true) : CallR X (.builtin "min") rMin2I := by
  intro pins s σ H xs us Q I r h
  obtain ⟨i, j, e, q⟩ := h
  rw [imin_eq] at q
  exact call_min2 hc pins s σ H xs us Q I r ⟨i, j, e, q⟩
def rListOf (K : PySem.W.Frag) : List V → Hp → VK → Prop := fun xs H Q => ∃ p ys, xs = [.ref p] ∧ (SqL K H p ys ∨ SqT K H p ys) ∧ ∀ l, H l = none → Q (.ref l) (upd H l (.lst ys))
def rTupleOf (K : PySem.W.Frag) : List V → Hp → VK → Prop := fun xs H Q => ∃ p ys, xs = [.ref p] ∧ ((SqL K H p ys ∧ ∀ l, H l = none → Q (.ref l) (upd H l (.tup ys))) ∨ (SqT K H p ys ∧ Q (.ref p) H))
def rInt1 : List V → Hp → VK → Prop := fun xs H Q => (∃ i, xs = [.int i] ∧ Q (.int i) H) ∨ ∃ k, xs = [.bl k] ∧ Q (.int (if k then 1 else 0)) H
def rIntStr : List V → Hp → VK → Prop := fun xs H Q => ∃ a n, xs = [.str a] ∧ PySem.intText? a = some n ∧ a.length ≤ 640 ∧ Q (.int n) H
def rStrA : List V → Hp → VK → Prop := fun xs H Q => (∃ i, xs = [.int i] ∧ i.natAbs.log2 < 1920 ∧ Q (.str (toString i)) H) ∨ (∃ a, xs = [.str a] ∧ Q (.str a) H)
def rInsert : V → List V → Hp → VK → Prop := fun x vs H Q => ∃ (l : Addr) (xs : List V) (i : Int) (y : V), x = .ref l ∧ vs = [.int i, y] ∧ H l = some (.lst xs) ∧ xs.length < sizeLine ∧ 0 ≤ i ∧ i < 2 ^ 63 ∧ Q .non (upd H l (.lst (xs.take i.toNat ++ [y] ++ xs.drop i.toNat)))
def tTru (K : PySem.W.Frag) (ta : TE) : TT := fun σ H Q => ta σ H fun x H' => ∃ k, TruV K x H' k ∧ Q k H'
theorem call_strA {X : Cx} : CallR X (.type "str") rStrA := call_str_int.or SkE.call_str_str
theorem bt_len : bootBuiltins "len" = some (.builtin "len") := by decide +kernel
theorem bt_abs : bootBuiltins "abs" = some (.builtin "abs") := by decide +kernel
theorem bt_max : bootBuiltins "max" = some (.builtin "max") := by decide +kernel
theorem bt_min : bootBuiltins "min" = some (.builtin "min") := by decide +kernel
theorem bt_all : bootBuiltins "all" = some (.builtin "all") := by decide +kernel
theorem bt_any : bootBuiltins "any" = some (.builtin "any") := by decide +kernel
theorem bt_sorted : bootBuiltins "sorted" = some (.builtin "sorted") := by decide +kernel
theorem bt_isinstance : bootBuiltins "isinstance" = some (.builtin "isinstance") := by decide +kernel
theorem bt_int : bootBuiltins "int" = some (.type "int") := by decide +kernel
theorem bt_bool : bootBuiltins "bool" = some (.type "bool") := by decide +kernel
theorem bt_str : bootBuiltins "str" = some (.type "str") := by decide +kernel
theorem bt_list : bootBuiltins "list" = some (.type "list") := by decide +kernel
theorem bt_tuple : bootBuiltins "tuple" = some (.type "tuple") := by decide +kernel
theorem bt_dict : bootBuiltins "dict" = some (.type "dict") := by decide +kernel
theorem bt_range : bootBuiltins "range" = some (.type "range") := by decide +kernel
/-! ### a, b, .. = a list or a tuple -/
def gUn (K : PySem.W.Frag) (n : Nat) (t : TGs) : TG := fun v σ H Q => ∃ a xs, v = .ref a ∧ (SqL K H a xs ∨ SqT K H a xs) ∧ xs.length = n ∧ t xs σ H Q
theorem pg_un {X : Cx} {pos : Pos} {es : List Expr} {k : Nat} {t : TGs} {n : Nat} (hc : X.calm = true) (h : PGs X es t)
    (hn : (assignEach es X.env).length = n := by rfl) (hst : (assignEach es X.env).findIdx? (·.1) = none := by rfl) : PG X (.Tuple es k pos) (gUn X.K n t) := by
  refine ⟨fun pins s σ H v u Q I r hw => ?_⟩
  obtain ⟨a, xs, e1, hq | hq, hl, hw⟩ := hw
  · exact (pg_unl hc h hn hst).run pins s σ H v u Q I r ⟨a, xs, e1, hq, hl, hw⟩
  · exact (pg_tup hc h hn hst).run pins s σ H v u Q I r ⟨a, xs, e1, hq, hl, hw⟩
/-! ### for x in a list or a tuple -/
theorem seq_split {K : PySem.W.Frag} {H : Hp} {a : Addr} {xs : List V} {H0 : Hp} {R : It → Hp → Prop} (hS : SqA K H0 a xs) (ex : Evl.Ex H0 H)
    (h : ∀ (J : It) (G : Hp → Prop), Walk J xs.length G (YAt xs) → (∀ H', Evl.Ex H0 H' → G H') → R J H) :
    ((∃ xs, SqL K H a xs) ∧ R (Itl K a) H) ∨ ((∃ xs, SqT K H a xs) ∧ R (Itt K a) H) := by
  rcases hS with hS | hS
  · exact .inl ⟨⟨_, Evl.ex_l ex hS⟩, h _ _ walk_list fun H' e => Evl.ex_l e hS⟩
  · exact .inr ⟨⟨_, Evl.ex_t ex hS⟩, h _ _ walk_tup fun H' e => Evl.ex_t e hS⟩
def iSeq (K : PySem.W.Frag) (tl : TE) : TI := fun σ H R => tl σ H fun x H1 => ∃ a xs H0, x = .ref a ∧ SqA K H0 a xs ∧ Evl.Ex H0 H1 ∧ ∀ (J : It) (G : Hp → Prop), Walk J xs.length G (YAt xs) → (∀ H', Evl.Ex H0 H' → G H') → R J H1
theorem pi_seq {X : Cx} {tg l : Expr} {tl : TE} (hl : PE X l tl) : PI X tg l (iSeq X.K tl) := by
  refine ⟨fun pins s σ H R I h => ?_⟩
  refine thn (hl.run pins s σ H _ I h) fun v s1 ⟨x, H1, I1, r1, q1⟩ => ?_
  obtain ⟨a, xs0, H0, e, hs0, ex0, q0⟩ := q1
  rcases seq_split hs0 ex0 q0 with ⟨⟨xs, hq⟩, q⟩ | ⟨⟨xs, hq⟩, q⟩
  · subst e
    cases r1
    obtain ⟨its, rv, p, hz⟩ := I1.list hq
    refine wpAny_pyIter_list p.isList ?_
    refine ⟨s1.heap.objs.size, [s1.heap.objs.size], _, _, H1, rfl, I1.kept (t' := s1.toks) fun b o e => Heap.get?_push_of_some _ e, turn_list a _, ⟨_, Heap.get?_push_size _ rfl, rfl, rfl⟩, fun b hb => ?_, q⟩
    have e : b = s1.heap.objs.size := by simpa using hb
    subst e
    exact I1.fpOk (Nat.le_refl _) (I1.hok.fresh (Nat.le_refl _))
  · subst e
    cases r1
    obtain ⟨its, rv, p, hz⟩ := I1.tuple hq
    refine wpAny_pyIter_tuple (show s1.heap.IsTuple a its.toArray from p) ?_
    refine ⟨s1.heap.objs.size, [s1.heap.objs.size], _, _, H1, rfl, I1.kept (t' := s1.toks) fun b o e => Heap.get?_push_of_some _ e, turn_tuple a _, ⟨_, Heap.get?_push_size _ rfl, rfl, rfl⟩, fun b hb => ?_, q⟩
    have e : b = s1.heap.objs.size := by simpa using hb
    subst e
    exact I1.fpOk (Nat.le_refl _) (I1.hok.fresh (Nat.le_refl _))
/-! ### sorted of a list or a tuple of ints -/
def rSortedA (K : PySem.W.Frag) : List V → Hp → VK → Prop := fun vs H Q => ∃ (a : Addr) (ns : List Int), vs = [V.ref a] ∧ (SqL K H a (ns.map V.int) ∨ SqT K H a (ns.map V.int)) ∧
  ∀ (ns' : List Int) (p : Addr), ns'.Perm ns → ns'.Pairwise (· ≤ ·) → H p = none → Q (.ref p) (upd H p (.lst (ns'.map V.int)))
theorem sorted_tup {prog : Program} {w : World} {A : Around} {E : Value → Shared → Prop} {s : Shared} {l : Addr} {vs : List Value} {ltv : Value → Value → Bool} {Q : Value → Shared → Prop} (O : SrtO.Swo ltv) (hl : IsTup s.heap l vs.toArray) (hz : vs.length ≤ sizeLine)
    (hS : 2 ≤ vs.length → ∀ (h₁ : Heap) (a : Addr), h₁.get? a = some (seqObj "list" vs.toArray 0) → (∀ b o, s.heap.get? b = some o → b ≠ a ∧ h₁.get? b = some o) → SrtO.SortableO prog w A.in1.in1 { s with heap := h₁ } a vs ltv)
    (h : ∀ (h1 : Heap) (out : List Value), (∀ b o, s.heap.get? b = some o → h1.get? b = some o) → SrtO.Srtd ltv out → SrtO.Stb ltv out vs →
      Q (.ref h1.objs.size) { s with heap := sortedHeap (h1.push (seqObj "list" vs.toArray 0)) h1.objs.size vs out.toArray }) :
    wpAny (model prog w) A (call (.builtin "sorted") [.ref l]) Q E s := by
  obtain ⟨o, ho, hc, n, hd⟩ := hl
  refine Calls.call_function_entry kind_sorted plain_sorted entry_sorted (args_sorted1 _) ?_
  unfold Builtin.«sorted»
  refine wpAny_bind (m := checkCount "sorted" 1 1 _) (wpAny_pure ?_)
  refine wpAny_bind (wpAny_collect_seq l (T := "tuple") (.inr rfl) ho hc hd (fun h1 kp => ?_) (by simpa using hz))
  refine wpAny_bind (wpAny_newList ?_ (by simpa using hz))
  have e0 : vs.toArray.toList = vs := by simp
  rw [e0]
  have hoL : (h1.push (seqObj "list" vs.toArray 0)).get? h1.objs.size = some (seqObj "list" vs.toArray 0) := Heap.get?_push_size _ rfl
  have keep : ∀ b o, s.heap.get? b = some o → b ≠ h1.objs.size ∧ (h1.push (seqObj "list" vs.toArray 0)).get? b = some o := fun b o q =>
    ⟨Nat.ne_of_lt (Heap.lt_size (kp b o q)), Heap.get?_push_of_some _ (kp b o q)⟩
  refine wpAny_bind (wpAny_holding (wpAny_call_entry (s := { s with heap := h1.push (seqObj "list" vs.toArray 0) }) slot_list_sort ⟨_, hoL, rfl⟩ entry_list_sort (SrtO.list_sort_ord O hoL hz (fun h2 => hS h2 _ _ hoL keep) fun out hs hb => ⟨_, rfl, ?_⟩) (args_list_sort _)))
  exact wpAny_pure ⟨_, rfl, h h1 out kp hs hb⟩
theorem cr_sortedA {X : Cx} : CallR X (.builtin "sorted") (rSortedA X.K) := by
  intro pins s σ H vs us Q I r h
  obtain ⟨a, ns, rfl, hs | hs, q⟩ := h
  · exact cr_sortedI pins s σ H _ us Q I r ⟨a, ns, rfl, hs, q⟩
  · obtain ⟨its, rv, hl, hz⟩ := I.tuple hs
    rw [Vals.ref1 r]
    have hi := rv.ints
    refine sorted_tup SrtO.swo_int hl (by rw [← rv.length]; exact hz) (fun h2 h₁ a' _ _ => SrtO.ints_sortable hi h2) fun h1 out kp p1 p2 => ?_
    obtain ⟨k1, k2, k3⟩ := SrtO.ints_out hi p1 p2
    have I1 : Inv X pins σ H { s with heap := h1 } := I.kept (t' := s.toks) kp
    have hoL : (h1.push (seqObj "list" its.toArray 0)).get? h1.objs.size = some (seqObj "list" its.toArray 0) := Heap.get?_push_size _ rfl
    obtain ⟨ep, he'⟩ := PyProof.Rows.sortedHeap_at (vs := its) (out := out.toArray) hoL
    have hlen : ((out.map SrtO.iv).map V.int).length ≤ sizeLine := by
      rw [List.length_map, k2.length_eq]
      rw [List.length_map] at hz
      exact hz
    refine ⟨.ref _, upd H h1.objs.size (.lst ((out.map SrtO.iv).map V.int)), I1.laid (t' := s.toks) (fun b o q => ?_) (Nat.le_refl _) ⟨hlen, out, ep, vals_of_ints k1, he'⟩, rfl, q _ _ k2 k3 (I1.hok.fresh (Nat.le_refl _))⟩
    have hb : b < h1.objs.size := Heap.lt_size q
    rw [PyProof.Rows.sortedHeap_old (Nat.ne_of_lt hb) (by rw [Heap.size_push]; exact Nat.lt_succ_of_lt hb)]
    exact Heap.get?_push_of_some _ q
/-! ### xs[i] of a list or a tuple -/
def rIxA (K : PySem.W.Frag) : R2 := fun x y H Q => ∃ p xs i v, x = .ref p ∧ y = .int i ∧ SqA K H p xs ∧ atI xs i = some v ∧ Q v H
theorem ix_A {X : Cx} : IxR X (rIxA X.K) := by
  intro value slice pins s σ H x y v u Q I rx ry h hs
  obtain ⟨p, xs, i, z, e1, e2, hq | hq, he, q⟩ := h
  · exact ix_list value slice pins s σ H x y v u Q I rx ry ⟨p, xs, i, z, e1, e2, hq, he, q⟩ hs
  · exact ix_tup value slice pins s σ H x y v u Q I rx ry ⟨p, xs, i, z, e1, e2, hq, he, q⟩ hs
/-- a def of the top as the head has it -/
abbrev FnP (K : PySem.W.Frag) (x : Str) (st : Stmt) (f : Addr) (fd : FuncData) : Prop := FunD K x x (defArgs st) (defBody st) (defScope st) [] [] f fd
/-- the def of the module's name x keeps sp -/
structure Cal (P : Program) (w : World) (K : PySem.W.Frag) (mg : Str → Option Value) (base : Heap) (k : Nat) (x : Str) (sp : Sp) (dvs : List V) : Prop where
  ex : ∃ (f : Addr) (fd : FuncData) (ps : List Str) (ds : List Value), FnOk P w K mg base CX0 k f fd ps sp ∧ mg x = some (.ref f) ∧ PySem.W.keepIn K (.ref f) = true ∧ Binds K fd ps ds ∧ Vals dvs ds
section
variable {X : Cx} {e : Expr} {es : List Expr} {p pos : Pos} {k j : Nat} {x : Str} {sp : Sp} {dvs : List V} {t : TA}
theorem pe_c (c : Cal X.prog X.w X.K X.mg X.base k x sp dvs) (hr : Room j X.A) (hk : k ≤ j) (hg : Gl X x) (ha : PA X (e :: es) t)
    (hdb : (x == ("__debug__" : Str)) = false := by decide) (he : starEach (e :: es) X.env = (false, eval e X.env) :: starEach es X.env := by rfl) (hpl : (backTo pos (starEach es X.env)).any (·.1) = false := by rfl) :
    PE X (.Call (.Name x p) (e :: es) [] pos) (tCall sp dvs E0 t) := by
  obtain ⟨f, fd, ps, ds, F, hm, kp, b, d⟩ := c.ex
  exact pe_call F (hr.mono hk) hg hm kp b d pass0 ha hdb he hpl
theorem pe_gc {v : V} (hg : Gl X x) (h : ∃ u, X.mg x = some u ∧ RelV v u) (hd : (x == ("__debug__" : Str)) = false := by decide) : PE X (.Name x pos) (tC v) := by
  obtain ⟨u, hm, r⟩ := h
  exact pe_glob hg hm r hd
end
end LW
set_option Elab.async false
set_option linter.all false
set_option maxRecDepth 100000
set_option maxHeartbeats 4000000
namespace LW
open PySem PySem.Spec PyProof.Rows L2
/-! ### what no run reaches -/
def tNeverE : TE := fun _ _ _ => False
theorem pe_never {X : Cx} {e : Expr} : PE X e tNeverE := ⟨fun _ _ _ _ _ _ h => h.elim⟩
/-! ### a dict of the module that is copied -/
def relE (e : DictEntry) (p : Str × V) : Prop := (∃ t, e.key = .str p.1 t) ∧ RelV p.2 e.val
structure DicK (K : PySem.W.Frag) (w : World) (a : Addr) (kvs : List (Str × V)) : Prop where
  it : ∃ es n, KDict K w a es n ∧ Paired relE es.toList kvs
  nd : (kvs.map (·.1)).Nodup
  sz : kvs.length ≤ sizeLine
abbrev keyed (kvs : List (Str × V)) : List (Key × V) := kvs.map fun p => (Sum.inr p.1, p.2)
theorem pairs_of {P : Program} {w : World} : ∀ {es : List DictEntry} {kvs : List (Str × V)}, Paired relE es kvs → ∃ vs : List (Key × Value), Pairs (mixKind P w) es vs ∧ KV (keyed kvs) vs ∧ vs.map (·.1) = kvs.map fun p => Sum.inr p.1
  | _, _, .nil => ⟨[], .nil, .nil, rfl⟩
  | _, _, .cons (a := e) (b := p) h r => by
    obtain ⟨vs, h1, h2, h3⟩ := pairs_of (P := P) (w := w) r
    obtain ⟨⟨t, ht⟩, hr⟩ := h
    refine ⟨(Sum.inr p.1, e.val) :: vs, .cons ?_ rfl h1, .cons ⟨rfl, hr⟩ h2, ?_⟩
    · show keyIs (Sum.inr p.1) e.key = true
      rw [ht]
      exact strKind_is P w p.1 t
    · rw [List.map_cons, List.map_cons, h3]
theorem DicK.dictOf {P : Program} {w : World} {K : PySem.W.Frag} {a : Addr} {kvs : List (Str × V)} {h : Heap} (D : DicK K w a kvs) (X : K.In h) : (a == sysModules) = false ∧ ∃ vs, KV (keyed kvs) vs ∧ h.DictOf (mixKind P w) a vs := by
  obtain ⟨es, n, d, r⟩ := D.it
  obtain ⟨vs, h1, h2, h3⟩ := pairs_of (P := P) (w := w) r
  refine ⟨d.low, vs, h2, _, es, n, X _ _ d.at_, ⟨rfl, rfl, rfl⟩, rfl, fun e he => ?_, h1, ?_⟩
  · obtain ⟨x, t, e1, e2⟩ := d.lit.all e (Array.mem_toList_iff.mpr he)
    exact ⟨Sum.inr x, by rw [e1]; exact strKind_is P w x t, e2⟩
  · rw [h3]
    have := D.nd
    rw [show (kvs.map fun p => (Sum.inr p.1 : Key)) = (kvs.map (·.1)).map Sum.inr by rw [List.map_map]; rfl]
    exact List.Pairwise.map _ (fun a b hab e => hab (Sum.inr.inj e)) this
def rDictK (K : PySem.W.Frag) (w : World) : List V → Hp → VK → Prop := fun xs H Q => ∃ (a : Addr) (kvs : List (Str × V)), xs = [.ref a] ∧ DicK K w a kvs ∧ ∀ p, H p = none → Q (.ref p) (upd H p (.dK (keyed kvs)))
theorem call_dictK {X : Cx} : CallR X (.type "dict") (rDictK X.K X.w) := by
  intro pins s σ H xs us Q I r q
  obtain ⟨a, kvs, ex, hd, q⟩ := q
  subst ex
  obtain ⟨u, eu, rx⟩ := vals1 r
  subst eu
  cases rx
  obtain ⟨lo, vs, rel, dd⟩ := hd.dictOf (P := X.prog) (w := X.w) I.kIn
  have z : (keyed kvs).length ≤ sizeLine := by
    rw [List.length_map]
    exact hd.sz
  refine kt_call_dict lo dd (by rw [← rel.length]; exact z) fun h' d' hs => ?_
  have hm : (s.heap.objs.size == sysModules) = false := beq_eq_false_iff_ne.mpr (Nat.ne_of_gt I.big)
  exact ⟨.ref s.heap.objs.size, upd H s.heap.objs.size (.dK (keyed kvs)), I.laid (t' := s.toks) (fun b u e => (hs.2 b (Nat.ne_of_lt (Heap.lt_size e))).trans (Heap.get?_push_of_some _ e)) (Nat.le_refl _)
    (show ObjOk X.prog X.w _ _ _ (.dK (keyed kvs)) from ⟨z, hm, vs, rel, d'⟩), rfl, q _ (I.hok.fresh (Nat.le_refl _))⟩
end LW
set_option Elab.async false
set_option linter.all false
set_option maxRecDepth 100000
set_option maxHeartbeats 4000000
namespace LW
open PySem PySem.Spec PyProof.Rows L2
/-! ### looking at written objects -/
def allRel : List V → List Value → Bool
  | [], [] => true
  | v :: vs, u :: us => He.relB v u && allRel vs us
  | _, _ => false
theorem allRel_ok : ∀ {vs : List V} {us : List Value}, allRel vs us = true → Vals vs us
  | [], [], _ => .nil
  | v :: vs, u :: us, h => by
    obtain ⟨h1, h2⟩ := (Bool.and_eq_true _ _).mp h
    exact .cons (He.relB_ok h1) (allRel_ok h2)
def tupB (K : PySem.W.Frag) (a : Addr) (xs : List V) : Bool := match K.lookup a with
  | some ⟨.type c, _, .seq its _, _⟩ => decide (c = "tuple") && (decide (its.size ≤ sizeLine) && allRel xs its.toList)
  | _ => false
theorem tupB_ok {K : PySem.W.Frag} {a : Addr} {xs : List V} (h : tupB K a xs = true) (H : Hp) : SqT K H a xs := by
  unfold tupB at h
  cases q : K.lookup a with
  | none => rw [q] at h; cases h
  | some o =>
    obtain ⟨oc, od, dt, osl⟩ := o
    rw [q] at h
    cases oc with
    | type c =>
      cases dt with
      | seq its n =>
        obtain ⟨h1, h2⟩ := (Bool.and_eq_true _ _).mp h
        obtain ⟨h3, h4⟩ := (Bool.and_eq_true _ _).mp h2
        exact .inr ⟨_, its, n, q, congrArg Value.type (of_decide_eq_true h1), rfl, of_decide_eq_true h3, allRel_ok h4⟩
      | _ => cases h
    | _ => cases dt <;> cases h
def allE : List DictEntry → List (Str × V) → Bool
  | [], [] => true
  | e :: es, p :: ps => (match e.key with
    | .str x _ => decide (x = p.1)
    | _ => false) && (He.relB p.2 e.val && allE es ps)
  | _, _ => false
theorem allE_ok : ∀ {es : List DictEntry} {ps : List (Str × V)}, allE es ps = true → Paired relE es ps
  | [], [], _ => .nil
  | e :: es, p :: ps, h => by
    obtain ⟨h1, h2⟩ := (Bool.and_eq_true _ _).mp h
    obtain ⟨h3, h4⟩ := (Bool.and_eq_true _ _).mp h2
    refine .cons ⟨?_, He.relB_ok h3⟩ (allE_ok h4)
    cases q : e.key with
    | str x t =>
      rw [q] at h1
      have h1' : x = p.1 := of_decide_eq_true h1
      exact ⟨t, by rw [h1']⟩
    | _ => rw [q] at h1; cases h1
def dicB (K : PySem.W.Frag) (a : Addr) (kvs : List (Str × V)) : Bool := match K.lookup a with
  | some ⟨_, _, .dict es _, _⟩ => allE es.toList kvs
  | _ => false
theorem dicB_ok {K : PySem.W.Frag} {w : World} {a : Addr} {kvs : List (Str × V)} (hD : ∃ es n, KDict K w a es n) (h : dicB K a kvs = true) (nd : (kvs.map (·.1)).Nodup) (sz : kvs.length ≤ sizeLine) : DicK K w a kvs := by
  obtain ⟨es, n, D⟩ := hD
  refine ⟨⟨es, n, D, ?_⟩, nd, sz⟩
  unfold dicB at h
  rw [D.at_] at h
  exact allE_ok h
end LW
set_option Elab.async false
set_option linter.all false
set_option maxRecDepth 100000
set_option maxHeartbeats 4000000
namespace LW
open PySem PySem.Spec PyProof.Rows L2 RZ
/-! ### names for readings of texts -/
def tSplit (to te : TE) : TE := tM1 (fun x xs H Q => ∃ a b, x = .str a ∧ xs = [.str b] ∧ (b.length == 0) = false ∧ a.length + 2 ≤ sizeLine ∧ rNewStrs (Txt.split a b) H Q) to te
def tWords (to : TE) : TE := tM0 (fun x xs H Q => ∃ a, x = .str a ∧ xs = [] ∧ a.length + 2 ≤ sizeLine ∧ rNewStrs (Txt.words a) H Q) to
def tJoin (K : PySem.W.Frag) (to te : TE) : TE := tM1 (fun x xs H Q => ∃ a p, ∃ ys : List Str, x = .str a ∧ xs = [.ref p] ∧ (SqL K H p (ys.map V.str) ∨ SqT K H p (ys.map V.str)) ∧ (ys.map (·.length)).sum + ys.length * a.length ≤ 16777216 ∧ Q (.str (Txt.join a ys)) H) to te
end LW
set_option Elab.async false
set_option linter.all false
set_option maxRecDepth 100000
set_option maxHeartbeats 1000000
set_option autoImplicit false
namespace PL
open PySem PySem.Spec PyProof.Rows L2
abbrev Fg := PySem.W.Frag
/-! ### values, objects, the store -/
inductive PV where
  | non | bl (b : Bool) | int (i : Int) | str (x : Str) | tup (xs : List PV) | wtp (xs : List PV) | ref (i : Nat) | con (x : Str) | ty (n : String)
deriving Inhabited
mutual
def PV.eqb : PV → PV → Bool
  | .non, .non => true
  | .bl a, .bl b => decide (a = b)
  | .int a, .int b => decide (a = b)
  | .str a, .str b => decide (a = b)
  | .tup a, .tup b => PV.eqbs a b
  | .wtp a, .wtp b => PV.eqbs a b
  | .ref a, .ref b => decide (a = b)
  | .con a, .con b => decide (a = b)
  | .ty a, .ty b => decide (a = b)
  | _, _ => false
def PV.eqbs : List PV → List PV → Bool
  | [], [] => true
  | x :: xs, y :: ys => PV.eqb x y && PV.eqbs xs ys
  | _, _ => false
end
mutual
theorem PV.eqb_ok : ∀ (a b : PV), PV.eqb a b = true → a = b
  | .non, b, h => by cases b <;> first | rfl | cases h
  | .bl a, b, h => by cases b <;> first | exact congrArg _ (of_decide_eq_true h) | cases h
  | .int a, b, h => by cases b <;> first | exact congrArg _ (of_decide_eq_true h) | cases h
  | .str a, b, h => by cases b <;> first | exact congrArg _ (of_decide_eq_true h) | cases h
  | .tup a, b, h => by cases b <;> first | exact congrArg _ (PV.eqbs_ok a _ h) | cases h
  | .wtp a, b, h => by cases b <;> first | exact congrArg _ (PV.eqbs_ok a _ h) | cases h
  | .ref a, b, h => by cases b <;> first | exact congrArg _ (of_decide_eq_true h) | cases h
  | .con a, b, h => by cases b <;> first | exact congrArg _ (of_decide_eq_true h) | cases h
  | .ty a, b, h => by cases b <;> first | exact congrArg _ (of_decide_eq_true h) | cases h
theorem PV.eqbs_ok : ∀ (a b : List PV), PV.eqbs a b = true → a = b
  | [], b, h => by cases b <;> first | rfl | cases h
  | x :: xs, b, h => by
    cases b with
    | nil => cases h
    | cons y ys =>
      obtain ⟨h1, h2⟩ := (Bool.and_eq_true _ _).mp h
      rw [PV.eqb_ok x y h1, PV.eqbs_ok xs ys h2]
end
mutual
theorem PV.eqb_refl : ∀ a : PV, PV.eqb a a = true
  | .non => rfl
  | .bl _ => decide_eq_true rfl
  | .int _ => decide_eq_true rfl
  | .str _ => decide_eq_true rfl
  | .tup a => PV.eqbs_refl a
  | .wtp a => PV.eqbs_refl a
  | .ref _ => decide_eq_true rfl
  | .con _ => decide_eq_true rfl
  | .ty _ => decide_eq_true rfl
theorem PV.eqbs_refl : ∀ a : List PV, PV.eqbs a a = true
  | [] => rfl
  | x :: xs => (Bool.and_eq_true _ _).mpr ⟨PV.eqb_refl x, PV.eqbs_refl xs⟩
end
instance : DecidableEq PV := fun a b => if h : PV.eqb a b = true then isTrue (PV.eqb_ok a b h) else isFalse fun e => h (e ▸ PV.eqb_refl a)
inductive PO where
  | lst (xs : List PV) | ro (xs : List PV) | dK (lk : Bool) (kvs : List (Key × PV)) | dT (lk : Bool) (kvs : List (List Key × PV)) | ins (c : Str) (fs : List (Str × PV))
deriving Inhabited, DecidableEq
abbrev Store := List PO
abbrev Env := List (Option PV)
inductive Res (α : Type) where
  | ok (a : α) (st : Store) | exc (c : Str) (x : PV) (st : Store) | bad
inductive Fl where
  | nx (env : Env) (st : Store) | rt (v : PV) (st : Store) | bk (env : Env) (st : Store) | ct (env : Env) (st : Store) | exc (c : Str) (x : PV) (env : Env) (st : Store) | bad
def Res.bnd {α β : Type} : Res α → (α → Store → Res β) → Res β
  | .ok a s, f => f a s
  | .exc c x s, _ => .exc c x s
  | .bad, _ => .bad
@[simp] theorem bnd_ok {α β : Type} {a : α} {s : Store} {f : α → Store → Res β} : (Res.ok a s).bnd f = f a s := rfl
@[simp] theorem bnd_exc {α β : Type} {c : Str} {x : PV} {s : Store} {f : α → Store → Res β} : (Res.exc c x s : Res α).bnd f = .exc c x s := rfl
@[simp] theorem bnd_bad {α β : Type} {f : α → Store → Res β} : (Res.bad : Res α).bnd f = .bad := rfl
def Res.stm {α : Type} (env : Env) : Res α → (α → Store → Fl) → Fl
  | .ok a s, f => f a s
  | .exc c x s, _ => .exc c x env s
  | .bad, _ => .bad
@[simp] theorem stm_ok {α : Type} {env : Env} {a : α} {s : Store} {f : α → Store → Fl} : (Res.ok a s).stm env f = f a s := rfl
@[simp] theorem stm_exc {α : Type} {env : Env} {c : Str} {x : PV} {s : Store} {f : α → Store → Fl} : (Res.exc c x s : Res α).stm env f = .exc c x env s := rfl
@[simp] theorem stm_bad {α : Type} {env : Env} {f : α → Store → Fl} : (Res.bad : Res α).stm env f = .bad := rfl
/-! ### what a value is -/
mutual
def PVr (K : Fg) (ρ : List Addr) (H : Hp) : PV → V → Prop
  | .non, v => v = .non
  | .bl b, v => v = .bl b
  | .int i, v => v = .int i
  | .str x, v => v = .str x
  | .tup xs, v => ∃ a vs, v = .ref a ∧ H a = some (.tup vs) ∧ PVrs K ρ H xs vs
  | .wtp xs, v => ∃ a vs, v = .ref a ∧ (∀ H', SqT K H' a vs) ∧ PVrs K ρ H xs vs
  | .ref i, v => ∃ a, ρ[i]? = some a ∧ v = .ref a
  | .con x, v => v = .ref (He.ga K x)
  | .ty n, v => v = .ty n
def PVrs (K : Fg) (ρ : List Addr) (H : Hp) : List PV → List V → Prop
  | [], vs => vs = []
  | x :: xs, vs => ∃ v r, vs = v :: r ∧ PVr K ρ H x v ∧ PVrs K ρ H xs r
end
structure MV (ρ ρ' : List Addr) (H H' : Hp) : Prop where
  pre : ∀ (i : Nat) (a : Addr), ρ[i]? = some a → ρ'[i]? = some a
  tk : ∀ a vs, H a = some (.tup vs) → H' a = some (.tup vs)
structure Mono (ρ ρ' : List Addr) (H H' : Hp) : Prop extends MV ρ ρ' H H' where
  fz : ∀ a o u, H a = some (.frz o u) → H' a = some (.frz o u)
  hid : ∀ a u, a ∉ ρ → H a = some u → H' a = some u ∧ a ∉ ρ'
instance {ρ ρ' : List Addr} {H H' : Hp} : CoeOut (Mono ρ ρ' H H') (MV ρ ρ' H H') := ⟨Mono.toMV⟩
section
variable {K : Fg} {ρ ρ' : List Addr} {H H' : Hp}
mutual
theorem PVr.mono (m : MV ρ ρ' H H') : ∀ {x : PV} {v : V}, PVr K ρ H x v → PVr K ρ' H' x v
  | .non, _, h => h
  | .bl _, _, h => h
  | .int _, _, h => h
  | .str _, _, h => h
  | .tup xs, _, h => by
    obtain ⟨a, vs, h1, h2, h3⟩ := h
    exact ⟨a, vs, h1, m.tk _ _ h2, PVrs.mono m h3⟩
  | .wtp xs, _, h => by
    obtain ⟨a, vs, h1, h2, h3⟩ := h
    exact ⟨a, vs, h1, h2, PVrs.mono m h3⟩
  | .ref i, _, h => by
    obtain ⟨a, h1, h2⟩ := h
    exact ⟨a, m.pre _ _ h1, h2⟩
  | .con _, _, h => h
  | .ty _, _, h => h
theorem PVrs.mono (m : MV ρ ρ' H H') : ∀ {xs : List PV} {vs : List V}, PVrs K ρ H xs vs → PVrs K ρ' H' xs vs
  | [], _, h => h
  | x :: xs, _, h => by
    obtain ⟨v, r, h1, h2, h3⟩ := h
    exact ⟨v, r, h1, PVr.mono m h2, PVrs.mono m h3⟩
end
theorem Mono.refl : Mono ρ ρ H H := ⟨⟨fun _ _ h => h, fun _ _ h => h⟩, fun _ _ _ h => h, fun _ _ n h => ⟨h, n⟩⟩
theorem Mono.ex (e : Evl.Ex H H') : Mono ρ ρ H H' := ⟨⟨fun _ _ h => h, fun _ _ h => e _ _ h⟩, fun _ _ _ h => e _ _ h, fun _ _ n h => ⟨e _ _ h, n⟩⟩
theorem Mono.push {p : Addr} (e : Evl.Ex H H') (hp : H p = none) : Mono ρ (ρ ++ [p]) H H' := ⟨⟨fun i a h => by rw [List.getElem?_append_left (List.getElem?_eq_some_iff.mp h).1]; exact h, fun _ _ h => e _ _ h⟩, fun _ _ _ h => e _ _ h, fun a vs n h => ⟨e _ _ h, fun hm => (List.mem_append.mp hm).elim n fun z => by
  have : a = p := by simpa using z
  subst this
  rw [hp] at h
  cases h⟩⟩
theorem Mono.upd {p : Addr} {o : HO} (h : ∀ vs, H p ≠ some (.tup vs)) (hf : ∀ o u, H p ≠ some (.frz o u)) (hm : p ∈ ρ) : Mono ρ ρ H (upd H p o) := ⟨⟨fun _ _ h => h, fun a vs e => by
  have ne : a ≠ p := fun q => h vs (q ▸ e)
  rw [upd_ne ne]; exact e⟩, fun a o u e => by
  have ne : a ≠ p := fun q => hf o u (q ▸ e)
  rw [upd_ne ne]; exact e, fun a vs n e => by
  have ne : a ≠ p := fun q => n (q ▸ hm)
  rw [upd_ne ne]; exact ⟨e, n⟩⟩
theorem MV.ex (e : Evl.Ex H H') : MV ρ ρ H H' := ⟨fun _ _ h => h, fun _ _ h => e _ _ h⟩
theorem MV.push {p : Addr} (e : Evl.Ex H H') : MV ρ (ρ ++ [p]) H H' := ⟨fun i a h => by rw [List.getElem?_append_left (List.getElem?_eq_some_iff.mp h).1]; exact h, fun _ _ h => e _ _ h⟩
theorem PVrs.pd : ∀ {xs : List PV} {vs : List V}, PVrs K ρ H xs vs → Paired (PVr K ρ H) xs vs
  | [], _, h => by cases h; exact .nil
  | x :: xs, _, h => by
    obtain ⟨v, r, rfl, h2, h3⟩ := h
    exact .cons h2 (PVrs.pd h3)
theorem PVrs.of : ∀ {xs : List PV} {vs : List V}, Paired (PVr K ρ H) xs vs → PVrs K ρ H xs vs
  | _, _, .nil => rfl
  | _, _, .cons h r => ⟨_, _, rfl, h, PVrs.of r⟩
theorem PVrs.nil : PVrs K ρ H [] [] := rfl
theorem PVrs.cons {x : PV} {xs : List PV} {v : V} {vs : List V} (h : PVr K ρ H x v) (r : PVrs K ρ H xs vs) : PVrs K ρ H (x :: xs) (v :: vs) := ⟨v, vs, rfl, h, r⟩
theorem PVrs.len : ∀ {xs : List PV} {vs : List V}, PVrs K ρ H xs vs → vs.length = xs.length
  | [], _, h => by cases h; rfl
  | x :: xs, _, h => by
    obtain ⟨v, r, rfl, _, h3⟩ := h
    simp [PVrs.len h3]
theorem PVrs.get : ∀ {xs : List PV} {vs : List V} {i : Nat} {x : PV}, PVrs K ρ H xs vs → xs[i]? = some x → ∃ v, vs[i]? = some v ∧ PVr K ρ H x v
  | [], _, i, _, _, e => by simp at e
  | y :: xs, _, 0, x, h, e => by
    obtain ⟨v, r, rfl, h2, _⟩ := h
    simp at e; subst e
    exact ⟨v, by simp, h2⟩
  | y :: xs, _, i + 1, x, h, e => by
    obtain ⟨v, r, rfl, _, h3⟩ := h
    obtain ⟨w, e', d⟩ := PVrs.get h3 (by simpa using e)
    exact ⟨w, by simpa using e', d⟩
theorem PVrs.append : ∀ {xs ys : List PV} {vs ws : List V}, PVrs K ρ H xs vs → PVrs K ρ H ys ws → PVrs K ρ H (xs ++ ys) (vs ++ ws)
  | [], _, _, _, h, g => by cases h; exact g
  | x :: xs, ys, _, ws, h, g => by
    obtain ⟨v, r, rfl, h2, h3⟩ := h
    exact ⟨v, r ++ ws, rfl, h2, PVrs.append h3 g⟩
theorem PVrs.take : ∀ {xs : List PV} {vs : List V} (n : Nat), PVrs K ρ H xs vs → PVrs K ρ H (xs.take n) (vs.take n)
  | _, _, 0, _ => by simp; exact PVrs.nil
  | [], _, n + 1, h => by cases h; simp; exact PVrs.nil
  | x :: xs, _, n + 1, h => by
    obtain ⟨v, r, rfl, h2, h3⟩ := h
    simp
    exact ⟨v, _, rfl, h2, PVrs.take n h3⟩
theorem PVrs.drop : ∀ {xs : List PV} {vs : List V} (n : Nat), PVrs K ρ H xs vs → PVrs K ρ H (xs.drop n) (vs.drop n)
  | _, _, 0, h => by simpa using h
  | [], _, n + 1, h => by cases h; simp; exact PVrs.nil
  | x :: xs, _, n + 1, h => by
    obtain ⟨v, r, rfl, h2, h3⟩ := h
    simp
    exact PVrs.drop n h3
theorem PVrs.one {x : PV} {v : V} (h : PVr K ρ H x v) : PVrs K ρ H [x] [v] := .cons h .nil
theorem PVrs.set {xs : List PV} {vs : List V} {x : PV} {v : V} (i : Nat) (h : PVrs K ρ H xs vs) (d : PVr K ρ H x v) : PVrs K ρ H (xs.set i x) (vs.set i v) := by
  by_cases hi : i < xs.length
  · have hi' : i < vs.length := by rw [h.len]; exact hi
    rw [List.set_eq_take_append_cons_drop, List.set_eq_take_append_cons_drop, if_pos hi, if_pos hi']
    exact (h.take i).append (.cons d (h.drop (i + 1)))
  · have hi' : ¬ i < vs.length := by rw [h.len]; exact hi
    rw [List.set_eq_of_length_le (by omega), List.set_eq_of_length_le (by omega)]
    exact h
theorem PVrs.reverse : ∀ {xs : List PV} {vs : List V}, PVrs K ρ H xs vs → PVrs K ρ H xs.reverse vs.reverse
  | [], _, h => by cases h; exact PVrs.nil
  | x :: xs, _, h => by
    obtain ⟨v, r, rfl, h2, h3⟩ := h
    simp only [List.reverse_cons]
    exact h3.reverse.append (.one h2)
end
/-! ### dicts and fields: keys with values -/
def KR (K : Fg) (ρ : List Addr) (H : Hp) {κ : Type} : List (κ × PV) → List (κ × V) → Prop
  | [], ws => ws = []
  | p :: r, ws => ∃ v q, ws = (p.1, v) :: q ∧ PVr K ρ H p.2 v ∧ KR K ρ H r q
section
variable {K : Fg} {ρ ρ' : List Addr} {H H' : Hp} {κ : Type}
theorem KR.mono (m : MV ρ ρ' H H') : ∀ {xs : List (κ × PV)} {vs : List (κ × V)}, KR K ρ H xs vs → KR K ρ' H' xs vs
  | [], _, h => h
  | x :: xs, _, h => by
    obtain ⟨v, r, h1, h2, h3⟩ := h
    exact ⟨v, r, h1, PVr.mono m h2, KR.mono m h3⟩
theorem KR.len : ∀ {xs : List (κ × PV)} {vs : List (κ × V)}, KR K ρ H xs vs → vs.length = xs.length
  | [], _, h => by cases h; rfl
  | x :: xs, _, h => by
    obtain ⟨v, r, rfl, _, h3⟩ := h
    simp [KR.len h3]
theorem KR.keys : ∀ {xs : List (κ × PV)} {vs : List (κ × V)}, KR K ρ H xs vs → vs.map (·.1) = xs.map (·.1)
  | [], _, h => by cases h; rfl
  | x :: xs, _, h => by
    obtain ⟨v, r, rfl, _, h3⟩ := h
    simp [KR.keys h3]
theorem KR.vals : ∀ {xs : List (κ × PV)} {vs : List (κ × V)}, KR K ρ H xs vs → PVrs K ρ H (xs.map (·.2)) (vs.map (·.2))
  | [], _, h => by cases h; exact PVrs.nil
  | x :: xs, _, h => by
    obtain ⟨v, r, rfl, h2, h3⟩ := h
    exact ⟨v, _, rfl, h2, KR.vals h3⟩
theorem KR.nil : KR K ρ H ([] : List (κ × PV)) [] := rfl
theorem KR.cons {k : κ} {x : PV} {v : V} {xs : List (κ × PV)} {vs : List (κ × V)} (h : PVr K ρ H x v) (r : KR K ρ H xs vs) : KR K ρ H ((k, x) :: xs) ((k, v) :: vs) := ⟨v, vs, rfl, h, r⟩
variable [DecidableEq κ]
/-- as valV, putK, dropK -/
def pval (kvs : List (κ × PV)) (k : κ) : Option PV := match kvs with
  | [] => none
  | p :: r => if p.1 = k then some p.2 else pval r k
def pput (kvs : List (κ × PV)) (k : κ) (v : PV) : List (κ × PV) := match kvs with
  | [] => [(k, v)]
  | p :: r => if p.1 = k then (k, v) :: r else p :: pput r k v
def pdrop (kvs : List (κ × PV)) (k : κ) : List (κ × PV) := kvs.filter fun kv => decide (kv.1 ≠ k)
theorem KR.val : ∀ {xs : List (κ × PV)} {vs : List (κ × V)} {k : κ}, KR K ρ H xs vs → (∃ x v, pval xs k = some x ∧ valV vs k = some v ∧ PVr K ρ H x v) ∨ (pval xs k = none ∧ valV vs k = none)
  | [], _, k, h => by cases h; exact .inr ⟨rfl, rfl⟩
  | (k', x) :: xs, _, k, h => by
    obtain ⟨v, r, rfl, h2, h3⟩ := h
    by_cases e : k' = k
    · exact .inl ⟨x, v, by simp [pval, e], by simp [valV, e], h2⟩
    · have := KR.val (k := k) h3
      simpa [pval, valV, e] using this
end
/-! ### objects -/
def Lk (lk : Bool) (H : Hp) (a : Addr) (u : HO) : Prop := if lk then ∃ o, H a = some (.frz o u) else H a = some u
def ObR (K : Fg) (ρ : List Addr) (H : Hp) (a : Addr) : PO → Prop
  | .lst xs => ∃ vs, H a = some (.lst vs) ∧ PVrs K ρ H xs vs
  | .ro xs => ∃ o vs, H a = some (.frz o (.lst vs)) ∧ PVrs K ρ H xs vs
  | .dK lk kvs => ∃ ws, Lk lk H a (.dK ws) ∧ KR K ρ H kvs ws
  | .dT lk kvs => ∃ ws, Lk lk H a (.dT ws) ∧ KR K ρ H kvs ws
  | .ins c fs => ∃ dx gs, H a = some (.ins (He.ga K c) dx gs) ∧ H dx = some (.own a) ∧ KR K ρ H fs gs
structure RelS (K : Fg) (ρ : List Addr) (st : Store) (H : Hp) : Prop where
  len : ρ.length = st.length
  nd : ρ.Nodup
  ob : ∀ (i : Nat) (o : PO) (a : Addr), st[i]? = some o → ρ[i]? = some a → ObR K ρ H a o
/-- what is held on the way: a value, an object that stays, a list that grows unseen -/
inductive HE where
  | val (x : PV) (v : V) | fix (a : Addr) (u : HO) | acc (a : Addr) (xs : List PV) | hid (a : Addr) (u : HO)
/-- where an unseen thing stands -/
def HE.at : HE → Option Addr
  | .acc a _ => some a
  | .hid a _ => some a
  | _ => none
def isFix : HO → Bool
  | .tup _ => true
  | .frz _ _ => true
  | _ => false
def HeldR (K : Fg) (ρ : List Addr) (H : Hp) : HE → Prop
  | .val x v => PVr K ρ H x v
  | .fix a u => isFix u = true ∧ H a = some u
  | .acc a xs => ∃ vs, H a = some (.lst vs) ∧ PVrs K ρ H xs vs ∧ a ∉ ρ
  | .hid a u => H a = some u ∧ a ∉ ρ
theorem HeldR.mono {K : Fg} {ρ ρ' : List Addr} {H H' : Hp} (m : Mono ρ ρ' H H') : ∀ {e : HE}, HeldR K ρ H e → HeldR K ρ' H' e
  | .val x v, h => PVr.mono m.toMV h
  | .fix a u, h => ⟨h.1, by
    obtain ⟨h1, h2⟩ := h
    cases u with
    | tup vs => exact m.tk _ _ h2
    | frz o u => exact m.fz _ _ _ h2
    | _ => cases h1⟩
  | .acc a xs, h => by
    obtain ⟨vs, h1, h2, h3⟩ := h
    obtain ⟨e, n⟩ := m.hid _ _ h3 h1
    exact ⟨vs, e, h2.mono m.toMV, n⟩
  | .hid a u, h => m.hid a u h.2 h.1
structure Rel (K : Fg) (ρ : List Addr) (hs : List HE) (env : Env) (σ : L2.St) (st : Store) (H : Hp) : Prop where
  s : RelS K ρ st H
  h : ∀ p ∈ hs, HeldR K ρ H p
  el : env.length = σ.length
  e : ∀ (i : Nat) (x : PV), env[i]? = some (some x) → ∃ v, σ[i]? = some (some v) ∧ PVr K ρ H x v
section
variable {K : Fg} {ρ ρ' : List Addr} {hs : List HE} {env : Env} {σ : L2.St} {st st' : Store} {H H' : Hp}
theorem ObR.some {a : Addr} {o : PO} (h : ObR K ρ H a o) : ∃ u, H a = some u := by
  cases o with
  | lst xs => obtain ⟨vs, h, _⟩ := h; exact ⟨_, h⟩
  | ro xs => obtain ⟨_, vs, h, _⟩ := h; exact ⟨_, h⟩
  | dK lk kvs =>
    obtain ⟨ws, h, _⟩ := h
    cases lk with
    | true => obtain ⟨o, h⟩ := h; exact ⟨_, h⟩
    | false => exact ⟨_, h⟩
  | dT lk kvs =>
    obtain ⟨ws, h, _⟩ := h
    cases lk with
    | true => obtain ⟨o, h⟩ := h; exact ⟨_, h⟩
    | false => exact ⟨_, h⟩
  | ins c fs => obtain ⟨dx, gs, h, _⟩ := h; exact ⟨_, h⟩
theorem Lk.keep {lk : Bool} {a : Addr} {u : HO} (e : H' a = H a) (h : Lk lk H a u) : Lk lk H' a u := by
  unfold Lk at h ⊢
  rw [e]
  exact h
/-- an object is as it was where its own cell and its dict are -/
theorem ObR.keep {a : Addr} {o : PO} (m : MV ρ ρ' H H') (e : H' a = H a) (d : ∀ dx, H dx = Option.some (.own a) → H' dx = Option.some (.own a)) (h : ObR K ρ H a o) : ObR K ρ' H' a o := by
  cases o with
  | lst xs => obtain ⟨vs, h, r⟩ := h; exact ⟨vs, e.trans h, r.mono m⟩
  | ro xs => obtain ⟨o, vs, h, r⟩ := h; exact ⟨o, vs, e.trans h, r.mono m⟩
  | dK lk kvs => obtain ⟨ws, h, r⟩ := h; exact ⟨ws, h.keep e, r.mono m⟩
  | dT lk kvs => obtain ⟨ws, h, r⟩ := h; exact ⟨ws, h.keep e, r.mono m⟩
  | ins c fs => obtain ⟨dx, gs, h, h2, r⟩ := h; exact ⟨dx, gs, e.trans h, d dx h2, r.mono m⟩
theorem RelS.at (r : RelS K ρ st H) {i : Nat} {o : PO} (h : st[i]? = some o) : ∃ a, ρ[i]? = some a ∧ ObR K ρ H a o := by
  have hi : i < ρ.length := by rw [r.len]; exact (List.getElem?_eq_some_iff.mp h).1
  exact ⟨_, List.getElem?_eq_getElem hi, r.ob _ _ _ h (List.getElem?_eq_getElem hi)⟩
theorem RelS.inj (r : RelS K ρ st H) {i j : Nat} {a : Addr} (h : ρ[i]? = some a) (h' : ρ[j]? = some a) : i = j := by
  obtain ⟨h1, e1⟩ := List.getElem?_eq_some_iff.mp h
  obtain ⟨h2, e2⟩ := List.getElem?_eq_some_iff.mp h'
  exact (List.getElem_inj r.nd).mp (e1.trans e2.symm)
/-- the heap grew by what is not in the store -/
theorem RelS.ex (r : RelS K ρ st H) (e : Evl.Ex H H') : RelS K ρ st H' := ⟨r.len, r.nd, fun i o a h1 h2 => by
  have h := r.ob i o a h1 h2
  obtain ⟨u, hu⟩ := h.some
  exact h.keep (MV.ex e) (by rw [hu]; exact e _ _ hu) fun dx q => e _ _ q⟩
/-- a new object -/
theorem RelS.alloc {p : Addr} {o : PO} (r : RelS K ρ st H) (e : Evl.Ex H H') (hp : H p = none) (ho : ObR K (ρ ++ [p]) H' p o) : RelS K (ρ ++ [p]) (st ++ [o]) H' := by
  refine ⟨by simp [r.len], ?_, fun i u a h1 h2 => ?_⟩
  · refine List.nodup_append.mpr ⟨r.nd, List.nodup_cons.mpr ⟨by simp, List.nodup_nil⟩, fun a ha b hb => ?_⟩
    have : b = p := by simpa using hb
    subst this
    intro q
    subst q
    obtain ⟨i, hi, ei⟩ := List.mem_iff_getElem.mp ha
    have hi' : i < st.length := by rw [← r.len]; exact hi
    obtain ⟨u, hu⟩ := (r.ob i _ a (List.getElem?_eq_getElem hi') (by rw [List.getElem?_eq_getElem hi, ei])).some
    rw [hp] at hu
    cases hu
  · by_cases hi : i < st.length
    · rw [List.getElem?_append_left hi] at h1
      rw [List.getElem?_append_left (by rw [r.len]; exact hi)] at h2
      have h := r.ob i u a h1 h2
      obtain ⟨w, hw⟩ := h.some
      exact h.keep (MV.push e) (by rw [hw]; exact e _ _ hw) fun dx q => e _ _ q
    · have e1 : i = st.length := by
        have := (List.getElem?_eq_some_iff.mp h1).1
        simp at this
        omega
      subst e1
      rw [List.getElem?_append_right (Nat.le_refl _)] at h1
      rw [List.getElem?_append_right (by rw [r.len]; exact Nat.le_refl _)] at h2
      simp at h1
      simp [r.len] at h2
      subst h1 h2
      exact ho
/-- an object changes -/
theorem RelS.put {i : Nat} {a : Addr} {u : HO} {o : PO} (r : RelS K ρ st H) (hi : ρ[i]? = some a) (m : MV ρ ρ H (upd H a u)) (hw : ∀ x, H a ≠ some (.own x)) (ho : ObR K ρ (upd H a u) a o) : RelS K ρ (st.set i o) (upd H a u) := by
  have hlt : i < st.length := by rw [← r.len]; exact (List.getElem?_eq_some_iff.mp hi).1
  refine ⟨by simp [r.len], r.nd, fun j q b h1 h2 => ?_⟩
  by_cases e : j = i
  · subst e
    rw [List.getElem?_set_self hlt] at h1
    cases h1
    rw [hi] at h2
    cases h2
    exact ho
  · rw [List.getElem?_set_ne (Ne.symm e)] at h1
    have ne : b ≠ a := fun z => e (r.inj (z ▸ h2) hi)
    exact (r.ob j q b h1 h2).keep m (upd_ne ne) fun dx z => by
      have nd : dx ≠ a := fun y => hw b (y ▸ z)
      rw [upd_ne nd]
      exact z
theorem Rel.to (r : Rel K ρ hs env σ st H) (m : Mono ρ ρ' H H') (s : RelS K ρ' st' H') : Rel K ρ' hs env σ st' H' :=
  ⟨s, fun p hp => (r.h p hp).mono m, r.el, fun i x h => let ⟨v, e, d⟩ := r.e i x h; ⟨v, e, d.mono m.toMV⟩⟩
theorem Rel.ex (r : Rel K ρ hs env σ st H) (e : Evl.Ex H H') : Rel K ρ hs env σ st H' := r.to (Mono.ex e) (r.s.ex e)
theorem Rel.push {q : HE} (r : Rel K ρ hs env σ st H) (h : HeldR K ρ H q) : Rel K ρ (q :: hs) env σ st H :=
  ⟨r.s, fun p hp => (List.mem_cons.mp hp).elim (fun e => e ▸ h) (r.h p), r.el, r.e⟩
theorem Rel.hold {x : PV} {v : V} (r : Rel K ρ hs env σ st H) (h : PVr K ρ H x v) : Rel K ρ (.val x v :: hs) env σ st H := r.push h
theorem Rel.drop {q : HE} (r : Rel K ρ (q :: hs) env σ st H) : Rel K ρ hs env σ st H := ⟨r.s, fun p hp => r.h p (List.mem_cons_of_mem _ hp), r.el, r.e⟩
theorem Rel.top {q : HE} (r : Rel K ρ (q :: hs) env σ st H) : HeldR K ρ H q := r.h q List.mem_cons_self
theorem Rel.sub {hs' : List HE} (r : Rel K ρ hs env σ st H) (h : ∀ p ∈ hs', p ∈ hs) : Rel K ρ hs' env σ st H := ⟨r.s, fun p hp => r.h p (h p hp), r.el, r.e⟩
/-- an unlocked object changes -/
theorem Rel.put {i : Nat} {a : Addr} {u : HO} {o : PO} (r : Rel K ρ hs env σ st H) (hi : ρ[i]? = some a) (hk : ∀ w, H a = some w → isFix w = false ∧ ∀ x, w ≠ .own x) (ho : ObR K ρ (upd H a u) a o) : Rel K ρ hs env σ (st.set i o) (upd H a u) := by
  have m : Mono ρ ρ H (upd H a u) := Mono.upd (fun vs e => by have := (hk _ e).1; cases this) (fun o u e => by have := (hk _ e).1; cases this) (List.mem_of_getElem? hi)
  exact r.to m (r.s.put hi m (fun x e => (hk _ e).2 x rfl) ho)
end
end PL
set_option Elab.async false
set_option linter.all false
set_option maxRecDepth 100000
set_option maxHeartbeats 1000000
set_option autoImplicit false
namespace PL
open PySem PySem.Spec PyProof.Rows L2 LW
/-- an exception's one field -/
def fieldOf (c : Str) : Str := if c = "NoLine" then "" else if c = "NoHouse" then "why" else if c = "NoKey" then "key" else if c = "Nothing" then "key" else if c = "NoNode" then "node" else if c = "TooFar" then "node" else if c = "NoName" then "name" else if c = "NoDeed" then "at" else if c = "NoHistory" then "at" else if c = "NoText" then "at" else "number"
/-- where an exception's field lies: there is no dict where the class has no field -/
def XD (c : Str) (H : Hp) (d : Option Addr) (y : V) : Prop := (fieldOf c = "" ∧ d = none) ∨ (fieldOf c ≠ "" ∧ ∃ dd, d = some dd ∧ H dd = some (.xd [(fieldOf c, y)]))
abbrev Mx (α : Type) := Env → Store → Res α
abbrev RA (α β : Type) := List Addr → Hp → α → β → Prop
section
variable {α β γ δ : Type}
def PostG (R : RA α β) (K : Fg) (W : WX) (hs : List HE) (env : Env) (σ : L2.St) (Q : β → Hp → Prop) : Res α → Prop
  | .ok a st => ∀ ρ H b, Rel K ρ hs env σ st H → R ρ H a b → Q b H
  | .exc c x st => ∀ ρ H d y, Rel K ρ hs env σ st H → XD c H d y → PVr K ρ H x y → W (.ref (He.ga K c)) d σ H
  | .bad => False
/-- a reading is answered by what the pure function gives -/
def Sim (R : RA α β) (K : Fg) (W : WX) (t : L2.St → Hp → (β → Hp → Prop) → Prop) (m : Mx α) : Prop :=
  ∀ ρ hs env σ st H Q, Rel K ρ hs env σ st H → PostG R K W hs env σ Q (m env st) → t σ H Q
variable {R : RA α β} {S : RA γ δ} {K : Fg} {W : WX} {hs : List HE} {env : Env} {σ : L2.St} {st : Store} {H : Hp} {ρ : List Addr}
theorem PostG.bnd {Q : δ → Hp → Prop} {Q' : β → Hp → Prop} {r : Res α} {k : α → Store → Res γ} (h : PostG S K W hs env σ Q (r.bnd k))
    (f : ∀ a st, r = .ok a st → PostG S K W hs env σ Q (k a st) → ∀ ρ H b, Rel K ρ hs env σ st H → R ρ H a b → Q' b H) : PostG R K W hs env σ Q' r := by
  cases r with
  | ok a st => exact fun ρ H b rl d => f a st rfl h ρ H b rl d
  | exc c x st => exact h
  | bad => exact h
/-- more is held -/
theorem PostG.hold {Q : β → Hp → Prop} {q : HE} {r : Res α} (h : PostG R K W hs env σ Q r) : PostG R K W (q :: hs) env σ Q r := by
  cases r with
  | ok a st => exact fun ρ H b rl d => h ρ H b rl.drop d
  | exc c x st => exact fun ρ H d y rl => h ρ H d y rl.drop
  | bad => exact h
theorem PostG.held {Q : β → Hp → Prop} {hs' : List HE} {r : Res α} (h : PostG R K W hs env σ Q r) (hh : ∀ p ∈ hs, p ∈ hs') : PostG R K W hs' env σ Q r := by
  cases r with
  | ok a st => exact fun ρ H b rl d => h ρ H b (rl.sub hh) d
  | exc c x st => exact fun ρ H d y rl => h ρ H d y (rl.sub hh)
  | bad => exact h
theorem PostG.imp {Q Q' : β → Hp → Prop} {r : Res α} (h : PostG R K W hs env σ Q r) (f : ∀ a st, r = .ok a st → ∀ ρ H b, Rel K ρ hs env σ st H → R ρ H a b → Q b H → Q' b H) : PostG R K W hs env σ Q' r := by
  cases r with
  | ok a st => exact fun ρ H b rl d => f a st rfl ρ H b rl d (h ρ H b rl d)
  | exc c x st => exact h
  | bad => exact h
end
abbrev RV (K : Fg) : RA PV V := PVr K
abbrev RB : RA Bool Bool := fun _ _ a b => b = a
abbrev RVs (K : Fg) : RA (List PV) (List V) := PVrs K
/-- the reading of a pure function -/
def rG {α β : Type} (R : RA α β) (K : Fg) (W : WX) (m : Mx α) : L2.St → Hp → (β → Hp → Prop) → Prop := fun σ H Q => ∃ ρ hs env st, Rel K ρ hs env σ st H ∧ PostG R K W hs env σ Q (m env st)
theorem Sim.self {α β : Type} {R : RA α β} {K : Fg} {W : WX} {m : Mx α} : Sim R K W (rG R K W m) m := fun ρ hs env σ st H Q r p => ⟨ρ, hs, env, st, r, p⟩
theorem Sim.go {α β : Type} {R : RA α β} {K : Fg} {W : WX} {m : Mx α} {t : L2.St → Hp → (β → Hp → Prop) → Prop} {σ : L2.St} {H : Hp} {Q : β → Hp → Prop} (s : Sim R K W t m) (h : rG R K W m σ H Q) : t σ H Q := let ⟨ρ, hs, env, st, r, p⟩ := h; s ρ hs env σ st H Q r p
structure PX (X : Cx) (W : WX) (e : Expr) (m : Mx PV) : Prop where
  pe : PE X e (rG (RV X.K) X.K W m)
structure PXt (X : Cx) (W : WX) (e : Expr) (m : Mx Bool) : Prop where
  pe : PT X e (rG RB X.K W m)
structure PXw (X : Cx) (W : WX) (e : Expr) (m : Mx Bool) : Prop where
  pe : PW X e (rG RB X.K W m)
structure PXa (X : Cx) (W : WX) (es : List Expr) (m : Mx (List PV)) : Prop where
  pe : PA X es (rG (RVs X.K) X.K W m)
section
variable {X : Cx} {W : WX} {e : Expr} {es : List Expr}
theorem PX.ex {m : Mx PV} (h : PX X W e m) : ∃ te, PE X e te ∧ Sim (RV X.K) X.K W te m := ⟨_, h.pe, Sim.self⟩
theorem PX.of {m : Mx PV} {te : TE} (p : PE X e te) (s : Sim (RV X.K) X.K W te m) : PX X W e m := ⟨⟨fun pins sh σ H Q I h => p.run pins sh σ H Q I (s.go h)⟩⟩
theorem PXt.ex {m : Mx Bool} (h : PXt X W e m) : ∃ te, PT X e te ∧ Sim RB X.K W te m := ⟨_, h.pe, Sim.self⟩
theorem PXt.of {m : Mx Bool} {te : TT} (p : PT X e te) (s : Sim RB X.K W te m) : PXt X W e m := ⟨⟨fun pins sh σ H Q I h => p.run pins sh σ H Q I (s.go h)⟩⟩
theorem PXw.ex {m : Mx Bool} (h : PXw X W e m) : ∃ te, PW X e te ∧ Sim RB X.K W te m := ⟨_, h.pe, Sim.self⟩
theorem PXw.of {m : Mx Bool} {te : TT} (p : PW X e te) (s : Sim RB X.K W te m) : PXw X W e m := ⟨⟨fun wh pins sh σ H Q I h => p.run wh pins sh σ H Q I (s.go h)⟩⟩
theorem PXa.ex {m : Mx (List PV)} (h : PXa X W es m) : ∃ te, PA X es te ∧ Sim (RVs X.K) X.K W te m := ⟨_, h.pe, Sim.self⟩
theorem PXa.of {m : Mx (List PV)} {te : TA} (p : PA X es te) (s : Sim (RVs X.K) X.K W te m) : PXa X W es m := ⟨⟨fun pos pins sh σ H Q I h => p.run pos pins sh σ H Q I (s.go h)⟩⟩
end
/-! ### what an operation gives -/
def Op1 (K : Fg) (r : V → Hp → VK → Prop) (φ : PV → Store → Res PV) : Prop := ∀ W ρ hs env σ st H Q a x, Rel K ρ hs env σ st H → PVr K ρ H a x → PostG (RV K) K W hs env σ Q (φ a st) → r x H Q
def Op2 (K : Fg) (r : R2) (φ : PV → PV → Store → Res PV) : Prop := ∀ W ρ hs env σ st H Q a b x y, Rel K ρ hs env σ st H → PVr K ρ H a x → PVr K ρ H b y → PostG (RV K) K W hs env σ Q (φ a b st) → r x y H Q
def OpA (K : Fg) (r : List V → Hp → VK → Prop) (φ : List PV → Store → Res PV) : Prop := ∀ W ρ hs env σ st H Q as xs, Rel K ρ hs env σ st H → PVrs K ρ H as xs → PostG (RV K) K W hs env σ Q (φ as st) → r xs H Q
def OpM (K : Fg) (r : V → List V → Hp → VK → Prop) (φ : PV → List PV → Store → Res PV) : Prop := ∀ W ρ hs env σ st H Q a as x xs, Rel K ρ hs env σ st H → PVr K ρ H a x → PVrs K ρ H as xs → PostG (RV K) K W hs env σ Q (φ a as st) → r x xs H Q
/-! ### pure expressions -/
def mVar (i : Nat) : Mx PV := fun env st => match env[i]? with
  | some (some v) => .ok v st
  | _ => .bad
def mC (v : PV) : Mx PV := fun _ st => .ok v st
def mUn (φ : PV → Store → Res PV) (a : Mx PV) : Mx PV := fun env st => (a env st).bnd fun x s1 => φ x s1
def mOp (φ : PV → PV → Store → Res PV) (a b : Mx PV) : Mx PV := fun env st => (a env st).bnd fun x s1 => (b env s1).bnd fun y s2 => φ x y s2
def mNil : Mx (List PV) := fun _ st => .ok [] st
def mCons (a : Mx PV) (as : Mx (List PV)) : Mx (List PV) := fun env st => (a env st).bnd fun x s1 => (as env s1).bnd fun xs s2 => .ok (x :: xs) s2
def mCB (φ : List PV → Store → Res PV) (as : Mx (List PV)) : Mx PV := fun env st => (as env st).bnd fun xs s1 => φ xs s1
def mB (a : Mx PV) : Mx Bool := fun env st => (a env st).bnd fun x s1 => match x with
  | .bl b => .ok b s1
  | _ => .bad
def mAnd (a b : Mx Bool) : Mx Bool := fun env st => (a env st).bnd fun x s1 => if x = true then b env s1 else .ok false s1
def mOr (a b : Mx Bool) : Mx Bool := fun env st => (a env st).bnd fun x s1 => if x = true then .ok true s1 else b env s1
def mNot (a : Mx Bool) : Mx Bool := fun env st => (a env st).bnd fun x s1 => .ok (!x) s1
def mAndV (a b : Mx PV) : Mx PV := fun env st => (a env st).bnd fun x s1 => match x with
  | .bl true => b env s1
  | .bl false => .ok (.bl false) s1
  | _ => .bad
def mOrV (a b : Mx PV) : Mx PV := fun env st => (a env st).bnd fun x s1 => match x with
  | .bl false => b env s1
  | .bl true => .ok (.bl true) s1
  | _ => .bad
def mNotV (a : Mx PV) : Mx PV := fun env st => (a env st).bnd fun x s1 => match x with
  | .bl b => .ok (.bl (!b)) s1
  | _ => .bad
def mIf (t : Mx Bool) (a b : Mx PV) : Mx PV := fun env st => (t env st).bnd fun x s1 => if x = true then a env s1 else b env s1
def mTup (as : Mx (List PV)) : Mx PV := fun env st => (as env st).bnd fun xs s1 => if xs.length ≤ sizeLine then .ok (.tup xs) s1 else .bad
def alloc (o : PO) (st : Store) : Res PV := .ok (.ref st.length) (st ++ [o])
def mLst (as : Mx (List PV)) : Mx PV := fun env st => (as env st).bnd fun xs s1 => if xs.length ≤ sizeLine then alloc (.lst xs) s1 else .bad
section
variable {X : Cx} {W : WX} {K : Fg} {hs : List HE} {env : Env} {σ : L2.St} {st : Store} {H : Hp} {ρ : List Addr} {Q : VK}
/-- a new tuple -/
theorem Rel.tup {p : Addr} {xs : List PV} {vs : List V} (r : Rel K ρ hs env σ st H) (hp : H p = none) (h : PVrs K ρ H xs vs) : Rel K ρ hs env σ st (upd H p (.tup vs)) ∧ PVr K ρ (upd H p (.tup vs)) (.tup xs) (.ref p) := by
  have e := Evl.Ex.new (o := .tup vs) hp
  exact ⟨r.ex e, p, vs, rfl, upd_same, h.mono (MV.ex e)⟩
/-- a new object -/
theorem Rel.alloc {p : Addr} {o : PO} {u : HO} (r : Rel K ρ hs env σ st H) (hp : H p = none) (ho : ObR K (ρ ++ [p]) (upd H p u) p o) : Rel K (ρ ++ [p]) hs env σ (st ++ [o]) (upd H p u) ∧ PVr K (ρ ++ [p]) (upd H p u) (.ref st.length) (.ref p) := by
  have e := Evl.Ex.new (o := u) hp
  refine ⟨r.to (Mono.push e hp) (r.s.alloc e hp ho), p, ?_, rfl⟩
  rw [← r.s.len]
  simp
theorem Rel.lst {p : Addr} {xs : List PV} {vs : List V} (r : Rel K ρ hs env σ st H) (hp : H p = none) (h : PVrs K ρ H xs vs) : Rel K (ρ ++ [p]) hs env σ (st ++ [.lst xs]) (upd H p (.lst vs)) ∧ PVr K (ρ ++ [p]) (upd H p (.lst vs)) (.ref st.length) (.ref p) :=
  r.alloc hp ⟨vs, upd_same, h.mono (MV.push (Evl.Ex.new hp))⟩
theorem px_var {i : Nat} {x : Str} {pos : Pos} (hN : X.N[i]? = some x) (hv : Vis X.env.scope x) (hd : (x == ("__debug__" : Str)) = false := by decide) (hcd : (x == ("__classdict__" : Str)) = false := by decide) : PX X W (.Name x pos) (mVar i) := by
  refine .of (pe_var hN hv hd hcd) fun ρ hs env σ st H Q r p => ?_
  unfold mVar at p
  cases h : env[i]? with
  | none => rw [h] at p; exact p.elim
  | some o =>
    rw [h] at p
    cases o with
    | none => exact p.elim
    | some v =>
      obtain ⟨u, e, d⟩ := r.e i v h
      exact ⟨u, e, p ρ H u r d⟩
theorem px_c {e : Expr} {v : V} {x : PV} (h : PE X e (tC v)) (hx : ∀ ρ H, PVr X.K ρ H x v) : PX X W e (mC x) := .of h fun ρ hs env σ st H Q r p => p ρ H v r (hx ρ H)
theorem px_int {i j pos} : PX X W (.Constant (.int i) j pos) (mC (.int i)) := px_c pe_int fun _ _ => rfl
theorem px_bl {b j pos} : PX X W (.Constant (.bool b) j pos) (mC (.bl b)) := px_c pe_bl fun _ _ => rfl
theorem px_non {j pos} : PX X W (.Constant .none j pos) (mC .non) := px_c pe_non fun _ _ => rfl
theorem px_str {x j pos} : PX X W (.Constant (.str x) j pos) (mC (.str x)) := px_c pe_str fun _ _ => rfl
/-- two in a row -/
theorem sim_op {r : R2} {φ : PV → PV → Store → Res PV} {ta tb : TE} {ma mb : Mx PV} (ho : Op2 K r φ) (ha : Sim (RV K) K W ta ma) (hb : Sim (RV K) K W tb mb) : Sim (RV K) K W (tOp r ta tb) (mOp φ ma mb) := by
  intro ρ hs env σ st H Q rl p
  refine ha ρ hs env σ st H _ rl (p.bnd fun a s1 _ p1 ρ1 H1 x r1 dx => ?_)
  refine hb ρ1 (.val a x :: hs) env σ s1 H1 _ (r1.hold dx) (p1.hold.bnd fun b s2 _ p2 ρ2 H2 y r2 dy => ?_)
  exact ho W ρ2 _ env σ s2 H2 Q a b x y r2 r2.top dy p2
theorem sim_un {r : V → Hp → VK → Prop} {φ : PV → Store → Res PV} {ta : TE} {ma : Mx PV} (ho : Op1 K r φ) (ha : Sim (RV K) K W ta ma) : Sim (RV K) K W (tUn r ta) (mUn φ ma) := by
  intro ρ hs env σ st H Q rl p
  refine ha ρ hs env σ st H _ rl (p.bnd fun a s1 _ p1 ρ1 H1 x r1 dx => ?_)
  exact ho W ρ1 _ env σ s1 H1 Q a x r1 dx p1
theorem px_op {op : Operator} {a b : Expr} {pos : Pos} {r : R2} {φ : PV → PV → Store → Res PV} {ma mb : Mx PV} (ho : OpR X (binaryOp op) r) (hs : Op2 X.K r φ) (ha : PX X W a ma) (hb : PX X W b mb) : PX X W (.BinOp a op b pos) (mOp φ ma mb) :=
  let ⟨_, pa, sa⟩ := ha.ex; let ⟨_, pb, sb⟩ := hb.ex; .of (pe_op ho pa pb) (sim_op hs sa sb)
theorem px_un {op : UnaryOp} {a : Expr} {pos : Pos} {r : V → Hp → VK → Prop} {φ : PV → Store → Res PV} {ma : Mx PV} (ho : UnR X (unaryOp op) r) (hs : Op1 X.K r φ) (ha : PX X W a ma) : PX X W (.UnaryOp op a pos) (mUn φ ma) :=
  let ⟨_, pa, sa⟩ := ha.ex; .of (pe_un ho pa) (sim_un hs sa)
theorem px_cmp {op : CmpOp} {a b : Expr} {pos : Pos} {r : R2} {φ : PV → PV → Store → Res PV} {ma mb : Mx PV} (ho : OpR X (compareOp op) r) (hs : Op2 X.K r φ) (ha : PX X W a ma) (hb : PX X W b mb) (hm : behindInMarks op b = false) : PX X W (.Compare a [op] [b] pos) (mOp φ ma mb) :=
  let ⟨_, pa, sa⟩ := ha.ex; let ⟨_, pb, sb⟩ := hb.ex; .of (pe_cmpR ho pa pb hm) (sim_op hs sa sb)
theorem sim_test {t : TE} {m : Mx PV} (h : Sim (RV K) K W t m) : Sim RB K W (tTest t) (mB m) := by
  intro ρ hs env σ st H Q rl p
  refine h ρ hs env σ st H _ rl (p.bnd fun a s1 _ p1 ρ1 H1 x r1 dx => ?_)
  cases a with
  | bl b => exact ⟨b, dx, p1 ρ1 H1 b r1 rfl⟩
  | _ => exact p1.elim
theorem pxt_cmp {op : CmpOp} {a b : Expr} {pos : Pos} {r : R2} {φ : PV → PV → Store → Res PV} {ma mb : Mx PV} (ho : OpR X (compareOp op) r) (hs : Op2 X.K r φ) (ha : PX X W a ma) (hb : PX X W b mb) (hm : behindInMarks op b = false) : PXt X W (.Compare a [op] [b] pos) (mB (mOp φ ma mb)) :=
  let ⟨_, pa, sa⟩ := ha.ex; let ⟨_, pb, sb⟩ := hb.ex; .of (pt_cmpR ho pa pb hm) (sim_test (sim_op hs sa sb))
theorem pxt_val {e : Expr} {m : Mx PV} (h : PX X W e m) (he : ∀ whole, isTrue e X.env whole = (do let v ← whole; standAt e.pos; holding [v] (truthy v)) := by intro _; rfl) : PXt X W e (mB m) :=
  let ⟨_, pa, sa⟩ := h.ex; .of (pt_val pa he) (sim_test sa)
/-- a < b < c -/
def mChain (φ ψ : PV → PV → Store → Res PV) (a b c : Mx PV) : Mx PV := fun env st => (a env st).bnd fun x s1 => (b env s1).bnd fun y s2 => (φ x y s2).bnd fun k s3 => match k with
  | .bl true => (c env s3).bnd fun z s4 => ψ y z s4
  | .bl false => .ok (.bl false) s3
  | _ => .bad
theorem sim_and {t u : TT} {m n : Mx Bool} (h : Sim RB K W t m) (g : Sim RB K W u n) : Sim RB K W (tAnd t u) (mAnd m n) := by
  intro ρ hs env σ st H Q rl p
  refine h ρ hs env σ st H _ rl (p.bnd fun a s1 _ p1 ρ1 H1 x r1 dx => ?_)
  cases dx
  cases a with
  | true => rw [if_pos rfl] at p1 ⊢; exact g ρ1 hs env σ s1 H1 Q r1 p1
  | false => rw [if_neg (by decide)] at p1 ⊢; exact p1 ρ1 H1 _ r1 rfl
theorem sim_or {t u : TT} {m n : Mx Bool} (h : Sim RB K W t m) (g : Sim RB K W u n) : Sim RB K W (tOr t u) (mOr m n) := by
  intro ρ hs env σ st H Q rl p
  refine h ρ hs env σ st H _ rl (p.bnd fun a s1 _ p1 ρ1 H1 x r1 dx => ?_)
  cases dx
  cases a with
  | false => rw [if_neg (by decide)] at p1 ⊢; exact g ρ1 hs env σ s1 H1 Q r1 p1
  | true => rw [if_pos rfl] at p1 ⊢; exact p1 ρ1 H1 _ r1 rfl
theorem sim_not {t : TT} {m : Mx Bool} (h : Sim RB K W t m) : Sim RB K W (tNot t) (mNot m) := by
  intro ρ hs env σ st H Q rl p
  refine h ρ hs env σ st H _ rl (p.bnd fun a s1 _ p1 ρ1 H1 x r1 dx => ?_)
  cases dx
  exact p1 ρ1 H1 _ r1 rfl
theorem pxw_and1 {a : Expr} {pos : Pos} {m : Mx Bool} (ha : PXt X W a m) : PXw X W (.BoolOp .And [a] pos) m := let ⟨_, p, s⟩ := ha.ex; .of (pw_and1 p) (s)
theorem pxw_or1 {a : Expr} {pos : Pos} {m : Mx Bool} (ha : PXt X W a m) : PXw X W (.BoolOp .Or [a] pos) m := let ⟨_, p, s⟩ := ha.ex; .of (pw_or1 p) (s)
theorem pxw_and {a b : Expr} {rest : List Expr} {pos : Pos} {m n : Mx Bool} (ha : PXt X W a m) (hb : PXw X W (.BoolOp .And (b :: rest) pos) n) : PXw X W (.BoolOp .And (a :: b :: rest) pos) (mAnd m n) := let ⟨_, p, s⟩ := ha.ex; let ⟨_, q, u⟩ := hb.ex; .of (pw_and p q) (sim_and s u)
theorem pxw_or {a b : Expr} {rest : List Expr} {pos : Pos} {m n : Mx Bool} (ha : PXt X W a m) (hb : PXw X W (.BoolOp .Or (b :: rest) pos) n) : PXw X W (.BoolOp .Or (a :: b :: rest) pos) (mOr m n) := let ⟨_, p, s⟩ := ha.ex; let ⟨_, q, u⟩ := hb.ex; .of (pw_or p q) (sim_or s u)
theorem PXw.pt {e : Expr} {m : Mx Bool} (h : PXw X W e m) : PXt X W e m := let ⟨_, p, s⟩ := h.ex; .of (p.pt) (s)
theorem pxt_not {a : Expr} {pos : Pos} {m : Mx Bool} (ha : PXt X W a m) : PXt X W (.UnaryOp .Not a pos) (mNot m) := let ⟨_, p, s⟩ := ha.ex; .of (pt_not p) (sim_not s)
theorem sim_andV {t u : TE} {m n : Mx PV} (h : Sim (RV K) K W t m) (g : Sim (RV K) K W u n) : Sim (RV K) K W (tAndV t u) (mAndV m n) := by
  intro ρ hs env σ st H Q rl p
  refine h ρ hs env σ st H _ rl (p.bnd fun a s1 _ p1 ρ1 H1 x r1 dx => ?_)
  cases a with
  | bl b =>
    refine ⟨b, dx, ?_⟩
    cases b with
    | true => rw [if_pos rfl]; exact g ρ1 hs env σ s1 H1 Q r1 p1
    | false => rw [if_neg (by decide)]; exact p1 ρ1 H1 _ r1 rfl
  | _ => exact p1.elim
theorem sim_orV {t u : TE} {m n : Mx PV} (h : Sim (RV K) K W t m) (g : Sim (RV K) K W u n) : Sim (RV K) K W (tOrV t u) (mOrV m n) := by
  intro ρ hs env σ st H Q rl p
  refine h ρ hs env σ st H _ rl (p.bnd fun a s1 _ p1 ρ1 H1 x r1 dx => ?_)
  cases a with
  | bl b =>
    refine ⟨b, dx, ?_⟩
    cases b with
    | false => rw [if_neg (by decide)]; exact g ρ1 hs env σ s1 H1 Q r1 p1
    | true => rw [if_pos rfl]; exact p1 ρ1 H1 _ r1 rfl
  | _ => exact p1.elim
theorem sim_notV {t : TE} {m : Mx PV} (h : Sim (RV K) K W t m) : Sim (RV K) K W (tNotV t) (mNotV m) := by
  intro ρ hs env σ st H Q rl p
  refine h ρ hs env σ st H _ rl (p.bnd fun a s1 _ p1 ρ1 H1 x r1 dx => ?_)
  cases a with
  | bl b => exact ⟨b, dx, p1 ρ1 H1 _ r1 rfl⟩
  | _ => exact p1.elim
theorem px_one {op} {a : Expr} {pos : Pos} {m : Mx PV} (h : PX X W a m) : PX X W (.BoolOp op [a] pos) m := let ⟨_, p, s⟩ := h.ex; .of (pe_one p) (s)
theorem px_and {a b : Expr} {rest : List Expr} {pos : Pos} {m n : Mx PV} (ha : PX X W a m) (hb : PX X W (.BoolOp .And (b :: rest) pos) n) : PX X W (.BoolOp .And (a :: b :: rest) pos) (mAndV m n) := let ⟨_, p, s⟩ := ha.ex; let ⟨_, q, u⟩ := hb.ex; .of (pe_and p q) (sim_andV s u)
theorem px_or {a b : Expr} {rest : List Expr} {pos : Pos} {m n : Mx PV} (ha : PX X W a m) (hb : PX X W (.BoolOp .Or (b :: rest) pos) n) : PX X W (.BoolOp .Or (a :: b :: rest) pos) (mOrV m n) := let ⟨_, p, s⟩ := ha.ex; let ⟨_, q, u⟩ := hb.ex; .of (pe_or p q) (sim_orV s u)
theorem px_not {a : Expr} {pos : Pos} {m : Mx PV} (ha : PX X W a m) : PX X W (.UnaryOp .Not a pos) (mNotV m) := let ⟨_, p, s⟩ := ha.ex; .of (pe_not p) (sim_notV s)
theorem sim_if {t : TT} {u v : TE} {c : Mx Bool} {m n : Mx PV} (h : Sim RB K W t c) (g : Sim (RV K) K W u m) (k : Sim (RV K) K W v n) : Sim (RV K) K W (tIf t u v) (mIf c m n) := by
  intro ρ hs env σ st H Q rl p
  refine h ρ hs env σ st H _ rl (p.bnd fun a s1 _ p1 ρ1 H1 x r1 dx => ?_)
  cases dx
  cases a with
  | true => rw [if_pos rfl] at p1 ⊢; exact g ρ1 hs env σ s1 H1 Q r1 p1
  | false => rw [if_neg (by decide)] at p1 ⊢; exact k ρ1 hs env σ s1 H1 Q r1 p1
theorem px_if {c a b : Expr} {pos : Pos} {t : Mx Bool} {m n : Mx PV} (hc : PXt X W c t) (ha : PX X W a m) (hb : PX X W b n) : PX X W (.IfExp c a b pos) (mIf t m n) := let ⟨_, p, s⟩ := ha.ex; let ⟨_, q, u⟩ := hb.ex; let ⟨_, r, v⟩ := hc.ex; .of (pe_ifExp r p q) (sim_if v s u)
/-! ### arguments -/
theorem pxa_nil : PXa X W [] mNil := .of pa_nil fun ρ hs env σ st H Q r p => p ρ H [] r rfl
theorem sim_cons {t : TE} {u : TA} {m : Mx PV} {n : Mx (List PV)} (h : Sim (RV K) K W t m) (g : Sim (RVs K) K W u n) : Sim (RVs K) K W (tCons t u) (mCons m n) := by
  intro ρ hs env σ st H Q rl p
  refine h ρ hs env σ st H _ rl (p.bnd fun a s1 _ p1 ρ1 H1 x r1 dx => ?_)
  refine g ρ1 (.val a x :: hs) env σ s1 H1 _ (r1.hold dx) (p1.hold.bnd fun b s2 _ p2 ρ2 H2 y r2 dy => ?_)
  exact p2 ρ2 H2 _ r2 (.cons r2.top dy)
theorem pxa_cons {e : Expr} {es : List Expr} {m : Mx PV} {n : Mx (List PV)} (ha : PX X W e m) (hr : PXa X W es n) (hs : starEach (e :: es) X.env = (false, eval e X.env) :: starEach es X.env := by rfl) : PXa X W (e :: es) (mCons m n) :=
  let ⟨_, p, s⟩ := ha.ex; let ⟨_, q, u⟩ := hr.ex; .of (pa_cons p q hs) (sim_cons s u)
theorem px_tup {es : List Expr} {x1} {pos : Pos} {m : Mx (List PV)} (h : PXa X W es m) : PX X W (.Tuple es x1 pos) (mTup m) := by
  obtain ⟨t, p, s⟩ := h.ex
  refine .of (pe_tup p) fun ρ hs env σ st H Q rl p => ?_
  refine s ρ hs env σ st H _ rl (p.bnd fun a s1 _ p1 ρ1 H1 x r1 dx => ?_)
  by_cases hz : a.length ≤ sizeLine
  · rw [if_pos hz] at p1
    refine ⟨by rw [dx.len]; exact hz, fun q hq => ?_⟩
    obtain ⟨r2, d2⟩ := r1.tup hq dx
    exact p1 _ _ _ r2 d2
  · rw [if_neg hz] at p1; exact p1.elim
theorem px_lst {es : List Expr} {pos : Pos} {m : Mx (List PV)} (h : PXa X W es m) : PX X W (.List es pos) (mLst m) := by
  obtain ⟨t, p, s⟩ := h.ex
  refine .of (pe_lst p) fun ρ hs env σ st H Q rl p => ?_
  refine s ρ hs env σ st H _ rl (p.bnd fun a s1 _ p1 ρ1 H1 x r1 dx => ?_)
  by_cases hz : a.length ≤ sizeLine
  · rw [if_pos hz] at p1
    refine ⟨by rw [dx.len]; exact hz, fun q hq => ?_⟩
    obtain ⟨r2, d2⟩ := r1.lst hq dx
    exact p1 _ _ _ r2 d2
  · rw [if_neg hz] at p1; exact p1.elim
end
end PL
set_option Elab.async false
set_option linter.all false
set_option maxRecDepth 100000
set_option maxHeartbeats 1000000
set_option autoImplicit false
namespace PL
open PySem PySem.Spec PyProof.Rows L2 LW
abbrev Ms := Env → Store → Fl
abbrev Mg := PV → Env → Store → Res Env
abbrev Mgs := List PV → Env → Store → Res Env
def PostS (K : Fg) (W : WX) (hs : List HE) (D : Ends) : Fl → Prop
  | .nx env st => ∀ ρ σ H, Rel K ρ hs env σ st H → D.nx σ H
  | .rt x st => ∀ ρ H v, Rel K ρ hs [] [] st H → PVr K ρ H x v → D.rt v H
  | .bk env st => ∀ ρ σ H, Rel K ρ hs env σ st H → D.bk σ H
  | .ct env st => ∀ ρ σ H, Rel K ρ hs env σ st H → D.ct σ H
  | .exc c x env st => ∀ ρ σ H d y, Rel K ρ hs env σ st H → XD c H d y → PVr K ρ H x y → W (.ref (He.ga K c)) d σ H
  | .bad => False
def SimS (K : Fg) (W : WX) (t : TS) (m : Ms) : Prop := ∀ ρ hs env σ st H D, Rel K ρ hs env σ st H → PostS K W hs D (m env st) → t D σ H
def rS (K : Fg) (W : WX) (m : Ms) : TS := fun D σ H => ∃ ρ hs env st, Rel K ρ hs env σ st H ∧ PostS K W hs D (m env st)
theorem SimS.self {K : Fg} {W : WX} {m : Ms} : SimS K W (rS K W m) m := fun ρ hs env σ st H D r p => ⟨ρ, hs, env, st, r, p⟩
theorem SimS.go {K : Fg} {W : WX} {m : Ms} {t : TS} {D : Ends} {σ : L2.St} {H : Hp} (s : SimS K W t m) (h : rS K W m D σ H) : t D σ H := let ⟨ρ, hs, env, st, r, p⟩ := h; s ρ hs env σ st H D r p
structure PXS (X : Cx) (W : WX) (st : Stmt) (m : Ms) : Prop where
  pe : PS X st (rS X.K W m)
structure PXB (X : Cx) (W : WX) (sts : List Stmt) (m : Ms) : Prop where
  pe : PSs X sts (rS X.K W m)
theorem PXS.of {X : Cx} {W : WX} {st : Stmt} {m : Ms} {t : TS} (p : PS X st t) (s : SimS X.K W t m) : PXS X W st m := ⟨⟨fun pins sh σ H D I h => p.run pins sh σ H D I (s.go h)⟩⟩
theorem PXB.of {X : Cx} {W : WX} {st : List Stmt} {m : Ms} {t : TS} (p : PSs X st t) (s : SimS X.K W t m) : PXB X W st m := ⟨⟨fun pins sh σ H D I h => p.run pins sh σ H D I (s.go h)⟩⟩
section
variable {K : Fg} {W : WX} {hs : List HE} {env : Env} {σ : L2.St} {st : Store} {H : Hp} {ρ : List Addr} {D : Ends}
theorem Rel.noenv (r : Rel K ρ hs env σ st H) : Rel K ρ hs [] [] st H := ⟨r.s, r.h, rfl, fun i x h => by simp at h⟩
theorem PostG.stm {α β : Type} {R : RA α β} {Q : β → Hp → Prop} {r : Res α} {k : α → Store → Fl} (h : PostS K W hs D (r.stm env k))
    (f : ∀ a st, r = .ok a st → PostS K W hs D (k a st) → ∀ ρ H b, Rel K ρ hs env σ st H → R ρ H a b → Q b H) : PostG R K W hs env σ Q r := by
  cases r with
  | ok a st => exact fun ρ H b rl d => f a st rfl h ρ H b rl d
  | exc c x st => exact fun ρ H d y => h ρ σ H d y
  | bad => exact h
theorem PostS.hold {q : HE} {r : Fl} (h : PostS K W hs D r) : PostS K W (q :: hs) D r := by
  cases r with
  | nx env st => exact fun ρ σ H rl => h ρ σ H rl.drop
  | rt x st => exact fun ρ H v rl => h ρ H v rl.drop
  | bk env st => exact fun ρ σ H rl => h ρ σ H rl.drop
  | ct env st => exact fun ρ σ H rl => h ρ σ H rl.drop
  | exc c x env st => exact fun ρ σ H d y rl => h ρ σ H d y rl.drop
  | bad => exact h
end
/-! ### plain statements -/
def mNext : Ms := fun env st => .nx env st
def Fl.then : Fl → Ms → Fl
  | .nx env st, k => k env st
  | f, _ => f
@[simp] theorem then_nx {env : Env} {st : Store} {k : Ms} : (Fl.nx env st).then k = k env st := rfl
@[simp] theorem then_rt {v : PV} {st : Store} {k : Ms} : (Fl.rt v st).then k = .rt v st := rfl
@[simp] theorem then_bk {env : Env} {st : Store} {k : Ms} : (Fl.bk env st).then k = .bk env st := rfl
@[simp] theorem then_ct {env : Env} {st : Store} {k : Ms} : (Fl.ct env st).then k = .ct env st := rfl
@[simp] theorem then_exc {c : Str} {x : PV} {env : Env} {st : Store} {k : Ms} : (Fl.exc c x env st).then k = .exc c x env st := rfl
@[simp] theorem then_bad {k : Ms} : (Fl.bad).then k = .bad := rfl
def mSeq (a b : Ms) : Ms := fun env st => (a env st).then b
def mDrop (a : Mx PV) : Ms := fun env st => (a env st).stm env fun _ s1 => .nx env s1
def mRet (a : Mx PV) : Ms := fun env st => (a env st).stm env fun v s1 => .rt v s1
def mRetN : Ms := fun _ st => .rt .non st
def mIfS (c : Mx Bool) (a b : Ms) : Ms := fun env st => (c env st).stm env fun x s1 => if x = true then a env s1 else b env s1
def mNever : Ms := fun _ _ => .bad
def mNeverE : Mx PV := fun _ _ => .bad
section
variable {X : Cx} {W : WX} {K : Fg} {pos : Pos}
theorem pxb_nil : PXB X W [] mNext := .of pss_nil fun ρ hs env σ st H D r p => p ρ σ H r
theorem sim_seq {t u : TS} {m n : Ms} (h : SimS K W t m) (g : SimS K W u n) : SimS K W (tSeq t u) (mSeq m n) := by
  intro ρ hs env σ st H D r p
  refine h ρ hs env σ st H _ r ?_
  unfold mSeq at p
  cases e : m env st with
  | nx env' st' => rw [e] at p; exact fun ρ' σ' H' r' => g ρ' hs env' σ' st' H' D r' p
  | rt v st' => rw [e] at p; exact p
  | bk env' st' => rw [e] at p; exact p
  | ct env' st' => rw [e] at p; exact p
  | exc c x env' st' => rw [e] at p; exact p
  | bad => rw [e] at p; exact p
theorem pxb_cons {st : Stmt} {rest : List Stmt} {m n : Ms} (h : PXS X W st m) (g : PXB X W rest n) : PXB X W (st :: rest) (mSeq m n) := .of (pss_cons h.pe g.pe) (sim_seq SimS.self SimS.self)
theorem pxb_one {st : Stmt} {m : Ms} (h : PXS X W st m) : PXB X W [st] m := .of (pss_one h.pe) SimS.self
theorem pxs_pass : PXS X W (.Pass pos) mNext := .of ps_pass fun ρ hs env σ st H D r p => p ρ σ H r
theorem pxs_break : PXS X W (.Break pos) (fun env st => .bk env st) := .of ps_break fun ρ hs env σ st H D r p => p ρ σ H r
theorem pxs_continue : PXS X W (.Continue pos) (fun env st => .ct env st) := .of ps_continue fun ρ hs env σ st H D r p => p ρ σ H r
theorem pxs_doc {x j pos pos'} : PXS X W (.Expr (.Constant (.str x) j pos) pos') mNext := .of ps_doc fun ρ hs env σ st H D r p => p ρ σ H r
theorem pxs_expr {e : Expr} {m : Mx PV} (he : PX X W e m) (hs : swapsWith e none pos.line X.env = pure false := by rfl) : PXS X W (.Expr e pos) (mDrop m) :=
  .of (ps_expr he.pe hs) fun ρ hs env σ st H D r p => ⟨ρ, hs, env, st, r, PostG.stm (σ := σ) p fun a s1 _ q ρ1 H1 b r1 _ => q ρ1 σ H1 r1⟩
theorem pxs_ret {e : Expr} {m : Mx PV} (he : PX X W e m) : PXS X W (.Return (some e) pos) (mRet m) :=
  .of (ps_ret he.pe) fun ρ hs env σ st H D r p => ⟨ρ, hs, env, st, r, PostG.stm (σ := σ) p fun a s1 _ q ρ1 H1 b r1 d => q ρ1 H1 b r1.noenv d⟩
theorem pxs_retN : PXS X W (.Return none pos) mRetN := .of ps_retN fun ρ hs env σ st H D r p => p ρ H .non r.noenv rfl
theorem pxs_if {c : Expr} {a b : List Stmt} {tc : Mx Bool} {m n : Ms} (hc : PXt X W c tc) (ha : PXB X W a m) (hb : PXB X W b n) : PXS X W (.If c a b pos) (mIfS tc m n) :=
  .of (ps_if hc.pe ha.pe hb.pe) fun ρ hs env σ st H D r p => ⟨ρ, hs, env, st, r, PostG.stm (σ := σ) p fun a s1 _ q ρ1 H1 b r1 d => by
    cases d
    cases a with
    | true => rw [if_pos rfl] at q ⊢; exact ⟨ρ1, hs, env, s1, r1, q⟩
    | false => rw [if_neg (by decide)] at q ⊢; exact ⟨ρ1, hs, env, s1, r1, q⟩⟩
theorem pxs_never {st : Stmt} : PXS X W st mNever := .of ps_never fun ρ hs env σ st H D r p => p
theorem pxb_never {sts : List Stmt} : PXB X W sts mNever := .of pss_never fun ρ hs env σ st H D r p => p
theorem px_never {e : Expr} : PX X W e mNeverE := .of pe_never fun ρ hs env σ st H D r p => p
end
/-! ### targets -/
/-- only the slots vs change -/
def OnlyAt (vs : List Nat) (σ0 σ : L2.St) : Prop := σ.length = σ0.length ∧ ∀ i, i ∉ vs → σ[i]? = σ0[i]?
theorem OnlyAt.refl {σ : L2.St} : OnlyAt [] σ σ := ⟨rfl, fun _ _ => rfl⟩
theorem OnlyAt.trans {vs ws : List Nat} {σ0 σ1 σ2 : L2.St} (a : OnlyAt vs σ0 σ1) (b : OnlyAt ws σ1 σ2) : OnlyAt (vs ++ ws) σ0 σ2 :=
  ⟨b.1.trans a.1, fun i hi => (b.2 i fun h => hi (List.mem_append_right _ h)).trans (a.2 i fun h => hi (List.mem_append_left _ h))⟩
def PostT (K : Fg) (hs : List HE) (vs : List Nat) (σ0 : L2.St) (Q : L2.St → Hp → Prop) : Res Env → Prop
  | .ok env st => ∀ ρ σ H, Rel K ρ hs env σ st H → OnlyAt vs σ0 σ → Q σ H
  | _ => False
def SimT (K : Fg) (vs : List Nat) (g : TG) (m : Mg) : Prop := ∀ ρ hs env σ st H Q x v, Rel K ρ hs env σ st H → PVr K ρ H x v → PostT K hs vs σ Q (m x env st) → g v σ H Q
def SimTs (K : Fg) (vs : List Nat) (g : TGs) (m : Mgs) : Prop := ∀ ρ hs env σ st H Q x v, Rel K ρ hs env σ st H → PVrs K ρ H x v → PostT K hs vs σ Q (m x env st) → g v σ H Q
def rT (K : Fg) (vs : List Nat) (m : Mg) : TG := fun v σ H Q => ∃ ρ hs env st x, Rel K ρ hs env σ st H ∧ PVr K ρ H x v ∧ PostT K hs vs σ Q (m x env st)
def rTs (K : Fg) (vs : List Nat) (m : Mgs) : TGs := fun v σ H Q => ∃ ρ hs env st x, Rel K ρ hs env σ st H ∧ PVrs K ρ H x v ∧ PostT K hs vs σ Q (m x env st)
structure PXG (X : Cx) (e : Expr) (vs : List Nat) (m : Mg) : Prop where
  pe : PG X e (rT X.K vs m)
structure PXGs (X : Cx) (es : List Expr) (vs : List Nat) (m : Mgs) : Prop where
  pe : PGs X es (rTs X.K vs m)
theorem PXG.of {X : Cx} {e : Expr} {vs : List Nat} {m : Mg} {g : TG} (p : PG X e g) (s : SimT X.K vs g m) : PXG X e vs m := ⟨⟨fun pins sh σ H v u Q I r h => let ⟨ρ, hs, env, st, x, rl, d, q⟩ := h; p.run pins sh σ H v u Q I r (s ρ hs env σ st H Q x v rl d q)⟩⟩
theorem PXGs.of {X : Cx} {e : List Expr} {vs : List Nat} {m : Mgs} {g : TGs} (p : PGs X e g) (s : SimTs X.K vs g m) : PXGs X e vs m := ⟨⟨fun pins sh σ H v u Q I r h => let ⟨ρ, hs, env, st, x, rl, d, q⟩ := h; p.run pins sh σ H v u Q I r (s ρ hs env σ st H Q x v rl d q)⟩⟩
def gN (i : Nat) : Mg := fun x env st => .ok (env.set i (some x)) st
def gNi : Mgs := fun xs env st => match xs with
  | [] => .ok env st
  | _ => .bad
def gCo (a : Mg) (b : Mgs) : Mgs := fun xs env st => match xs with
  | x :: r => (a x env st).bnd fun env1 st1 => b r env1 st1
  | [] => .bad
/-- the items of a thing that is unpacked or walked -/
def itemsOf (st : Store) : PV → Option (List PV)
  | .tup xs => some xs
  | .wtp xs => some xs
  | .ref i => match st[i]? with
    | some (.lst xs) => some xs
    | some (.ro xs) => some xs
    | _ => none
  | _ => none
def gU (n : Nat) (b : Mgs) : Mg := fun x env st => match itemsOf st x with
  | some xs => if xs.length = n then b xs env st else .bad
  | none => .bad
def gS (k : Nat) (b : Mgs) : Mg := fun x env st => match itemsOf st x with
  | some xs => if k ≤ xs.length then b (xs.take k ++ [.ref st.length]) env (st ++ [.lst (xs.drop k)]) else .bad
  | none => .bad
section
variable {X : Cx} {K : Fg} {hs : List HE} {env : Env} {σ : L2.St} {st : Store} {H : Hp} {ρ : List Addr}
theorem Rel.set {i : Nat} {x : PV} {v : V} (r : Rel K ρ hs env σ st H) (d : PVr K ρ H x v) : Rel K ρ hs (env.set i (some x)) (σ.set i (some v)) st H := by
  refine ⟨r.s, r.h, by simp [r.el], fun j y h => ?_⟩
  by_cases e : j = i
  · subst e
    by_cases hj : j < env.length
    · rw [List.getElem?_set_self hj] at h
      cases h
      exact ⟨v, List.getElem?_set_self (by rw [← r.el]; exact hj), d⟩
    · rw [List.getElem?_eq_none (by simpa using hj)] at h
      cases h
  · rw [List.getElem?_set_ne (Ne.symm e)] at h ⊢
    exact r.e j y h
theorem items_of {x : PV} {v : V} {xs : List PV} (r : Rel K ρ hs env σ st H) (d : PVr K ρ H x v) (h : itemsOf st x = some xs) : ∃ a vs, v = .ref a ∧ SqA K H a vs ∧ PVrs K ρ H xs vs := by
  cases x with
  | tup ys => cases h; obtain ⟨a, vs, h1, h2, h3⟩ := d; exact ⟨a, vs, h1, .inr (SqT.of h2), h3⟩
  | wtp ys => cases h; obtain ⟨a, vs, h1, h2, h3⟩ := d; exact ⟨a, vs, h1, .inr (h2 H), h3⟩
  | ref i =>
    obtain ⟨a, h1, h2⟩ := d
    simp only [itemsOf] at h
    cases e : st[i]? with
    | none => simp only [e] at h; cases h
    | some o =>
      simp only [e] at h
      cases o with
      | lst ys =>
        cases h
        obtain ⟨vs, k1, k2⟩ := r.s.ob _ _ _ e h1
        exact ⟨a, vs, h2, .inl (SqL.of k1), k2⟩
      | ro ys =>
        cases h
        obtain ⟨o, vs, k1, k2⟩ := r.s.ob _ _ _ e h1
        exact ⟨a, vs, h2, .inl (.inl (.inr ⟨o, k1⟩)), k2⟩
      | _ => cases h
  | _ => cases h
theorem pxg_name {i : Nat} {x : Str} {pos : Pos} (hN : X.N.Nodup) (hi : X.N[i]? = some x) (hx : Loc X.env.scope x) (hf : X.fn x = true ∨ X.env.scope.names.lookup x = some .local := by first | exact .inl rfl | exact .inr rfl | assumption) : PXG X (.Name x pos) [i] (gN i) :=
  .of (pg_name hN hi hx hf) fun ρ hs env σ st H Q x v r d p => p ρ _ H (r.set d) ⟨by simp, fun j hj => List.getElem?_set_ne fun e => hj (by simp [e])⟩
theorem pxgs_nil : PXGs X [] [] gNi := .of pgs_nil fun ρ hs env σ st H Q x v r d p => by
  cases x with
  | nil => cases d; exact ⟨rfl, p ρ σ H r OnlyAt.refl⟩
  | cons _ _ => exact p.elim
theorem sim_gcons {t : TG} {u : TGs} {us ws : List Nat} {a : Mg} {b : Mgs} (h : SimT K us t a) (g : SimTs K ws u b) : SimTs K (us ++ ws) (gCons t u) (gCo a b) := by
  intro ρ hs env σ st H Q x v r d p
  cases x with
  | nil => exact p.elim
  | cons x xs =>
    obtain ⟨v, vs, rfl, d1, d2⟩ := d
    refine ⟨v, vs, rfl, ?_⟩
    have p : PostT K hs (us ++ ws) σ Q ((a x env st).bnd fun env1 st1 => b xs env1 st1) := p
    -- the rest is held as one tuple of values
    have hh : ∀ {hs : List HE} {xs : List PV} {vs : List V} {ρ : List Addr} {H : Hp}, PVrs K ρ H xs vs → ∃ l : List HE, (∀ e ∈ l, HeldR K ρ H e) ∧ ∀ ρ' H', (∀ e ∈ l, HeldR K ρ' H' e) → PVrs K ρ' H' xs vs := by
      intro hs xs
      induction xs with
      | nil => intro vs ρ H h; cases h; exact ⟨[], ⟨fun _ h => (nomatch h), fun _ _ _ => PVrs.nil⟩⟩
      | cons y ys ih =>
        intro vs ρ H h
        obtain ⟨w, ws, rfl, h1, h2⟩ := h
        obtain ⟨l, k1, k2⟩ := ih h2
        exact ⟨.val y w :: l, fun e he => (List.mem_cons.mp he).elim (fun z => z ▸ h1) (k1 e), fun ρ' H' k => .cons (k _ List.mem_cons_self) (k2 ρ' H' fun e he => k e (List.mem_cons_of_mem _ he))⟩
    obtain ⟨l, k1, k2⟩ := hh (hs := hs) d2
    have r' : Rel K ρ (l ++ hs) env σ st H := ⟨r.s, fun e he => (List.mem_append.mp he).elim (k1 e) (r.h e), r.el, r.e⟩
    refine h ρ (l ++ hs) env σ st H _ x v r' d1 ?_
    cases e : a x env st with
    | ok env1 st1 =>
      rw [e] at p
      have p : PostT K hs (us ++ ws) σ Q (b xs env1 st1) := p
      intro ρ1 σ1 H1 r1 o1
      refine g ρ1 hs env1 σ1 st1 H1 Q xs vs (r1.sub fun q hq => List.mem_append_right _ hq) (k2 ρ1 H1 fun e he => r1.h e (List.mem_append_left _ he)) ?_
      cases eb : b xs env1 st1 with
      | ok env2 st2 => rw [eb] at p; exact fun ρ2 σ2 H2 r2 o2 => p ρ2 σ2 H2 r2 (o1.trans o2)
      | exc c y st2 => rw [eb] at p; exact p
      | bad => rw [eb] at p; exact p
    | exc c y st1 => rw [e] at p; exact p.elim
    | bad => rw [e] at p; exact p.elim
theorem SimT.self {vs : List Nat} {m : Mg} : SimT K vs (rT K vs m) m := fun ρ hs env σ st H Q x v r d p => ⟨ρ, hs, env, st, x, r, d, p⟩
theorem SimTs.self {vs : List Nat} {m : Mgs} : SimTs K vs (rTs K vs m) m := fun ρ hs env σ st H Q x v r d p => ⟨ρ, hs, env, st, x, r, d, p⟩
theorem pxgs_cons {e : Expr} {es : List Expr} {us ws : List Nat} {a : Mg} {b : Mgs} (h1 : PXG X e us a) (h2 : PXGs X es ws b)
    (hs : (assignEach (e :: es) X.env).map (·.2) = assign e X.env :: (assignEach es X.env).map (·.2) := by rfl) : PXGs X (e :: es) (us ++ ws) (gCo a b) := .of (pgs_cons h1.pe h2.pe hs) (sim_gcons SimT.self SimTs.self)
theorem pxg_un {es : List Expr} {k : Nat} {vs : List Nat} {b : Mgs} {n : Nat} {pos : Pos} (hc : X.calm = true) (h : PXGs X es vs b)
    (hn : (assignEach es X.env).length = n := by rfl) (hst : (assignEach es X.env).findIdx? (·.1) = none := by rfl) : PXG X (.Tuple es k pos) vs (gU n b) :=
  .of (pg_un hc h.pe hn hst) fun ρ hs env σ st H Q x v r d p => by
    unfold gU at p
    cases e : itemsOf st x with
    | none => simp only [e] at p; exact p.elim
    | some xs =>
      simp only [e] at p
      obtain ⟨a, vs, h1, h2, h3⟩ := items_of r d e
      by_cases hl : xs.length = n
      · rw [if_pos hl] at p
        exact ⟨a, vs, h1, h2, by rw [h3.len]; exact hl, ρ, hs, env, st, xs, r, h3, p⟩
      · rw [if_neg hl] at p; exact p.elim
theorem pxgs_star {e : Expr} {sp : Pos} {us : List Nat} {a : Mg} (h1 : PXG X e us a) : PXGs X [.Starred e sp] (us ++ []) (gCo a gNi) := .of (pgs_star h1.pe) (sim_gcons SimT.self fun ρ hs env σ st H Q x v r d p => by
  cases x with
  | nil => cases d; exact ⟨rfl, p ρ σ H r OnlyAt.refl⟩
  | cons _ _ => exact p.elim)
theorem pxg_star {pos : Pos} {es : List Expr} {kk k : Nat} {vs : List Nat} {b : Mgs} (hc : X.calm = true) (h : PXGs X es vs b)
    (hn : (assignEach es X.env).length = k + 1 := by rfl) (hst : (assignEach es X.env).findIdx? (·.1) = some k := by rfl) : PXG X (.Tuple es kk pos) vs (gS k b) :=
  .of (pg_star hc h.pe hn hst) fun ρ hs env σ st H Q x v r d p => by
    unfold gS at p
    cases e : itemsOf st x with
    | none => simp only [e] at p; exact p.elim
    | some xs =>
      simp only [e] at p
      obtain ⟨a, vs, h1, h2, h3⟩ := items_of r d e
      by_cases hl : k ≤ xs.length
      · rw [if_pos hl] at p
        refine ⟨a, vs, h1, h2, by rw [h3.len]; exact hl, fun q hq => ?_⟩
        obtain ⟨r2, d2⟩ := r.lst (xs := xs.drop k) hq (h3.drop k)
        exact ⟨_, hs, env, _, _, r2, ((h3.take k).mono (MV.push (Evl.Ex.new hq))).append (.one d2), p⟩
      · rw [if_neg hl] at p; exact p.elim
end
end PL
set_option Elab.async false
set_option linter.all false
set_option maxRecDepth 100000
set_option maxHeartbeats 1000000
set_option autoImplicit false
namespace PL
open PySem PySem.Spec PyProof.Rows L2 LW
noncomputable section
/-! ### what a loop walks -/
abbrev Wk := List PV × Option (Nat × PO)
abbrev Mi := Mx Wk
def guardOk (g : Option (Nat × PO)) (st : Store) : Bool := match g with
  | none => true
  | some (i, o) => decide (st[i]? = some o)
/-- while the guard holds the walk J gives the items one after another -/
def WalkP (K : Fg) (J : It) (h0 : List HE) (g : Option (Nat × PO)) (items : List PV) : Prop :=
  ∀ ρ hs env σ st H, (∀ p ∈ h0, p ∈ hs) → Rel K ρ hs env σ st H → guardOk g st = true →
    (∀ i, i < items.length → J.go i H) ∧ J.stop items.length H ∧ ∀ i x H', i < items.length → J.yld i H x H' → ∃ y, items[i]? = some y ∧ Rel K ρ hs env σ st H' ∧ PVr K ρ H' y x
def PostI (K : Fg) (W : WX) (hs : List HE) (env : Env) (σ : L2.St) (R : It → Hp → Prop) : Res Wk → Prop
  | .ok w st => ∀ ρ H J h0, Rel K ρ (h0 ++ hs) env σ st H → WalkP K J h0 w.2 w.1 → R J H
  | .exc c x st => ∀ ρ H d y, Rel K ρ hs env σ st H → XD c H d y → PVr K ρ H x y → W (.ref (He.ga K c)) d σ H
  | .bad => False
def rI (K : Fg) (W : WX) (m : Mi) : TI := fun σ H R => ∃ ρ hs env st, Rel K ρ hs env σ st H ∧ PostI K W hs env σ R (m env st)
def SimI (K : Fg) (W : WX) (wi : TI) (m : Mi) : Prop := ∀ ρ hs env σ st H R, Rel K ρ hs env σ st H → PostI K W hs env σ R (m env st) → wi σ H R
structure PXI (X : Cx) (W : WX) (tg iter : Expr) (m : Mi) : Prop where
  pe : PI X tg iter (rI X.K W m)
theorem PXI.of {X : Cx} {W : WX} {tg iter : Expr} {m : Mi} {wi : TI} (p : PI X tg iter wi) (s : SimI X.K W wi m) : PXI X W tg iter m :=
  ⟨⟨fun pins sh σ H R I h => let ⟨ρ, hs, env, st, r, q⟩ := h; p.run pins sh σ H R I (s ρ hs env σ st H R r q)⟩⟩
theorem pi_or {X : Cx} {tg iter : Expr} {w1 w2 : TI} (h1 : PI X tg iter w1) (h2 : PI X tg iter w2) : PI X tg iter (fun σ H R => w1 σ H R ∨ w2 σ H R) :=
  ⟨fun pins s σ H R I h => h.elim (h1.run pins s σ H R I) (h2.run pins s σ H R I)⟩
theorem pe_or2 {X : Cx} {e : Expr} {t u : TE} (h1 : PE X e t) (h2 : PE X e u) : PE X e (fun σ H Q => t σ H Q ∨ u σ H Q) :=
  ⟨fun pins s σ H Q I h => h.elim (h1.run pins s σ H Q I) (h2.run pins s σ H Q I)⟩
theorem ps_or2 {X : Cx} {e : Stmt} {t u : TS} (h1 : PS X e t) (h2 : PS X e u) : PS X e (fun D σ H => t D σ H ∨ u D σ H) :=
  ⟨fun pins s σ H D I h => h.elim (h1.run pins s σ H D I) (h2.run pins s σ H D I)⟩
section
variable {K : Fg} {W : WX} {hs : List HE} {env : Env} {σ : L2.St} {st : Store} {H : Hp} {ρ : List Addr} {D : Ends}
theorem PostS.held {hs' : List HE} {r : Fl} (h : PostS K W hs D r) (hh : ∀ p ∈ hs, p ∈ hs') : PostS K W hs' D r := by
  cases r with
  | nx env st => exact fun ρ σ H rl => h ρ σ H (rl.sub hh)
  | rt x st => exact fun ρ H v rl => h ρ H v (rl.sub hh)
  | bk env st => exact fun ρ σ H rl => h ρ σ H (rl.sub hh)
  | ct env st => exact fun ρ σ H rl => h ρ σ H (rl.sub hh)
  | exc c x env st => exact fun ρ σ H d y rl => h ρ σ H d y (rl.sub hh)
  | bad => exact h
end
/-- one turn behind another -/
def mLoop (g : Option (Nat × PO)) (tg : Mg) (body : Ms) : List PV → Env → Store → Fl
  | [], env, st => if guardOk g st = true then .nx env st else .bad
  | x :: xs, env, st => if guardOk g st = true then (match tg x env st with
    | .ok env1 st1 => (match body env1 st1 with
      | .nx env2 st2 => mLoop g tg body xs env2 st2
      | .ct env2 st2 => mLoop g tg body xs env2 st2
      | .bk env2 st2 => .nx env2 st2
      | .rt v st2 => .rt v st2
      | .exc c y env2 st2 => .exc c y env2 st2
      | .bad => .bad)
    | _ => .bad) else .bad
def mFor (mi : Mi) (tg : Mg) (body : Ms) : Ms := fun env st => (mi env st).stm env fun w st1 => mLoop w.2 tg body w.1 env st1
section
variable {X : Cx} {W : WX} {K : Fg}
theorem sim_for {mi : Mi} {vs : List Nat} {tg : Mg} {body : Ms} : SimS K W (tFor (rI K W mi) (rT K vs tg) (rS K W body)) (mFor mi tg body) := by
  intro ρ hs env σ st H D r p
  refine ⟨ρ, hs, env, st, r, ?_⟩
  unfold mFor at p
  cases e : mi env st with
  | exc c x st1 => rw [e] at p; exact fun ρ H d y => p ρ σ H d y
  | bad => rw [e] at p; exact p.elim
  | ok w st1 =>
    rw [e] at p
    obtain ⟨items, g⟩ := w
    have p : PostS K W hs D (mLoop g tg body items env st1) := p
    intro ρ1 H1 J h0 r1 wk
    refine ⟨fun i m σ H => i + m = items.length ∧ ∃ ρ env st, Rel K ρ (h0 ++ hs) env σ st H ∧ PostS K W hs D (mLoop g tg body (items.drop i) env st), ⟨items.length, by omega, ρ1, env, st1, r1, by simpa using p⟩, ?_⟩
    rintro i m σ2 H2 ⟨him, ρ2, env2, st2, r2, p2⟩
    have wk2 := wk ρ2 (h0 ++ hs) env2 σ2 st2 H2 (fun q hq => List.mem_append_left _ hq) r2
    cases hd : items.drop i with
    | nil =>
      rw [hd] at p2
      have hi : items.length ≤ i := List.drop_eq_nil_iff.mp hd
      have e2 : i = items.length := by omega
      unfold mLoop at p2
      by_cases hg : guardOk g st2 = true
      · rw [if_pos hg] at p2
        refine .inl ⟨?_, p2 ρ2 σ2 H2 (r2.sub fun q hq => List.mem_append_right _ hq)⟩
        rw [e2]
        exact (wk2 hg).2.1
      · rw [if_neg hg] at p2; exact p2.elim
    | cons y ys =>
      rw [hd] at p2
      have hi : i < items.length := by
        rcases Nat.lt_or_ge i items.length with h | h
        · exact h
        · rw [List.drop_eq_nil_of_le h] at hd; cases hd
      have hy : items[i]? = some y := by
        have := congrArg (fun l => l[0]?) hd
        simpa using this
      have hys : items.drop (i + 1) = ys := by
        have := congrArg (fun l => l.drop 1) hd
        simpa [Nat.add_comm] using this
      unfold mLoop at p2
      by_cases hg : guardOk g st2 = true
      · rw [if_pos hg] at p2
        obtain ⟨w1, w2, w3⟩ := wk2 hg
        refine .inr ⟨w1 i hi, fun σ H => i + 1 + (m - 1) = items.length ∧ ∃ ρ env st, Rel K ρ (h0 ++ hs) env σ st H ∧ PostS K W hs D (mLoop g tg body ys env st), fun σ' H' ⟨h1, ρ', env', st', h2, h3⟩ => ⟨m - 1, by omega, h1, ρ', env', st', h2, by rw [hys]; exact h3⟩, fun x H' yl => ?_⟩
        obtain ⟨y', hy', r3, d3⟩ := w3 i x H' hi yl
        rw [hy] at hy'
        cases hy'
        refine ⟨ρ2, h0 ++ hs, env2, st2, y, r3, d3, ?_⟩
        cases et : tg y env2 st2 with
        | exc c x st3 => rw [et] at p2; exact p2.elim
        | bad => rw [et] at p2; exact p2.elim
        | ok env3 st3 =>
          rw [et] at p2
          intro ρ4 σ4 H4 r4 _
          refine ⟨ρ4, h0 ++ hs, env3, st3, r4, ?_⟩
          dsimp only at p2
          cases eb : body env3 st3 with
          | nx env5 st5 => rw [eb] at p2; exact fun ρ5 σ5 H5 r5 => ⟨by omega, ρ5, env5, st5, r5, p2⟩
          | ct env5 st5 => rw [eb] at p2; exact fun ρ5 σ5 H5 r5 => ⟨by omega, ρ5, env5, st5, r5, p2⟩
          | bk env5 st5 => rw [eb] at p2; exact fun ρ5 σ5 H5 r5 => p2 ρ5 σ5 H5 (r5.sub fun q hq => List.mem_append_right _ hq)
          | rt v st5 => rw [eb] at p2; exact fun ρ5 H5 w r5 => p2 ρ5 H5 w (r5.sub fun q hq => List.mem_append_right _ hq)
          | exc c x env5 st5 => rw [eb] at p2; exact fun ρ5 σ5 H5 d y r5 => p2 ρ5 σ5 H5 d y (r5.sub fun q hq => List.mem_append_right _ hq)
          | bad => rw [eb] at p2; exact p2.elim
      · rw [if_neg hg] at p2; exact p2.elim
theorem pxs_for {tg iter : Expr} {body : List Stmt} {mi : Mi} {vs : List Nat} {g : Mg} {m : Ms} {pos : Pos} (hp : PassesOwn (model X.prog X.w) X.A X.env X.xe) (hc : X.calm = true) (hi : PXI X W tg iter mi) (hg : PXG X tg vs g) (hb : PXB X W body m)
    (hs : ∀ x, foldedSetIterable iter X.env x = pure x := by intro _; rfl) : PXS X W (.For tg iter body [] pos) (mFor mi g m) := .of (ps_for hp hc hi.pe hg.pe hb.pe hs) sim_for
/-! ### while: by a bound of turns -/
def mWhileN (c : Mx Bool) (body : Ms) : Nat → Env → Store → Fl
  | 0, _, _ => .bad
  | n + 1, env, st => (c env st).stm env fun b st1 => if b = true then (match body env st1 with
      | .nx env2 st2 => mWhileN c body n env2 st2
      | .ct env2 st2 => mWhileN c body n env2 st2
      | .bk env2 st2 => .nx env2 st2
      | .rt v st2 => .rt v st2
      | .exc d y env2 st2 => .exc d y env2 st2
      | .bad => .bad) else .nx env st1
theorem sim_while {c : Mx Bool} {body : Ms} {N : Nat} : SimS K W (tWhile (rG RB K W c) (rS K W body)) (mWhileN c body N) := by
  intro ρ hs env σ st H D r p
  refine ⟨fun m σ H => ∃ ρ env st, Rel K ρ hs env σ st H ∧ PostS K W hs D (mWhileN c body m env st), ⟨N, ρ, env, st, r, p⟩, ?_⟩
  rintro m σ1 H1 ⟨ρ1, env1, st1, r1, p1⟩
  cases m with
  | zero => exact p1.elim
  | succ n =>
    refine ⟨ρ1, hs, env1, st1, r1, PostG.stm (σ := σ1) p1 fun b st2 _ q ρ2 H2 b' r2 d => ?_⟩
    cases d
    cases b with
    | false => rw [if_neg (by decide)] at q ⊢; exact q ρ2 σ1 H2 r2
    | true =>
      rw [if_pos rfl] at q ⊢
      refine ⟨fun σ H => ∃ ρ env st, Rel K ρ hs env σ st H ∧ PostS K W hs D (mWhileN c body n env st), fun σ' H' h => ⟨n, Nat.lt_succ_self n, h⟩, ρ2, hs, env1, st2, r2, ?_⟩
      cases eb : body env1 st2 with
      | nx env5 st5 => rw [eb] at q; exact fun ρ5 σ5 H5 r5 => ⟨ρ5, env5, st5, r5, q⟩
      | ct env5 st5 => rw [eb] at q; exact fun ρ5 σ5 H5 r5 => ⟨ρ5, env5, st5, r5, q⟩
      | bk env5 st5 => rw [eb] at q; exact q
      | rt v st5 => rw [eb] at q; exact q
      | exc c x env5 st5 => rw [eb] at q; exact q
      | bad => rw [eb] at q; exact q.elim
theorem pxs_while {c : Expr} {body : List Stmt} {mc : Mx Bool} {m : Ms} {pos : Pos} (N : Nat) (hp : PassesOwn (model X.prog X.w) X.A X.env X.xe) (hc : PXt X W c mc) (hb : PXB X W body m) : PXS X W (.While c body [] pos) (mWhileN mc m N) := .of (ps_while hp hc.pe hb.pe) sim_while
end
/-! ### the walks -/
def guardOf (st : Store) : PV → Option (Nat × PO)
  | .ref i => match st[i]? with
    | some o => some (i, o)
    | none => none
  | _ => none
/-- a list or a tuple, a text -/
def strItems (x : Str) : List PV := x.cps.toList.map fun c => .str ⟨#[c]⟩
def wItems (st : Store) : PV → Option Wk
  | .str x => some (strItems x, none)
  | v => (itemsOf st v).map fun xs => (xs, guardOf st v)
def mIt (a : Mx PV) : Mi := fun env st => (a env st).bnd fun v st1 => match wItems st1 v with
  | some w => .ok w st1
  | none => .bad
def enumP : Nat → List PV → List PV
  | _, [] => []
  | n, x :: xs => .tup [.int n, x] :: enumP (n + 1) xs
def mEnum (a : Mx PV) : Mi := fun env st => (a env st).bnd fun v st1 => match itemsOf st1 v with
  | some xs => .ok (enumP 0 xs, guardOf st1 v) st1
  | none => .bad
def rangeP (lo : Int) : Nat → List PV
  | 0 => []
  | n + 1 => .int lo :: rangeP (lo + 1) n
def mRng1 (a : Mx PV) : Mi := fun env st => (a env st).bnd fun v st1 => match v with
  | .int j => @ite _ (-(2 ^ 62) ≤ j ∧ j < 2 ^ 62) (Classical.propDecidable _) (.ok (rangeP 0 j.toNat, none) st1) .bad
  | _ => .bad
def mRng2 (a b : Mx PV) : Mi := fun env st => (a env st).bnd fun v st1 => (b env st1).bnd fun u st2 => match v, u with
  | .int i, .int j => @ite _ (-(2 ^ 62) ≤ i ∧ i < 2 ^ 62 ∧ -(2 ^ 62) ≤ j ∧ j < 2 ^ 62) (Classical.propDecidable _) (.ok (rangeP i (j - i).toNat, none) st2) .bad
  | _, _ => .bad
theorem rangeP_len (lo : Int) : ∀ n, (rangeP lo n).length = n
  | 0 => rfl
  | n + 1 => by simp [rangeP, rangeP_len (lo + 1) n]
theorem rangeP_get (lo : Int) : ∀ (n i : Nat), i < n → (rangeP lo n)[i]? = some (.int (lo + i))
  | 0, i, h => by omega
  | n + 1, 0, h => by simp [rangeP]
  | n + 1, i + 1, h => by
    simp only [rangeP, List.getElem?_cons_succ]
    rw [rangeP_get (lo + 1) n i (by omega)]
    congr 2
    omega
theorem enumP_len : ∀ (n : Nat) (xs : List PV), (enumP n xs).length = xs.length
  | _, [] => rfl
  | n, x :: xs => by simp [enumP, enumP_len (n + 1) xs]
theorem enumP_get : ∀ (n : Nat) (xs : List PV) (i : Nat) (x : PV), xs[i]? = some x → (enumP n xs)[i]? = some (.tup [.int ((n + i : Nat) : Int), x])
  | _, [], i, x, h => by simp at h
  | n, y :: xs, 0, x, h => by simp at h; simp [enumP, h]
  | n, y :: xs, i + 1, x, h => by
    simp only [enumP, List.getElem?_cons_succ]
    rw [enumP_get (n + 1) xs i x (by simpa using h)]
    congr 4
    omega
section
variable {X : Cx} {W : WX} {K : Fg} {hs : List HE} {env : Env} {σ : L2.St} {st : Store} {H : Hp} {ρ : List Addr}
theorem PVrs.getV {xs : List PV} {vs : List V} {i : Nat} {v : V} (h : PVrs K ρ H xs vs) (e : vs[i]? = some v) : ∃ x, xs[i]? = some x ∧ PVr K ρ H x v := by
  have hi : i < xs.length := by rw [← h.len]; exact (List.getElem?_eq_some_iff.mp e).1
  obtain ⟨v', e', d⟩ := h.get (List.getElem?_eq_getElem hi)
  rw [e] at e'
  cases e'
  exact ⟨_, List.getElem?_eq_getElem hi, d⟩
theorem walkP_list {i : Nat} {a : Addr} {xs : List PV} {o : PO} (ho : o = .lst xs ∨ o = .ro xs) : WalkP K (Itl K a) [.val (.ref i) (.ref a)] (some (i, o)) xs := by
  intro ρ hs env σ st H hh r hg
  obtain ⟨b, hb, eb⟩ := r.h _ (hh _ List.mem_cons_self)
  cases eb
  have hst : st[i]? = some o := of_decide_eq_true hg
  have hob := r.s.ob _ _ _ hst hb
  have : ∃ vs, SqL K H a vs ∧ PVrs K ρ H xs vs := by
    rcases ho with rfl | rfl
    · obtain ⟨vs, h1, h2⟩ := hob; exact ⟨vs, SqL.of h1, h2⟩
    · obtain ⟨q, vs, h1, h2⟩ := hob; exact ⟨vs, .inl (.inr ⟨q, h1⟩), h2⟩
  obtain ⟨vs, h1, h2⟩ := this
  refine ⟨fun j hj => ?_, ⟨vs, h1, by rw [h2.len]; exact Nat.le_refl _⟩, fun j x H' hj y => ?_⟩
  · obtain ⟨v, hv, _⟩ := h2.get (List.getElem?_eq_getElem hj)
    exact ⟨vs, v, h1, hv⟩
  · obtain ⟨rfl, hx⟩ := y
    obtain ⟨z, hz, dz⟩ := h2.getV (hx vs h1)
    exact ⟨z, hz, r, dz⟩
theorem tup_at {x : PV} {xs : List PV} {a : Addr} (hx : x = .tup xs ∨ x = .wtp xs) (d : PVr K ρ H x (.ref a)) : ∃ vs, SqT K H a vs ∧ PVrs K ρ H xs vs := by
  rcases hx with rfl | rfl
  · obtain ⟨b, vs, e, h1, h2⟩ := d; cases e; exact ⟨vs, SqT.of h1, h2⟩
  · obtain ⟨b, vs, e, h1, h2⟩ := d; cases e; exact ⟨vs, h1 H, h2⟩
theorem walkP_tup {x : PV} {a : Addr} {xs : List PV} (hx : x = .tup xs ∨ x = .wtp xs) : WalkP K (Itt K a) [.val x (.ref a)] none xs := by
  intro ρ hs env σ st H hh r hg
  obtain ⟨vs, h1, h2⟩ := tup_at hx (r.h _ (hh _ List.mem_cons_self))
  refine ⟨fun j hj => ?_, ⟨vs, h1, by rw [h2.len]; exact Nat.le_refl _⟩, fun j x H' hj y => ?_⟩
  · obtain ⟨v, hv, _⟩ := h2.get (List.getElem?_eq_getElem hj)
    exact ⟨vs, v, h1, hv⟩
  · obtain ⟨rfl, hx⟩ := y
    obtain ⟨z, hz, dz⟩ := h2.getV (hx vs h1)
    exact ⟨z, hz, r, dz⟩
theorem walkP_range {lo : Int} {n : Nat} : WalkP K (Itr lo n) [] none (rangeP lo n) := by
  intro ρ hs env σ st H hh r hg
  rw [rangeP_len]
  refine ⟨fun j hj => hj, Nat.le_refl _, fun j x H' hj y => ?_⟩
  obtain ⟨rfl, rfl⟩ := y
  exact ⟨_, rangeP_get lo n j hj, r, rfl⟩
theorem strItems_len {z : Str} : (strItems z).length = z.cps.size := by simp [strItems]
theorem walkP_str {z : Str} : WalkP K (Its z) [] none (strItems z) := by
  intro ρ hs env σ st H hh r hg
  rw [strItems_len]
  refine ⟨fun j hj => hj, Nat.le_refl _, fun j x H' hj y => ?_⟩
  obtain ⟨rfl, c, hc, rfl⟩ := y
  refine ⟨.str ⟨#[c]⟩, ?_, r, rfl⟩
  unfold strItems
  rw [List.getElem?_map]
  have : z.cps.toList[j]? = some c := by simpa using hc
  rw [this]
  rfl
/-- a new pair -/
theorem Rel.pair {T : Addr} {x y : V} {p q : PV} (r : Rel K ρ hs env σ st H) (hT : H T = none) (dp : PVr K ρ H p x) (dq : PVr K ρ H q y) : Rel K ρ hs env σ st (upd H T (.tup [x, y])) ∧ PVr K ρ (upd H T (.tup [x, y])) (.tup [p, q]) (.ref T) :=
  r.tup hT (.cons dp (.one dq))
theorem walkP_enumL {i : Nat} {a : Addr} {xs : List PV} {o : PO} (ho : o = .lst xs ∨ o = .ro xs) : WalkP K (Ite K a) [.val (.ref i) (.ref a)] (some (i, o)) (enumP 0 xs) := by
  intro ρ hs env σ st H hh r hg
  obtain ⟨b, hb, eb⟩ := r.h _ (hh _ List.mem_cons_self)
  cases eb
  have hst : st[i]? = some o := of_decide_eq_true hg
  have hob := r.s.ob _ _ _ hst hb
  have : ∃ vs, SqL K H a vs ∧ PVrs K ρ H xs vs := by
    rcases ho with rfl | rfl
    · obtain ⟨vs, h1, h2⟩ := hob; exact ⟨vs, SqL.of h1, h2⟩
    · obtain ⟨q, vs, h1, h2⟩ := hob; exact ⟨vs, .inl (.inr ⟨q, h1⟩), h2⟩
  obtain ⟨vs, h1, h2⟩ := this
  rw [enumP_len]
  refine ⟨fun j hj => ?_, ⟨vs, h1, by rw [h2.len]; exact Nat.le_refl _⟩, fun j x H' hj y => ?_⟩
  · obtain ⟨v, hv, _⟩ := h2.get (List.getElem?_eq_getElem hj)
    exact ⟨vs, v, h1, hv⟩
  · obtain ⟨T, w, rfl, hT, rfl, hx⟩ := y
    obtain ⟨z, hz, dz⟩ := h2.getV (hx vs h1)
    obtain ⟨r2, d2⟩ := r.pair (p := .int (j : Nat)) hT rfl dz
    exact ⟨_, by have := enumP_get 0 xs j z hz; rw [Nat.zero_add] at this; exact this, r2, d2⟩
theorem walkP_enumT {x : PV} {a : Addr} {xs : List PV} (hx : x = .tup xs ∨ x = .wtp xs) : WalkP K (IteT K a) [.val x (.ref a)] none (enumP 0 xs) := by
  intro ρ hs env σ st H hh r hg
  obtain ⟨vs, h1, h2⟩ := tup_at hx (r.h _ (hh _ List.mem_cons_self))
  rw [enumP_len]
  refine ⟨fun j hj => ?_, ⟨vs, h1, by rw [h2.len]; exact Nat.le_refl _⟩, fun j x H' hj y => ?_⟩
  · obtain ⟨v, hv, _⟩ := h2.get (List.getElem?_eq_getElem hj)
    exact ⟨vs, v, h1, hv⟩
  · obtain ⟨T, w, rfl, hT, rfl, hx⟩ := y
    obtain ⟨z, hz, dz⟩ := h2.getV (hx vs h1)
    obtain ⟨r2, d2⟩ := r.pair (p := .int (j : Nat)) hT rfl dz
    exact ⟨_, by have := enumP_get 0 xs j z hz; rw [Nat.zero_add] at this; exact this, r2, d2⟩
/-- a value that is a list or a tuple -/
theorem seq_cases {v : PV} {xs : List PV} (h : itemsOf st v = some xs) : (∃ i o, v = .ref i ∧ st[i]? = some o ∧ (o = .lst xs ∨ o = .ro xs) ∧ guardOf st v = some (i, o)) ∨ ((v = .tup xs ∨ v = .wtp xs) ∧ guardOf st v = none) := by
  cases v with
  | tup ys => cases h; exact .inr ⟨.inl rfl, rfl⟩
  | wtp ys => cases h; exact .inr ⟨.inr rfl, rfl⟩
  | ref i =>
    simp only [itemsOf] at h
    cases e : st[i]? with
    | none => simp only [e] at h; cases h
    | some o =>
      simp only [e] at h
      cases o with
      | lst ys => cases h; exact .inl ⟨i, _, rfl, e, .inl rfl, by simp [guardOf, e]⟩
      | ro ys => cases h; exact .inl ⟨i, _, rfl, e, .inr rfl, by simp [guardOf, e]⟩
      | _ => cases h
  | _ => cases h
theorem wItems_cases {v : PV} {w : Wk} (h : wItems st v = some w) : (∃ z, v = .str z ∧ w = (strItems z, none)) ∨ ∃ xs, itemsOf st v = some xs ∧ w = (xs, guardOf st v) := by
  have key : ∀ v : PV, (∃ z, v = .str z) ∨ wItems st v = (itemsOf st v).map fun xs => (xs, guardOf st v) := fun v => by
    cases v with
    | str z => exact .inl ⟨z, rfl⟩
    | _ => exact .inr rfl
  rcases key v with ⟨z, rfl⟩ | e
  · cases h; exact .inl ⟨z, rfl, rfl⟩
  · rw [e] at h
    obtain ⟨xs, h1, h2⟩ := Option.map_eq_some_iff.mp h
    exact .inr ⟨xs, h1, h2.symm⟩
theorem sim_it {t : TE} {m : Mx PV} (s : Sim (RV K) K W t m) : SimI K W (fun σ H R => iList K t σ H R ∨ iTup K t σ H R ∨ iStr t σ H R) (mIt m) := by
  intro ρ hs env σ st H R r p
  have key : ∀ {α : Prop}, (∀ v st1, m env st = .ok v st1 → α) → ((∃ c x st1, m env st = .exc c x st1) → α) → (m env st = .bad → α) → α := fun h1 h2 h3 => by
    cases e : m env st with
    | ok v st1 => exact h1 v st1 e
    | exc c x st1 => exact h2 ⟨c, x, st1, e⟩
    | bad => exact h3 e
  refine key (fun v st1 e => ?_) (fun ⟨c, x, st1, e⟩ => ?_) (fun e => ?_)
  · unfold mIt at p
    rw [e] at p
    simp only [bnd_ok] at p
    cases ew : wItems st1 v with
    | none => simp only [ew] at p; exact p.elim
    | some w =>
      simp only [ew] at p
      rcases wItems_cases ew with ⟨z, rfl, rfl⟩ | ⟨xs, ei, rfl⟩
      · refine .inr (.inr (s ρ hs env σ st H _ r ?_))
        rw [e]
        exact fun ρ1 H1 b r1 d => ⟨z, d, p ρ1 H1 _ [] r1 walkP_str⟩
      · rcases seq_cases ei with ⟨i, o, ev, ho, hk, hgd⟩ | ⟨hx, hgd⟩
        · refine .inl (s ρ hs env σ st H _ r ?_)
          rw [e]
          intro ρ1 H1 b r1 d
          subst ev
          obtain ⟨a, h1, rfl⟩ := id d
          have hl : ∃ xs, SqL K H1 a xs := by
            have hob := r1.s.ob _ _ _ ho h1
            rcases hk with rfl | rfl
            · obtain ⟨vs, k1, _⟩ := hob; exact ⟨vs, SqL.of k1⟩
            · obtain ⟨q, vs, k1, _⟩ := hob; exact ⟨vs, .inl (.inr ⟨q, k1⟩)⟩
          refine ⟨a, rfl, hl, p ρ1 H1 _ [.val (.ref i) (.ref a)] (r1.hold d) ?_⟩
          rw [hgd]
          exact walkP_list hk
        · refine .inr (.inl (s ρ hs env σ st H _ r ?_))
          rw [e]
          intro ρ1 H1 b r1 d
          obtain ⟨a, vs, rfl, _, _⟩ := items_of r1 d ei
          obtain ⟨vs', h1, h2⟩ := tup_at hx d
          refine ⟨a, rfl, ⟨vs', h1⟩, p ρ1 H1 _ [.val v (.ref a)] (r1.hold d) ?_⟩
          rw [hgd]
          exact walkP_tup hx
  · unfold mIt at p
    rw [e] at p
    refine .inl (s ρ hs env σ st H _ r ?_)
    rw [e]
    exact p
  · unfold mIt at p
    rw [e] at p
    exact p.elim
theorem pxi_it {tg e : Expr} {m : Mx PV} (h : PX X W e m) : PXI X W tg e (mIt m) := .of (pi_or (pi_list h.pe) (pi_or (pi_tup h.pe) (pi_str h.pe))) (sim_it Sim.self)
/-- enumerate of a list or a tuple -/
def iEnumB (K : Fg) (ta : TA) : TI := fun σ H R => ta σ H fun vs H1 => ∃ a xs, vs = [.ref a] ∧ ((SqL K H1 a xs ∧ R (Ite K a) H1) ∨ (SqT K H1 a xs ∧ R (IteT K a) H1))
theorem pi_enumB {e : Expr} {ta : TA} {p pos tpos : Pos} {elts : List Expr} {kk : Nat} (hg : Gl X "enumerate") (hm : X.mg "enumerate" = none) (ha : PA X [e] ta) (hs : starEach [e] X.env = [(false, eval e X.env)] := by rfl) :
    PI X (.Tuple elts kk tpos) (.Call (.Name "enumerate" p) [e] [] pos) (iEnumB X.K ta) := by
  refine ⟨fun pins s σ H R I h => ?_⟩
  refine Call_ (ld_blt I hg hm boot_enumerate (PyProof.Rows.callWith_type1 (thn (ha.run pos pins s σ H _ I h) fun us s1 ⟨vs, H1, I1, r1, q1⟩ => ?_) hs rfl))
  obtain ⟨a, xs, ex, q⟩ := q1
  subst ex
  cases r1 with
  | cons r rr =>
    cases rr
    cases r
    have fp : ∀ b ∈ [s1.heap.objs.size + 1, s1.heap.objs.size], FpOk X pins H1 b := fun b hb => by
      have e' : b = s1.heap.objs.size + 1 ∨ b = s1.heap.objs.size := by simpa using hb
      have hle : s1.heap.objs.size ≤ b := by
        rcases e' with z | z
        · rw [z]; exact Nat.le_add_right _ _
        · rw [z]; exact Nat.le_refl _
      exact I1.fpOk hle (I1.hok.fresh hle)
    rcases q with ⟨hq, q⟩ | ⟨hq, q⟩
    · obtain ⟨its, rv, p', hz⟩ := I1.list hq
      refine call_enumerate_list p'.isList fun h' he hit hsz hk => wpAny_pyIter_enum he ?_
      have I2 : Inv X pins σ H1 { s1 with heap := h' } := I1.kept (t' := s1.toks) hk
      exact ⟨s1.heap.objs.size + 1, [s1.heap.objs.size + 1, s1.heap.objs.size], _, _, H1, rfl, I2, turn_enum a (s1.heap.objs.size + 1) s1.heap.objs.size, ⟨⟨.none, he⟩, hit, Nat.succ_ne_self _⟩, fp, q⟩
    · obtain ⟨its, rv, p', hz⟩ := I1.tuple hq
      refine enum_begins1 (begins_tuple a its.toArray) p' fun h' he hit hsz hk => wpAny_pyIter_enum he ?_
      have I2 : Inv X pins σ H1 { s1 with heap := h' } := I1.kept (t' := s1.toks) hk
      exact ⟨s1.heap.objs.size + 1, [s1.heap.objs.size + 1, s1.heap.objs.size], _, _, H1, rfl, I2, turn_enumT a (s1.heap.objs.size + 1) s1.heap.objs.size, ⟨⟨.none, he⟩, ⟨_, hit, rfl, rfl⟩, Nat.succ_ne_self _⟩, fp, q⟩
theorem PostI.bnd {α β : Type} {R : RA α β} {Q : β → Hp → Prop} {RR : It → Hp → Prop} {r : Res α} {k : α → Store → Res Wk} (h : PostI K W hs env σ RR (r.bnd k))
    (f : ∀ a st, r = .ok a st → PostI K W hs env σ RR (k a st) → ∀ ρ H b, Rel K ρ hs env σ st H → R ρ H a b → Q b H) : PostG R K W hs env σ Q r := by
  cases r with
  | ok a st => exact fun ρ H b rl d => f a st rfl h ρ H b rl d
  | exc c x st => exact h
  | bad => exact h
theorem pxi_enum {e : Expr} {m : Mx PV} {p pos tpos : Pos} {elts : List Expr} {kk : Nat} (h : PX X W e m) (hg : Gl X "enumerate") (hm : X.mg "enumerate" = none) (hs : starEach [e] X.env = [(false, eval e X.env)] := by rfl) (hs1 : starEach (e :: []) X.env = (false, eval e X.env) :: starEach [] X.env := by rfl) :
    PXI X W (.Tuple elts kk tpos) (.Call (.Name "enumerate" p) [e] [] pos) (mEnum m) :=
  .of (pi_enumB hg hm (pa_cons h.pe pa_nil hs1) hs) fun ρ hs env σ st H R r q => by
    refine ⟨ρ, hs, env, st, r, PostI.bnd q fun v st1 _ q1 ρ1 H1 b r1 d => ?_⟩
    cases ei : itemsOf st1 v with
    | none => simp only [ei] at q1; exact q1.elim
    | some xs =>
      simp only [ei] at q1
      rcases seq_cases ei with ⟨i, o, ev, ho, hk, hgd⟩ | ⟨hx, hgd⟩
      · subst ev
        obtain ⟨a, h1, rfl⟩ := id d
        have hl : ∃ xs, SqL X.K H1 a xs := by
          have hob := r1.s.ob _ _ _ ho h1
          rcases hk with rfl | rfl
          · obtain ⟨vs, k1, _⟩ := hob; exact ⟨vs, SqL.of k1⟩
          · obtain ⟨q, vs, k1, _⟩ := hob; exact ⟨vs, .inl (.inr ⟨q, k1⟩)⟩
        obtain ⟨vs, hl⟩ := hl
        refine ⟨a, vs, rfl, .inl ⟨hl, q1 ρ1 H1 _ [.val (.ref i) (.ref a)] (r1.hold d) ?_⟩⟩
        rw [hgd]
        exact walkP_enumL hk
      · obtain ⟨a, vs, rfl, _, _⟩ := items_of r1 d ei
        obtain ⟨vs', h1, h2⟩ := tup_at hx d
        refine ⟨a, vs', rfl, .inr ⟨h1, q1 ρ1 H1 _ [.val v (.ref a)] (r1.hold d) ?_⟩⟩
        rw [hgd]
        exact walkP_enumT hx
theorem pxi_range1 {tg a : Expr} {m : Mx PV} {p pos : Pos} (h : PX X W a m) (hg : Gl X "range") (hm : X.mg "range" = none) (hs : starEach [a] X.env = [(false, eval a X.env)] := by rfl) (hs1 : starEach (a :: []) X.env = (false, eval a X.env) :: starEach [] X.env := by rfl) :
    PXI X W tg (.Call (.Name "range" p) [a] [] pos) (mRng1 m) :=
  .of (pi_range1 hg hm (pa_cons h.pe pa_nil hs1) hs) fun ρ hs env σ st H R r q => by
    refine ⟨ρ, hs, env, st, r, PostI.bnd q fun v st1 _ q1 ρ1 H1 b r1 d => ?_⟩
    cases v with
    | int j =>
      cases d
      by_cases hj : -(2 ^ 62) ≤ j ∧ j < 2 ^ 62
      · simp only [if_pos hj] at q1
        exact ⟨j, rfl, hj.1, hj.2, q1 ρ1 H1 _ [] r1 walkP_range⟩
      · simp only [if_neg hj] at q1; exact q1.elim
    | _ => exact q1.elim
theorem pxi_range2 {tg a b : Expr} {m n : Mx PV} {p pos : Pos} (h : PX X W a m) (g : PX X W b n) (hg : Gl X "range") (hm : X.mg "range" = none) (hs : starEach [a, b] X.env = [(false, eval a X.env), (false, eval b X.env)] := by rfl) (hs2 : starEach [b] X.env = [(false, eval b X.env)] := by rfl)
    (hs1 : starEach (a :: [b]) X.env = (false, eval a X.env) :: starEach [b] X.env := by rfl) (hs3 : starEach (b :: []) X.env = (false, eval b X.env) :: starEach [] X.env := by rfl) :
    PXI X W tg (.Call (.Name "range" p) [a, b] [] pos) (mRng2 m n) :=
  .of (pi_range2 hg hm (pa_cons h.pe (pa_cons g.pe pa_nil hs3) hs1) hs hs2) fun ρ hs env σ st H R r q => by
    refine ⟨ρ, hs, env, st, r, PostI.bnd q fun v st1 _ q1 ρ1 H1 b r1 d => ?_⟩
    refine ⟨ρ1, hs, env, st1, r1, PostI.bnd q1 fun u st2 _ q2 ρ2 H2 b2 r2 d2 => ?_⟩
    cases v with
    | int i =>
      cases u with
      | int j =>
        cases d
        cases d2
        by_cases hj : -(2 ^ 62) ≤ i ∧ i < 2 ^ 62 ∧ -(2 ^ 62) ≤ j ∧ j < 2 ^ 62
        · simp only [if_pos hj] at q2
          exact ⟨i, j, rfl, hj, q2 ρ2 H2 _ [] r2 walkP_range⟩
        · simp only [if_neg hj] at q2; exact q2.elim
      | _ => exact q2.elim
    | _ => exact q2.elim
end
end
end PL
set_option Elab.async false
set_option linter.all false
set_option maxRecDepth 100000
set_option maxHeartbeats 1000000
set_option autoImplicit false
namespace PL
open PySem PySem.Spec PyProof.Rows L2 LW
noncomputable section
def wipeP (env : Env) : List Nat → Env
  | [] => env
  | v :: vs => (wipeP env vs).set v none
theorem wipeP_len (env : Env) : ∀ vs, (wipeP env vs).length = env.length
  | [] => rfl
  | v :: vs => by simp [wipeP, wipeP_len env vs]
theorem wipe_at {σ : L2.St} {i : Nat} : ∀ {vs : List Nat}, i ∉ vs → (wipe σ vs)[i]? = σ[i]?
  | [], _ => rfl
  | v :: vs, h => by
    unfold wipe
    rw [List.getElem?_set_ne (fun e => h (by simp [e]))]
    exact wipe_at fun e => h (List.mem_cons_of_mem _ e)
theorem wipe_in {σ : L2.St} {i : Nat} (hi : i < σ.length) : ∀ {vs : List Nat}, i ∈ vs → (wipe σ vs)[i]? = some none
  | [], h => nomatch h
  | v :: vs, h => by
    unfold wipe
    by_cases e : v = i
    · subst e
      exact List.getElem?_set_self (by rw [wipe_length]; exact hi)
    · rw [List.getElem?_set_ne e]
      exact wipe_in hi ((List.mem_cons.mp h).resolve_left fun z => e z.symm)
theorem wipe_eq {σ0 σ : L2.St} {vs : List Nat} (h : OnlyAt vs (wipe σ0 vs) σ) : wipe σ vs = wipe σ0 vs := by
  have hl : σ.length = σ0.length := by rw [h.1, wipe_length]
  refine List.ext_getElem? fun i => ?_
  by_cases hi : i ∈ vs
  · by_cases hlt : i < σ.length
    · rw [wipe_in hlt hi, wipe_in (by rw [← hl]; exact hlt) hi]
    · rw [List.getElem?_eq_none (by rw [wipe_length]; omega), List.getElem?_eq_none (by rw [wipe_length]; omega)]
  · rw [wipe_at hi, h.2 i hi]
theorem wipeP_some {env : Env} {i : Nat} {x : PV} : ∀ {vs : List Nat}, (wipeP env vs)[i]? = some (some x) → env[i]? = some (some x) ∧ i ∉ vs
  | [], h => ⟨h, by simp⟩
  | v :: vs, h => by
    unfold wipeP at h
    by_cases e : v = i
    · subst e
      by_cases hv : v < (wipeP env vs).length
      · rw [List.getElem?_set_self hv] at h; cases h
      · rw [List.getElem?_eq_none (by simpa using hv)] at h; cases h
    · rw [List.getElem?_set_ne e] at h
      obtain ⟨h1, h2⟩ := wipeP_some h
      exact ⟨h1, fun q => (List.mem_cons.mp q).elim (fun z => e z.symm) h2⟩
section
variable {K : Fg} {hs : List HE} {env : Env} {σ : L2.St} {st : Store} {H : Hp} {ρ : List Addr}
theorem Rel.wiped {vs : List Nat} (r : Rel K ρ hs env σ st H) : Rel K ρ hs (wipeP env vs) (wipe σ vs) st H :=
  ⟨r.s, r.h, by rw [wipeP_len, wipe_length]; exact r.el, fun i x h => by
    obtain ⟨h1, h2⟩ := wipeP_some h
    obtain ⟨v, e, d⟩ := r.e i x h1
    exact ⟨v, by rw [wipe_at h2]; exact e, d⟩⟩
/-- the frame's values are held -/
theorem Rel.stash (r : Rel K ρ hs env σ st H) : ∃ l : List HE, (∀ e ∈ l, HeldR K ρ H e) ∧ (∀ e ∈ l, e.at = none) ∧ ∀ ρ' hs' env' σ' st' H', Rel K ρ' (l ++ hs') env' σ' st' H' → Rel K ρ' hs' env σ st' H' := by
  have key : ∀ n, n ≤ env.length → ∃ l : List HE, (∀ e ∈ l, HeldR K ρ H e) ∧ (∀ e ∈ l, e.at = none) ∧ ∀ i x, i < n → env[i]? = some (some x) → ∃ v, σ[i]? = some (some v) ∧ HE.val x v ∈ l := by
    intro n
    induction n with
    | zero => intro _; exact ⟨[], fun _ h => (nomatch h), fun _ h => (nomatch h), fun i x h => by omega⟩
    | succ n ih =>
      intro hn
      obtain ⟨l, h1, h2, h3⟩ := ih (by omega)
      cases e : env[n]? with
      | none => exact ⟨l, h1, h2, fun i x hi hx => by
          rcases Nat.lt_or_ge i n with q | q
          · exact h3 i x q hx
          · have : i = n := by omega
            subst this
            rw [e] at hx; cases hx⟩
      | some o =>
        cases o with
        | none => exact ⟨l, h1, h2, fun i x hi hx => by
            rcases Nat.lt_or_ge i n with q | q
            · exact h3 i x q hx
            · have : i = n := by omega
              subst this
              rw [e] at hx; cases hx⟩
        | some y =>
          obtain ⟨v, hv, d⟩ := r.e n y e
          refine ⟨.val y v :: l, fun q hq => (List.mem_cons.mp hq).elim (fun z => z ▸ d) (h1 q), fun q hq => (List.mem_cons.mp hq).elim (fun z => by rw [z]; rfl) (h2 q), fun i x hi hx => ?_⟩
          rcases Nat.lt_or_ge i n with q | q
          · obtain ⟨w, hw, hm⟩ := h3 i x q hx
            exact ⟨w, hw, List.mem_cons_of_mem _ hm⟩
          · have : i = n := by omega
            subst this
            rw [e] at hx; cases hx
            exact ⟨v, hv, List.mem_cons_self⟩
  obtain ⟨l, h1, h2, h3⟩ := key env.length (Nat.le_refl _)
  refine ⟨l, h1, h2, fun ρ' hs' env' σ' st' H' r' => ⟨r'.s, fun e he => r'.h e (List.mem_append_right _ he), r.el, fun i x hx => ?_⟩⟩
  obtain ⟨v, hv, hm⟩ := h3 i x (List.getElem?_eq_some_iff.mp hx).1 hx
  exact ⟨v, hv, r'.h _ (List.mem_append_left _ hm)⟩
theorem RelS.notin (r : RelS K ρ st H) {D : Addr} (h : H D = none) : D ∉ ρ := fun hm => by
  obtain ⟨i, hi, e⟩ := List.mem_iff_getElem.mp hm
  obtain ⟨u, hu⟩ := (r.ob i _ D (List.getElem?_eq_getElem (by rw [← r.len]; exact hi)) (by rw [List.getElem?_eq_getElem hi, e])).some
  rw [h] at hu
  cases hu
theorem HeldR.mono' {ρ' : List Addr} {H' : Hp} (m : MV ρ ρ' H H') {e : HE} (fz : ∀ a u, e = .fix a u → H a = some u → H' a = some u) (hid : ∀ a, e.at = some a → H' a = H a ∧ (a ∉ ρ → a ∉ ρ')) (h : HeldR K ρ H e) : HeldR K ρ' H' e := by
  cases e with
  | val x v => exact PVr.mono m h
  | fix a u => exact ⟨h.1, fz a u rfl h.2⟩
  | acc a xs =>
    obtain ⟨vs, h1, h2, h3⟩ := h
    obtain ⟨e1, n⟩ := hid a rfl
    exact ⟨vs, e1.trans h1, h2.mono m, n h3⟩
  | hid a u =>
    obtain ⟨e1, n⟩ := hid a rfl
    exact ⟨e1.trans h.1, n h.2⟩
theorem HeldR.away {e : HE} {D : Addr} (h : HeldR K ρ H e) (hD : H D = none) (z : e.at = some D) : False := by
  cases e with
  | val x v => cases z
  | fix a u => cases z
  | acc a xs => cases z; obtain ⟨ws, k1, _⟩ := h; rw [hD] at k1; cases k1
  | hid a u => cases z; rw [h.1] at hD; cases hD
/-- a list that grows unseen -/
theorem Rel.accNew {D : Addr} (r : Rel K ρ hs env σ st H) (hD : H D = none) : Rel K ρ (.acc D [] :: hs) env σ st (upd H D (.lst [])) :=
  (r.ex (Evl.Ex.new hD)).push ⟨[], upd_same, PVrs.nil, r.s.notin hD⟩
theorem Rel.accPut {D : Addr} {xs : List PV} {vs : List V} {y : PV} {v : V} (r : Rel K ρ (.acc D xs :: hs) env σ st H) (nD : ∀ e ∈ hs, e.at ≠ some D) (hD : H D = some (.lst vs)) (d : PVr K ρ H y v) :
    Rel K ρ (.acc D (xs ++ [y]) :: hs) env σ st (upd H D (.lst (vs ++ [v]))) := by
  obtain ⟨vs', h1, h2, h3⟩ := r.top
  rw [hD] at h1
  cases h1
  have ne : ∀ b u, H b = some u → (∀ zs, u ≠ .lst zs) → b ≠ D := fun b u hb hu z => by
    rw [z, hD] at hb
    cases hb
    exact hu _ rfl
  have m : MV ρ ρ H (upd H D (.lst (vs ++ [v]))) := ⟨fun _ _ h => h, fun a ws e => by
    rw [upd_ne (ne a _ e (fun _ z => by cases z))]; exact e⟩
  refine ⟨⟨r.s.len, r.s.nd, fun i o a h1 h2 => ?_⟩, fun e he => ?_, r.el, fun i x h => let ⟨w, e, q⟩ := r.e i x h; ⟨w, e, q.mono m⟩⟩
  · have na : a ≠ D := fun z => h3 (z ▸ List.mem_of_getElem? h2)
    exact (r.s.ob i o a h1 h2).keep m (upd_ne na) fun dx q => by
      rw [upd_ne (ne dx _ q (fun _ z => by cases z))]; exact q
  · rcases List.mem_cons.mp he with rfl | he
    · exact ⟨_, upd_same, (h2.append (.one d)).mono m, h3⟩
    · refine (r.h e (List.mem_cons_of_mem _ he)).mono' m (fun a u z q => ?_) fun a z => ?_
      · have hf := r.h e (List.mem_cons_of_mem _ he)
        rw [z] at hf
        have : a ≠ D := ne a u q fun zs z => by rw [z] at hf; cases hf.1
        rw [upd_ne this]; exact q
      · have : a ≠ D := fun q => nD e he (by rw [z, q])
        rw [upd_ne this]
        exact ⟨rfl, fun n => n⟩
/-- .. and is seen -/
theorem Rel.adopt {D : Addr} {xs : List PV} (r : Rel K ρ (.acc D xs :: hs) env σ st H) (nD : ∀ e ∈ hs, e.at ≠ some D) : Rel K (ρ ++ [D]) hs env σ (st ++ [.lst xs]) H ∧ PVr K (ρ ++ [D]) H (.ref st.length) (.ref D) := by
  obtain ⟨vs, h1, h2, h3⟩ := r.top
  have m : MV ρ (ρ ++ [D]) H H := MV.push (Evl.Ex.refl H)
  refine ⟨⟨⟨by simp [r.s.len], ?_, fun i o a k1 k2 => ?_⟩, fun e he => ?_, r.el, fun i x h => let ⟨w, e, q⟩ := r.e i x h; ⟨w, e, q.mono m⟩⟩, D, ?_, rfl⟩
  · refine List.nodup_append.mpr ⟨r.s.nd, List.nodup_cons.mpr ⟨by simp, List.nodup_nil⟩, fun a ha b hb => ?_⟩
    have : b = D := by simpa using hb
    subst this
    exact fun z => h3 (z ▸ ha)
  · by_cases hi : i < st.length
    · rw [List.getElem?_append_left hi] at k1
      rw [List.getElem?_append_left (by rw [r.s.len]; exact hi)] at k2
      exact (r.s.ob i o a k1 k2).keep m rfl fun _ q => q
    · have e1 : i = st.length := by
        have := (List.getElem?_eq_some_iff.mp k1).1
        simp at this
        omega
      subst e1
      rw [List.getElem?_append_right (Nat.le_refl _)] at k1
      rw [List.getElem?_append_right (by rw [r.s.len]; exact Nat.le_refl _)] at k2
      simp at k1
      simp [r.s.len] at k2
      subst k1 k2
      exact ⟨vs, h1, h2.mono m⟩
  · refine (r.h e (List.mem_cons_of_mem _ he)).mono' m (fun a u z q => q) fun a z => ⟨rfl, fun n => ?_⟩
    intro hm
    rcases List.mem_append.mp hm with q | q
    · exact n q
    · exact nD e he (by rw [z]; simpa using q)
  · rw [← r.s.len]
    simp
end
/-! ### comprehensions -/
def mLcL (g : Option (Nat × PO)) (tg : Mg) (tt : Mx Bool) (te : Mx PV) (env0 : Env) : List PV → List PV → Store → Res PV
  | [], acc, st => if guardOk g st = true then alloc (.lst acc) st else .bad
  | x :: xs, acc, st => if guardOk g st = true then (match tg x env0 st with
    | .ok env1 st1 => (match tt env1 st1 with
      | .ok true st2 => (match te env1 st2 with
        | .ok y st3 => if acc.length < sizeLine then mLcL g tg tt te env0 xs (acc ++ [y]) st3 else .bad
        | _ => .bad)
      | .ok false st2 => mLcL g tg tt te env0 xs acc st2
      | _ => .bad)
    | _ => .bad) else .bad
def mLc (mi : Mi) (tg : Mg) (tt : Mx Bool) (te : Mx PV) (vs : List Nat) : Mx PV := fun env st => (mi env st).bnd fun w st1 => mLcL w.2 tg tt te (wipeP env vs) w.1 [] st1
def mYes : Mx Bool := fun _ st => .ok true st
/-- nothing is raised -/
def W0 : WX := fun _ _ _ _ => False
section
variable {X : Cx} {W : WX} {K : Fg}
theorem sim_lc {mi : Mi} {tg : Mg} {tt : Mx Bool} {te : Mx PV} {vs us : List Nat} (hu : ∀ i ∈ us, i ∈ vs) :
    Sim (RV K) K W (tLc (rI K W mi) (rT K us tg) (rG RB K W0 tt) (rG (RV K) K W0 te) vs) (mLc mi tg tt te vs) := by
  intro ρ hs env σ st H Q r p
  refine ⟨ρ, hs, env, st, r, ?_⟩
  unfold mLc at p
  cases e : mi env st with
  | exc c x st1 => rw [e] at p; exact p
  | bad => rw [e] at p; exact p.elim
  | ok w st1 =>
    rw [e] at p
    obtain ⟨items, g⟩ := w
    have p : PostG (RV K) K W hs env σ Q (mLcL g tg tt te (wipeP env vs) items [] st1) := p
    intro ρ1 H1 J h0 r1 wk D hD
    obtain ⟨l, l1, l2, l3⟩ := r1.stash
    have nD : ∀ e ∈ l ++ (h0 ++ hs), e.at ≠ some D := fun e hm z => by
      rcases List.mem_append.mp hm with q | q
      · rw [l2 e q] at z; cases z
      · exact (r1.h _ q).away hD z
    have r2 : Rel K ρ1 (l ++ (h0 ++ hs)) env σ st1 H1 := ⟨r1.s, fun e he => (List.mem_append.mp he).elim (l1 e) (r1.h e), r1.el, r1.e⟩
    refine ⟨fun i m H => i + m = items.length ∧ ∃ ρ acc st, Rel K ρ (.acc D acc :: (l ++ (h0 ++ hs))) env σ st H ∧ PostG (RV K) K W hs env σ Q (mLcL g tg tt te (wipeP env vs) (items.drop i) acc st), ⟨items.length, by omega, ρ1, [], st1, r2.accNew hD, by simpa using p⟩, ?_⟩
    rintro i m H2 ⟨him, ρ2, acc, st2, r2, p2⟩
    have wk2 := wk ρ2 _ env σ st2 H2 (fun q hq => List.mem_cons_of_mem _ (List.mem_append_right _ (List.mem_append_left _ hq))) r2
    cases hd : items.drop i with
    | nil =>
      rw [hd] at p2
      have hi : items.length ≤ i := List.drop_eq_nil_iff.mp hd
      have e2 : i = items.length := by omega
      unfold mLcL at p2
      by_cases hg : guardOk g st2 = true
      · rw [if_pos hg] at p2
        obtain ⟨r3, d3⟩ := r2.adopt nD
        refine .inl ⟨?_, p2 _ _ _ (r3.sub fun q hq => List.mem_append_right _ (List.mem_append_right _ hq)) d3⟩
        rw [e2]
        exact (wk2 hg).2.1
      · rw [if_neg hg] at p2; exact p2.elim
    | cons y ys =>
      rw [hd] at p2
      have hi : i < items.length := by
        rcases Nat.lt_or_ge i items.length with h | h
        · exact h
        · rw [List.drop_eq_nil_of_le h] at hd; cases hd
      have hy : items[i]? = some y := by
        have := congrArg (fun l => l[0]?) hd
        simpa using this
      have hys : items.drop (i + 1) = ys := by
        have := congrArg (fun l => l.drop 1) hd
        simpa [Nat.add_comm] using this
      unfold mLcL at p2
      by_cases hg : guardOk g st2 = true
      · rw [if_pos hg] at p2
        obtain ⟨w1, w2, w3⟩ := wk2 hg
        refine .inr ⟨w1 i hi, fun H => i + 1 + (m - 1) = items.length ∧ ∃ ρ acc st, Rel K ρ (.acc D acc :: (l ++ (h0 ++ hs))) env σ st H ∧ PostG (RV K) K W hs env σ Q (mLcL g tg tt te (wipeP env vs) ys acc st), fun H' ⟨h1, ρ', acc', st', h2, h3⟩ => ⟨m - 1, by omega, h1, ρ', acc', st', h2, by rw [hys]; exact h3⟩, fun x H' yl => ?_⟩
        obtain ⟨y', hy', r3, d3⟩ := w3 i x H' hi yl
        rw [hy] at hy'
        cases hy'
        refine ⟨ρ2, _, wipeP env vs, st2, y, r3.wiped, d3, ?_⟩
        cases et : tg y (wipeP env vs) st2 with
        | exc c x st3 => rw [et] at p2; exact p2.elim
        | bad => rw [et] at p2; exact p2.elim
        | ok env3 st3 =>
          rw [et] at p2
          intro ρ4 σ4 H4 r4 o4
          have o4' : OnlyAt vs (wipe σ vs) σ4 := ⟨o4.1, fun i hi => o4.2 i fun z => hi (hu i z)⟩
          refine ⟨wipe_eq o4', ρ4, _, env3, st3, r4, ?_⟩
          dsimp only at p2
          cases eb : tt env3 st3 with
          | exc c x st5 => rw [eb] at p2; exact p2.elim
          | bad => rw [eb] at p2; exact p2.elim
          | ok b st5 =>
            rw [eb] at p2
            intro ρ5 H5 b' r5 db
            cases db
            cases b with
            | false =>
              rw [if_neg (by decide)]
              have r5' : Rel K ρ5 (l ++ (.acc D acc :: (h0 ++ hs))) env3 σ4 st5 H5 := r5.sub fun q hq => by
                rcases List.mem_append.mp hq with z | z
                · exact List.mem_cons_of_mem _ (List.mem_append_left _ z)
                · rcases List.mem_cons.mp z with z | z
                  · exact z ▸ List.mem_cons_self
                  · exact List.mem_cons_of_mem _ (List.mem_append_right _ z)
              have r6 := l3 _ _ _ _ _ _ r5'
              refine ⟨by omega, ρ5, acc, st5, ⟨r6.s, r5.h, r6.el, r6.e⟩, p2⟩
            | true =>
              rw [if_pos rfl]
              refine ⟨ρ5, _, env3, st5, r5, ?_⟩
              dsimp only at p2
              cases ee : te env3 st5 with
              | exc c x st7 => rw [ee] at p2; exact p2.elim
              | bad => rw [ee] at p2; exact p2.elim
              | ok z st7 =>
                rw [ee] at p2
                dsimp only at p2
                intro ρ7 H7 zv r7 dz
                by_cases hl : acc.length < sizeLine
                · rw [if_pos hl] at p2
                  obtain ⟨ws, hw, hw2, hw3⟩ := r7.top
                  refine ⟨ws, hw, by rw [hw2.len]; exact hl, by omega, ρ7, acc ++ [z], st7, ?_, p2⟩
                  have r8 := r7.accPut nD hw dz
                  have r8' : Rel K ρ7 (l ++ (.acc D (acc ++ [z]) :: (h0 ++ hs))) env3 σ4 st7 _ := r8.sub fun q hq => by
                    rcases List.mem_append.mp hq with z | z
                    · exact List.mem_cons_of_mem _ (List.mem_append_left _ z)
                    · rcases List.mem_cons.mp z with z | z
                      · exact z ▸ List.mem_cons_self
                      · exact List.mem_cons_of_mem _ (List.mem_append_right _ z)
                  have r9 := l3 _ _ _ _ _ _ r8'
                  exact ⟨r9.s, r8.h, r9.el, r9.e⟩
                · rw [if_neg hl] at p2; exact p2.elim
      · rw [if_neg hg] at p2; exact p2.elim
structure PXts (X : Cx) (W : WX) (ifs : List Expr) (m : Mx Bool) : Prop where
  pe : PTs X ifs (rG RB X.K W m)
theorem pxts_nil : PXts X W [] mYes := ⟨⟨fun pins s σ H Q I h => pts_nil.run pins s σ H Q I (by obtain ⟨ρ, hs, env, st, r, q⟩ := h; exact q ρ H true r rfl)⟩⟩
theorem pxts_one {c : Expr} {m : Mx Bool} (h : PXt X W c m) : PXts X W [c] m := ⟨pts_one h.pe⟩
theorem px_lc {elt tg iter : Expr} {ifs : List Expr} {scope : Scope} {own : List (Str × Nat)} {pos : Pos} {mi : Mi} {us : List Nat} {g : Mg} {tt : Mx Bool} {te : Mx PV} (hc : X.calm = true) (hN : X.N.Nodup) (hi : PXI X W tg iter mi) (ok : BlkOk X.N X.env.scope scope own)
    (hg : ∀ (s : Shared) (H : Hp) (C : Addr) (cl : List (Str × Addr)) (fp : List Addr), PXG (X.blk s H scope (compEnvC scope cl C X.env) fp) tg us g) (ht : ∀ (s : Shared) (H : Hp) (C : Addr) (cl : List (Str × Addr)) (fp : List Addr), PXts (X.blk s H scope (compEnvC scope cl C X.env) fp) W0 ifs tt)
    (he : ∀ (s : Shared) (H : Hp) (C : Addr) (cl : List (Str × Addr)) (fp : List Addr), PX (X.blk s H scope (compEnvC scope cl C X.env) fp) W0 elt te) (hu : ∀ i ∈ us, i ∈ own.map (·.2) := by decide) (hs : ∀ x, foldedSetIterable iter X.env x = pure x := by intro _; rfl) :
    PX X W (.ListComp elt [⟨tg, iter, ifs, 0⟩] scope pos) (mLc mi g tt te (own.map (·.2))) :=
  .of (pe_lc hc hN hi.pe ok (fun s H C cl fp => (hg s H C cl fp).pe) (fun s H C cl fp => (ht s H C cl fp).pe) (fun s H C cl fp => (he s H C cl fp).pe) hs) (sim_lc hu)
/-! ### name = value -/
def mSet (i : Nat) (a : Mx PV) : Ms := fun env st => (a env st).stm env fun v s1 => .nx (env.set i (some v)) s1
theorem sim_set {t : TE} {m : Mx PV} {i : Nat} (s : Sim (RV K) K W t m) : SimS K W (tAsg t (gName i)) (mSet i m) := fun ρ hs env σ st H D r p =>
  s ρ hs env σ st H _ r (PostG.stm (σ := σ) p fun a s1 _ q ρ1 H1 b r1 d => q ρ1 _ H1 (r1.set d))
theorem pxs_set {i : Nat} {x : Str} {e : Expr} {m : Mx PV} {pos' pos : Pos} (hN : X.N.Nodup) (hi : X.N[i]? = some x) (hx : Loc X.env.scope x) (he : PX X W e m) (hs : swapsWith e (some (.Name x pos')) pos.line X.env = pure false := by rfl) (hf : X.fn x = true ∨ X.env.scope.names.lookup x = some .local := by first | exact .inl rfl | exact .inr rfl | assumption) :
    PXS X W (.Assign [.Name x pos'] e pos) (mSet i m) := .of (ps_set hN hi hx he.pe hs hf) (sim_set Sim.self)
theorem pxs_setLc {i : Nat} {y : Str} {py : Pos} {elt tg iter : Expr} {ifs : List Expr} {scope : Scope} {own : List (Str × Nat)} {pos spos : Pos} {mi : Mi} {us : List Nat} {g : Mg} {tt : Mx Bool} {te : Mx PV} (hc : X.calm = true) (hN : X.N.Nodup) (hy : X.N[i]? = some y) (hyl : X.env.scope.names.lookup y = some .local)
    (hsw : swapsWith (.ListComp elt [⟨tg, iter, ifs, 0⟩] scope pos) (some (.Name y py)) spos.line X.env = pure true) (hi : PXI X W tg iter mi) (ok : BlkOk X.N X.env.scope scope own)
    (hg : ∀ (s : Shared) (H : Hp) (C : Addr) (cl : List (Str × Addr)) (fp : List Addr), PXG (X.blk s H scope (compEnvC scope cl C X.env) fp) tg us g) (ht : ∀ (s : Shared) (H : Hp) (C : Addr) (cl : List (Str × Addr)) (fp : List Addr), PXts (X.blk s H scope (compEnvC scope cl C X.env) fp) W0 ifs tt)
    (he : ∀ (s : Shared) (H : Hp) (C : Addr) (cl : List (Str × Addr)) (fp : List Addr), PX (X.blk s H scope (compEnvC scope cl C X.env) fp) W0 elt te) (hu : ∀ i ∈ us, i ∈ own.map (·.2) := by decide) (hs : ∀ x, foldedSetIterable iter X.env x = pure x := by intro _; rfl) :
    PXS X W (.Assign [.Name y py] (.ListComp elt [⟨tg, iter, ifs, 0⟩] scope pos) spos) (mSet i (mLc mi g tt te (own.map (·.2)))) :=
  .of (ps_setLc hc hN hy hyl hsw hi.pe ok (fun s H C cl fp => (hg s H C cl fp).pe) (fun s H C cl fp => (ht s H C cl fp).pe) (fun s H C cl fp => (he s H C cl fp).pe) hs) (sim_set (sim_lc hu))
def mAsg (a : Mx PV) (g : Mg) : Ms := fun env st => (a env st).stm env fun v s1 => match g v env s1 with
  | .ok env' s2 => .nx env' s2
  | _ => .bad
theorem sim_asg {vs : List Nat} {m : Mx PV} {g : Mg} : SimS K W (tAsg (rG (RV K) K W m) (rT K vs g)) (mAsg m g) := fun ρ hs env σ st H D r p =>
  ⟨ρ, hs, env, st, r, PostG.stm (σ := σ) p fun a s1 _ q ρ1 H1 b r1 d => ⟨ρ1, hs, env, s1, a, r1, d, by
    cases e : g a env s1 with
    | ok env' s2 => rw [e] at q; exact fun ρ σ H r _ => q ρ σ H r
    | exc c x s2 => rw [e] at q; exact q
    | bad => rw [e] at q; exact q⟩⟩
theorem pxs_asg {tg e : Expr} {vs : List Nat} {m : Mx PV} {g : Mg} {pos : Pos} (he : PX X W e m) (hg : PXG X tg vs g) (hs : swapsWithSole [tg] e pos.line X.env = pure false := by rfl) (hw : swappedStores [tg] e X.env = pure none := by rfl)
    (h1 : (assignEach [tg] X.env).map (·.2) = [assign tg X.env] := by rfl) : PXS X W (.Assign [tg] e pos) (mAsg m g) := .of (ps_asg he.pe hg.pe hs hw h1) sim_asg
end
end
end PL
set_option Elab.async false
set_option linter.all false
set_option maxRecDepth 100000
set_option maxHeartbeats 1000000
set_option autoImplicit false
namespace PL
open PySem PySem.Spec PyProof.Rows L2 LW
noncomputable section
/-! ### tables -/
section
variable {K : Fg} {ρ : List Addr} {H : Hp} {κ : Type} [DecidableEq κ]
def phas (kvs : List (κ × PV)) (k : κ) : Bool := (pval kvs k).isSome
/-- as putK -/
def pputK (kvs : List (κ × PV)) (k : κ) (v : PV) : List (κ × PV) := if phas kvs k = true then kvs.map (fun kv => if kv.1 = k then (kv.1, v) else kv) else kvs ++ [(k, v)]
theorem pval_cons {p : κ × PV} {r : List (κ × PV)} {k : κ} : pval (p :: r) k = if p.1 = k then some p.2 else pval r k := rfl
theorem KR.has {xs : List (κ × PV)} {vs : List (κ × V)} (k : κ) (h : KR K ρ H xs vs) : (vs.any fun kv => decide (kv.1 = k)) = phas xs k := by
  rw [valV_any]
  unfold phas
  rcases h.val (k := k) with ⟨x, v, h1, h2, _⟩ | ⟨h1, h2⟩
  · rw [h1, h2]; rfl
  · rw [h1, h2]; rfl
theorem KR.append {xs ys : List (κ × PV)} {vs ws : List (κ × V)} : KR K ρ H xs vs → KR K ρ H ys ws → KR K ρ H (xs ++ ys) (vs ++ ws) := by
  induction xs generalizing vs with
  | nil => intro h g; cases h; exact g
  | cons x xs ih =>
    intro h g
    obtain ⟨v, r, rfl, h2, h3⟩ := h
    exact ⟨v, r ++ ws, rfl, h2, ih h3 g⟩
theorem KR.mapPut {k : κ} {x : PV} {v : V} (d : PVr K ρ H x v) : ∀ {xs : List (κ × PV)} {vs : List (κ × V)}, KR K ρ H xs vs → KR K ρ H (xs.map (fun kv => if kv.1 = k then (kv.1, x) else kv)) (vs.map (fun kv => if kv.1 = k then (kv.1, v) else kv))
  | [], _, h => by cases h; exact rfl
  | (k', y) :: xs, _, h => by
    obtain ⟨w, r, rfl, h2, h3⟩ := h
    simp only [List.map_cons]
    by_cases e : k' = k
    · simp only [e, if_true]
      exact ⟨v, _, rfl, d, KR.mapPut d h3⟩
    · simp only [e, if_false]
      exact ⟨w, _, rfl, h2, KR.mapPut d h3⟩
theorem KR.put {k : κ} {x : PV} {v : V} {xs : List (κ × PV)} {vs : List (κ × V)} (h : KR K ρ H xs vs) (d : PVr K ρ H x v) : KR K ρ H (pputK xs k x) (putK vs k v) := by
  unfold pputK putK
  rw [h.has k]
  by_cases e : phas xs k = true
  · rw [if_pos e, if_pos e]; exact KR.mapPut d h
  · rw [if_neg e, if_neg e]; exact h.append (.cons d .nil)
theorem KR.drop {k : κ} : ∀ {xs : List (κ × PV)} {vs : List (κ × V)}, KR K ρ H xs vs → KR K ρ H (pdrop xs k) (dropK vs k)
  | [], _, h => by cases h; exact rfl
  | (k', y) :: xs, _, h => by
    obtain ⟨w, r, rfl, h2, h3⟩ := h
    unfold pdrop dropK
    by_cases e : k' = k
    · simp only [List.filter_cons, e, ne_eq, not_true_eq_false, decide_false]
      exact KR.drop h3
    · simp only [List.filter_cons, e, ne_eq, not_false_eq_true, decide_true, if_true]
      exact ⟨w, _, rfl, h2, KR.drop h3⟩
end
section
variable {K : Fg} {ρ : List Addr} {H : Hp}
/-- a field -/
def pfld : List (Str × PV) → Str → Option PV
  | [], _ => none
  | p :: r, f => if p.1 = f then some p.2 else pfld r f
def pputF (f : Str) (v : PV) : List (Str × PV) → List (Str × PV)
  | [] => [(f, v)]
  | p :: r => if p.1 = f then (p.1, v) :: r else p :: pputF f v r
theorem KR.fld : ∀ {xs : List (Str × PV)} {vs : List (Str × V)} {f : Str}, KR K ρ H xs vs → (∃ x v, pfld xs f = some x ∧ vs.lookup f = some v ∧ PVr K ρ H x v) ∨ (pfld xs f = none ∧ vs.lookup f = none)
  | [], _, f, h => by cases h; exact .inr ⟨rfl, rfl⟩
  | (g, x) :: xs, _, f, h => by
    obtain ⟨v, r, rfl, h2, h3⟩ := h
    by_cases e : g = f
    · subst e
      exact .inl ⟨x, v, by simp [pfld], by simp, h2⟩
    · have := KR.fld (f := f) h3
      have e' : (f == g) = false := by simpa using fun z : f = g => e z.symm
      simpa [pfld, List.lookup, e, e'] using this
theorem KR.putF {f : Str} {x : PV} {v : V} (d : PVr K ρ H x v) : ∀ {xs : List (Str × PV)} {vs : List (Str × V)}, KR K ρ H xs vs → KR K ρ H (pputF f x xs) (L2.putF f v vs)
  | [], _, h => by cases h; exact .cons d .nil
  | (g, y) :: xs, _, h => by
    obtain ⟨w, r, rfl, h2, h3⟩ := h
    unfold pputF L2.putF
    by_cases e : g = f
    · simp only [e, if_true]; exact ⟨v, _, rfl, d, h3⟩
    · simp only [e, if_false]; exact ⟨w, _, rfl, h2, KR.putF d h3⟩
end
/-! ### fields -/
/-- which classes there are, and what they have not -/
structure ClsOk (K : Fg) (cs : List Str) (fs : List Str) : Prop where
  cls : ∀ c ∈ cs, Cls K (He.ga K c)
  no : ∀ c ∈ cs, ∀ f ∈ fs, NoAttr K (He.ga K c) f
def mFld (cs : List Str) (f : Str) (a : Mx PV) : Mx PV := fun env st => (a env st).bnd fun x s1 => match x with
  | .ref i => (match s1[i]? with
    | some (.ins c fs) => if c ∈ cs then (match pfld fs f with
      | some v => .ok v s1
      | none => .bad) else .bad
    | _ => .bad)
  | _ => .bad
section
variable {X : Cx} {W : WX} {K : Fg}
theorem px_fld {cs fs : List Str} {e : Expr} {f : Str} {pos : Pos} {m : Mx PV} (C : ClsOk X.K cs fs) (hf : f ∈ fs) (he : PX X W e m) (hb : attributeBase e f X.env (eval e X.env) = eval e X.env) : PX X W (.Attribute e f pos) (mFld cs f m) :=
  .of (pe_fld he.pe hb) fun ρ hs env σ st H Q r p => ⟨ρ, hs, env, st, r, p.bnd fun a s1 _ q ρ1 H1 b r1 d => by
    cases a with
    | ref i =>
      cases e1 : s1[i]? with
      | none => simp only [e1] at q; exact q.elim
      | some o =>
        simp only [e1] at q
        cases o with
        | ins c gs =>
          obtain ⟨ad, h1, rfl⟩ := d
          obtain ⟨dx, ws, k1, k2, k3⟩ := r1.s.ob _ _ _ e1 h1
          dsimp only at q
          by_cases hc : c ∈ cs
          · rw [if_pos hc] at q
            rcases k3.fld (f := f) with ⟨x, v, l1, l2, l3⟩ | ⟨l1, _⟩
            · rw [l1] at q
              exact ⟨ad, _, dx, ws, v, rfl, k1, C.cls c hc, C.no c hc f hf, l2, q ρ1 H1 v r1 l3⟩
            · rw [l1] at q; exact q.elim
          · rw [if_neg hc] at q; exact q.elim
        | _ => exact q.elim
    | _ => exact q.elim⟩
/-- e.f = value -/
def setFld (cs : List Str) (f : Str) (v x : PV) (st : Store) : Option Store := match x with
  | .ref i => (match st[i]? with
    | some (.ins c fs) => if c ∈ cs ∧ fs.length < 1000 then some (st.set i (.ins c (pputF f v fs))) else none
    | _ => none)
  | _ => none
def mSetFld (cs : List Str) (f : Str) (a v : Mx PV) : Ms := fun env st => (v env st).stm env fun y s1 => (a env s1).stm env fun x s2 => match setFld cs f y x s2 with
  | some s3 => .nx env s3
  | none => .bad
theorem Rel.fld {cs fs : List Str} {f : Str} {ρ : List Addr} {hs : List HE} {env : Env} {σ : L2.St} {st st' : Store} {H : Hp} {y x : PV} {v u : V} (C : ClsOk K cs fs) (hf : f ∈ fs) (r : Rel K ρ hs env σ st H) (dx : PVr K ρ H x u) (dy : PVr K ρ H y v) (h : setFld cs f y x st = some st') :
    ∃ a C dx gs, u = .ref a ∧ H a = some (.ins C dx gs) ∧ Cls K C ∧ NoAttr K C f ∧ gs.length < 1000 ∧ Rel K ρ hs env σ st' (upd H a (.ins C dx (putF f v gs))) := by
  unfold setFld at h
  cases x with
  | ref i =>
    cases e1 : st[i]? with
    | none => simp only [e1] at h; cases h
    | some o =>
      simp only [e1] at h
      cases o with
      | ins c gs =>
        obtain ⟨ad, h1, rfl⟩ := dx
        obtain ⟨dx, ws, k1, k2, k3⟩ := r.s.ob _ _ _ e1 h1
        by_cases hc : c ∈ cs ∧ gs.length < 1000
        · simp only [if_pos hc] at h
          cases h
          have ne : dx ≠ ad := fun z => by rw [z, k1] at k2; cases k2
          have hk : ∀ w, H ad = some w → isFix w = false ∧ ∀ x, w ≠ .own x := fun w e => by
            rw [k1] at e; cases e; exact ⟨rfl, fun _ z => by cases z⟩
          have m : MV ρ ρ H (upd H ad (.ins (He.ga K c) dx (putF f v ws))) := ⟨fun _ _ h => h, fun a vs e => by
            have : a ≠ ad := fun z => by rw [z, k1] at e; cases e
            rw [upd_ne this]; exact e⟩
          refine ⟨ad, _, dx, ws, rfl, k1, C.cls c hc.1, C.no c hc.1 f hf, by rw [k3.len]; exact hc.2, r.put h1 hk ⟨dx, _, upd_same, by rw [upd_ne ne]; exact k2, (k3.mono m).putF (dy.mono m)⟩⟩
        · simp only [if_neg hc] at h; cases h
      | _ => cases h
  | _ => cases h
theorem pxs_fld {cs fs : List Str} {o value : Expr} {f : Str} {pos pos' : Pos} {m n : Mx PV} (C : ClsOk X.K cs fs) (hf : f ∈ fs) (ha : PX X W o m) (hv : PX X W value n) (hs : swapsWith value (some (.Attribute o f pos')) pos.line X.env = pure false := by rfl) :
    PXS X W (.Assign [.Attribute o f pos'] value pos) (mSetFld cs f m n) :=
  .of (ps_fld ha.pe hv.pe hs) fun ρ hs env σ st H D r p => ⟨ρ, hs, env, st, r, PostG.stm (σ := σ) p fun y s1 _ q ρ1 H1 b r1 d =>
    ⟨ρ1, .val y b :: hs, env, s1, r1.hold d, PostG.stm (σ := σ) q.hold fun x s2 _ q2 ρ2 H2 b2 r2 d2 => by
      cases e : setFld cs f y x s2 with
      | none => simp only [e] at q2; exact q2.elim
      | some s3 =>
        simp only [e] at q2
        obtain ⟨a, Ca, dx, gs, h1, h2, h3, h4, h5, r3⟩ := r2.fld C hf d2 r2.top e
        exact ⟨a, Ca, dx, gs, h1, h2, h3, h4, h5, q2 ρ2 σ _ r3⟩⟩⟩
/-- as a target -/
def gFld (K : Fg) (ta : TE) (f : Str) : TG := fun y σ H Q => ta σ H fun x H2 => ∃ a C dx fs, x = .ref a ∧ H2 a = some (.ins C dx fs) ∧ Cls K C ∧ NoAttr K C f ∧ fs.length < 1000 ∧ Q σ (upd H2 a (.ins C dx (putF f y fs)))
theorem pg_fld {o : Expr} {f : Str} {pos : Pos} {ta : TE} (ha : PE X o ta)
    (h0 : ∀ v, assign (.Attribute o f pos) X.env v = (do
      let ov ← holding [v] (eval o X.env)
      standAt pos.atName
      holding [v, ov] (setAttr ov f v)
      release [v, ov] []) := by intro _; rfl) : PG X (.Attribute o f pos) (gFld X.K ta f) := by
  refine ⟨fun pins s σ H v u Q I r h => ?_⟩
  rw [h0]
  refine wpAny_bind (wpAny_holding (thn (ha.run pins s σ H _ I h) fun ov s1 ⟨x, H1, I1, r1, a, C, dx, fs, ex, ea, c, n, l, q1⟩ => ?_))
  subst ex
  obtain rfl : ov = Value.ref a := r1
  refine wpAny_bind (wpAny_standAt (wpAny_bind (wpAny_holding (setattr_ok I1 ea c n l r fun s2 I2 => ?_))))
  exact wpAny_release ⟨σ, _, I2, q1⟩
def gF (cs : List Str) (f : Str) (a : Mx PV) : Mg := fun y env st => match a env st with
  | .ok x s1 => (match setFld cs f y x s1 with
    | some s2 => .ok env s2
    | none => .bad)
  | _ => .bad
end
end
end PL
set_option Elab.async false
set_option linter.all false
set_option maxRecDepth 100000
set_option maxHeartbeats 1000000
set_option autoImplicit false
namespace PL
open PySem PySem.Spec PyProof.Rows L2 LW
noncomputable section
/-! ### several targets -/
structure PGA (X : Cx) (ts : List Expr) (t : TG) : Prop where
  run : ∀ (pins : List (Addr × Obj)) (s : Shared) (σ : L2.St) (H : Hp) (v : V) (u : Value) (Q : L2.St → Hp → Prop), Inv X pins σ H s → RelV v u → t v σ H Q →
    wpAny (model X.prog X.w) X.A (assignAll u (ts.map fun t => assign t X.env)) (fun _ s' => ∃ σ' H', Inv X pins σ' H' s' ∧ Q σ' H') X.xe s
section
variable {X : Cx} {W : WX} {K : Fg}
theorem pga_one {e : Expr} {t : TG} (h : PG X e t) : PGA X [e] t := ⟨fun pins s σ H v u Q I r hw => h.run pins s σ H v u Q I r hw⟩
theorem pga_cons {e e2 : Expr} {es : List Expr} {t u : TG} (h : PG X e t) (g : PGA X (e2 :: es) u) : PGA X (e :: e2 :: es) (fun v σ H Q => t v σ H fun σ1 H1 => u v σ1 H1 Q) :=
  ⟨fun pins s σ H v uv Q I r hw => wpAny_bind (wpAny_holding (thn (h.run pins s σ H v uv _ I r hw) fun _ s1 ⟨σ1, H1, I1, q1⟩ => g.run pins s1 σ1 H1 v uv Q I1 r q1))⟩
theorem ps_asgA {ts : List Expr} {e : Expr} {te : TE} {g : TG} {pos : Pos} (he : PE X e te) (hg : PGA X ts g) (hs : swapsWithSole ts e pos.line X.env = pure false := by rfl) (hw : swappedStores ts e X.env = pure none := by rfl)
    (h1 : (assignEach ts X.env).map (·.2) = ts.map fun t => assign t X.env := by rfl) : PS X (.Assign ts e pos) (tAsg te g) := by
  refine ⟨fun pins s σ H D I h => ?_⟩
  refine wpAny_Assign_stores (thn (he.run pins s σ H _ I h) fun v s1 ⟨x, H1, I1, r1, q1⟩ => ?_) hs hw
  rw [h1]
  exact thn (hg.run pins s1 σ H1 x v _ I1 r1 q1) fun _ s2 q => q
structure PXGA (X : Cx) (ts : List Expr) (vs : List Nat) (m : Mg) : Prop where
  pe : PGA X ts (rT X.K vs m)
def gAnd (a b : Mg) : Mg := fun x env st => match a x env st with
  | .ok env1 st1 => b x env1 st1
  | _ => .bad
theorem pxga_one {e : Expr} {vs : List Nat} {m : Mg} (h : PXG X e vs m) : PXGA X [e] vs m := ⟨pga_one h.pe⟩
theorem pxga_cons {e e2 : Expr} {es : List Expr} {us ws : List Nat} {m n : Mg} (h : PXG X e us m) (g : PXGA X (e2 :: es) ws n) : PXGA X (e :: e2 :: es) (us ++ ws) (gAnd m n) :=
  ⟨⟨fun pins s σ H v uv Q I r hw => (pga_cons h.pe g.pe).run pins s σ H v uv Q I r (by
    obtain ⟨ρ, hs, env, st, x, rl, d, p⟩ := hw
    unfold gAnd at p
    refine ⟨ρ, .val x v :: hs, env, st, x, rl.hold d, d, ?_⟩
    cases e1 : m x env st with
    | ok env1 st1 =>
      rw [e1] at p
      intro ρ1 σ1 H1 r1 o1
      refine ⟨ρ1, hs, env1, st1, x, r1.drop, r1.top, ?_⟩
      dsimp only at p
      cases e2 : n x env1 st1 with
      | ok env2 st2 => rw [e2] at p; exact fun ρ2 σ2 H2 r2 o2 => p ρ2 σ2 H2 r2 (o1.trans o2)
      | exc c y st2 => rw [e2] at p; exact p
      | bad => rw [e2] at p; exact p
    | exc c y st1 => rw [e1] at p; exact p
    | bad => rw [e1] at p; exact p)⟩⟩
theorem pxs_asgA {ts : List Expr} {e : Expr} {vs : List Nat} {m : Mx PV} {g : Mg} {pos : Pos} (he : PX X W e m) (hg : PXGA X ts vs g) (hs : swapsWithSole ts e pos.line X.env = pure false := by rfl) (hw : swappedStores ts e X.env = pure none := by rfl)
    (h1 : (assignEach ts X.env).map (·.2) = ts.map fun t => assign t X.env := by rfl) : PXS X W (.Assign ts e pos) (mAsg m g) := .of (ps_asgA he.pe hg.pe hs hw h1) sim_asg
theorem pxg_fld {cs fs : List Str} {o : Expr} {f : Str} {pos : Pos} {m : Mx PV} (C : ClsOk X.K cs fs) (hf : f ∈ fs) (ha : PX X W0 o m)
    (h0 : ∀ v, assign (.Attribute o f pos) X.env v = (do
      let ov ← holding [v] (eval o X.env)
      standAt pos.atName
      holding [v, ov] (setAttr ov f v)
      release [v, ov] []) := by intro _; rfl) : PXG X (.Attribute o f pos) [] (gF cs f m) :=
  .of (pg_fld ha.pe h0) fun ρ hs env σ st H Q x v r d p => by
    unfold gF at p
    refine ⟨ρ, .val x v :: hs, env, st, r.hold d, ?_⟩
    cases e : m env st with
    | ok y s1 =>
      rw [e] at p
      intro ρ1 H1 b r1 d1
      dsimp only at p
      cases e2 : setFld cs f x y s1 with
      | none => rw [e2] at p; exact p.elim
      | some s2 =>
        rw [e2] at p
        obtain ⟨a, Ca, dx, gs, h1, h2, h3, h4, h5, r3⟩ := r1.fld C hf d1 r1.top e2
        exact ⟨a, Ca, dx, gs, h1, h2, h3, h4, h5, p ρ1 σ _ r3.drop OnlyAt.refl⟩
    | exc c y s1 => rw [e] at p; exact p.elim
    | bad => rw [e] at p; exact p.elim
end
/-! ### keys -/
def keyOf : PV → Option Key
  | .int i => some (.inl i)
  | .str x => some (.inr x)
  | _ => none
def keyL : List PV → Option (List Key)
  | [] => some []
  | x :: xs => match keyOf x, keyL xs with
    | some k, some ks => some (k :: ks)
    | _, _ => none
def keysOf : PV → Option (List Key)
  | .tup xs => keyL xs
  | _ => none
section
variable {K : Fg} {ρ : List Addr} {H : Hp}
theorem keyOf_ok {x : PV} {v : V} {k : Key} (h : keyOf x = some k) (d : PVr K ρ H x v) : v = kV k := by
  cases x <;> first | (cases h; exact d) | cases h
theorem keyL_ok : ∀ {xs : List PV} {vs : List V} {ks : List Key}, keyL xs = some ks → PVrs K ρ H xs vs → vs = ks.map kV
  | [], _, _, h, d => by cases h; cases d; rfl
  | x :: xs, _, ks, h, d => by
    obtain ⟨v, r, rfl, d1, d2⟩ := d
    unfold keyL at h
    cases e1 : keyOf x with
    | none => rw [e1] at h; cases h
    | some k =>
      cases e2 : keyL xs with
      | none => rw [e1, e2] at h; cases h
      | some ks' =>
        rw [e1, e2] at h
        cases h
        rw [keyOf_ok e1 d1, keyL_ok e2 d2]
        rfl
theorem keysOf_ok {x : PV} {v : V} {ks : List Key} (h : keysOf x = some ks) (d : PVr K ρ H x v) : ∃ b, v = .ref b ∧ H b = some (.tup (ks.map kV)) := by
  cases x with
  | tup xs =>
    obtain ⟨a, vs, rfl, h1, h2⟩ := d
    rw [keyL_ok h h2] at h1
    exact ⟨a, rfl, h1⟩
  | _ => cases h
/-- the dict i at a key -/
def dGet (st : Store) (i : Nat) (y : PV) : Option (Option PV) := match st[i]? with
  | some (.dK _ kvs) => (keyOf y).map fun k => pval kvs k
  | some (.dT _ kvs) => (keysOf y).map fun k => pval kvs k
  | _ => none
theorem lk_rd {lk : Bool} {a : Addr} {u : HO} (h : Lk lk H a u) : Rd H a u := by
  cases lk with
  | true => exact .inr h
  | false => exact .inl h
def RO (K : Fg) (ρ : List Addr) (H : Hp) (x : Option PV) (v : Option V) : Prop := match x, v with
  | some x, some v => PVr K ρ H x v
  | none, none => True
  | _, _ => False
theorem dget_ok {hs : List HE} {env : Env} {σ : L2.St} {st : Store} {i : Nat} {a : Addr} {y : PV} {v : V} {r : Option PV} (rl : Rel K ρ hs env σ st H) (ha : ρ[i]? = some a) (d : PVr K ρ H y v) (h : dGet st i y = some r) : ∃ o, DGet H a v o ∧ RO K ρ H r o := by
  unfold dGet at h
  cases e : st[i]? with
  | none => rw [e] at h; cases h
  | some o =>
    rw [e] at h
    cases o with
    | dK lk kvs =>
      obtain ⟨k, h1, h2⟩ := Option.map_eq_some_iff.mp h
      subst h2
      obtain ⟨ws, k1, k2⟩ := rl.s.ob _ _ _ e ha
      refine ⟨valV ws k, .inl ⟨ws, k, lk_rd k1, keyOf_ok h1 d, rfl⟩, ?_⟩
      rcases k2.val (k := k) with ⟨x, v, l1, l2, l3⟩ | ⟨l1, l2⟩
      · rw [l1, l2]; exact l3
      · rw [l1, l2]; trivial
    | dT lk kvs =>
      obtain ⟨k, h1, h2⟩ := Option.map_eq_some_iff.mp h
      subst h2
      obtain ⟨ws, k1, k2⟩ := rl.s.ob _ _ _ e ha
      obtain ⟨b, e1, e2⟩ := keysOf_ok h1 d
      refine ⟨valV ws k, .inr ⟨ws, k, b, lk_rd k1, e1, e2, rfl⟩, ?_⟩
      rcases k2.val (k := k) with ⟨x, v, l1, l2, l3⟩ | ⟨l1, l2⟩
      · rw [l1, l2]; exact l3
      · rw [l1, l2]; trivial
    | _ => cases h
/-- the dict i gets a key -/
def dPut (st : Store) (i : Nat) (y x : PV) : Option Store := match st[i]? with
  | some (.dK false kvs) => (match keyOf y with
    | some k => if kvs.length < sizeLine then some (st.set i (.dK false (pputK kvs k x))) else none
    | none => none)
  | some (.dT false kvs) => (match keysOf y with
    | some k => if kvs.length < sizeLine then some (st.set i (.dT false (pputK kvs k x))) else none
    | none => none)
  | _ => none
theorem Rel.dput {hs : List HE} {env : Env} {σ : L2.St} {st st' : Store} {i : Nat} {a : Addr} {y x : PV} {v u : V} (rl : Rel K ρ hs env σ st H) (ha : ρ[i]? = some a) (dy : PVr K ρ H y v) (dx : PVr K ρ H x u) (h : dPut st i y x = some st') : ∃ H', DPut H a v u H' ∧ Rel K ρ hs env σ st' H' := by
  unfold dPut at h
  cases e : st[i]? with
  | none => rw [e] at h; cases h
  | some o =>
    rw [e] at h
    cases o with
    | dK lk kvs =>
      cases lk with
      | true => cases h
      | false =>
        dsimp only at h
        cases ek : keyOf y with
        | none => rw [ek] at h; cases h
        | some k =>
          rw [ek] at h
          dsimp only at h
          by_cases hl : kvs.length < sizeLine
          · rw [if_pos hl] at h
            cases h
            obtain ⟨ws, k1, k2⟩ := rl.s.ob _ _ _ e ha
            have k1 : H a = some (.dK ws) := k1
            have m : MV ρ ρ H (upd H a (.dK (putK ws k u))) := ⟨fun _ _ h => h, fun b vs z => by
              have : b ≠ a := fun q => by rw [q, k1] at z; cases z
              rw [upd_ne this]; exact z⟩
            exact ⟨_, .inl ⟨ws, k, k1, keyOf_ok ek dy, by rw [k2.len]; exact hl, rfl⟩, rl.put ha (fun w z => by rw [k1] at z; cases z; exact ⟨rfl, fun _ q => by cases q⟩) ⟨_, upd_same, (k2.mono m).put (dx.mono m)⟩⟩
          · rw [if_neg hl] at h; cases h
    | dT lk kvs =>
      cases lk with
      | true => cases h
      | false =>
        dsimp only at h
        cases ek : keysOf y with
        | none => rw [ek] at h; cases h
        | some k =>
          rw [ek] at h
          dsimp only at h
          by_cases hl : kvs.length < sizeLine
          · rw [if_pos hl] at h
            cases h
            obtain ⟨ws, k1, k2⟩ := rl.s.ob _ _ _ e ha
            have k1 : H a = some (.dT ws) := k1
            obtain ⟨b, e1, e2⟩ := keysOf_ok ek dy
            have m : MV ρ ρ H (upd H a (.dT (putK ws k u))) := ⟨fun _ _ h => h, fun b vs z => by
              have : b ≠ a := fun q => by rw [q, k1] at z; cases z
              rw [upd_ne this]; exact z⟩
            exact ⟨_, .inr ⟨ws, k, b, k1, e1, e2, by rw [k2.len]; exact hl, rfl⟩, rl.put ha (fun w z => by rw [k1] at z; cases z; exact ⟨rfl, fun _ q => by cases q⟩) ⟨_, upd_same, (k2.mono m).put (dx.mono m)⟩⟩
          · rw [if_neg hl] at h; cases h
    | _ => cases h
end
/-! ### subscripts -/
def pIxSeq (st : Store) (o i : PV) : Option PV := match o, i with
  | .str z, .int k => if z.length ≤ sizeLine then (atI z.cps.toList k).map fun c => .str ⟨#[c]⟩ else none
  | o, .int k => (match itemsOf st o with
    | some xs => atI xs k
    | none => none)
  | _, _ => none
def isDict (st : Store) : PV → Option Nat
  | .ref i => match st[i]? with
    | some (.dK _ _) => some i
    | some (.dT _ _) => some i
    | _ => none
  | _ => none
def pIx (o i : PV) (st : Store) : Res PV := match isDict st o with
  | some d => (match dGet st d i with
    | some (some v) => .ok v st
    | _ => .bad)
  | none => (match pIxSeq st o i with
    | some v => .ok v st
    | none => .bad)
theorem atI_rel {K : Fg} {ρ : List Addr} {H : Hp} {xs : List PV} {vs : List V} {k : Int} {x : PV} (h : PVrs K ρ H xs vs) (e : atI xs k = some x) : ∃ v, atI vs k = some v ∧ PVr K ρ H x v := by
  unfold atI at e ⊢
  rw [h.len]
  cases q : ixN xs.length k with
  | none => rw [q] at e; cases e
  | some j =>
    rw [q] at e
    exact h.get e
section
variable {X : Cx} {W : WX} {K : Fg}
theorem isDict_at {ρ : List Addr} {hs : List HE} {env : Env} {σ : L2.St} {st : Store} {H : Hp} {o : PV} {v : V} {i : Nat} (h : isDict st o = some i) (rl : Rel K ρ hs env σ st H) (d : PVr K ρ H o v) : ∃ a, v = .ref a ∧ ρ[i]? = some a ∧ IsD H a := by
  cases o with
  | ref j =>
    obtain ⟨a, h1, rfl⟩ := d
    simp only [isDict] at h
    cases e : st[j]? with
    | none => simp only [e] at h; cases h
    | some o =>
      simp only [e] at h
      cases o with
      | dK lk kvs => cases h; obtain ⟨ws, k1, _⟩ := rl.s.ob _ _ _ e h1; exact ⟨a, rfl, h1, .inl ⟨ws, lk_rd k1⟩⟩
      | dT lk kvs => cases h; obtain ⟨ws, k1, _⟩ := rl.s.ob _ _ _ e h1; exact ⟨a, rfl, h1, .inr ⟨ws, lk_rd k1⟩⟩
      | _ => cases h
  | _ => cases h
theorem ixSeq_ok {ρ : List Addr} {hs : List HE} {env : Env} {σ : L2.St} {st : Store} {H : Hp} {o i x : PV} {v u : V} (h : pIxSeq st o i = some x) (rl : Rel K ρ hs env σ st H) (d : PVr K ρ H o v) (di : PVr K ρ H i u) : ∀ {Q : VK}, (∀ w, PVr K ρ H x w → Q w H) → rIx K v u H Q := by
  intro Q hQ
  have seq : ∀ k : Int, i = .int k → (∃ xs, itemsOf st o = some xs ∧ atI xs k = some x) → rIx K v u H Q := fun k ek ⟨xs, h1, h2⟩ => by
    subst ek
    cases di
    obtain ⟨a, vs, rfl, sq, rv⟩ := items_of rl d h1
    obtain ⟨w, e, dw⟩ := atI_rel rv h2
    rcases sq with sq | sq
    · exact .inl ⟨a, vs, k, w, rfl, rfl, sq, e, hQ w dw⟩
    · exact .inr (.inl ⟨a, vs, k, w, rfl, rfl, sq, e, hQ w dw⟩)
  cases i with
  | int k =>
    cases o with
    | str z =>
      cases d
      cases di
      simp only [pIxSeq] at h
      by_cases hz : z.length ≤ sizeLine
      · simp only [if_pos hz] at h
        obtain ⟨c, h1, h2⟩ := Option.map_eq_some_iff.mp h
        subst h2
        exact .inr (.inr ⟨z, k, c, rfl, rfl, hz, h1, hQ _ rfl⟩)
      · simp only [if_neg hz] at h; cases h
    | _ =>
      all_goals
        refine seq k rfl ?_
        simp only [pIxSeq] at h
        first
          | (cases e : itemsOf st _ with
            | none => rw [e] at h; cases h
            | some xs => rw [e] at h; exact ⟨xs, rfl, h⟩)
  | _ => cases o <;> cases h
theorem px_ix {a b : Expr} {pos : Pos} {m n : Mx PV} (hu : X.A.units + 1 < cLine) (ha : PX X W a m) (hb : PX X W b n) (hs : PlainIx b := by exact fun _ _ => rfl) (hn : NoSl b := by exact fun _ _ => rfl) : PX X W (.Subscript a b pos) (mOp pIx m n) :=
  .of (pe_or2 (pe_ix ix_seq ha.pe hb.pe hs) (pe_dget hu ha.pe hb.pe hn)) fun ρ hs env σ st H Q r p => by
    -- which of both is known by what the pure function finds
    have key : (∃ o s1 i s2 d, m env st = .ok o s1 ∧ n env s1 = .ok i s2 ∧ isDict s2 o = some d) ∨ ¬ (∃ o s1 i s2 d, m env st = .ok o s1 ∧ n env s1 = .ok i s2 ∧ isDict s2 o = some d) := Classical.em _
    rcases key with ⟨o, s1, i, s2, d, e1, e2, e3⟩ | hn
    · refine .inr ⟨ρ, hs, env, st, r, ?_⟩
      unfold mOp at p
      rw [e1] at p ⊢
      intro ρ1 H1 x r1 d1
      refine ⟨ρ1, .val o x :: hs, env, s1, r1.hold d1, ?_⟩
      simp only [bnd_ok, e2] at p
      rw [e2]
      intro ρ2 H2 y r2 d2
      unfold pIx at p
      simp only [e3] at p
      obtain ⟨ad, rfl, ha, _⟩ := isDict_at e3 r2 r2.top
      cases e4 : dGet s2 d i with
      | none => simp only [e4] at p; exact p.elim
      | some ro =>
        simp only [e4] at p
        cases ro with
        | none => exact p.elim
        | some v =>
          obtain ⟨w, g, dw⟩ := dget_ok r2 ha d2 e4
          cases w with
          | none => exact dw.elim
          | some w => exact ⟨ad, w, rfl, g, p ρ2 H2 w r2.drop dw⟩
    · refine .inl (sim_op (W := W) (φ := fun o i st => if isDict st o = none then pIx o i st else .bad) ?_ Sim.self Sim.self ρ hs env σ st H Q r ?_)
      · intro W ρ hs env σ st H Q a b x y rl da db p
        dsimp only at p
        cases e : isDict st a with
        | some d => simp [e] at p; exact p.elim
        | none =>
          simp only [e, if_true] at p
          unfold pIx at p
          simp only [e] at p
          cases e2 : pIxSeq st a b with
          | none => simp only [e2] at p; exact p.elim
          | some v =>
            simp only [e2] at p
            exact ixSeq_ok e2 rl da db fun w dw => p ρ H w rl dw
      · unfold mOp at p ⊢
        cases e1 : m env st with
        | exc c x s1 => rw [e1] at p; exact p
        | bad => rw [e1] at p; exact p
        | ok o s1 =>
          rw [e1] at p
          simp only [bnd_ok] at p ⊢
          cases e2 : n env s1 with
          | exc c x s2 => rw [e2] at p; exact p
          | bad => rw [e2] at p; exact p
          | ok i s2 =>
            rw [e2] at p
            simp only [bnd_ok] at p ⊢
            cases e3 : isDict s2 o with
            | some d => exact absurd ⟨o, s1, i, s2, d, e1, e2, e3⟩ hn
            | none => simp only [if_true]; exact p
end
end
end PL
set_option Elab.async false
set_option linter.all false
set_option maxRecDepth 100000
set_option maxHeartbeats 1000000
set_option autoImplicit false
namespace PL
open PySem PySem.Spec PyProof.Rows L2 LW
noncomputable section
/-! ### o[i] = v -/
def pSet (o i v : PV) (st : Store) : Option Store := match isDict st o with
  | some d => dPut st d i v
  | none => (match o, i with
    | .ref j, .int k => (match st[j]? with
      | some (.lst xs) => (match ixN xs.length k with
        | some q => some (st.set j (.lst (xs.set q v)))
        | none => none)
      | _ => none)
    | _, _ => none)
def mSetIx (o i v : Mx PV) : Ms := fun env st => (v env st).stm env fun y s1 => (o env s1).stm env fun x s2 => (i env s2).stm env fun k s3 => match pSet x k y s3 with
  | some s4 => .nx env s4
  | none => .bad
section
variable {X : Cx} {W : WX} {K : Fg}
theorem Rel.lset {ρ : List Addr} {hs : List HE} {env : Env} {σ : L2.St} {st : Store} {H : Hp} {j : Nat} {xs ys : List PV} {a : Addr} {ws : List V} (rl : Rel K ρ hs env σ st H) (hj : st[j]? = some (.lst xs)) (ha : ρ[j]? = some a)
    (hy : ∀ {vs : List V} {H' : Hp}, MV ρ ρ H H' → PVrs K ρ H xs vs → H a = some (.lst vs) → PVrs K ρ H' ys ws) : Rel K ρ hs env σ (st.set j (.lst ys)) (upd H a (.lst ws)) := by
  obtain ⟨vs, k1, k2⟩ := rl.s.ob _ _ _ hj ha
  have m : MV ρ ρ H (upd H a (.lst ws)) := ⟨fun _ _ h => h, fun b vs z => by
    have : b ≠ a := fun q => by rw [q, k1] at z; cases z
    rw [upd_ne this]; exact z⟩
  exact rl.put ha (fun w z => by rw [k1] at z; cases z; exact ⟨rfl, fun _ q => by cases q⟩) ⟨ws, upd_same, hy m k2 k1⟩
theorem pxs_sub {o i value : Expr} {pos pos' : Pos} {mo mi mv : Mx PV} (hu : X.A.units + 1 < cLine) (ho : PX X W o mo) (hi : PX X W i mi) (hv : PX X W value mv)
    (hs : swapsWith value (some (.Subscript o i pos')) pos.line X.env = pure false := by rfl) (hs2 : swapsWithSole [.Subscript o i pos'] value pos.line X.env = pure false := by rfl) (hw : swappedStores [.Subscript o i pos'] value X.env = pure none := by rfl)
    (h1 : (assignEach [.Subscript o i pos'] X.env).map (·.2) = [assign (.Subscript o i pos') X.env] := by rfl)
    (ha : ∀ v, assign (.Subscript o i pos') X.env v = (do
      let ov ← holding [v] (eval o X.env)
      let iv ← holding [v, ov] (eval i X.env)
      standAt pos'
      holding [v, ov, iv] (setItem ov iv v)
      release [v, ov, iv] []) := by intro _; rfl) :
    PXS X W (.Assign [.Subscript o i pos'] value pos) (mSetIx mo mi mv) :=
  .of (ps_or2 (ps_asg hv.pe (pg_sub ho.pe hi.pe set_list ha) hs2 hw h1) (ps_dput hu ho.pe hi.pe hv.pe hs)) fun ρ hs env σ st H D r p => by
    have key := Classical.em (∃ y s1 x s2 k s3 d, mv env st = .ok y s1 ∧ mo env s1 = .ok x s2 ∧ mi env s2 = .ok k s3 ∧ isDict s3 x = some d)
    rcases key with ⟨y, s1, x, s2, k, s3, d, e1, e2, e3, e4⟩ | hn
    · refine .inr ⟨ρ, hs, env, st, r, ?_⟩
      unfold mSetIx at p
      simp only [e1, e2, e3, stm_ok] at p
      rw [e1]
      intro ρ1 H1 yv r1 d1
      refine ⟨ρ1, .val y yv :: hs, env, s1, r1.hold d1, ?_⟩
      rw [e2]
      intro ρ2 H2 xv r2 d2
      refine ⟨ρ2, .val x xv :: .val y yv :: hs, env, s2, r2.hold d2, ?_⟩
      rw [e3]
      intro ρ3 H3 kv r3 d3
      unfold pSet at p
      simp only [e4] at p
      cases e5 : dPut s3 d k y with
      | none => simp only [e5] at p; exact p.elim
      | some s4 =>
        simp only [e5] at p
        obtain ⟨a, rfl, ha, _⟩ := isDict_at e4 r3 r3.top
        obtain ⟨H4, g, r4⟩ := r3.dput ha d3 r3.drop.top e5
        exact ⟨a, H4, rfl, g, p ρ3 σ H4 r4.drop.drop⟩
    · refine .inl ⟨ρ, hs, env, st, r, ?_⟩
      refine PostG.stm (σ := σ) p fun y s1 e1 p1 ρ1 H1 yv r1 d1 => ?_
      refine ⟨ρ1, .val y yv :: hs, env, s1, r1.hold d1, PostG.stm (σ := σ) p1.hold fun x s2 e2 p2 ρ2 H2 xv r2 d2 => ?_⟩
      refine ⟨ρ2, .val x xv :: .val y yv :: hs, env, s2, r2.hold d2, PostG.stm (σ := σ) p2.hold fun k s3 e3 p3 ρ3 H3 kv r3 d3 => ?_⟩
      cases e4 : isDict s3 x with
      | some d => exact absurd ⟨y, s1, x, s2, k, s3, d, e1, e2, e3, e4⟩ hn
      | none =>
        unfold pSet at p3
        simp only [e4] at p3
        cases x with
        | ref j =>
          cases k with
          | int q =>
            dsimp only at p3
            cases ej : s3[j]? with
            | none => simp only [ej] at p3; exact p3.elim
            | some ob =>
              simp only [ej] at p3
              cases ob with
              | lst xs =>
                dsimp only at p3
                cases eq : ixN xs.length q with
                | none => simp only [eq] at p3; exact p3.elim
                | some t =>
                  simp only [eq] at p3
                  obtain ⟨a, ha, rfl⟩ := id r3.top
                  cases d3
                  obtain ⟨vs, k1, k2⟩ := r3.s.ob _ _ _ ej ha
                  refine ⟨a, vs, q, t, rfl, rfl, k1, by rw [k2.len]; exact eq, p3 ρ3 σ _ ?_⟩
                  refine r3.lset (ys := xs.set t y) ej ha fun {vs' H'} m rv hv' => ?_
                  rw [k1] at hv'
                  cases hv'
                  exact (rv.mono m).set t (PVr.mono m r3.drop.top)
              | _ => exact p3.elim
          | _ => exact p3.elim
        | _ => exact p3.elim
/-! ### op= -/
def mAug (i : Nat) (φ : PV → PV → Store → Res PV) (a : Mx PV) : Ms := fun env st => (mVar i env st).stm env fun x _ => (a env st).stm env fun y s1 => (φ x y s1).stm env fun z s2 => .nx (env.set i (some z)) s2
theorem pxs_aug {i : Nat} {x : Str} {e : Expr} {m : Mx PV} {op : Operator} {ti : TIp} {φ : PV → PV → Store → Res PV} {pos' pos : Pos} (hN : X.N.Nodup) (hi : X.N[i]? = some x) (hx : Loc X.env.scope x) (he : PX X W e m) (ho : PIp X op ti) (hφ : Op2 X.K ti φ) (hf : X.fn x = true ∨ X.env.scope.names.lookup x = some .local := by first | exact .inl rfl | exact .inr rfl | assumption) :
    PXS X W (.AugAssign (.Name x pos') op e pos) (mAug i φ m) :=
  .of (ps_aug hN hi hx he.pe ho hf) fun ρ hs env σ st H D r p => by
    unfold mAug mVar at p
    cases h : env[i]? with
    | none => rw [h] at p; exact p.elim
    | some o =>
      rw [h] at p
      cases o with
      | none => exact p.elim
      | some v =>
        obtain ⟨u, e1, d⟩ := r.e i v h
        refine ⟨u, e1, ρ, .val v u :: hs, env, st, r.hold d, PostG.stm (σ := σ) (PostS.hold p) fun y s1 _ p1 ρ1 H1 yv r1 d1 => ?_⟩
        refine hφ W ρ1 _ env σ s1 H1 _ v y u yv r1 r1.top d1 (PostG.stm (σ := σ) p1 fun z s2 _ p2 ρ2 H2 zv r2 d2 => p2 ρ2 _ H2 (r2.set d2))
def clsAt (st : Store) : PV → Option Str
  | .ref i => match st[i]? with
    | some (.ins c _) => some c
    | _ => none
  | _ => none
/-- e.f op= v -/
def mAugFld (cs : List Str) (f : Str) (φ : PV → PV → Store → Res PV) (a v : Mx PV) : Ms := fun env st => (a env st).stm env fun x s1 => (mFld cs f (mC x) env s1).stm env fun old s1' => (v env s1').stm env fun y s2 => (φ old y s2).stm env fun z s3 => if clsAt s3 x = clsAt s1 x then (match setFld cs f z x s3 with
  | some s4 => .nx env s4
  | none => .bad) else .bad
theorem fld_ok {cs fs : List Str} {f : Str} {ρ : List Addr} {hs : List HE} {env : Env} {σ : L2.St} {st : Store} {H : Hp} {x : PV} {u : V} (C : ClsOk K cs fs) (hf : f ∈ fs) (r : Rel K ρ hs env σ st H) (dx : PVr K ρ H x u) {k : PV → Store → Fl} {D : Ends} (p : PostS K W hs D ((mFld cs f (mC x) env st).stm env k)) :
    ∃ a C dx gs v y, (∃ c, clsAt st x = some c ∧ C = He.ga K c) ∧ u = .ref a ∧ H a = some (.ins C dx gs) ∧ Cls K C ∧ NoAttr K C f ∧ gs.lookup f = some v ∧ PVr K ρ H y v ∧ PostS K W hs D (k y st) := by
  unfold mFld mC at p
  simp only [bnd_ok] at p
  cases x with
  | ref i =>
    cases e1 : st[i]? with
    | none => simp only [e1] at p; exact p.elim
    | some o =>
      simp only [e1] at p
      cases o with
      | ins c gs =>
        obtain ⟨ad, h1, rfl⟩ := dx
        obtain ⟨dx, ws, k1, k2, k3⟩ := r.s.ob _ _ _ e1 h1
        dsimp only at p
        by_cases hc : c ∈ cs
        · rw [if_pos hc] at p
          rcases k3.fld (f := f) with ⟨x, v, l1, l2, l3⟩ | ⟨l1, _⟩
          · rw [l1] at p
            exact ⟨ad, _, dx, ws, v, x, ⟨c, by simp [clsAt, e1], rfl⟩, rfl, k1, C.cls c hc, C.no c hc f hf, l2, l3, p⟩
          · rw [l1] at p; exact p.elim
        · rw [if_neg hc] at p; exact p.elim
      | _ => exact p.elim
  | _ => exact p.elim
theorem pxs_fldaug {cs fs : List Str} {o value : Expr} {f : Str} {pos tpos : Pos} {m n : Mx PV} {op : Operator} {rd : V → V → Hp → VK → Prop} {φ : PV → PV → Store → Res PV} (C : ClsOk X.K cs fs) (hf : f ∈ fs) (ha : PX X W o m) (hv : PX X W value n) (hop : InOp X op rd) (hφ : Op2 X.K rd φ) :
    PXS X W (.AugAssign (.Attribute o f tpos) op value pos) (mAugFld cs f φ m n) :=
  .of (ps_fldaug ha.pe hv.pe hop) fun ρ hs env σ st H D r p => ⟨ρ, hs, env, st, r, PostG.stm (σ := σ) p fun x s1 _ p1 ρ1 H1 xv r1 d1 => by
    obtain ⟨a, Ca, dx, gs, v, y, ⟨c0, hc0, hC0⟩, h1, h2, h3, h4, h5, dy, p2⟩ := fld_ok C hf r1 d1 p1
    refine ⟨a, Ca, dx, gs, v, h1, h2, h3, h4, h5, ρ1, .val y v :: .val x xv :: hs, env, s1, (r1.hold d1).hold dy, PostG.stm (σ := σ) p2.hold.hold fun z s2 _ p3 ρ2 H2 zv r2 d2 => ?_⟩
    refine hφ W ρ2 _ env σ s2 H2 _ y z v zv r2 r2.top d2 (PostG.stm (σ := σ) p3 fun w s3 _ p4 ρ3 H3 wv r3 d3 => ?_)
    by_cases hcc : clsAt s3 x = clsAt s1 x
    · rw [if_pos hcc] at p4
      cases e : setFld cs f w x s3 with
      | none => simp only [e] at p4; exact p4.elim
      | some s4 =>
        simp only [e] at p4
        obtain ⟨a', Ca', dx', gs', k1, k2, k3, k4, k5, r5⟩ := r3.fld C hf r3.drop.top d3 e
        subst h1
        cases k1
        have : Ca' = Ca := by
          obtain ⟨i, hx⟩ : ∃ i, x = .ref i := by
            cases x with
            | ref i => exact ⟨i, rfl⟩
            | _ => cases hc0
          subst hx
          rw [hc0] at hcc
          unfold clsAt at hcc
          obtain ⟨b, hb, eb⟩ := id r3.drop.top
          cases eb
          cases ei : s3[i]? with
          | none => simp [ei] at hcc
          | some ob =>
            cases ob with
            | ins c1 fs1 =>
              simp only [ei] at hcc
              cases hcc
              obtain ⟨dx1, gs1, q1, _⟩ := r3.s.ob _ _ _ ei hb
              rw [k2] at q1
              cases q1
              exact hC0.symm
            | _ => simp [ei] at hcc
        subst this
        exact ⟨dx', gs', k2, k5, p4 ρ3 σ _ r5⟩
    · rw [if_neg hcc] at p4; exact p4.elim⟩
end
end
end PL
set_option Elab.async false
set_option linter.all false
set_option maxRecDepth 100000
set_option maxHeartbeats 1000000
set_option autoImplicit false
namespace PL
open PySem PySem.Spec PyProof.Rows L2 LW
noncomputable section
section
variable {X : Cx} {W : WX} {K : Fg}
/-! ### arithmetic -/
def pInt (C : Int → Int → Prop) [∀ i j, Decidable (C i j)] (g : Int → Int → PV) : PV → PV → Store → Res PV := fun a b st => match a, b with
  | .int i, .int j => if C i j then .ok (g i j) st else .bad
  | _, _ => .bad
def pAdd : PV → PV → Store → Res PV := fun a b st => match a, b with
  | .int i, .int j => .ok (.int (i + j)) st
  | .str x, .str y => if x.length + y.length ≤ sizeLine then .ok (.str (x ++ y)) st else .bad
  | .tup xs, .tup ys => if xs.length + ys.length ≤ sizeLine then .ok (.tup (xs ++ ys)) st else .bad
  | .ref i, .ref j => (match st[i]?, st[j]? with
    | some (.lst xs), some (.lst ys) => if xs.length + ys.length ≤ sizeLine then alloc (.lst (xs ++ ys)) st else .bad
    | _, _ => .bad)
  | _, _ => .bad
def rAddU (K : Fg) : R2 := fun x y H Q => rAddI x y H Q ∨ LW.rAddS x y H Q ∨ rCatA K x y H Q ∨ rCat x y H Q
theorem op_addU : OpR X (binaryOp .Add) (rAddU X.K) := op_add.or (op_add_str.or (op_catA.or op_cat))
theorem sp_add : Op2 K (rAddU K) pAdd := by
  intro W ρ hs env σ st H Q a b x y r da db p
  unfold pAdd at p
  cases a with
  | int i =>
    cases b with
    | int j => cases da; cases db; exact .inl ⟨i, j, rfl, rfl, p ρ H _ r rfl⟩
    | _ => exact p.elim
  | str i =>
    cases b with
    | str j =>
      cases da; cases db
      by_cases h : i.length + j.length ≤ sizeLine
      · simp only [if_pos h] at p; exact .inr (.inl ⟨i, j, rfl, rfl, h, p ρ H _ r rfl⟩)
      · simp only [if_neg h] at p; exact p.elim
    | _ => exact p.elim
  | tup xs =>
    cases b with
    | tup ys =>
      by_cases h : xs.length + ys.length ≤ sizeLine
      · simp only [if_pos h] at p
        obtain ⟨a1, vs, rfl, h1, h2⟩ := id da
        obtain ⟨a2, ws, rfl, k1, k2⟩ := id db
        refine .inr (.inr (.inl ⟨a1, a2, vs, ws, rfl, rfl, SqT.of h1, SqT.of k1, by rw [h2.len, k2.len]; exact h, fun e => ?_, fun _ e => ?_, fun _ _ q hq => ?_⟩))
        · subst e
          have : xs = [] := List.eq_nil_of_length_eq_zero (by rw [← h2.len]; rfl)
          subst this
          exact p ρ H _ r db
        · subst e
          have : ys = [] := List.eq_nil_of_length_eq_zero (by rw [← k2.len]; rfl)
          subst this
          rw [List.append_nil] at p
          exact p ρ H _ r da
        · obtain ⟨r2, d2⟩ := r.tup hq (h2.append k2)
          exact p _ _ _ r2 d2
      · simp only [if_neg h] at p; exact p.elim
    | _ => exact p.elim
  | ref i =>
    cases b with
    | ref j =>
      dsimp only at p
      cases e1 : st[i]? with
      | none => simp only [e1] at p; exact p.elim
      | some o =>
        cases e2 : st[j]? with
        | none => simp only [e1, e2] at p; cases o <;> exact p.elim
        | some o2 =>
          simp only [e1, e2] at p
          cases o with
          | lst xs =>
            cases o2 with
            | lst ys =>
              dsimp only at p
              by_cases h : xs.length + ys.length ≤ sizeLine
              · simp only [if_pos h] at p
                obtain ⟨a1, h1, rfl⟩ := id da
                obtain ⟨a2, k1, rfl⟩ := id db
                obtain ⟨vs, h2, h3⟩ := r.s.ob _ _ _ e1 h1
                obtain ⟨ws, k2, k3⟩ := r.s.ob _ _ _ e2 k1
                refine .inr (.inr (.inr ⟨a1, a2, vs, ws, rfl, rfl, h2, k2, by rw [h3.len, k3.len]; exact h, fun q hq => ?_⟩))
                obtain ⟨r2, d2⟩ := r.lst hq (h3.append k3)
                exact p _ _ _ r2 d2
              · simp only [if_neg h] at p; exact p.elim
            | _ => exact p.elim
          | _ => cases o2 <;> exact p.elim
    | _ => exact p.elim
  | _ => exact p.elim
theorem sp_int0 {g : Int → Int → V} {g' : Int → Int → PV} (hg : ∀ i j ρ H, PVr K ρ H (g' i j) (g i j)) : Op2 K (rI0 g) (pInt (fun _ _ => True) g') := by
  intro W ρ hs env σ st H Q a b x y r da db p
  cases a with
  | int i =>
    cases b with
    | int j => cases da; cases db; simp only [pInt, if_true] at p; exact ⟨i, j, rfl, rfl, p ρ H _ r (hg i j ρ H)⟩
    | _ => exact p.elim
  | _ => exact p.elim
theorem sp_int {C : Int → Int → Prop} [∀ i j, Decidable (C i j)] {g : Int → Int → V} {g' : Int → Int → PV} (hg : ∀ i j ρ H, PVr K ρ H (g' i j) (g i j)) : Op2 K (L2.rI C g) (pInt C g') := by
  intro W ρ hs env σ st H Q a b x y r da db p
  cases a with
  | int i =>
    cases b with
    | int j =>
      cases da; cases db
      by_cases h : C i j
      · simp only [pInt, if_pos h] at p; exact ⟨i, j, rfl, rfl, h, p ρ H _ r (hg i j ρ H)⟩
      · simp only [pInt, if_neg h] at p; exact p.elim
    | _ => exact p.elim
  | _ => exact p.elim
def pSub : PV → PV → Store → Res PV := pInt (fun _ _ => True) fun i j => .int (i - j)
theorem sp_sub : Op2 K rSubI pSub := sp_int0 fun _ _ _ _ => rfl
instance (i j : Int) : Decidable (CDivW i j) := by unfold CDivW; infer_instance
instance (i j : Int) : Decidable (CMulX i j) := by unfold CMulX; infer_instance
instance (i j : Int) : Decidable (CMul i j) := by unfold CMul; infer_instance
instance (i j : Int) : Decidable (CPow i j) := by unfold CPow; infer_instance
def pDiv : PV → PV → Store → Res PV := pInt CDivW fun i j => .int (i / j)
theorem sp_div : Op2 K rDivW pDiv := sp_int fun _ _ _ _ => rfl
def pMod : PV → PV → Store → Res PV := pInt (fun _ j => 0 < j) fun i j => .int (i % j)
theorem sp_mod : Op2 K rModI pMod := sp_int fun _ _ _ _ => rfl
def pPow : PV → PV → Store → Res PV := pInt CPow fun i j => .int (i ^ j.toNat)
theorem sp_pow : Op2 K rPowI pPow := sp_int fun _ _ _ _ => rfl
/-- ints; a list so often; a tuple so often -/
def pMul : PV → PV → Store → Res PV := fun a b st => match a, b with
  | .int i, .int j => @ite _ (CMul i j ∨ CMulX i j) (Classical.propDecidable _) (.ok (.int (i * j)) st) .bad
  | .ref i, .int k => (match st[i]? with
    | some (.lst xs) => @ite _ (-(2 ^ 63) ≤ k ∧ k < 2 ^ 63 ∧ xs.length * k.toNat ≤ sizeLine) (Classical.propDecidable _) (alloc (.lst (List.replicate k.toNat xs).flatten) st) .bad
    | _ => .bad)
  | .tup xs, .int k => if xs ≠ [] ∧ 2 ≤ k ∧ k ≤ 1000 ∧ xs.length ≤ 1000 then .ok (.tup (List.replicate k.toNat xs).flatten) st else .bad
  | .str z, .int k => if 0 ≤ k ∧ k ≤ 1000 ∧ z.length ≤ 1000 then .ok (.str (Txt.mul z k)) st else .bad
  | _, _ => .bad
/-- a text so often -/
def rMulZ : R2 := fun x y H Q => ∃ z k, x = .str z ∧ y = .int k ∧ 0 ≤ k ∧ k ≤ 1000 ∧ z.length ≤ 1000 ∧ Q (.str (Txt.mul z k)) H
theorem op_mulZ : OpR X (binaryOp .Mult) rMulZ := by
  intro pins s σ H x y v u Q I rx ry h
  obtain ⟨z, k, rfl, rfl, h1, h2, h3, q⟩ := h
  obtain ⟨t, rfl⟩ := rx
  obtain ⟨t', rfl⟩ := ry
  refine PySem.SB.mul ⟨?_, fun n1 _ => ?_, fun _ _ => ?_⟩ fun t'' tk => ⟨.str _, H, I.tok _, ⟨_, rfl⟩, q⟩
  · have a1 : ¬ k < -(2 ^ 63 : Int) := by omega
    have a2 : ¬ k ≥ (2 ^ 63 : Int) := by omega
    rw [decide_eq_false a1, decide_eq_false a2]
    rfl
  · have h5 : (9007199254740992 : Int) ≤ (2 ^ 63 - 1) / k := by
      refine (Int.le_ediv_iff_mul_le (by omega)).mpr ?_
      omega
    omega
  · have h4 : z.length * k.toNat ≤ 1000 * 1000 := Nat.mul_le_mul h3 (by omega)
    have h5 : z.length * k.toNat ≤ sizeLine := Nat.le_trans h4 (by decide)
    simp only [PySem.Builtin.Str.tooLong, decide_eq_false_iff_not]
    omega
def rMulU (K : Fg) : R2 := fun x y H Q => rMulI x y H Q ∨ rMulX x y H Q ∨ rRep x y H Q ∨ rRepT K x y H Q ∨ rMulZ x y H Q
theorem op_mulU : OpR X (binaryOp .Mult) (rMulU X.K) := op_mul.or (op_mulX.or (op_rep.or (op_repT.or op_mulZ)))
theorem PVrs.rep {ρ : List Addr} {H : Hp} {xs : List PV} {vs : List V} (h : PVrs K ρ H xs vs) : ∀ n, PVrs K ρ H (List.replicate n xs).flatten (List.replicate n vs).flatten
  | 0 => PVrs.nil
  | n + 1 => by
    simp only [List.replicate_succ, List.flatten_cons]
    exact h.append (PVrs.rep h n)
theorem sp_mul : Op2 K (rMulU K) pMul := by
  intro W ρ hs env σ st H Q a b x y r da db p
  unfold pMul at p
  cases a with
  | int i =>
    cases b with
    | int j =>
      cases da; cases db
      by_cases h : CMul i j ∨ CMulX i j
      · simp only [if_pos h] at p
        rcases h with h | h
        · exact .inl ⟨i, j, rfl, rfl, h, p ρ H _ r rfl⟩
        · exact .inr (.inl ⟨i, j, rfl, rfl, h, p ρ H _ r rfl⟩)
      · simp only [if_neg h] at p; exact p.elim
    | _ => exact p.elim
  | ref i =>
    cases b with
    | int k =>
      dsimp only at p
      cases e1 : st[i]? with
      | none => simp only [e1] at p; exact p.elim
      | some o =>
        simp only [e1] at p
        cases o with
        | lst xs =>
          dsimp only at p
          by_cases h : -(2 ^ 63) ≤ k ∧ k < 2 ^ 63 ∧ xs.length * k.toNat ≤ sizeLine
          · rw [if_pos h] at p
            obtain ⟨a1, h1, rfl⟩ := id da
            cases db
            obtain ⟨vs, h2, h3⟩ := r.s.ob _ _ _ e1 h1
            refine .inr (.inr (.inl ⟨a1, k, vs, rfl, rfl, h2, h.1, h.2.1, by rw [h3.len]; exact h.2.2, fun q hq => ?_⟩))
            obtain ⟨r2, d2⟩ := r.lst hq (h3.rep k.toNat)
            exact p _ _ _ r2 d2
          · rw [if_neg h] at p; exact p.elim
        | _ => exact p.elim
    | _ => exact p.elim
  | tup xs =>
    cases b with
    | int k =>
      dsimp only at p
      by_cases h : xs ≠ [] ∧ 2 ≤ k ∧ k ≤ 1000 ∧ xs.length ≤ 1000
      · rw [if_pos h] at p
        obtain ⟨a1, vs, rfl, h1, h2⟩ := id da
        cases db
        refine .inr (.inr (.inr (.inl ⟨a1, k, vs, rfl, rfl, SqT.of h1, fun e => h.1 (List.eq_nil_of_length_eq_zero (by rw [← h2.len, e]; rfl)), h.2.1, h.2.2.1, by rw [h2.len]; exact h.2.2.2, fun q hq => ?_⟩)))
        obtain ⟨r2, d2⟩ := r.tup hq (h2.rep k.toNat)
        exact p _ _ _ r2 d2
      · rw [if_neg h] at p; exact p.elim
    | _ => exact p.elim
  | str z =>
    cases b with
    | int k =>
      dsimp only at p
      by_cases h : 0 ≤ k ∧ k ≤ 1000 ∧ z.length ≤ 1000
      · rw [if_pos h] at p
        cases da; cases db
        exact .inr (.inr (.inr (.inr ⟨z, k, rfl, rfl, h.1, h.2.1, h.2.2, p ρ H _ r rfl⟩)))
      · rw [if_neg h] at p; exact p.elim
    | _ => exact p.elim
  | _ => exact p.elim
def pNeg : PV → Store → Res PV := fun a st => match a with
  | .int i => .ok (.int (-i)) st
  | _ => .bad
theorem sp_neg : Op1 K (rU fun i => .int (-i)) pNeg := by
  intro W ρ hs env σ st H Q a x r da p
  cases a with
  | int i => cases da; exact ⟨i, rfl, p ρ H _ r rfl⟩
  | _ => exact p.elim
/-! ### comparisons -/
def pCmp (f : Int → Int → Bool) (g : Str → Str → Bool) : PV → PV → Store → Res PV := fun a b st => match a, b with
  | .int i, .int j => .ok (.bl (f i j)) st
  | .str x, .str y => .ok (.bl (g x y)) st
  | _, _ => .bad
def rCmpU (f : Int → Int → Bool) (g : Str → Str → Bool) : R2 := fun x y H Q => rI0 (fun i j => .bl (f i j)) x y H Q ∨ (∃ i j, x = .str i ∧ y = .str j ∧ Q (.bl (g i j)) H)
theorem sp_cmp {f : Int → Int → Bool} {g : Str → Str → Bool} : Op2 K (rCmpU f g) (pCmp f g) := by
  intro W ρ hs env σ st H Q a b x y r da db p
  cases a with
  | int i =>
    cases b with
    | int j => cases da; cases db; exact .inl ⟨i, j, rfl, rfl, p ρ H _ r rfl⟩
    | _ => exact p.elim
  | str i =>
    cases b with
    | str j => cases da; cases db; exact .inr ⟨i, j, rfl, rfl, p ρ H _ r rfl⟩
    | _ => exact p.elim
  | _ => exact p.elim
def pLt := pCmp (fun i j => decide (i < j)) (fun i j => decide (i.cps.toList < j.cps.toList))
def pLe := pCmp (fun i j => decide (i ≤ j)) (fun i j => !decide (j.cps.toList < i.cps.toList))
def pGt := pCmp (fun i j => decide (j < i)) (fun i j => decide (j.cps.toList < i.cps.toList))
def pGe := pCmp (fun i j => decide (j ≤ i)) (fun i j => !decide (i.cps.toList < j.cps.toList))
theorem op_ltU : OpR X (compareOp .Lt) (rCmpU (fun i j => decide (i < j)) (fun i j => decide (i.cps.toList < j.cps.toList))) := op_lt.or op_lt_str
theorem op_leU : OpR X (compareOp .LtE) (rCmpU (fun i j => decide (i ≤ j)) (fun i j => !decide (j.cps.toList < i.cps.toList))) := op_le.or op_le_str
theorem op_gtU : OpR X (compareOp .Gt) (rCmpU (fun i j => decide (j < i)) (fun i j => decide (j.cps.toList < i.cps.toList))) := op_gt.or op_gt_str
theorem op_geU : OpR X (compareOp .GtE) (rCmpU (fun i j => decide (j ≤ i)) (fun i j => !decide (i.cps.toList < j.cps.toList))) := op_ge.or op_ge_str
theorem sp_lt : Op2 K (rCmpU (fun i j => decide (i < j)) (fun i j => decide (i.cps.toList < j.cps.toList))) pLt := sp_cmp
theorem sp_le : Op2 K (rCmpU (fun i j => decide (i ≤ j)) (fun i j => !decide (j.cps.toList < i.cps.toList))) pLe := sp_cmp
theorem sp_gt : Op2 K (rCmpU (fun i j => decide (j < i)) (fun i j => decide (j.cps.toList < i.cps.toList))) pGt := sp_cmp
theorem sp_ge : Op2 K (rCmpU (fun i j => decide (j ≤ i)) (fun i j => !decide (i.cps.toList < j.cps.toList))) pGe := sp_cmp
/-- is None -/
def pIsN : PV → PV → Store → Res PV := fun a b st => match b with
  | .non => .ok (.bl (decide (a = .non))) st
  | _ => .bad
def pNotN : PV → PV → Store → Res PV := fun a b st => match b with
  | .non => .ok (.bl (!decide (a = .non))) st
  | _ => .bad
theorem non_iff {ρ : List Addr} {H : Hp} {a : PV} {x : V} (d : PVr K ρ H a x) : decide (x = .non) = decide (a = .non) := by
  cases a with
  | non => cases d; rfl
  | bl _ => cases d; rfl
  | int _ => cases d; rfl
  | str _ => cases d; rfl
  | tup _ => obtain ⟨_, _, rfl, _⟩ := d; rfl
  | wtp _ => obtain ⟨_, _, rfl, _⟩ := d; rfl
  | ref _ => obtain ⟨_, _, rfl⟩ := d; rfl
  | con _ => cases d; rfl
  | ty _ => cases d; rfl
theorem sp_isN : Op2 K rIsN pIsN := by
  intro W ρ hs env σ st H Q a b x y r da db p
  cases b with
  | non => cases db; refine ⟨rfl, ?_⟩; rw [non_iff da]; exact p ρ H _ r rfl
  | _ => exact p.elim
theorem sp_notN : Op2 K rNotN pNotN := by
  intro W ρ hs env σ st H Q a b x y r da db p
  cases b with
  | non => cases db; refine ⟨rfl, ?_⟩; rw [non_iff da]; exact p ρ H _ r rfl
  | _ => exact p.elim
end
/-! ### data -/
def toDs (f : PV → Option PyData) : List PV → Option (List PyData)
  | [] => some []
  | x :: xs => match f x, toDs f xs with
    | some d, some ds => some (d :: ds)
    | _, _ => none
def scalD : PV → Option PyData
  | .non => some .none
  | .bl b => some (.bool b)
  | .int i => some (.int i)
  | .str x => some (.str x)
  | _ => none
def toD (st : Store) : Nat → PV → Option PyData
  | 0, v => scalD v
  | n + 1, .tup xs => (toDs (toD st n) xs).map .tuple
  | n + 1, .wtp xs => (toDs (toD st n) xs).map .tuple
  | n + 1, .ref i => match itemsOf st (.ref i) with
    | some xs => (toDs (toD st n) xs).map .list
    | none => none
  | _ + 1, v => scalD v
section
variable {X : Cx} {W : WX} {K : Fg}
theorem scalD_ok {ρ : List Addr} {H : Hp} {x : PV} {v : V} {d : PyData} (h : scalD x = some d) (r : PVr K ρ H x v) : Dp K H v d := by
  cases x with
  | non => cases h; cases r; exact .non
  | bl b => cases h; cases r; exact .bl b
  | int i => cases h; cases r; exact .int i
  | str z => cases h; cases r; exact .str z
  | _ => cases h
theorem toDs_ok {ρ : List Addr} {H : Hp} {f : PV → Option PyData} (hf : ∀ x v d, f x = some d → PVr K ρ H x v → Dp K H v d) : ∀ {xs : List PV} {vs : List V} {ds : List PyData}, toDs f xs = some ds → PVrs K ρ H xs vs → DpAll K H vs ds
  | [], _, _, h, r => by cases h; cases r; exact .nil
  | x :: xs, _, ds, h, r => by
    obtain ⟨v, vs, rfl, r1, r2⟩ := r
    unfold toDs at h
    cases e1 : f x with
    | none => rw [e1] at h; cases h
    | some d =>
      cases e2 : toDs f xs with
      | none => rw [e1, e2] at h; cases h
      | some ds' =>
        rw [e1, e2] at h
        cases h
        exact .cons (hf x v d e1 r1) (toDs_ok hf e2 r2)
theorem toD_ok {ρ : List Addr} {hs : List HE} {env : Env} {σ : L2.St} {st : Store} {H : Hp} (rl : Rel K ρ hs env σ st H) : ∀ (n : Nat) (x : PV) (v : V) (d : PyData), toD st n x = some d → PVr K ρ H x v → Dp K H v d
  | 0, x, v, d, h, r => scalD_ok h r
  | n + 1, x, v, d, h, r => by
    have ih := toD_ok rl n
    cases x with
    | tup xs =>
      obtain ⟨ds, h1, rfl⟩ := Option.map_eq_some_iff.mp (show (toDs (toD st n) xs).map .tuple = some d from h)
      obtain ⟨a, vs, rfl, k1, k2⟩ := r
      exact .tup (SqT.of k1) (toDs_ok ih h1 k2)
    | wtp xs =>
      obtain ⟨ds, h1, rfl⟩ := Option.map_eq_some_iff.mp (show (toDs (toD st n) xs).map .tuple = some d from h)
      obtain ⟨a, vs, rfl, k1, k2⟩ := r
      exact .tup (k1 H) (toDs_ok ih h1 k2)
    | ref i =>
      have h : (match itemsOf st (.ref i) with
        | some xs => (toDs (toD st n) xs).map .list
        | none => none) = some d := h
      cases ei : itemsOf st (.ref i) with
      | none => rw [ei] at h; cases h
      | some xs =>
        rw [ei] at h
        obtain ⟨ds, h1, rfl⟩ := Option.map_eq_some_iff.mp h
        rcases seq_cases ei with ⟨j, o, ev, ho, hk, _⟩ | ⟨hx, _⟩
        · cases ev
          obtain ⟨a, ha, rfl⟩ := r
          have hob := rl.s.ob _ _ _ ho ha
          rcases hk with rfl | rfl
          · obtain ⟨vs, k1, k2⟩ := hob; exact .lst (SqL.of k1) (toDs_ok ih h1 k2)
          · obtain ⟨q, vs, k1, k2⟩ := hob; exact .lst (.inl (.inr ⟨q, k1⟩)) (toDs_ok ih h1 k2)
        · rcases hx with z | z <;> cases z
    | _ => exact scalD_ok h r
def pEqE (neg : Bool) : PV → PV → Store → Res PV := fun a b st => match toD st 9 a, toD st 9 b with
  | some d, some e => if SeqAt.shaped d = true ∧ SeqAt.shaped e = true then .ok (.bl (if neg then !PyData.eqv d e else PyData.eqv d e)) st else .bad
  | _, _ => .bad
theorem sp_eqE : Op2 K (rEqD K) (pEqE false) := by
  intro W ρ hs env σ st H Q a b x y r da db p
  unfold pEqE at p
  cases e1 : toD st 9 a with
  | none => simp only [e1] at p; exact p.elim
  | some d =>
    cases e2 : toD st 9 b with
    | none => simp only [e1, e2] at p; exact p.elim
    | some e =>
      simp only [e1, e2] at p
      by_cases h : SeqAt.shaped d = true ∧ SeqAt.shaped e = true
      · rw [if_pos h] at p
        exact ⟨d, e, toD_ok r 9 a x d e1 da, toD_ok r 9 b y e e2 db, h.1, h.2, p ρ H _ r rfl⟩
      · rw [if_neg h] at p; exact p.elim
theorem sp_neE : Op2 K (rNeD K) (pEqE true) := by
  intro W ρ hs env σ st H Q a b x y r da db p
  unfold pEqE at p
  cases e1 : toD st 9 a with
  | none => simp only [e1] at p; exact p.elim
  | some d =>
    cases e2 : toD st 9 b with
    | none => simp only [e1, e2] at p; exact p.elim
    | some e =>
      simp only [e1, e2] at p
      by_cases h : SeqAt.shaped d = true ∧ SeqAt.shaped e = true
      · rw [if_pos h] at p
        exact ⟨d, e, toD_ok r 9 a x d e1 da, toD_ok r 9 b y e e2 db, h.1, h.2, p ρ H _ r rfl⟩
      · rw [if_neg h] at p; exact p.elim
/-- texts are compared as they are, all else as data -/
def pEqD (neg : Bool) : PV → PV → Store → Res PV := fun a b st => match a, b with
  | .str x, .str y => .ok (.bl (if neg then !decide (x = y) else decide (x = y))) st
  | _, _ => pEqE neg a b st
def rEqU (K : Fg) : R2 := fun x y H Q => rEq x y H Q ∨ rEqD K x y H Q
def rNeU (K : Fg) : R2 := fun x y H Q => rNe x y H Q ∨ rNeD K x y H Q
theorem op_eqU (hu : X.A.units + 64 < cLine) : OpR X (compareOp .Eq) (rEqU X.K) := op_eq.or (op_eqD hu)
theorem op_neU (hu : X.A.units + 64 < cLine) : OpR X (compareOp .NotEq) (rNeU X.K) := op_ne.or (op_neD hu)
theorem dec_strs (i j : Str) : decide (V.str i = V.str j) = decide (i = j) := by
  by_cases h : i = j <;> simp [h]
theorem sp_eq : Op2 K (rEqU K) (pEqD false) := by
  intro W ρ hs env σ st H Q a b x y r da db p
  cases a with
  | str i =>
    cases b with
    | str j => cases da; cases db; exact .inl ⟨rfl, by rw [dec_strs]; exact p ρ H _ r rfl⟩
    | _ => exact .inr (sp_eqE W ρ hs env σ st H Q _ _ x y r da db p)
  | _ => exact .inr (sp_eqE W ρ hs env σ st H Q _ _ x y r da db p)
theorem sp_ne : Op2 K (rNeU K) (pEqD true) := by
  intro W ρ hs env σ st H Q a b x y r da db p
  cases a with
  | str i =>
    cases b with
    | str j => cases da; cases db; exact .inl ⟨rfl, by rw [dec_strs]; exact p ρ H _ r rfl⟩
    | _ => exact .inr (sp_neE W ρ hs env σ st H Q _ _ x y r da db p)
  | _ => exact .inr (sp_neE W ρ hs env σ st H Q _ _ x y r da db p)
end
end
end PL
set_option Elab.async false
set_option linter.all false
set_option maxRecDepth 100000
set_option maxHeartbeats 1000000
set_option autoImplicit false
namespace PL
open PySem PySem.Spec PyProof.Rows L2 LW
noncomputable section
/-! ### flat things -/
def flatOf : PV → Option V
  | .non => some .non
  | .bl b => some (.bl b)
  | .int i => some (.int i)
  | .str x => some (.str x)
  | _ => none
def flatsOf : List PV → Option (List V)
  | [] => some []
  | x :: xs => match flatOf x, flatsOf xs with
    | some v, some vs => some (v :: vs)
    | _, _ => none
section
variable {X : Cx} {W : WX} {K : Fg}
theorem flatOf_ok {ρ : List Addr} {H : Hp} {x : PV} {v w : V} (h : flatOf x = some v) (d : PVr K ρ H x w) : w = v ∧ flatV v = true := by
  cases x <;> first | (cases h; exact ⟨d, rfl⟩) | cases h
theorem flatsOf_ok {ρ : List Addr} {H : Hp} : ∀ {xs : List PV} {vs ws : List V}, flatsOf xs = some vs → PVrs K ρ H xs ws → ws = vs ∧ vs.all flatV = true
  | [], vs, _, h, d => by cases h; cases d; exact ⟨rfl, rfl⟩
  | x :: xs, vs, _, h, d => by
    obtain ⟨w, ws, rfl, d1, d2⟩ := d
    unfold flatsOf at h
    cases e1 : flatOf x with
    | none => rw [e1] at h; cases h
    | some v =>
      cases e2 : flatsOf xs with
      | none => rw [e1, e2] at h; cases h
      | some vs' =>
        rw [e1, e2] at h
        cases h
        obtain ⟨rfl, f1⟩ := flatOf_ok e1 d1
        obtain ⟨rfl, f2⟩ := flatsOf_ok e2 d2
        exact ⟨rfl, by simp [f1, f2]⟩
/-! ### in, not in: what isn't a dict -/
def pInSeq (st : Store) (a b : PV) : Option Bool := match b with
  | .str z => (match a with
    | .str y => (match y.cps.toList with
      | [c] => some (decide (c ∈ z.cps.toList))
      | _ => some (!(Builtin.Str.occurrences z y 0 z.length 1).isEmpty))
    | _ => none)
  | _ => (match itemsOf st b with
    | some xs => (match flatOf a, flatsOf xs with
      | some v, some vs => some (inV v vs)
      | _, _ => (match toD st 9 a, toD st 9 b with
        | some d, some (.list ds) => if SeqAt.shaped d = true ∧ SeqAt.shaped (.list ds) = true then some (ds.any fun z => PyData.eqv z d) else none
        | _, _ => none))
    | none => none)
def rInU (K : Fg) : R2 := fun x y H Q => rIn K false x y H Q ∨ rInD K x y H Q ∨ rInS x y H Q ∨ (∃ i j, x = .str i ∧ y = .str j ∧ Q (.bl (!(Builtin.Str.occurrences j i 0 j.length 1).isEmpty)) H)
def rNotInU (K : Fg) : R2 := fun x y H Q => rIn K true x y H Q ∨ rNotInD K x y H Q ∨ rNotInS x y H Q ∨ (∃ i j, x = .str i ∧ y = .str j ∧ Q (.bl (!(!(Builtin.Str.occurrences j i 0 j.length 1).isEmpty))) H)
theorem op_inU (hu : X.A.units + 65 < cLine) : OpR X (compareOp .In) (rInU X.K) := op_in_seq.or ((op_inD hu).or (op_inS.or op_in_str))
theorem op_notInU (hu : X.A.units + 65 < cLine) : OpR X (compareOp .NotIn) (rNotInU X.K) := op_notIn_seq.or ((op_notInD hu).or (op_notInS.or op_notIn_str))
theorem inSeq_ok {ρ : List Addr} {hs : List HE} {env : Env} {σ : L2.St} {st : Store} {H : Hp} {a b : PV} {x y : V} {c : Bool} (h : pInSeq st a b = some c) (rl : Rel K ρ hs env σ st H) (da : PVr K ρ H a x) (db : PVr K ρ H b y) :
    (∀ Q : VK, Q (.bl c) H → rInU K x y H Q) ∧ ∀ Q : VK, Q (.bl (!c)) H → rNotInU K x y H Q := by
  have seq : (∃ xs, itemsOf st b = some xs ∧ (match flatOf a, flatsOf xs with
      | some v, some vs => some (inV v vs)
      | _, _ => (match toD st 9 a, toD st 9 b with
        | some d, some (.list ds) => if SeqAt.shaped d = true ∧ SeqAt.shaped (.list ds) = true then some (ds.any fun z => PyData.eqv z d) else none
        | _, _ => none)) = some c) → (∀ Q : VK, Q (.bl c) H → rInU K x y H Q) ∧ ∀ Q : VK, Q (.bl (!c)) H → rNotInU K x y H Q := fun ⟨xs, h1, h2⟩ => by
    obtain ⟨ad, vs, rfl, sq, rv⟩ := items_of rl db h1
    have deep : (match toD st 9 a, toD st 9 b with
        | some d, some (.list ds) => if SeqAt.shaped d = true ∧ SeqAt.shaped (.list ds) = true then some (ds.any fun z => PyData.eqv z d) else none
        | _, _ => none) = some c → (∀ Q : VK, Q (.bl c) H → rInU K x (.ref ad) H Q) ∧ ∀ Q : VK, Q (.bl (!c)) H → rNotInU K x (.ref ad) H Q := fun h3 => by
      cases e1 : toD st 9 a with
      | none => rw [e1] at h3; cases h3
      | some d =>
        cases e2 : toD st 9 b with
        | none => rw [e1, e2] at h3; cases h3
        | some e =>
          rw [e1, e2] at h3
          cases e with
          | list ds =>
            dsimp only at h3
            by_cases hk : SeqAt.shaped d = true ∧ SeqAt.shaped (.list ds) = true
            · rw [if_pos hk] at h3
              cases h3
              have k1 := toD_ok rl 9 a x d e1 da
              have k2 := toD_ok rl 9 b _ _ e2 db
              exact ⟨fun Q q => .inr (.inl ⟨d, ds, k1, k2, hk.1, hk.2, q⟩), fun Q q => .inr (.inl ⟨d, ds, k1, k2, hk.1, hk.2, q⟩)⟩
            · rw [if_neg hk] at h3; cases h3
          | _ => cases h3
    cases e1 : flatOf a with
    | none => rw [e1] at h2; exact deep h2
    | some v =>
      cases e2 : flatsOf xs with
      | none => rw [e1, e2] at h2; exact deep h2
      | some ws =>
        rw [e1, e2] at h2
        cases h2
        obtain ⟨rfl, f1⟩ := flatOf_ok e1 da
        obtain ⟨rfl, f2⟩ := flatsOf_ok e2 rv
        exact ⟨fun Q q => .inl ⟨ad, vs, rfl, sq, f1, f2, by simpa using q⟩, fun Q q => .inl ⟨ad, vs, rfl, sq, f1, f2, by simpa using q⟩⟩
  cases b with
  | str z =>
    cases db
    cases a with
    | str u =>
      cases da
      simp only [pInSeq] at h
      cases eu : u.cps.toList with
      | nil =>
        rw [eu] at h
        cases h
        exact ⟨fun Q q => .inr (.inr (.inr ⟨u, z, rfl, rfl, q⟩)), fun Q q => .inr (.inr (.inr ⟨u, z, rfl, rfl, q⟩))⟩
      | cons c1 r1 =>
        rw [eu] at h
        cases r1 with
        | nil =>
          cases h
          have : u = ⟨#[c1]⟩ := by
            obtain ⟨cs⟩ := u
            congr 1
            apply Array.ext'
            simpa using eu
          exact ⟨fun Q q => .inr (.inr (.inl ⟨c1, z, by rw [this], rfl, q⟩)), fun Q q => .inr (.inr (.inl ⟨c1, z, by rw [this], rfl, q⟩))⟩
        | cons c2 r2 =>
          cases h
          exact ⟨fun Q q => .inr (.inr (.inr ⟨u, z, rfl, rfl, q⟩)), fun Q q => .inr (.inr (.inr ⟨u, z, rfl, rfl, q⟩))⟩
    | _ => cases h
  | tup xs => exact seq ⟨xs, rfl, h⟩
  | wtp xs => exact seq ⟨xs, rfl, h⟩
  | ref i =>
    cases ei : itemsOf st (.ref i) with
    | none => simp only [pInSeq, ei] at h; cases h
    | some xs => exact seq ⟨xs, ei, by simpa only [pInSeq, ei] using h⟩
  | _ => cases h
def pIn (neg : Bool) (a b : PV) (st : Store) : Res PV := match isDict st b with
  | some d => (match dGet st d a with
    | some r => .ok (.bl (if neg then !r.isSome else r.isSome)) st
    | none => .bad)
  | none => (match pInSeq st a b with
    | some c => .ok (.bl (if neg then !c else c)) st
    | none => .bad)
theorem sim_or2 {t u : TE} {m : Mx PV} (h : ∀ ρ hs env σ st H Q, Rel K ρ hs env σ st H → PostG (RV K) K W hs env σ Q (m env st) → t σ H Q ∨ u σ H Q) : Sim (RV K) K W (fun σ H Q => t σ H Q ∨ u σ H Q) m := h
structure PXc (X : Cx) (W : WX) (op : CmpOp) (a b : Expr) (m : Mx PV) : Prop where
  pe : PC X op a b (rG (RV X.K) X.K W m)
theorem PXc.of {op : CmpOp} {a b : Expr} {m : Mx PV} {te : TE} (p : PC X op a b te) (s : Sim (RV X.K) X.K W te m) : PXc X W op a b m := ⟨⟨fun pins sh σ H Q I h => p.run pins sh σ H Q I (s.go h)⟩⟩
theorem pc_or2 {op : CmpOp} {a b : Expr} {t u : TE} (h1 : PC X op a b t) (h2 : PC X op a b u) : PC X op a b (fun σ H Q => t σ H Q ∨ u σ H Q) := ⟨fun pins s σ H Q I h => h.elim (h1.run pins s σ H Q I) (h2.run pins s σ H Q I)⟩
theorem pc_op {op : CmpOp} {a b : Expr} {r : R2} {ta tb : TE} (ho : OpR X (compareOp op) r) (ha : PE X a ta) (hb : PE X b tb) : PC X op a b (tOp r ta tb) :=
  ⟨fun pins s σ H Q I h => bin ha hb I h fun v u s2 x y H2 I2 rx ry q => ho pins s2 σ H2 x y v u Q I2 rx ry q⟩
theorem PXc.px {op : CmpOp} {a b : Expr} {pos : Pos} {m : Mx PV} (h : PXc X W op a b m) (h1 : behindInMarks op b = false := by first | exact nobehind _ (by decide) (by decide) | rfl) : PX X W (.Compare a [op] [b] pos) m := ⟨pe_cmp h.pe h1⟩
theorem PXc.pt {op : CmpOp} {a b : Expr} {pos : Pos} {m : Mx PV} (h : PXc X W op a b m) (h1 : behindInMarks op b = false := by first | exact nobehind _ (by decide) (by decide) | rfl) : PXt X W (.Compare a [op] [b] pos) (mB m) := .of (pt_cmp h.pe h1) (sim_test Sim.self)
theorem pxc_in {a b : Expr} {pos : Pos} {m n : Mx PV} (hu : X.A.units + 65 < cLine) (ha : PX X W a m) (hb : PX X W b n) : PXc X W .In a b (mOp (pIn false) m n) :=
  .of (pc_or2 (pc_op (op_inU hu) ha.pe hb.pe) (pc_din (by omega) ha.pe hb.pe)) fun ρ hs env σ st H Q r p => by
    rcases Classical.em (∃ o s1 i s2 d, m env st = .ok o s1 ∧ n env s1 = .ok i s2 ∧ isDict s2 i = some d) with ⟨o, s1, i, s2, d, e1, e2, e3⟩ | hn
    · refine .inr ⟨ρ, hs, env, st, r, ?_⟩
      unfold mOp at p
      rw [e1] at p ⊢
      intro ρ1 H1 x r1 d1
      refine ⟨ρ1, .val o x :: hs, env, s1, r1.hold d1, ?_⟩
      simp only [bnd_ok, e2] at p
      rw [e2]
      intro ρ2 H2 y r2 d2
      unfold pIn at p
      simp only [e3] at p
      obtain ⟨ad, rfl, hai, _⟩ := isDict_at e3 r2 d2
      cases e4 : dGet s2 d o with
      | none => simp only [e4] at p; exact p.elim
      | some ro =>
        simp only [e4] at p
        obtain ⟨w, g, dw⟩ := dget_ok r2 hai r2.top e4
        refine ⟨ad, w, rfl, g, ?_⟩
        have : w.isSome = ro.isSome := by
          cases ro <;> cases w <;> first | rfl | exact dw.elim
        rw [this]
        exact p ρ2 H2 _ r2.drop rfl
    · refine .inl (sim_op (W := W) (φ := fun o i st => if isDict st i = none then pIn false o i st else .bad) ?_ Sim.self Sim.self ρ hs env σ st H Q r ?_)
      · intro W ρ hs env σ st H Q a b x y rl da db p
        dsimp only at p
        cases e : isDict st b with
        | some d => simp [e] at p; exact p.elim
        | none =>
          simp only [e, if_true] at p
          unfold pIn at p
          simp only [e] at p
          cases e2 : pInSeq st a b with
          | none => simp only [e2] at p; exact p.elim
          | some v =>
            simp only [e2] at p
            exact (inSeq_ok e2 rl da db).1 Q (p ρ H _ rl rfl)
      · unfold mOp at p ⊢
        cases e1 : m env st with
        | exc c x s1 => rw [e1] at p; exact p
        | bad => rw [e1] at p; exact p
        | ok o s1 =>
          rw [e1] at p
          simp only [bnd_ok] at p ⊢
          cases e2 : n env s1 with
          | exc c x s2 => rw [e2] at p; exact p
          | bad => rw [e2] at p; exact p
          | ok i s2 =>
            rw [e2] at p
            simp only [bnd_ok] at p ⊢
            cases e3 : isDict s2 i with
            | some d => exact absurd ⟨o, s1, i, s2, d, e1, e2, e3⟩ hn
            | none => simp only [if_true]; exact p
theorem pxc_notin {a b : Expr} {pos : Pos} {m n : Mx PV} (hu : X.A.units + 65 < cLine) (ha : PX X W a m) (hb : PX X W b n) : PXc X W .NotIn a b (mOp (pIn true) m n) :=
  .of (pc_or2 (pc_op (op_notInU hu) ha.pe hb.pe) (pc_dnotin (by omega) ha.pe hb.pe)) fun ρ hs env σ st H Q r p => by
    rcases Classical.em (∃ o s1 i s2 d, m env st = .ok o s1 ∧ n env s1 = .ok i s2 ∧ isDict s2 i = some d) with ⟨o, s1, i, s2, d, e1, e2, e3⟩ | hn
    · refine .inr ⟨ρ, hs, env, st, r, ?_⟩
      unfold mOp at p
      rw [e1] at p ⊢
      intro ρ1 H1 x r1 d1
      refine ⟨ρ1, .val o x :: hs, env, s1, r1.hold d1, ?_⟩
      simp only [bnd_ok, e2] at p
      rw [e2]
      intro ρ2 H2 y r2 d2
      unfold pIn at p
      simp only [e3] at p
      obtain ⟨ad, rfl, hai, _⟩ := isDict_at e3 r2 d2
      cases e4 : dGet s2 d o with
      | none => simp only [e4] at p; exact p.elim
      | some ro =>
        simp only [e4] at p
        obtain ⟨w, g, dw⟩ := dget_ok r2 hai r2.top e4
        refine ⟨ad, w, rfl, g, ?_⟩
        have : w.isSome = ro.isSome := by
          cases ro <;> cases w <;> first | rfl | exact dw.elim
        rw [this]
        exact p ρ2 H2 _ r2.drop rfl
    · refine .inl (sim_op (W := W) (φ := fun o i st => if isDict st i = none then pIn true o i st else .bad) ?_ Sim.self Sim.self ρ hs env σ st H Q r ?_)
      · intro W ρ hs env σ st H Q a b x y rl da db p
        dsimp only at p
        cases e : isDict st b with
        | some d => simp [e] at p; exact p.elim
        | none =>
          simp only [e, if_true] at p
          unfold pIn at p
          simp only [e] at p
          cases e2 : pInSeq st a b with
          | none => simp only [e2] at p; exact p.elim
          | some v =>
            simp only [e2] at p
            exact (inSeq_ok e2 rl da db).2 Q (p ρ H _ rl rfl)
      · unfold mOp at p ⊢
        cases e1 : m env st with
        | exc c x s1 => rw [e1] at p; exact p
        | bad => rw [e1] at p; exact p
        | ok o s1 =>
          rw [e1] at p
          simp only [bnd_ok] at p ⊢
          cases e2 : n env s1 with
          | exc c x s2 => rw [e2] at p; exact p
          | bad => rw [e2] at p; exact p
          | ok i s2 =>
            rw [e2] at p
            simp only [bnd_ok] at p ⊢
            cases e3 : isDict s2 i with
            | some d => exact absurd ⟨o, s1, i, s2, d, e1, e2, e3⟩ hn
            | none => simp only [if_true]; exact p
theorem pxc_op {op : CmpOp} {a b : Expr} {r : R2} {φ : PV → PV → Store → Res PV} {m n : Mx PV} (ho : OpR X (compareOp op) r) (hφ : Op2 X.K r φ) (ha : PX X W a m) (hb : PX X W b n) : PXc X W op a b (mOp φ m n) := .of (pc_op ho ha.pe hb.pe) (sim_op hφ Sim.self Sim.self)
/-! ### chains -/
theorem sim_chain {r r' : R2} {φ ψ : PV → PV → Store → Res PV} {ta tb tc : TE} {ma mb mc : Mx PV} (hφ : Op2 K r φ) (hψ : Op2 K r' ψ) (ha : Sim (RV K) K W ta ma) (hb : Sim (RV K) K W tb mb) (hc : Sim (RV K) K W tc mc) : Sim (RV K) K W (tChain r r' ta tb tc) (mChain φ ψ ma mb mc) := by
  intro ρ hs env σ st H Q rl p
  refine ha ρ hs env σ st H _ rl (p.bnd fun a s1 _ p1 ρ1 H1 x r1 dx => ?_)
  refine hb ρ1 (.val a x :: hs) env σ s1 H1 _ (r1.hold dx) (p1.hold.bnd fun b s2 _ p2 ρ2 H2 y r2 dy => ?_)
  refine hφ W ρ2 (.val b y :: .val a x :: hs) env σ s2 H2 _ a b x y (r2.hold dy) r2.top dy (p2.hold.bnd fun k s3 _ p3 ρ3 H3 z r3 dz => ?_)
  cases k with
  | bl c =>
    refine ⟨c, dz, ?_⟩
    cases c with
    | true =>
      simp only [if_true]
      refine hc ρ3 _ env σ s3 H3 _ r3 (PostG.bnd p3 fun w s4 _ p4 ρ4 H4 wv r4 dw => ?_)
      exact hψ W ρ4 _ env σ s4 H4 Q b w y wv r4 r4.top dw p4
    | false =>
      simp only [Bool.false_eq_true, if_false]
      exact p3 ρ3 H3 _ r3 rfl
  | _ => exact p3.elim
end
end
end PL
set_option Elab.async false
set_option linter.all false
set_option maxRecDepth 100000
set_option maxHeartbeats 1000000
set_option autoImplicit false
namespace PL
open PySem PySem.Spec PyProof.Rows L2 LW
noncomputable section
section
variable {X : Cx} {W : WX} {K : Fg}
theorem pxb_chainE {op op' : CmpOp} {r r' : R2} {φ ψ : PV → PV → Store → Res PV} {a b c : Expr} {pos : Pos} {m n k : Mx PV} (ho : OpR X (compareOp op) r) (hφ : Op2 X.K r φ) (ho' : OpR X (compareOp op') r') (hψ : Op2 X.K r' ψ) (ha : PX X W a m) (hb : PX X W b n) (hc : PX X W c k)
    (hm : lastMarks [op, op'] [b, c] = false := by with_unfolding_all rfl) : PX X W (.Compare a [op, op'] [b, c] pos) (mChain φ ψ m n k) := .of (pe_chain ho ho' ha.pe hb.pe hc.pe hm) (sim_chain hφ hψ Sim.self Sim.self Sim.self)
theorem pxt_chain {op op' : CmpOp} {r r' : R2} {φ ψ : PV → PV → Store → Res PV} {a b c : Expr} {pos : Pos} {m n k : Mx PV} (ho : OpR X (compareOp op) r) (hφ : Op2 X.K r φ) (ho' : OpR X (compareOp op') r') (hψ : Op2 X.K r' ψ) (ha : PX X W a m) (hb : PX X W b n) (hc : PX X W c k)
    (hm : lastMarks [op, op'] [b, c] = false := by with_unfolding_all rfl) : PXt X W (.Compare a [op, op'] [b, c] pos) (mB (mChain φ ψ m n k)) := .of (pt_chain ho ho' ha.pe hb.pe hc.pe hm) (sim_test (sim_chain hφ hψ Sim.self Sim.self Sim.self))
theorem sim_cb {r : List V → Hp → VK → Prop} {φ : List PV → Store → Res PV} {t : TA} {m : Mx (List PV)} (hφ : OpA K r φ) (h : Sim (RVs K) K W t m) : Sim (RV K) K W (tCB r t) (mCB φ m) := by
  intro ρ hs env σ st H Q rl p
  refine h ρ hs env σ st H _ rl (p.bnd fun a s1 _ p1 ρ1 H1 x r1 dx => ?_)
  exact hφ W ρ1 hs env σ s1 H1 Q a x r1 dx p1
theorem px_callB {id : String} {x : Str} {r : List V → Hp → VK → Prop} {φ : List PV → Store → Res PV} {e : Expr} {es : List Expr} {p pos : Pos} {m : Mx (List PV)} (hc : CallR X (.builtin id) r) (hφ : OpA X.K r φ) (hg : Gl X x) (hm : X.mg x = none) (hv : bootBuiltins x = some (.builtin id)) (ha : PXa X W (e :: es) m) (hn : x ≠ "__name__" := by decide) (hdb : (x == ("__debug__" : Str)) = false := by decide)
    (he : starEach (e :: es) X.env = (false, eval e X.env) :: starEach es X.env := by rfl) (hpl : (backTo pos (starEach es X.env)).any (·.1) = false := by rfl) : PX X W (.Call (.Name x p) (e :: es) [] pos) (mCB φ m) := .of (pe_callB hc hg hm hv ha.pe hn hdb he hpl) (sim_cb hφ Sim.self)
theorem px_callTy {T : String} {x : Str} {r : List V → Hp → VK → Prop} {φ : List PV → Store → Res PV} {e : Expr} {es : List Expr} {p pos : Pos} {m : Mx (List PV)} (hc : CallR X (.type T) r) (hφ : OpA X.K r φ) (hg : Gl X x) (hm : X.mg x = none) (hv : bootBuiltins x = some (.type T)) (ha : PXa X W (e :: es) m) (hn : x ≠ "__name__" := by decide) (hdb : (x == ("__debug__" : Str)) = false := by decide)
    (he : starEach (e :: es) X.env = (false, eval e X.env) :: starEach es X.env := by rfl) (hpl : (backTo pos (starEach es X.env)).any (·.1) = false := by rfl) : PX X W (.Call (.Name x p) (e :: es) [] pos) (mCB φ m) := .of (pe_callTy hc hg hm hv ha.pe hn hdb he hpl) (sim_cb hφ Sim.self)
/-- one argument -/
theorem opA1 {r : V → Hp → VK → Prop} {R : List V → Hp → VK → Prop} {φ : PV → Store → Res PV} (h : Op1 K r φ) (hR : ∀ x H Q, r x H Q → R [x] H Q) : OpA K R (fun as st => match as with
    | [a] => φ a st
    | _ => .bad) := by
  intro W ρ hs env σ st H Q as xs r da p
  cases as with
  | nil => exact p.elim
  | cons a as =>
    cases as with
    | nil =>
      obtain ⟨x, xr, rfl, d1, d2⟩ := da
      cases d2
      exact hR x H Q (h W ρ hs env σ st H Q a x r d1 p)
    | cons _ _ => exact p.elim
def one (φ : PV → Store → Res PV) : List PV → Store → Res PV := fun as st => match as with
  | [a] => φ a st
  | _ => .bad
def two (φ : PV → PV → Store → Res PV) : List PV → Store → Res PV := fun as st => match as with
  | [a, b] => φ a b st
  | _ => .bad
theorem opA1' {r : V → Hp → VK → Prop} {R : List V → Hp → VK → Prop} {φ : PV → Store → Res PV} (h : Op1 K r φ) (hR : ∀ x H Q, r x H Q → R [x] H Q) : OpA K R (one φ) := opA1 h hR
theorem opA2 {r : R2} {R : List V → Hp → VK → Prop} {φ : PV → PV → Store → Res PV} (h : Op2 K r φ) (hR : ∀ x y H Q, r x y H Q → R [x, y] H Q) : OpA K R (two φ) := by
  intro W ρ hs env σ st H Q as xs r da p
  cases as with
  | nil => exact p.elim
  | cons a as =>
    cases as with
    | nil => exact p.elim
    | cons b as =>
      cases as with
      | nil =>
        obtain ⟨x, xr, rfl, d1, d2⟩ := da
        obtain ⟨y, yr, rfl, d2, d3⟩ := d2
        cases d3
        exact hR x y H Q (h W ρ hs env σ st H Q a b x y r d1 d2 p)
      | cons _ _ => exact p.elim
/-! ### len -/
def lenOf (st : Store) : PV → Option Nat
  | .str z => if z.length ≤ sizeLine then some z.length else none
  | .tup xs => some xs.length
  | .wtp xs => some xs.length
  | .ref i => match st[i]? with
    | some (.lst xs) => some xs.length
    | some (.ro xs) => some xs.length
    | some (.dK false kvs) => some kvs.length
    | some (.dT false kvs) => some kvs.length
    | _ => none
  | _ => none
def pLen : PV → Store → Res PV := fun a st => match lenOf st a with
  | some n => .ok (.int n) st
  | none => .bad
def rLenU (K : Fg) : List V → Hp → VK → Prop := fun xs H Q => LW.rLen K xs H Q ∨ LW.rLenD xs H Q ∨ rLenT xs H Q
theorem call_lenU : CallR X (.builtin "len") (rLenU X.K) := CallR.or call_len (CallR.or call_lenD call_len_dT)
theorem sp_len : OpA K (rLenU K) (one pLen) := by
  refine opA1' (r := fun x H Q => rLenU K [x] H Q) (fun W ρ hs env σ st H Q a x r d p => ?_) fun _ _ _ h => h
  unfold pLen at p
  cases e : lenOf st a with
  | none => simp only [e] at p; exact p.elim
  | some n =>
    simp only [e] at p
    have q := p ρ H _ r rfl
    cases a with
    | str z =>
      cases d
      simp only [lenOf] at e
      by_cases hz : z.length ≤ sizeLine
      · rw [if_pos hz] at e; cases e; exact .inl ⟨_, _, rfl, ⟨hz, rfl⟩, q⟩
      · rw [if_neg hz] at e; cases e
    | tup xs => cases e; obtain ⟨ad, vs, rfl, h1, h2⟩ := d; exact .inl ⟨_, _, rfl, .inr ⟨vs, SqT.of h1, h2.len.symm⟩, q⟩
    | wtp xs => cases e; obtain ⟨ad, vs, rfl, h1, h2⟩ := d; exact .inl ⟨_, _, rfl, .inr ⟨vs, h1 H, h2.len.symm⟩, q⟩
    | ref i =>
      obtain ⟨ad, ha, rfl⟩ := d
      simp only [lenOf] at e
      cases ei : st[i]? with
      | none => simp only [ei] at e; cases e
      | some o =>
        have hob := r.s.ob _ _ _ ei ha
        simp only [ei] at e
        cases o with
        | lst xs => cases e; obtain ⟨vs, h1, h2⟩ := hob; exact .inl ⟨_, _, rfl, .inl ⟨vs, SqL.of h1, h2.len.symm⟩, q⟩
        | ro xs => cases e; obtain ⟨o, vs, h1, h2⟩ := hob; exact .inl ⟨_, _, rfl, .inl ⟨vs, .inl (.inr ⟨o, h1⟩), h2.len.symm⟩, q⟩
        | dK lk kvs =>
          cases lk with
          | true => cases e
          | false => cases e; obtain ⟨ws, h1, h2⟩ := hob; exact .inr (.inl ⟨ad, ws, rfl, h1, by rw [h2.len]; exact q⟩)
        | dT lk kvs =>
          cases lk with
          | true => cases e
          | false => cases e; obtain ⟨ws, h1, h2⟩ := hob; exact .inr (.inr ⟨ad, ws, rfl, h1, by rw [h2.len]; exact q⟩)
        | ins c fs => cases e
    | _ => cases e
/-! ### ints -/
def pAbs : PV → Store → Res PV := fun a st => match a with
  | .int i => .ok (.int (iabs i)) st
  | _ => .bad
theorem sp_abs : OpA K rAbs (one pAbs) := opA1' (r := fun x H Q => rAbs [x] H Q) (fun W ρ hs env σ st H Q a x r d p => by
  cases a with
  | int i => cases d; exact ⟨i, rfl, p ρ H _ r rfl⟩
  | _ => exact p.elim) fun _ _ _ h => h
def pMax2 : PV → PV → Store → Res PV := fun a b st => match a, b with
  | .int i, .int j => .ok (.int (imax i j)) st
  | _, _ => .bad
def pMin2 : PV → PV → Store → Res PV := fun a b st => match a, b with
  | .int i, .int j => .ok (.int (imin i j)) st
  | _, _ => .bad
theorem sp_max2 : OpA K rMax2I (two pMax2) := opA2 (r := fun x y H Q => rMax2I [x, y] H Q) (fun W ρ hs env σ st H Q a b x y r da db p => by
  cases a with
  | int i =>
    cases b with
    | int j => cases da; cases db; exact ⟨i, j, rfl, p ρ H _ r rfl⟩
    | _ => exact p.elim
  | _ => exact p.elim) fun _ _ _ _ h => h
theorem sp_min2 : OpA K rMin2I (two pMin2) := opA2 (r := fun x y H Q => rMin2I [x, y] H Q) (fun W ρ hs env σ st H Q a b x y r da db p => by
  cases a with
  | int i =>
    cases b with
    | int j => cases da; cases db; exact ⟨i, j, rfl, p ρ H _ r rfl⟩
    | _ => exact p.elim
  | _ => exact p.elim) fun _ _ _ _ h => h
/-- the ints of a row -/
def intsOf : List PV → Option (List Int)
  | [] => some []
  | .int i :: xs => (intsOf xs).map (i :: ·)
  | _ => none
theorem intsOf_ok {ρ : List Addr} {H : Hp} : ∀ {xs : List PV} {vs : List V} {ns : List Int}, intsOf xs = some ns → PVrs K ρ H xs vs → vs = ns.map V.int
  | [], _, _, h, d => by cases h; cases d; rfl
  | x :: xs, _, ns, h, d => by
    obtain ⟨v, vs, rfl, d1, d2⟩ := d
    cases x with
    | int i =>
      obtain ⟨ms, h1, rfl⟩ := Option.map_eq_some_iff.mp (show (intsOf xs).map (i :: ·) = some ns from h)
      cases d1
      rw [intsOf_ok h1 d2]
      rfl
    | _ => cases h
theorem intsOf_map (ns : List Int) : intsOf (ns.map PV.int) = some ns := by
  induction ns with
  | nil => rfl
  | cons i ns ih => show (intsOf (ns.map PV.int)).map (i :: ·) = _; rw [ih]; rfl
theorem PVrs.ints {ρ : List Addr} {H : Hp} : ∀ ns : List Int, PVrs K ρ H (ns.map PV.int) (ns.map V.int)
  | [] => PVrs.nil
  | i :: ns => .cons rfl (PVrs.ints ns)
theorem PVrs.strs {ρ : List Addr} {H : Hp} : ∀ ns : List Str, PVrs K ρ H (ns.map PV.str) (ns.map V.str)
  | [] => PVrs.nil
  | i :: ns => .cons rfl (PVrs.strs ns)
def strsOf : List PV → Option (List Str)
  | [] => some []
  | .str i :: xs => (strsOf xs).map (i :: ·)
  | _ => none
theorem strsOf_ok {ρ : List Addr} {H : Hp} : ∀ {xs : List PV} {vs : List V} {ns : List Str}, strsOf xs = some ns → PVrs K ρ H xs vs → vs = ns.map V.str
  | [], _, _, h, d => by cases h; cases d; rfl
  | x :: xs, _, ns, h, d => by
    obtain ⟨v, vs, rfl, d1, d2⟩ := d
    cases x with
    | str i =>
      obtain ⟨ms, h1, rfl⟩ := Option.map_eq_some_iff.mp (show (strsOf xs).map (i :: ·) = some ns from h)
      cases d1
      rw [strsOf_ok h1 d2]
      rfl
    | _ => cases h
def blsOf : List PV → Option (List Bool)
  | [] => some []
  | .bl i :: xs => (blsOf xs).map (i :: ·)
  | _ => none
theorem blsOf_ok {ρ : List Addr} {H : Hp} : ∀ {xs : List PV} {vs : List V} {ns : List Bool}, blsOf xs = some ns → PVrs K ρ H xs vs → vs = ns.map V.bl
  | [], _, _, h, d => by cases h; cases d; rfl
  | x :: xs, _, ns, h, d => by
    obtain ⟨v, vs, rfl, d1, d2⟩ := d
    cases x with
    | bl i =>
      obtain ⟨ms, h1, rfl⟩ := Option.map_eq_some_iff.mp (show (blsOf xs).map (i :: ·) = some ns from h)
      cases d1
      rw [blsOf_ok h1 d2]
      rfl
    | _ => cases h
/-- the items of a list -/
def listOf (st : Store) : PV → Option (List PV)
  | .ref i => match st[i]? with
    | some (.lst xs) => some xs
    | some (.ro xs) => some xs
    | _ => none
  | _ => none
theorem listOf_ok {ρ : List Addr} {hs : List HE} {env : Env} {σ : L2.St} {st : Store} {H : Hp} {x : PV} {v : V} {xs : List PV} (r : Rel K ρ hs env σ st H) (d : PVr K ρ H x v) (h : listOf st x = some xs) : ∃ a vs, v = .ref a ∧ SqL K H a vs ∧ PVrs K ρ H xs vs := by
  cases x with
  | ref i =>
    obtain ⟨a, h1, h2⟩ := d
    simp only [listOf] at h
    cases e : st[i]? with
    | none => simp only [e] at h; cases h
    | some o =>
      simp only [e] at h
      cases o with
      | lst ys => cases h; obtain ⟨vs, k1, k2⟩ := r.s.ob _ _ _ e h1; exact ⟨a, vs, h2, SqL.of k1, k2⟩
      | ro ys => cases h; obtain ⟨o, vs, k1, k2⟩ := r.s.ob _ _ _ e h1; exact ⟨a, vs, h2, .inl (.inr ⟨o, k1⟩), k2⟩
      | _ => cases h
  | _ => cases h
def maxI : List Int → Option Int
  | [] => none
  | x :: xs => match maxI xs with
    | none => some x
    | some y => some (if x < y then y else x)
def minI : List Int → Option Int
  | [] => none
  | x :: xs => match minI xs with
    | none => some x
    | some y => some (if y < x then y else x)
theorem maxI_ok : ∀ {xs : List Int} {m : Int}, maxI xs = some m → m ∈ xs ∧ ∀ y ∈ xs, y ≤ m
  | [], m, h => by cases h
  | x :: xs, m, h => by
    unfold maxI at h
    cases e : maxI xs with
    | none =>
      rw [e] at h
      cases h
      cases xs with
      | nil => simp
      | cons z zs => unfold maxI at e; cases e2 : maxI zs <;> rw [e2] at e <;> cases e
    | some y =>
      rw [e] at h
      obtain ⟨h1, h2⟩ := maxI_ok e
      dsimp only at h
      by_cases q : x < y
      · rw [if_pos q] at h; cases h
        exact ⟨List.mem_cons_of_mem _ h1, fun z hz => (List.mem_cons.mp hz).elim (fun e => by omega) (h2 z)⟩
      · rw [if_neg q] at h; cases h
        exact ⟨List.mem_cons_self, fun z hz => (List.mem_cons.mp hz).elim (fun e => by omega) fun hz => by have := h2 z hz; omega⟩
theorem minI_ok : ∀ {xs : List Int} {m : Int}, minI xs = some m → m ∈ xs ∧ ∀ y ∈ xs, m ≤ y
  | [], m, h => by cases h
  | x :: xs, m, h => by
    unfold minI at h
    cases e : minI xs with
    | none =>
      rw [e] at h
      cases h
      cases xs with
      | nil => simp
      | cons z zs => unfold minI at e; cases e2 : minI zs <;> rw [e2] at e <;> cases e
    | some y =>
      rw [e] at h
      obtain ⟨h1, h2⟩ := minI_ok e
      dsimp only at h
      by_cases q : y < x
      · rw [if_pos q] at h; cases h
        exact ⟨List.mem_cons_of_mem _ h1, fun z hz => (List.mem_cons.mp hz).elim (fun e => by omega) (h2 z)⟩
      · rw [if_neg q] at h; cases h
        exact ⟨List.mem_cons_self, fun z hz => (List.mem_cons.mp hz).elim (fun e => by omega) fun hz => by have := h2 z hz; omega⟩
def pMaxL : PV → Store → Res PV := fun a st => match (listOf st a).bind intsOf with
  | some ns => (match maxI ns with
    | some m => .ok (.int m) st
    | none => .bad)
  | none => .bad
def pMinL : PV → Store → Res PV := fun a st => match (listOf st a).bind intsOf with
  | some ns => (match minI ns with
    | some m => .ok (.int m) st
    | none => .bad)
  | none => .bad
theorem ints_at {ρ : List Addr} {hs : List HE} {env : Env} {σ : L2.St} {st : Store} {H : Hp} {x : PV} {v : V} {ns : List Int} (r : Rel K ρ hs env σ st H) (d : PVr K ρ H x v) (h : (listOf st x).bind intsOf = some ns) : ∃ a, v = .ref a ∧ SqL K H a (ns.map V.int) := by
  cases e : listOf st x with
  | none => rw [e] at h; cases h
  | some xs =>
    rw [e] at h
    obtain ⟨a, vs, h1, h2, h3⟩ := listOf_ok r d e
    rw [intsOf_ok h h3] at h2
    exact ⟨a, h1, h2⟩
theorem sp_maxL : OpA K (rMax K) (one pMaxL) := opA1' (r := fun x H Q => rMax K [x] H Q) (fun W ρ hs env σ st H Q a x r d p => by
  unfold pMaxL at p
  cases e : (listOf st a).bind intsOf with
  | none => simp only [e] at p; exact p.elim
  | some ns =>
    simp only [e] at p
    cases e2 : maxI ns with
    | none => simp only [e2] at p; exact p.elim
    | some m =>
      simp only [e2] at p
      obtain ⟨ad, rfl, h2⟩ := ints_at r d e
      obtain ⟨m1, m2⟩ := maxI_ok e2
      refine ⟨ad, ns, rfl, h2, List.length_pos_of_mem m1, fun m' k1 k2 => ?_⟩
      have : m' = m := Int.le_antisymm (m2 m' k1) (k2 m m1)
      rw [this]
      exact p ρ H _ r rfl) fun _ _ _ h => h
theorem sp_minL : OpA K (rMin K) (one pMinL) := opA1' (r := fun x H Q => rMin K [x] H Q) (fun W ρ hs env σ st H Q a x r d p => by
  unfold pMinL at p
  cases e : (listOf st a).bind intsOf with
  | none => simp only [e] at p; exact p.elim
  | some ns =>
    simp only [e] at p
    cases e2 : minI ns with
    | none => simp only [e2] at p; exact p.elim
    | some m =>
      simp only [e2] at p
      obtain ⟨ad, rfl, h2⟩ := ints_at r d e
      obtain ⟨m1, m2⟩ := minI_ok e2
      refine ⟨ad, ns, rfl, h2, List.length_pos_of_mem m1, fun m' k1 k2 => ?_⟩
      have : m' = m := Int.le_antisymm (k2 m m1) (m2 m' k1)
      rw [this]
      exact p ρ H _ r rfl) fun _ _ _ h => h
/-! ### all, any -/
def pAll : PV → Store → Res PV := fun a st => match (listOf st a).bind blsOf with
  | some ns => .ok (.bl (ns.all id)) st
  | none => .bad
def pAny : PV → Store → Res PV := fun a st => match (listOf st a).bind blsOf with
  | some ns => .ok (.bl (ns.any id)) st
  | none => .bad
theorem bls_at {ρ : List Addr} {hs : List HE} {env : Env} {σ : L2.St} {st : Store} {H : Hp} {x : PV} {v : V} {ns : List Bool} (r : Rel K ρ hs env σ st H) (d : PVr K ρ H x v) (h : (listOf st x).bind blsOf = some ns) : ∃ a, v = .ref a ∧ SqL K H a (ns.map V.bl) := by
  cases e : listOf st x with
  | none => rw [e] at h; cases h
  | some xs =>
    rw [e] at h
    obtain ⟨a, vs, h1, h2, h3⟩ := listOf_ok r d e
    rw [blsOf_ok h h3] at h2
    exact ⟨a, h1, h2⟩
theorem sp_all : OpA K (rAll K) (one pAll) := opA1' (r := fun x H Q => rAll K [x] H Q) (fun W ρ hs env σ st H Q a x r d p => by
  unfold pAll at p
  cases e : (listOf st a).bind blsOf with
  | none => simp only [e] at p; exact p.elim
  | some ns =>
    simp only [e] at p
    obtain ⟨ad, rfl, h2⟩ := bls_at r d e
    exact ⟨ad, ns, rfl, h2, p ρ H _ r rfl⟩) fun _ _ _ h => h
theorem sp_any : OpA K (rAny K) (one pAny) := opA1' (r := fun x H Q => rAny K [x] H Q) (fun W ρ hs env σ st H Q a x r d p => by
  unfold pAny at p
  cases e : (listOf st a).bind blsOf with
  | none => simp only [e] at p; exact p.elim
  | some ns =>
    simp only [e] at p
    obtain ⟨ad, rfl, h2⟩ := bls_at r d e
    exact ⟨ad, ns, rfl, h2, p ρ H _ r rfl⟩) fun _ _ _ h => h
/-! ### int, str, list, tuple -/
def rIntU : List V → Hp → VK → Prop := fun xs H Q => rInt1 xs H Q ∨ rIntStr xs H Q
theorem call_intU : CallR X (.type "int") rIntU := CallR.or call_int1 call_int_str
def pIntC : PV → Store → Res PV := fun a st => match a with
  | .int i => .ok (.int i) st
  | .bl b => .ok (.int (if b then 1 else 0)) st
  | .str z => (match PySem.intText? z with
    | some n => if z.length ≤ 640 then .ok (.int n) st else .bad
    | none => .bad)
  | _ => .bad
theorem sp_intC : OpA K rIntU (one pIntC) := opA1' (r := fun x H Q => rIntU [x] H Q) (fun W ρ hs env σ st H Q a x r d p => by
  unfold pIntC at p
  cases a with
  | int i => cases d; exact .inl (.inl ⟨i, rfl, p ρ H _ r rfl⟩)
  | bl b => cases d; exact .inl (.inr ⟨b, rfl, p ρ H _ r rfl⟩)
  | str z =>
    cases d
    dsimp only at p
    cases e : PySem.intText? z with
    | none => simp only [e] at p; exact p.elim
    | some n =>
      simp only [e] at p
      by_cases h : z.length ≤ 640
      · rw [if_pos h] at p; exact .inr ⟨z, n, rfl, e, h, p ρ H _ r rfl⟩
      · rw [if_neg h] at p; exact p.elim
  | _ => exact p.elim) fun _ _ _ h => h
def pStrC : PV → Store → Res PV := fun a st => match a with
  | .int i => if i.natAbs.log2 < 1920 then .ok (.str (toString i)) st else .bad
  | .str z => .ok (.str z) st
  | _ => .bad
theorem sp_strC : OpA K rStrA (one pStrC) := opA1' (r := fun x H Q => rStrA [x] H Q) (fun W ρ hs env σ st H Q a x r d p => by
  unfold pStrC at p
  cases a with
  | int i =>
    cases d
    dsimp only at p
    by_cases h : i.natAbs.log2 < 1920
    · rw [if_pos h] at p; exact .inl ⟨i, rfl, h, p ρ H _ r rfl⟩
    · rw [if_neg h] at p; exact p.elim
  | str z => cases d; exact .inr ⟨z, rfl, p ρ H _ r rfl⟩
  | _ => exact p.elim) fun _ _ _ h => h
/-- list(x): a row, a dict's keys -/
def dkeys (kvs : List (Key × PV)) : List PV := kvs.map fun kv => match kv.1 with
  | .inl i => .int i
  | .inr z => .str z
def rListU (K : Fg) : List V → Hp → VK → Prop := fun xs H Q => rListOf K xs H Q ∨ (∃ (a : Addr) (kvs : List (Key × V)), xs = [.ref a] ∧ Rd H a (.dK kvs) ∧ ∀ p, H p = none → Q (.ref p) (upd H p (.lst (kvs.map fun kv => kV kv.1))))
theorem call_listU (hc : X.calm = true) : CallR X (.type "list") (rListU X.K) := CallR.or call_list_of (call_listD hc)
def pListC : PV → Store → Res PV := fun a st => match itemsOf st a with
  | some xs => alloc (.lst xs) st
  | none => (match a with
    | .ref i => (match st[i]? with
      | some (.dK _ kvs) => alloc (.lst (dkeys kvs)) st
      | _ => .bad)
    | _ => .bad)
theorem PVrs.dkeys {ρ : List Addr} {H : Hp} : ∀ {kvs : List (Key × PV)} {ws : List (Key × V)}, KR K ρ H kvs ws → PVrs K ρ H (PL.dkeys kvs) (ws.map fun kv => kV kv.1)
  | [], _, h => by cases h; exact PVrs.nil
  | (k, x) :: kvs, _, h => by
    obtain ⟨v, q, rfl, _, h3⟩ := h
    refine .cons ?_ (PVrs.dkeys h3)
    cases k <;> rfl
theorem sp_listC : OpA K (rListU K) (one pListC) := opA1' (r := fun x H Q => rListU K [x] H Q) (fun W ρ hs env σ st H Q a x r d p => by
  unfold pListC at p
  cases e : itemsOf st a with
  | some xs =>
    simp only [e] at p
    obtain ⟨ad, vs, rfl, sq, rv⟩ := items_of r d e
    refine .inl ⟨ad, vs, rfl, sq, fun l hl => ?_⟩
    obtain ⟨r2, d2⟩ := r.lst hl rv
    exact p _ _ _ r2 d2
  | none =>
    simp only [e] at p
    cases a with
    | ref i =>
      dsimp only at p
      cases ei : st[i]? with
      | none => simp only [ei] at p; exact p.elim
      | some o =>
        simp only [ei] at p
        cases o with
        | dK lk kvs =>
          obtain ⟨ad, ha, rfl⟩ := d
          obtain ⟨ws, h1, h2⟩ := r.s.ob _ _ _ ei ha
          refine .inr ⟨ad, ws, rfl, lk_rd h1, fun l hl => ?_⟩
          obtain ⟨r2, d2⟩ := r.lst hl (PVrs.dkeys h2)
          exact p _ _ _ r2 d2
        | _ => exact p.elim
    | _ => exact p.elim) fun _ _ _ h => h
def pTupC : PV → Store → Res PV := fun a st => match a with
  | .wtp _ => .ok a st
  | _ => (match itemsOf st a with
    | some xs => .ok (.tup xs) st
    | none => .bad)
theorem sp_tupC : OpA K (rTupleOf K) (one pTupC) := opA1' (r := fun x H Q => rTupleOf K [x] H Q) (fun W ρ hs env σ st H Q a x r d p => by
  unfold pTupC at p
  cases a with
  | wtp xs => obtain ⟨ad, vs, rfl, h1, h2⟩ := id d; exact ⟨ad, vs, rfl, .inr ⟨h1 H, p ρ H _ r d⟩⟩
  | tup xs => obtain ⟨ad, vs, rfl, h1, h2⟩ := id d; exact ⟨ad, vs, rfl, .inr ⟨SqT.of h1, p ρ H _ r d⟩⟩
  | ref i =>
    dsimp only at p
    cases e : itemsOf st (.ref i) with
    | none => simp only [e] at p; exact p.elim
    | some xs =>
      simp only [e] at p
      have e' : listOf st (.ref i) = some xs := e
      obtain ⟨ad, vs, rfl, sq, rv⟩ := listOf_ok r d e'
      refine ⟨ad, vs, rfl, .inl ⟨sq, fun l hl => ?_⟩⟩
      obtain ⟨r2, d2⟩ := r.tup hl rv
      exact p _ _ _ r2 d2
  | _ => exact p.elim) fun _ _ _ h => h
end
end
end PL
set_option Elab.async false
set_option linter.all false
set_option maxRecDepth 100000
set_option maxHeartbeats 1000000
set_option autoImplicit false
namespace PL
open PySem PySem.Spec PyProof.Rows L2 LW
noncomputable section
/-! ### sorted -/
def insI (x : Int) : List Int → List Int
  | [] => [x]
  | y :: ys => if x ≤ y then x :: y :: ys else y :: insI x ys
def sortI : List Int → List Int
  | [] => []
  | x :: xs => insI x (sortI xs)
theorem insI_perm (x : Int) : ∀ ys, (insI x ys).Perm (x :: ys)
  | [] => .refl _
  | y :: ys => by
    unfold insI
    by_cases h : x ≤ y
    · rw [if_pos h]
    · rw [if_neg h]; exact ((insI_perm x ys).cons y).trans (.swap x y ys)
theorem sortI_perm : ∀ xs, (sortI xs).Perm xs
  | [] => .refl _
  | x :: xs => (insI_perm x (sortI xs)).trans ((sortI_perm xs).cons x)
theorem insI_sorted (x : Int) : ∀ {ys : List Int}, ys.Pairwise (· ≤ ·) → (insI x ys).Pairwise (· ≤ ·)
  | [], _ => by simp [insI]
  | y :: ys, h => by
    obtain ⟨h1, h2⟩ := List.pairwise_cons.mp h
    unfold insI
    by_cases q : x ≤ y
    · rw [if_pos q]
      exact List.pairwise_cons.mpr ⟨fun z hz => (List.mem_cons.mp hz).elim (fun e => by omega) fun hz => Int.le_trans q (h1 z hz), h⟩
    · rw [if_neg q]
      exact List.pairwise_cons.mpr ⟨fun z hz => (List.mem_cons.mp ((insI_perm x ys).mem_iff.mp hz)).elim (fun e => by omega) (h1 z), insI_sorted x h2⟩
theorem sortI_sorted : ∀ xs, (sortI xs).Pairwise (· ≤ ·)
  | [] => .nil
  | x :: xs => insI_sorted x (sortI_sorted xs)
theorem sortI_uniq {xs ys : List Int} (hp : ys.Perm xs) (hs : ys.Pairwise (· ≤ ·)) : ys = sortI xs := PySem.W.ksm_same (hp.trans (sortI_perm xs).symm) hs (sortI_sorted xs)
/-- texts -/
def leS (x y : Str) : Bool := !ltCps y.cps.toList x.cps.toList
theorem leS_iff {x y : Str} : leS x y = true ↔ ¬ (y.cps.toList < x.cps.toList) := by
  unfold leS
  rw [ltCps_eq]
  simp
theorem leS_total (x y : Str) : leS x y = true ∨ leS y x = true := by
  rw [leS_iff, leS_iff]
  rcases Classical.em (y.cps.toList < x.cps.toList) with h | h
  · exact .inr fun h2 => List.lt_irrefl _ (List.lt_trans h h2)
  · exact .inl h
theorem leS_trans {x y z : Str} (h1 : leS x y = true) (h2 : leS y z = true) : leS x z = true := by
  rw [leS_iff] at *
  have h1 : x.cps.toList ≤ y.cps.toList := h1
  have h2 : y.cps.toList ≤ z.cps.toList := h2
  exact List.le_trans h1 h2
theorem leS_anti {x y : Str} (h1 : leS x y = true) (h2 : leS y x = true) : x = y := by
  rw [leS_iff] at *
  have h1 : x.cps.toList ≤ y.cps.toList := h1
  have h2 : y.cps.toList ≤ x.cps.toList := h2
  have := List.le_antisymm h1 h2
  obtain ⟨a⟩ := x
  obtain ⟨b⟩ := y
  congr 1
  exact Array.ext' this
def insS (x : Str) : List Str → List Str
  | [] => [x]
  | y :: ys => if leS x y = true then x :: y :: ys else y :: insS x ys
def sortS : List Str → List Str
  | [] => []
  | x :: xs => insS x (sortS xs)
theorem insS_perm (x : Str) : ∀ ys, (insS x ys).Perm (x :: ys)
  | [] => .refl _
  | y :: ys => by
    unfold insS
    by_cases h : leS x y = true
    · rw [if_pos h]
    · rw [if_neg h]; exact ((insS_perm x ys).cons y).trans (.swap x y ys)
theorem sortS_perm : ∀ xs, (sortS xs).Perm xs
  | [] => .refl _
  | x :: xs => (insS_perm x (sortS xs)).trans ((sortS_perm xs).cons x)
theorem insS_sorted (x : Str) : ∀ {ys : List Str}, ys.Pairwise (fun a b => leS a b = true) → (insS x ys).Pairwise (fun a b => leS a b = true)
  | [], _ => by simp [insS]
  | y :: ys, h => by
    obtain ⟨h1, h2⟩ := List.pairwise_cons.mp h
    unfold insS
    by_cases q : leS x y = true
    · rw [if_pos q]
      exact List.pairwise_cons.mpr ⟨fun z hz => (List.mem_cons.mp hz).elim (fun e => by rw [e]; exact q) fun hz => leS_trans q (h1 z hz), h⟩
    · rw [if_neg q]
      exact List.pairwise_cons.mpr ⟨fun z hz => (List.mem_cons.mp ((insS_perm x ys).mem_iff.mp hz)).elim (fun e => by rw [e]; exact (leS_total x y).resolve_left q) (h1 z), insS_sorted x h2⟩
theorem sortS_sorted : ∀ xs, (sortS xs).Pairwise (fun a b => leS a b = true)
  | [] => .nil
  | x :: xs => insS_sorted x (sortS_sorted xs)
theorem rising_pw : ∀ (p : Str) (l : List Str), risingS p l = true → (p :: l).Pairwise (fun a b => leS a b = true)
  | p, [], _ => by simp
  | p, x :: r, h => by
    obtain ⟨h1, h2⟩ := (Bool.and_eq_true _ _).mp (show (!ltCps x.cps.toList p.cps.toList && risingS x r) = true from h)
    have ih := rising_pw x r h2
    refine List.pairwise_cons.mpr ⟨fun z hz => (List.mem_cons.mp hz).elim (fun e => by rw [e]; exact h1) fun hz => leS_trans (y := x) h1 ((List.pairwise_cons.mp ih).1 z hz), ih⟩
theorem sortedS_pw : ∀ (l : List Str), sortedS l = true → l.Pairwise (fun a b => leS a b = true)
  | [], _ => .nil
  | x :: r, h => rising_pw x r h
theorem sortS_uniq {xs ys : List Str} (hp : ys.Perm xs) (hs : sortedS ys = true) : ys = sortS xs :=
  (hp.trans (sortS_perm xs).symm).eq_of_pairwise (fun a b _ _ h1 h2 => leS_anti h1 h2) (sortedS_pw ys hs) (sortS_sorted xs)
section
variable {X : Cx} {W : WX} {K : Fg}
def kstrs : List (Key × PV) → Option (List Str)
  | [] => some []
  | (.inr z, _) :: r => (kstrs r).map (z :: ·)
  | _ => none
def kints : List (Key × PV) → Option (List Int)
  | [] => some []
  | (.inl z, _) :: r => (kints r).map (z :: ·)
  | _ => none
theorem kstrs_ok {ρ : List Addr} {H : Hp} : ∀ {kvs : List (Key × PV)} {ws : List (Key × V)} {ks : List Str}, kstrs kvs = some ks → KR K ρ H kvs ws → ws.map (·.1) = ks.map Sum.inr
  | [], _, _, h, d => by cases h; cases d; rfl
  | (k, x) :: kvs, _, ks, h, d => by
    obtain ⟨v, q, rfl, _, d2⟩ := d
    cases k with
    | inl i => cases h
    | inr z =>
      obtain ⟨ms, h1, rfl⟩ := Option.map_eq_some_iff.mp (show (kstrs kvs).map (z :: ·) = some ks from h)
      simp [kstrs_ok h1 d2]
theorem kints_ok {ρ : List Addr} {H : Hp} : ∀ {kvs : List (Key × PV)} {ws : List (Key × V)} {ks : List Int}, kints kvs = some ks → KR K ρ H kvs ws → ws.map (·.1) = ks.map Sum.inl
  | [], _, _, h, d => by cases h; cases d; rfl
  | (k, x) :: kvs, _, ks, h, d => by
    obtain ⟨v, q, rfl, _, d2⟩ := d
    cases k with
    | inr i => cases h
    | inl z =>
      obtain ⟨ms, h1, rfl⟩ := Option.map_eq_some_iff.mp (show (kints kvs).map (z :: ·) = some ks from h)
      simp [kints_ok h1 d2]
def rSortU (K : Fg) : List V → Hp → VK → Prop := fun vs H Q => rSortedA K vs H Q ∨ rSortedS K vs H Q ∨
  (∃ (a : Addr) (kvs : List (Key × V)) (ks : List Str), vs = [.ref a] ∧ Rd H a (.dK kvs) ∧ kvs.map (·.1) = ks.map Sum.inr ∧ ks.length < 64 ∧ ∀ ys p, ys.Perm ks → sortedS ys = true → H p = none → Q (.ref p) (upd H p (.lst (ys.map V.str)))) ∨
  (∃ (a : Addr) (kvs : List (Key × V)) (ks : List Int), vs = [.ref a] ∧ Rd H a (.dK kvs) ∧ kvs.map (·.1) = ks.map Sum.inl ∧ ks.length < 64 ∧ ∀ (ys : List Int) (p : Addr), ys.Perm ks → ys.Pairwise (· ≤ ·) → H p = none → Q (.ref p) (upd H p (.lst (ys.map V.int))))
theorem call_sortU (hc : X.calm = true) : CallR X (.builtin "sorted") (rSortU X.K) := CallR.or cr_sortedA (CallR.or cr_sortedS (CallR.or (call_sortedD hc) (call_sortedDI hc)))
def pSorted : PV → Store → Res PV := fun a st => match itemsOf st a with
  | some xs => (match intsOf xs with
    | some ns => alloc (.lst ((sortI ns).map .int)) st
    | none => (match (listOf st a).bind strsOf with
      | some ss => if ss.length < 64 then alloc (.lst ((sortS ss).map .str)) st else .bad
      | none => .bad))
  | none => (match a with
    | .ref i => (match st[i]? with
      | some (.dK _ kvs) => (match kstrs kvs with
        | some ks => if ks.length < 64 then alloc (.lst ((sortS ks).map .str)) st else .bad
        | none => (match kints kvs with
          | some ks => if ks.length < 64 then alloc (.lst ((sortI ks).map .int)) st else .bad
          | none => .bad))
      | _ => .bad)
    | _ => .bad)
theorem sp_sorted : OpA K (rSortU K) (one pSorted) := opA1' (r := fun x H Q => rSortU K [x] H Q) (fun W ρ hs env σ st H Q a x r d p => by
  unfold pSorted at p
  cases e : itemsOf st a with
  | some xs =>
    simp only [e] at p
    obtain ⟨ad, vs, rfl, sq, rv⟩ := items_of r d e
    cases e1 : intsOf xs with
    | some ns =>
      simp only [e1] at p
      rw [intsOf_ok e1 rv] at sq
      refine .inl ⟨ad, ns, rfl, sq, fun ns' q hp hs hq => ?_⟩
      rw [sortI_uniq hp hs]
      obtain ⟨r2, d2⟩ := r.lst hq (PVrs.ints (sortI ns))
      exact p _ _ _ r2 d2
    | none =>
      simp only [e1] at p
      cases e2 : (listOf st a).bind strsOf with
      | none => simp only [e2] at p; exact p.elim
      | some ss =>
        simp only [e2] at p
        by_cases hl : ss.length < 64
        · rw [if_pos hl] at p
          cases e3 : listOf st a with
          | none => rw [e3] at e2; cases e2
          | some zs =>
            rw [e3] at e2
            obtain ⟨ad', vs', e4, sq', rv'⟩ := listOf_ok r d e3
            cases e4
            rw [strsOf_ok e2 rv'] at sq'
            refine .inr (.inl ⟨ad, ss, rfl, sq', hl, fun ys q hp hs hq => ?_⟩)
            rw [sortS_uniq hp hs]
            obtain ⟨r2, d2⟩ := r.lst hq (PVrs.strs (sortS ss))
            exact p _ _ _ r2 d2
        · rw [if_neg hl] at p; exact p.elim
  | none =>
    simp only [e] at p
    cases a with
    | ref i =>
      dsimp only at p
      cases ei : st[i]? with
      | none => simp only [ei] at p; exact p.elim
      | some o =>
        simp only [ei] at p
        cases o with
        | dK lk kvs =>
          obtain ⟨ad, ha, rfl⟩ := d
          obtain ⟨ws, h1, h2⟩ := r.s.ob _ _ _ ei ha
          dsimp only at p
          cases e1 : kstrs kvs with
          | some ks =>
            simp only [e1] at p
            by_cases hl : ks.length < 64
            · rw [if_pos hl] at p
              refine .inr (.inr (.inl ⟨ad, ws, ks, rfl, lk_rd h1, kstrs_ok e1 h2, hl, fun ys q hp hs hq => ?_⟩))
              rw [sortS_uniq hp hs]
              obtain ⟨r2, d2⟩ := r.lst hq (PVrs.strs (sortS ks))
              exact p _ _ _ r2 d2
            · rw [if_neg hl] at p; exact p.elim
          | none =>
            simp only [e1] at p
            cases e2 : kints kvs with
            | none => simp only [e2] at p; exact p.elim
            | some ks =>
              simp only [e2] at p
              by_cases hl : ks.length < 64
              · rw [if_pos hl] at p
                refine .inr (.inr (.inr ⟨ad, ws, ks, rfl, lk_rd h1, kints_ok e2 h2, hl, fun ys q hp hs hq => ?_⟩))
                rw [sortI_uniq hp hs]
                obtain ⟨r2, d2⟩ := r.lst hq (PVrs.ints (sortI ks))
                exact p _ _ _ r2 d2
              · rw [if_neg hl] at p; exact p.elim
        | _ => exact p.elim
    | _ => exact p.elim) fun _ _ _ h => h
/-! ### slices -/
def cutP (xs : List PV) (lo hi : Option Int) : List PV := (xs.drop (HT.sIx xs.length 0 lo)).take (HT.sIx xs.length xs.length hi - HT.sIx xs.length 0 lo)
def pSl (st : Store) (a : PV) (lo hi : Option Int) : Res PV := match a with
  | .str z => if z.length ≤ sizeLine then .ok (.str (cutS z lo hi)) st else .bad
  | .tup xs => .ok (.tup (cutP xs lo hi)) st
  | _ => (match listOf st a with
    | some xs => alloc (.lst (cutP xs lo hi)) st
    | none => .bad)
abbrev Mo := Mx (Option Int)
def mNoPart : Mo := fun _ st => .ok none st
def mPart (a : Mx PV) : Mo := fun env st => (a env st).bnd fun x s1 => match x with
  | .int i => .ok (some i) s1
  | _ => .bad
abbrev ROI : RA (Option Int) (Option Int) := fun _ _ a b => b = a
structure PXo (X : Cx) (W : WX) (e : Option Expr) (m : Mo) : Prop where
  pe : L2.PO X e (rG ROI X.K W m)
theorem pxo_none : PXo X W none mNoPart := ⟨⟨fun pins s σ H Q I h => po_none.run pins s σ H Q I (by obtain ⟨ρ, hs, env, st, r, q⟩ := h; exact q ρ H none r rfl)⟩⟩
theorem pxo_some {e : Expr} {m : Mx PV} (h : PX X W e m) : PXo X W (some e) (mPart m) := ⟨⟨fun pins s σ H Q I hw => (po_some h.pe).run pins s σ H Q I (by
  obtain ⟨ρ, hs, env, st, r, q⟩ := hw
  refine ⟨ρ, hs, env, st, r, PostG.bnd q fun a s1 _ p1 ρ1 H1 x r1 dx => ?_⟩
  cases a with
  | int i => exact ⟨i, dx, p1 ρ1 H1 _ r1 rfl⟩
  | _ => exact p1.elim)⟩⟩
def mSl (a : Mx PV) (lo hi : Mo) : Mx PV := fun env st => (a env st).bnd fun x s1 => (lo env s1).bnd fun l s2 => (hi env s2).bnd fun h s3 => pSl s3 x l h
def rSlU (K : Fg) : V → Option Int → Option Int → Hp → VK → Prop := fun x lo hi H Q => rSlL K x lo hi H Q ∨ rSlA K x lo hi H Q ∨ rSlS x lo hi H Q
theorem sl_U : SlR X (rSlU X.K) := SlR.or sl_list (SlR.or sl_tupA sl_str)
theorem PVrs.cut {ρ : List Addr} {H : Hp} {xs : List PV} {vs : List V} (h : PVrs K ρ H xs vs) (lo hi : Option Int) : PVrs K ρ H (cutP xs lo hi) (cutV vs lo hi) := by
  unfold cutP cutV
  rw [h.len]
  exact (h.drop _).take _
theorem px_slice {e : Expr} {lo hi : Option Expr} {p2 pos : Pos} {m : Mx PV} {l h : Mo} (he : PX X W e m) (hl : PXo X W lo l) (hh : PXo X W hi h) : PX X W (.Subscript e (.Slice lo hi none p2) pos) (mSl m l h) :=
  .of (pe_slice sl_U he.pe hl.pe hh.pe) fun ρ hs env σ st H Q r p => by
    refine ⟨ρ, hs, env, st, r, PostG.bnd p fun a s1 _ p1 ρ1 H1 x r1 dx => ?_⟩
    refine ⟨ρ1, .val a x :: hs, env, s1, r1.hold dx, PostG.bnd p1.hold fun lo s2 _ p2 ρ2 H2 b r2 d2 => ?_⟩
    cases d2
    refine ⟨ρ2, _, env, s2, r2, PostG.bnd p2 fun hi s3 _ p3 ρ3 H3 b r3 d3 => ?_⟩
    cases d3
    have dx := r3.top
    have lst : (∃ xs, listOf s3 a = some xs ∧ PostG (RV X.K) X.K W (.val a x :: hs) env σ Q (alloc (.lst (cutP xs lo hi)) s3)) → rSlU X.K x lo hi H3 Q := fun ⟨xs, h1, h2⟩ => by
      obtain ⟨ad, vs, rfl, sq, rv⟩ := listOf_ok r3 dx h1
      refine .inl ⟨ad, vs, rfl, sq, fun q hq => ?_⟩
      obtain ⟨r4, d4⟩ := r3.lst hq (rv.cut lo hi)
      exact h2 _ _ _ r4 d4
    cases a with
    | str z =>
      cases dx
      simp only [pSl] at p3
      by_cases hz : z.length ≤ sizeLine
      · rw [if_pos hz] at p3; exact .inr (.inr ⟨z, rfl, hz, p3 ρ3 H3 _ r3 rfl⟩)
      · rw [if_neg hz] at p3; exact p3.elim
    | tup xs =>
      obtain ⟨ad, vs, rfl, h1, h2⟩ := id dx
      refine .inr (.inl ⟨ad, vs, rfl, SqT.of h1, fun hh => ?_, fun _ q hq => ?_⟩)
      · refine p3 ρ3 H3 _ r3 ?_
        have : cutP xs lo hi = xs := by
          unfold cutP
          rw [← h2.len, hh.1, hh.2]
          simp [h2.len]
        rw [this]
        exact dx
      · obtain ⟨r4, d4⟩ := r3.tup hq (h2.cut lo hi)
        exact p3 _ _ _ r4 d4
    | ref i =>
      cases ei : listOf s3 (.ref i) with
      | none => simp only [pSl, ei] at p3; exact p3.elim
      | some xs => exact lst ⟨xs, ei, by simpa only [pSl, ei] using p3⟩
    | _ => exact p3.elim
/-! ### truth -/
def pTru (st : Store) : PV → Option Bool
  | .non => some false
  | .bl b => some b
  | .int i => some (i != 0)
  | .str y => if y.length ≤ sizeLine then some ((y.length : Int) != 0) else none
  | .tup xs => some (!xs.isEmpty)
  | .wtp xs => some (!xs.isEmpty)
  | .ref i => match st[i]? with
    | some (.lst xs) => some (!xs.isEmpty)
    | some (.ro xs) => some (!xs.isEmpty)
    | some (.dK false kvs) => some (!kvs.isEmpty)
    | _ => none
  | _ => none
def mTru (a : Mx PV) : Mx Bool := fun env st => (a env st).bnd fun x s1 => match pTru s1 x with
  | some b => .ok b s1
  | none => .bad
theorem empt {ρ : List Addr} {H : Hp} {xs : List PV} {vs : List V} (h : PVrs K ρ H xs vs) : (!vs.isEmpty) = !xs.isEmpty := by
  cases xs with
  | nil => cases h; rfl
  | cons x xs => obtain ⟨v, r, rfl, _⟩ := h; rfl
theorem pxt_truth {e : Expr} {m : Mx PV} (h : PX X W e m) (he : ∀ whole, isTrue e X.env whole = (do let v ← whole; standAt e.pos; holding [v] (truthy v)) := by intro _; rfl) : PXt X W e (mTru m) :=
  .of (pt_truth h.pe he) fun ρ hs env σ st H Q r p => ⟨ρ, hs, env, st, r, PostG.bnd p fun a s1 _ p1 ρ1 H1 x r1 dx => by
    cases e : pTru s1 a with
    | none => simp only [e] at p1; exact p1.elim
    | some b =>
      simp only [e] at p1
      refine ⟨b, ?_, p1 ρ1 H1 b r1 rfl⟩
      cases a with
      | non => cases e; cases dx; rfl
      | bl _ => cases e; cases dx; rfl
      | int _ => cases e; cases dx; rfl
      | str y =>
        cases dx
        simp only [pTru] at e
        by_cases hz : y.length ≤ sizeLine
        · rw [if_pos hz] at e; cases e; exact ⟨hz, rfl⟩
        · rw [if_neg hz] at e; cases e
      | tup xs => cases e; obtain ⟨ad, vs, rfl, h1, h2⟩ := dx; exact .inr (.inl ⟨vs, SqT.of h1, (empt h2).symm⟩)
      | wtp xs => cases e; obtain ⟨ad, vs, rfl, h1, h2⟩ := dx; exact .inr (.inl ⟨vs, h1 H1, (empt h2).symm⟩)
      | ref i =>
        obtain ⟨ad, ha, rfl⟩ := dx
        simp only [pTru] at e
        cases ei : s1[i]? with
        | none => simp only [ei] at e; cases e
        | some o =>
          have hob := r1.s.ob _ _ _ ei ha
          simp only [ei] at e
          cases o with
          | lst xs => cases e; obtain ⟨vs, h1, h2⟩ := hob; exact .inl ⟨vs, SqL.of h1, (empt h2).symm⟩
          | ro xs => cases e; obtain ⟨o, vs, h1, h2⟩ := hob; exact .inl ⟨vs, .inl (.inr ⟨o, h1⟩), (empt h2).symm⟩
          | dK lk kvs =>
            cases lk with
            | true => cases e
            | false =>
              cases e
              obtain ⟨ws, h1, h2⟩ := hob
              refine .inr (.inr ⟨ws, h1, ?_⟩)
              cases kvs with
              | nil => cases h2; rfl
              | cons _ _ => obtain ⟨_, _, rfl, _⟩ := h2; rfl
          | _ => cases e
      | _ => cases e⟩
end
end
end PL
set_option Elab.async false
set_option linter.all false
set_option maxRecDepth 100000
set_option maxHeartbeats 1000000
set_option autoImplicit false
namespace PL
open PySem PySem.Spec PyProof.Rows L2 LW
noncomputable section
section
variable {X : Cx} {W : WX} {K : Fg}
/-! ### methods of lists -/
def mBML (φ : PV → List PV → Store → Res PV) (a : Mx PV) (as : Mx (List PV)) : Mx PV := fun env st => (a env st).bnd fun x s1 => if (listOf s1 x).isSome = true then (as env s1).bnd fun xs s2 => φ x xs s2 else .bad
theorem sim_bml {r : V → List V → Hp → VK → Prop} {φ : PV → List PV → Store → Res PV} {to : TE} {t : TA} {m : Mx PV} {n : Mx (List PV)} (hφ : OpM K r φ) (ho : Sim (RV K) K W to m) (ha : Sim (RVs K) K W t n) : Sim (RV K) K W (tBM K "list" r to t) (mBML φ m n) := by
  intro ρ hs env σ st H Q rl p
  refine ho ρ hs env σ st H _ rl (p.bnd fun a s1 _ p1 ρ1 H1 x r1 dx => ?_)
  cases e : listOf s1 a with
  | none => simp [e] at p1; exact p1.elim
  | some xs =>
    simp only [e, Option.isSome_some, if_true] at p1
    obtain ⟨ad, vs, rfl, sq, _⟩ := listOf_ok r1 dx e
    refine ⟨.inl ⟨rfl, vs, sq⟩, ha ρ1 (.val a (.ref ad) :: hs) env σ s1 H1 _ (r1.hold dx) (p1.hold.bnd fun b s2 _ p2 ρ2 H2 y r2 dy => ?_)⟩
    exact hφ W ρ2 _ env σ s2 H2 Q a b _ y r2 r2.top dy p2
theorem sim_bml0 {r : V → List V → Hp → VK → Prop} {φ : PV → List PV → Store → Res PV} {to : TE} {m : Mx PV} (hφ : OpM K r φ) (ho : Sim (RV K) K W to m) : Sim (RV K) K W (tBM0 K "list" r to) (mBML φ m mNil) := by
  intro ρ hs env σ st H Q rl p
  refine ho ρ hs env σ st H _ rl (p.bnd fun a s1 _ p1 ρ1 H1 x r1 dx => ?_)
  cases e : listOf s1 a with
  | none => simp [e] at p1; exact p1.elim
  | some xs =>
    simp only [e, Option.isSome_some, if_true, mNil, bnd_ok] at p1
    obtain ⟨ad, vs, rfl, sq, _⟩ := listOf_ok r1 dx e
    exact ⟨.inl ⟨rfl, vs, sq⟩, hφ W ρ1 _ env σ s1 H1 Q a [] _ [] r1 dx PVrs.nil p1⟩
theorem px_bml {name : Str} {id : String} {o e : Expr} {es : List Expr} {apos cpos : Pos} {r : V → List V → Hp → VK → Prop} {φ : PV → List PV → Store → Res PV} {m : Mx PV} {n : Mx (List PV)} (slot : Slot "list" name id) (hty : typeOf (.builtin id) = pure (.type "method_descriptor")) (hm : MtR X id r) (hφ : OpM X.K r φ) (ho : PX X W o m) (ha : PXa X W (e :: es) n)
    (hbase : attributeBase o name X.env (eval o X.env) = eval o X.env := by rfl)
    (hfew : ((backTo cpos (starEach (e :: es) X.env)).all (fun x => !x.1) && (backToKw cpos (keywordEach [] X.env)).all (fun x => x.1.isSome)
      && decide ((e :: es).length + ([] : List Keyword).length + (if ([] : List Keyword).isEmpty then 0 else 1) < 30)) = true := by rfl)
    (hline : (apos.endLine == cpos.line) = true := by rfl) (hs : starEach (e :: es) X.env = (false, eval e X.env) :: starEach es X.env := by rfl) (hplain : (backTo cpos (starEach es X.env)).any (·.1) = false := by rfl) :
    PX X W (.Call (.Attribute o name apos) (e :: es) [] cpos) (mBML φ m n) := .of (pe_bm PySem.F.plainAttrs_list slot hty hm ho.pe ha.pe hbase hfew hline hs hplain) (sim_bml hφ Sim.self Sim.self)
theorem px_bml0 {name : Str} {id : String} {o : Expr} {apos cpos : Pos} {r : V → List V → Hp → VK → Prop} {φ : PV → List PV → Store → Res PV} {m : Mx PV} (slot : Slot "list" name id) (hty : typeOf (.builtin id) = pure (.type "method_descriptor")) (hm : MtR X id r) (hφ : OpM X.K r φ) (ho : PX X W o m)
    (hbase : attributeBase o name X.env (eval o X.env) = eval o X.env := by rfl) (hline : (apos.endLine == cpos.line) = true := by rfl) :
    PX X W (.Call (.Attribute o name apos) [] [] cpos) (mBML φ m mNil) := .of (pe_bm0 PySem.F.plainAttrs_list slot hty hm ho.pe hbase hline) (sim_bml0 hφ Sim.self)
/-- a list of the store, changed -/
def mutL (x : PV) (st : Store) (k : List PV → Option (PV × List PV)) : Res PV := match x with
  | .ref i => (match st[i]? with
    | some (.lst xs) => (match k xs with
      | some (v, ys) => .ok v (st.set i (.lst ys))
      | none => .bad)
    | _ => .bad)
  | _ => .bad
theorem mutL_ok {ρ : List Addr} {hs : List HE} {env : Env} {σ : L2.St} {st : Store} {H : Hp} {Q : VK} {x : PV} {v : V} {k : List PV → Option (PV × List PV)} (r : Rel K ρ hs env σ st H) (d : PVr K ρ H x v) (p : PostG (RV K) K W hs env σ Q (mutL x st k)) :
    ∃ a xs vs y ys, v = .ref a ∧ H a = some (.lst vs) ∧ PVrs K ρ H xs vs ∧ k xs = some (y, ys) ∧ ∀ w ws, (∀ {H'}, MV ρ ρ H H' → PVrs K ρ H' ys ws) → (∀ {H'}, MV ρ ρ H H' → PVr K ρ H' y w) → Q w (upd H a (.lst ws)) := by
  unfold mutL at p
  cases x with
  | ref i =>
    dsimp only at p
    cases ei : st[i]? with
    | none => simp only [ei] at p; exact p.elim
    | some o =>
      simp only [ei] at p
      cases o with
      | lst xs =>
        dsimp only at p
        cases ek : k xs with
        | none => simp only [ek] at p; exact p.elim
        | some q =>
          obtain ⟨y, ys⟩ := q
          simp only [ek] at p
          obtain ⟨a, ha, rfl⟩ := d
          obtain ⟨vs, k1, k2⟩ := r.s.ob _ _ _ ei ha
          refine ⟨a, xs, vs, y, ys, rfl, k1, k2, ek, fun w ws h1 h2 => ?_⟩
          have r2 := r.lset (ys := ys) (ws := ws) ei ha fun {vs' H'} m _ _ => h1 m
          have m : MV ρ ρ H (upd H a (.lst ws)) := ⟨fun _ _ h => h, fun b vs z => by
            have : b ≠ a := fun q => by rw [q, k1] at z; cases z
            rw [upd_ne this]; exact z⟩
          exact p ρ _ w r2 (h2 m)
      | _ => exact p.elim
  | _ => exact p.elim
def pAppend : PV → List PV → Store → Res PV := fun x as st => match as with
  | [y] => mutL x st fun xs => if xs.length < sizeLine then some (.non, xs ++ [y]) else none
  | _ => .bad
theorem one_arg {ρ : List Addr} {H : Hp} {y : PV} {vs : List V} (d : PVrs K ρ H [y] vs) : ∃ v, vs = [v] ∧ PVr K ρ H y v := by
  obtain ⟨v, r, rfl, d1, d2⟩ := d
  cases d2
  exact ⟨v, rfl, d1⟩
theorem two_arg {ρ : List Addr} {H : Hp} {y z : PV} {vs : List V} (d : PVrs K ρ H [y, z] vs) : ∃ v w, vs = [v, w] ∧ PVr K ρ H y v ∧ PVr K ρ H z w := by
  obtain ⟨v, r, rfl, d1, d2⟩ := d
  obtain ⟨w, rfl, d3⟩ := one_arg d2
  exact ⟨v, w, rfl, d1, d3⟩
theorem sp_append : OpM K rAppend pAppend := by
  intro W ρ hs env σ st H Q a as x xs r da das p
  match as, das, p with
  | [], das, p => exact p.elim
  | [y], das, p =>
    obtain ⟨v, rfl, dv⟩ := one_arg das
    obtain ⟨ad, ys, vs, z, zs, rfl, h1, h2, h3, h4⟩ := mutL_ok r da p
    by_cases hl : ys.length < sizeLine
    · rw [if_pos hl] at h3
      cases h3
      exact ⟨ad, vs, v, rfl, rfl, h1, by rw [h2.len]; exact hl, h4 .non _ (fun m => (h2.mono m).append (.one (dv.mono m))) fun m => rfl⟩
    · rw [if_neg hl] at h3; cases h3
  | _ :: _ :: _, das, p => exact p.elim
def pExtend : PV → List PV → Store → Res PV := fun x as st => match as with
  | [.ref j] => (match st[j]? with
    | some (.lst zs) => mutL x st fun xs => if xs.length + zs.length ≤ sizeLine then some (.non, xs ++ zs) else none
    | _ => .bad)
  | _ => .bad
theorem sp_extend : OpM K rExtend pExtend := by
  intro W ρ hs env σ st H Q a as x xs r da das p
  match as, das, p with
  | [], das, p => exact p.elim
  | [y], das, p =>
    obtain ⟨v, rfl, dv⟩ := one_arg das
    cases y with
    | ref j =>
      simp only [pExtend] at p
      cases ej : st[j]? with
      | none => simp only [ej] at p; exact p.elim
      | some o =>
        simp only [ej] at p
        cases o with
        | lst zs =>
          obtain ⟨b, hb, rfl⟩ := dv
          obtain ⟨ws, k1, k2⟩ := r.s.ob _ _ _ ej hb
          obtain ⟨ad, ys, vs, z, us, rfl, h1, h2, h3, h4⟩ := mutL_ok r da p
          by_cases hl : ys.length + zs.length ≤ sizeLine
          · rw [if_pos hl] at h3
            cases h3
            exact ⟨ad, b, vs, ws, rfl, rfl, h1, k1, by rw [h2.len, k2.len]; exact hl, h4 .non _ (fun m => (h2.mono m).append (k2.mono m)) fun m => rfl⟩
          · rw [if_neg hl] at h3; cases h3
        | _ => exact p.elim
    | _ => exact p.elim
  | y :: _ :: _, das, p => cases y <;> exact p.elim
def pPop0 : PV → List PV → Store → Res PV := fun x as st => match as with
  | [] => mutL x st fun xs => match xs[xs.length - 1]? with
    | some y => some (y, xs.dropLast)
    | none => none
  | _ => .bad
theorem sp_pop0 : OpM K rPop pPop0 := by
  intro W ρ hs env σ st H Q a as x xs r da das p
  match as, das, p with
  | [], das, p =>
    cases das
    obtain ⟨ad, ys, vs, z, zs, rfl, h1, h2, h3, h4⟩ := mutL_ok r da p
    cases e : ys[ys.length - 1]? with
    | none => simp only [e] at h3; cases h3
    | some y =>
      simp only [e] at h3
      cases h3
      obtain ⟨v, hv, dv⟩ := h2.get e
      refine ⟨ad, vs, v, rfl, rfl, h1, by rw [h2.len]; exact hv, h4 v _ (fun m => ?_) fun m => dv.mono m⟩
      rw [List.dropLast_eq_take, List.dropLast_eq_take, h2.len]
      exact (h2.mono m).take _
  | _ :: _, das, p => exact p.elim
def pPopAt : PV → List PV → Store → Res PV := fun x as st => match as with
  | [.int i] => mutL x st fun xs => @ite _ (-(2 ^ 63) ≤ i ∧ i < 2 ^ 63) (Classical.propDecidable _) (match seqIndex? i xs.length with
    | some k => (match xs[k]? with
      | some y => some (y, xs.eraseIdx k)
      | none => none)
    | none => none) none
  | _ => .bad
theorem PVrs.erase {ρ : List Addr} {H : Hp} : ∀ {xs : List PV} {vs : List V} (k : Nat), PVrs K ρ H xs vs → PVrs K ρ H (xs.eraseIdx k) (vs.eraseIdx k)
  | [], _, k, h => by cases h; simp; exact PVrs.nil
  | x :: xs, _, 0, h => by obtain ⟨v, r, rfl, _, h3⟩ := h; simpa using h3
  | x :: xs, _, k + 1, h => by
    obtain ⟨v, r, rfl, h2, h3⟩ := h
    simp only [List.eraseIdx_cons_succ]
    exact .cons h2 (PVrs.erase k h3)
theorem sp_popAt : OpM K rPopAt pPopAt := by
  intro W ρ hs env σ st H Q a as x xs r da das p
  match as, das, p with
  | [], das, p => exact p.elim
  | [y], das, p =>
    obtain ⟨v, rfl, dv⟩ := one_arg das
    cases y with
    | int i =>
      cases dv
      obtain ⟨ad, ys, vs, z, zs, rfl, h1, h2, h3, h4⟩ := mutL_ok r da p
      by_cases hi : -(2 ^ 63) ≤ i ∧ i < 2 ^ 63
      · rw [if_pos hi] at h3
        cases ek : seqIndex? i ys.length with
        | none => simp only [ek] at h3; cases h3
        | some k =>
          simp only [ek] at h3
          cases e : ys[k]? with
          | none => simp only [e] at h3; cases h3
          | some y =>
            simp only [e] at h3
            cases h3
            obtain ⟨w, hw, dw⟩ := h2.get e
            exact ⟨ad, vs, i, k, w, rfl, rfl, h1, hi.1, hi.2, by rw [h2.len]; exact ek, hw, h4 w _ (fun m => (h2.mono m).erase k) fun m => dw.mono m⟩
      · rw [if_neg hi] at h3; cases h3
    | _ => exact p.elim
  | y :: _ :: _, das, p => cases y <;> exact p.elim
def pInsert : PV → List PV → Store → Res PV := fun x as st => match as with
  | [.int i, y] => mutL x st fun xs => @ite _ (xs.length < sizeLine ∧ 0 ≤ i ∧ i < 2 ^ 63) (Classical.propDecidable _) (some (.non, xs.take i.toNat ++ [y] ++ xs.drop i.toNat)) none
  | _ => .bad
theorem sp_insert : OpM K rInsert pInsert := by
  intro W ρ hs env σ st H Q a as x xs r da das p
  match as, das, p with
  | [], das, p => exact p.elim
  | [y], das, p => cases y <;> exact p.elim
  | [i, y], das, p =>
    obtain ⟨v, w, rfl, dv, dw⟩ := two_arg das
    cases i with
    | int i =>
      cases dv
      obtain ⟨ad, ys, vs, z, zs, rfl, h1, h2, h3, h4⟩ := mutL_ok r da p
      by_cases hi : ys.length < sizeLine ∧ 0 ≤ i ∧ i < 2 ^ 63
      · rw [if_pos hi] at h3
        cases h3
        exact ⟨ad, vs, i, w, rfl, rfl, h1, by rw [h2.len]; exact hi.1, hi.2.1, hi.2.2, h4 .non _ (fun m => (((h2.mono m).take _).append (.one (dw.mono m))).append ((h2.mono m).drop _)) fun m => rfl⟩
      · rw [if_neg hi] at h3; cases h3
    | _ => exact p.elim
  | y :: _ :: _ :: _, das, p => cases y <;> exact p.elim
def pReverse : PV → List PV → Store → Res PV := fun x as st => match as with
  | [] => mutL x st fun xs => some (.non, xs.reverse)
  | _ => .bad
theorem sp_reverse : OpM K rReverse pReverse := by
  intro W ρ hs env σ st H Q a as x xs r da das p
  match as, das, p with
  | [], das, p =>
    cases das
    obtain ⟨ad, ys, vs, z, zs, rfl, h1, h2, h3, h4⟩ := mutL_ok (k := fun xs => some (.non, xs.reverse)) r da p
    have h3 : some (PV.non, ys.reverse) = some (z, zs) := h3
    cases h3
    exact ⟨ad, vs, rfl, rfl, h1, h4 .non _ (fun m => (h2.mono m).reverse) fun m => rfl⟩
  | _ :: _, das, p => exact p.elim
def pClear : PV → List PV → Store → Res PV := fun x as st => match as with
  | [] => mutL x st fun _ => some (.non, [])
  | _ => .bad
theorem sp_clear : OpM K rClear pClear := by
  intro W ρ hs env σ st H Q a as x xs r da das p
  match as, das, p with
  | [], das, p =>
    cases das
    obtain ⟨ad, ys, vs, z, zs, rfl, h1, h2, h3, h4⟩ := mutL_ok (k := fun _ => some (.non, [])) r da p
    have h3 : some (PV.non, ([] : List PV)) = some (z, zs) := h3
    cases h3
    exact ⟨ad, vs, rfl, rfl, h1, h4 .non _ (fun m => PVrs.nil) fun m => rfl⟩
  | _ :: _, das, p => exact p.elim
/-- the place of the first that is equal -/
def ixV (y : V) : List V → Option Nat
  | [] => none
  | z :: zs => if eqV z y = true then some 0 else (ixV y zs).map (· + 1)
theorem ixV_ok {y : V} : ∀ {zs : List V} {j : Nat}, ixV y zs = some j → (∃ z, zs[j]? = some z ∧ eqV z y = true) ∧ ∀ m z', m < j → zs[m]? = some z' → eqV z' y = false
  | [], j, h => by cases h
  | z :: zs, j, h => by
    unfold ixV at h
    by_cases e : eqV z y = true
    · rw [if_pos e] at h
      cases h
      exact ⟨⟨z, by simp, e⟩, fun m z' hm => by omega⟩
    · rw [if_neg e] at h
      obtain ⟨k, h1, rfl⟩ := Option.map_eq_some_iff.mp h
      obtain ⟨⟨w, hw, ew⟩, h2⟩ := ixV_ok h1
      refine ⟨⟨w, by simpa using hw, ew⟩, fun m z' hm hz => ?_⟩
      cases m with
      | zero =>
        have : z = z' := by simpa using hz
        rw [← this]
        simpa using e
      | succ m => exact h2 m z' (by omega) (by simpa using hz)
def pIndex : PV → List PV → Store → Res PV := fun x as st => match as with
  | [y] => (match (listOf st x).bind flatsOf, flatOf y with
    | some vs, some v => (match ixV v vs with
      | some j => .ok (.int (j : Nat)) st
      | none => .bad)
    | _, _ => .bad)
  | _ => .bad
theorem sp_index : OpM K (rIndex K) pIndex := by
  intro W ρ hs env σ st H Q a as x xs r da das p
  match as, das, p with
  | [], das, p => exact p.elim
  | [y], das, p =>
    obtain ⟨v, rfl, dv⟩ := one_arg das
    simp only [pIndex] at p
    cases e1 : listOf st a with
    | none => simp only [e1, Option.bind_none] at p; exact p.elim
    | some ys =>
      simp only [e1, Option.bind_some] at p
      cases e2 : flatsOf ys with
      | none => simp only [e2] at p; exact p.elim
      | some ws =>
        cases e3 : flatOf y with
        | none => simp only [e2, e3] at p; exact p.elim
        | some w =>
          simp only [e2, e3] at p
          cases e4 : ixV w ws with
          | none => simp only [e4] at p; exact p.elim
          | some j =>
            simp only [e4] at p
            obtain ⟨ad, vs, rfl, sq, rv⟩ := listOf_ok r da e1
            obtain ⟨rfl, f1⟩ := flatOf_ok e3 dv
            obtain ⟨rfl, f2⟩ := flatsOf_ok e2 rv
            obtain ⟨⟨z, hz, ez⟩, hno⟩ := ixV_ok e4
            exact ⟨ad, vs, v, j, z, rfl, rfl, sq, f1, f2, hz, ez, hno, p ρ H _ r rfl⟩
  | _ :: _ :: _, das, p => exact p.elim
end
end
end PL
set_option Elab.async false
set_option linter.all false
set_option maxRecDepth 100000
set_option maxHeartbeats 1000000
set_option autoImplicit false
namespace PL
open PySem PySem.Spec PyProof.Rows L2 LW
noncomputable section
/-! ### dicts with tuple keys: pop, setdefault -/
section
variable {X : Cx} {pins : List (Addr × Obj)} {σ : L2.St} {H : Hp} {s : Shared} {a b : Addr} {A : Around} {E : Value → Shared → Prop}
theorem d_popT1 {kvs : List (List Key × V)} {k : List Key} {v : V} {Q : Value → Shared → Prop} (hu : A.units + 1 < cLine) (I : Inv X pins σ H s) (e : H a = some (.dT kvs)) (eb : H b = some (.tup (k.map kV))) (l : valV kvs k = some v)
    (h : ∀ w' s', Inv X pins σ (upd H a (.dT (dropK kvs k))) s' → RelV v w' → Q w' s') : wpAny (model X.prog X.w) A (call (.builtin "dict.pop") [.ref a, .ref b]) Q E s := by
  obtain ⟨z, hd, xs', rel, dd⟩ := dt_of I.hok e
  have hz : xs'.length ≤ sizeLine := by rw [← Paired.length rel]; exact z
  refine call_meetsIn PySem.F.slot_dict_pop dd.typeIs PySem.F.entry_dict_pop (PySem.F.args_dict_pop_2 _ _) (meetsH_dict_pop (tupleKind (mixKind X.prog X.w)) a b hd [] (.inl rfl))
    ⟨tupleKind_room_in1 hu, k, xs', key_of I.hok eb, dd, hz, fun p hp h' dd' hs => ?_, fun hn tk => ?_⟩
  · have r := rel.val k
    rw [hp, l] at r
    obtain ⟨o, es, ep, hq, h2, h3, h4, _, h5⟩ := dd'
    have I2 : Inv X pins σ (upd H a (.dT (dropK kvs k))) { s with heap := h', toks := s.toks + (tupleKind (mixKind X.prog X.w)).draws k } :=
      d_write I (by rw [e]; exact True.intro) hs ⟨o, hq⟩ ⟨Nat.le_trans (dropK_le kvs k) z, hd, _, (L2.DX.KT_drop k rel).keeps (fun c ys ec => (by rw [upd_ne (ne_of ec e (fun z => nomatch z))]; exact ec)), o, es, ep, hq, h2, h3, h4, h5⟩
    exact h p.2 _ I2 r
  · have r := rel.val k
    rw [hn, l] at r
    exact (show False from r).elim
theorem d_setdT {kvs : List (List Key × V)} {k : List Key} {d : V} {r : Value} {Q : Value → Shared → Prop} (hu : A.units + 1 < cLine) (I : Inv X pins σ H s) (e : H a = some (.dT kvs)) (eb : H b = some (.tup (k.map kV))) (rd : RelV d r) (hl : kvs.length < sizeLine)
    (h1 : ∀ v, valV kvs k = some v → ∀ (w' : Value) (s' : Shared), Inv X pins σ H s' → RelV v w' → Q w' s') (h2 : valV kvs k = none → ∀ (w' : Value) (s' : Shared), Inv X pins σ (upd H a (.dT (putK kvs k d))) s' → RelV d w' → Q w' s') :
    wpAny (model X.prog X.w) A (call (.builtin "dict.setdefault") [.ref a, .ref b, r]) Q E s := by
  obtain ⟨z, hd, xs', rel, dd⟩ := dt_of I.hok e
  have hz : xs'.length ≤ sizeLine := by rw [← Paired.length rel]; exact z
  have hl2 : (putK kvs k d).length ≤ sizeLine := by have := length_putK kvs k d; omega
  refine call_meetsIn PySem.F.slot_dict_setdefault dd.typeIs PySem.F.entry_dict_setdefault (PySem.F.args_dict_setdefault_3 _ _ _) (meetsH_dict_setdefault (tupleKind (mixKind X.prog X.w)) a b hd r)
    ⟨tupleKind_room_in1 hu, k, xs', key_of I.hok eb, dd, hz, fun p hp => ?_, fun hn h' dd' hs => ?_⟩
  · have q := rel.val k
    rw [hp] at q
    cases ev : valV kvs k with
    | none => rw [ev] at q; exact (show False from q).elim
    | some v0 => rw [ev] at q; exact h1 v0 ev _ _ (I.tok _) q
  · have q := rel.val k
    rw [hn] at q
    have ev : valV kvs k = none := by
      cases ev : valV kvs k with
      | none => rfl
      | some v0 => rw [ev] at q; exact (show False from q).elim
    obtain ⟨o, es, ep, hq, k2, k3, k4, _, k5⟩ := dd'
    have I2 : Inv X pins σ (upd H a (.dT (putK kvs k d))) { s with heap := h', toks := s.toks + (tupleKind (mixKind X.prog X.w)).draws k } :=
      d_write I (by rw [e]; exact True.intro) hs ⟨o, hq⟩ ⟨hl2, hd, _, (rel.put k eb rd).keeps (fun c ys ec => (by rw [upd_ne (ne_of ec e (fun z => nomatch z))]; exact ec)), o, es, ep, hq, k2, k3, k4, k5⟩
    exact h2 ev _ _ I2 rd
end
/-- d.pop(y), there -/
def tDPopU (td ty : TE) : TE := fun σ H Q => td σ H fun x H1 => ∃ a, x = .ref a ∧ IsD H1 a ∧ ty σ H1 fun y H2 =>
  (∃ kvs k v, H2 a = some (.dK kvs) ∧ y = kV k ∧ valV kvs k = some v ∧ Q v (upd H2 a (.dK (dropK kvs k)))) ∨
  (∃ kvs k v b, H2 a = some (.dT kvs) ∧ y = .ref b ∧ H2 b = some (.tup (k.map kV)) ∧ valV kvs k = some v ∧ Q v (upd H2 a (.dT (dropK kvs k))))
def tDSetdU (td ty tx : TE) : TE := fun σ H Q => td σ H fun x H1 => ∃ a, x = .ref a ∧ IsD H1 a ∧ ty σ H1 fun y H2 => tx σ H2 fun z H3 =>
  (∃ (kvs : List (Key × V)) (k : Key), H3 a = some (.dK kvs) ∧ y = kV k ∧ kvs.length < sizeLine ∧ (∀ v, valV kvs k = some v → Q v H3) ∧ (valV kvs k = none → Q z (upd H3 a (.dK (putK kvs k z))))) ∨
  (∃ (kvs : List (List Key × V)) (k : List Key) (b : Addr), H3 a = some (.dT kvs) ∧ y = .ref b ∧ H3 b = some (.tup (k.map kV)) ∧ kvs.length < sizeLine ∧ (∀ v, valV kvs k = some v → Q v H3) ∧ (valV kvs k = none → Q z (upd H3 a (.dT (putK kvs k z)))))
section
variable {X : Cx} {o e f : Expr} {apos cpos : Pos} {td ty tx : TE}
theorem pe_dpopU (hu : X.A.units + 1 < cLine) (ho : PE X o td) (he : PE X e ty) (m : M1 X o "pop" apos e cpos) : PE X (.Call (.Attribute o "pop" apos) [e] [] cpos) (tDPopU td ty) := by
  refine ⟨fun pins s σ H Q I h => ?_⟩
  refine wpAny_Call_method m.base m.few m.line PySem.F.plainAttrs_dict PySem.F.slot_dict_pop PySem.F.type_dict_pop (thn (ho.run pins s σ H _ I h) fun u s1 ⟨x, H1, I1, rx, a, ex, d, q1⟩ => ?_)
  subst ex
  obtain rfl : u = Value.ref a := rx
  obtain ⟨t1, t2, _⟩ := isD_at I1 d
  refine ⟨t1, t2, ?_⟩
  rw [m.trees]
  refine Calls.callWith_builtin rfl (Calls.evalArgs_plain (Calls.spliced_cons (thn (he.run pins s1 σ H1 _ I1 q1) fun iv s2 ⟨y, H2, I2, ry, q2⟩ => Calls.spliced_nil ?_)))
  rcases q2 with ⟨kvs, k, v, ea, ey, l, q2⟩ | ⟨kvs, k, v, b, ea, ey, eb, l, q2⟩
  · subst ey
    exact d_pop I2 ea ry l (.inl rfl) fun w' s3 I3 rw' => ⟨v, _, I3, rw', q2⟩
  · subst ey
    cases (show iv = Value.ref b from ry)
    exact d_popT1 hu I2 ea eb l fun w' s3 I3 rw' => ⟨v, _, I3, rw', q2⟩
theorem pe_dsetdU (hu : X.A.units + 1 < cLine) (ho : PE X o td) (he : PE X e ty) (hf : PE X f tx) (m : M2 X o "setdefault" apos e f cpos) : PE X (.Call (.Attribute o "setdefault" apos) [e, f] [] cpos) (tDSetdU td ty tx) := by
  refine ⟨fun pins s σ H Q I h => ?_⟩
  refine wpAny_Call_method m.base m.few m.line PySem.F.plainAttrs_dict PySem.F.slot_dict_setdefault PySem.F.type_dict_setdefault (thn (ho.run pins s σ H _ I h) fun u s1 ⟨x, H1, I1, rx, a, ex, d, q1⟩ => ?_)
  subst ex
  obtain rfl : u = Value.ref a := rx
  obtain ⟨t1, t2, _⟩ := isD_at I1 d
  refine ⟨t1, t2, ?_⟩
  rw [m.trees]
  refine Calls.callWith_builtin rfl (Calls.evalArgs_plain (Calls.spliced_cons (thn (he.run pins s1 σ H1 _ I1 q1) fun iv s2 ⟨y, H2, I2, ry, q2⟩ =>
    Calls.spliced_cons (thn (hf.run pins s2 σ H2 _ I2 q2) fun fv s3 ⟨z, H3, I3, rz, q3⟩ => Calls.spliced_nil ?_))))
  rcases q3 with ⟨kvs, k, ea, ey, hl, q3, q4⟩ | ⟨kvs, k, b, ea, ey, eb, hl, q3, q4⟩
  · subst ey
    exact d_setd I3 ea ry rz hl (fun v hv w' s4 I4 rw' => ⟨v, _, I4, rw', q3 v hv⟩) fun hn w' s4 I4 rw' => ⟨z, _, I4, rw', q4 hn⟩
  · subst ey
    cases (show iv = Value.ref b from ry)
    exact d_setdT hu I3 ea eb rz hl (fun v hv w' s4 I4 rw' => ⟨v, _, I4, rw', q3 v hv⟩) fun hn w' s4 I4 rw' => ⟨z, _, I4, rw', q4 hn⟩
end
/-! ### pure -/
def mDGet1 (a y : Mx PV) : Mx PV := fun env st => (a env st).bnd fun x s1 => match isDict s1 x with
  | some d => (y env s1).bnd fun k s2 => (match dGet s2 d k with
    | some r => .ok (r.getD .non) s2
    | none => .bad)
  | none => .bad
def mDGet2 (a y z : Mx PV) : Mx PV := fun env st => (a env st).bnd fun x s1 => match isDict s1 x with
  | some d => (y env s1).bnd fun k s2 => (z env s2).bnd fun w s3 => (match dGet s3 d k with
    | some r => .ok (r.getD w) s3
    | none => .bad)
  | none => .bad
/-- a key goes -/
def dDrop (st : Store) (i : Nat) (y : PV) : Option Store := match st[i]? with
  | some (.dK false kvs) => (keyOf y).map fun k => st.set i (.dK false (pdrop kvs k))
  | some (.dT false kvs) => (keysOf y).map fun k => st.set i (.dT false (pdrop kvs k))
  | _ => none
def mDPop1 (a y : Mx PV) : Mx PV := fun env st => (a env st).bnd fun x s1 => match isDict s1 x with
  | some d => (y env s1).bnd fun k s2 => (match dGet s2 d k, dDrop s2 d k with
    | some (some v), some s3 => .ok v s3
    | _, _ => .bad)
  | none => .bad
def mDSetd (a y z : Mx PV) : Mx PV := fun env st => (a env st).bnd fun x s1 => match isDict s1 x with
  | some d => (y env s1).bnd fun k s2 => (z env s2).bnd fun w s3 => (match dGet s3 d k, dPut s3 d k w with
    | some (some v), some _ => .ok v s3
    | some none, some s4 => .ok w s4
    | _, _ => .bad)
  | none => .bad
section
variable {X : Cx} {W : WX} {K : Fg}
theorem ref_at {ρ : List Addr} {H : Hp} {st : Store} {x : PV} {a : Addr} {d : Nat} (e : isDict st x = some d) (h : PVr K ρ H x (.ref a)) : ρ[d]? = some a := by
  cases x with
  | ref j =>
    simp only [isDict] at e
    obtain ⟨b, h1, h2⟩ := h
    cases h2
    cases ej : st[j]? with
    | none => simp only [ej] at e; cases e
    | some o =>
      simp only [ej] at e
      cases o with
      | dK _ _ => cases e; exact h1
      | dT _ _ => cases e; exact h1
      | _ => cases e
  | _ => cases e
theorem RO.getD {ρ : List Addr} {H : Hp} {r : Option PV} {o : Option V} {x : PV} {v : V} (h : RO K ρ H r o) (d : PVr K ρ H x v) : PVr K ρ H (r.getD x) (o.getD v) := by
  cases r <;> cases o <;> first | exact h.elim | exact d | exact h
theorem px_dget1 {o e : Expr} {apos cpos : Pos} {m n : Mx PV} (hu : X.A.units + 1 < cLine) (ho : PX X W o m) (he : PX X W e n) (mm : M1 X o "get" apos e cpos := by exact ⟨rfl, rfl, rfl, rfl⟩) : PX X W (.Call (.Attribute o "get" apos) [e] [] cpos) (mDGet1 m n) :=
  .of (pe_dget1 hu ho.pe he.pe mm) fun ρ hs env σ st H Q r p => ⟨ρ, hs, env, st, r, PostG.bnd p fun x s1 _ p1 ρ1 H1 xv r1 d1 => by
    cases e1 : isDict s1 x with
    | none => simp only [e1] at p1; exact p1.elim
    | some d =>
      simp only [e1] at p1
      obtain ⟨a, rfl, ha, hd⟩ := isDict_at e1 r1 d1
      refine ⟨a, rfl, hd, ρ1, .val x (.ref a) :: hs, env, s1, r1.hold d1, PostG.bnd p1.hold fun k s2 _ p2 ρ2 H2 kv r2 d2 => ?_⟩
      cases e2 : dGet s2 d k with
      | none => simp only [e2] at p2; exact p2.elim
      | some ro =>
        simp only [e2] at p2
        obtain ⟨w, g, dw⟩ := dget_ok r2 (ref_at e1 r2.top) d2 e2
        exact ⟨w, g, p2 ρ2 H2 _ r2 (dw.getD rfl)⟩⟩
theorem px_dget2 {o e f : Expr} {apos cpos : Pos} {m n k : Mx PV} (hu : X.A.units + 1 < cLine) (ho : PX X W o m) (he : PX X W e n) (hf : PX X W f k) (mm : M2 X o "get" apos e f cpos := by exact ⟨rfl, rfl, rfl, rfl⟩) : PX X W (.Call (.Attribute o "get" apos) [e, f] [] cpos) (mDGet2 m n k) :=
  .of (pe_dget2 hu ho.pe he.pe hf.pe mm) fun ρ hs env σ st H Q r p => ⟨ρ, hs, env, st, r, PostG.bnd p fun x s1 _ p1 ρ1 H1 xv r1 d1 => by
    cases e1 : isDict s1 x with
    | none => simp only [e1] at p1; exact p1.elim
    | some d =>
      simp only [e1] at p1
      obtain ⟨a, rfl, ha, hd⟩ := isDict_at e1 r1 d1
      refine ⟨a, rfl, hd, ρ1, .val x (.ref a) :: hs, env, s1, r1.hold d1, PostG.bnd p1.hold fun k s2 _ p2 ρ2 H2 kv r2 d2 => ?_⟩
      refine ⟨ρ2, .val k kv :: .val x (.ref a) :: hs, env, s2, r2.hold d2, PostG.bnd p2.hold fun w s3 _ p3 ρ3 H3 wv r3 d3 => ?_⟩
      cases e2 : dGet s3 d k with
      | none => simp only [e2] at p3; exact p3.elim
      | some ro =>
        simp only [e2] at p3
        obtain ⟨w, g, dw⟩ := dget_ok r3 (ref_at e1 r3.drop.top) r3.top e2
        exact ⟨w, g, p3 ρ3 H3 _ r3 (dw.getD d3)⟩⟩
theorem px_dpop1 {o e : Expr} {apos cpos : Pos} {m n : Mx PV} (hu : X.A.units + 1 < cLine) (ho : PX X W o m) (he : PX X W e n) (mm : M1 X o "pop" apos e cpos := by exact ⟨rfl, rfl, rfl, rfl⟩) : PX X W (.Call (.Attribute o "pop" apos) [e] [] cpos) (mDPop1 m n) :=
  .of (pe_dpopU hu ho.pe he.pe mm) fun ρ hs env σ st H Q r p => ⟨ρ, hs, env, st, r, PostG.bnd p fun x s1 _ p1 ρ1 H1 xv r1 d1 => by
    cases e1 : isDict s1 x with
    | none => simp only [e1] at p1; exact p1.elim
    | some d =>
      simp only [e1] at p1
      obtain ⟨a, rfl, ha, hd⟩ := isDict_at e1 r1 d1
      refine ⟨a, rfl, hd, ρ1, .val x (.ref a) :: hs, env, s1, r1.hold d1, PostG.bnd p1.hold fun k s2 _ p2 ρ2 H2 kv r2 d2 => ?_⟩
      have ha2 := ref_at e1 r2.top
      cases e2 : dGet s2 d k with
      | none => simp only [e2] at p2; exact p2.elim
      | some ro =>
        simp only [e2] at p2
        cases ro with
        | none => exact p2.elim
        | some v =>
          cases e3 : dDrop s2 d k with
          | none => simp only [e3] at p2; exact p2.elim
          | some s3 =>
            simp only [e3] at p2
            unfold dDrop at e3
            unfold dGet at e2
            cases ed : s2[d]? with
            | none => rw [ed] at e3; cases e3
            | some ob =>
              rw [ed] at e3 e2
              cases ob with
              | dK lk kvs =>
                cases lk with
                | true => cases e3
                | false =>
                  obtain ⟨q, h1, rfl⟩ := Option.map_eq_some_iff.mp e3
                  obtain ⟨q', h1', h2'⟩ := Option.map_eq_some_iff.mp e2
                  rw [h1] at h1'
                  cases h1'
                  obtain ⟨ws, k1, k2⟩ := r2.s.ob _ _ _ ed ha2
                  have k1 : H2 a = some (.dK ws) := k1
                  rcases k2.val (k := q) with ⟨x', v', l1, l2, l3⟩ | ⟨l1, _⟩
                  · rw [h2'] at l1
                    cases l1
                    have mv : MV ρ2 ρ2 H2 (upd H2 a (.dK (dropK ws q))) := ⟨fun _ _ h => h, fun b vs z => by
                      have : b ≠ a := fun q => by rw [q, k1] at z; cases z
                      rw [upd_ne this]; exact z⟩
                    have r3 := r2.put (u := .dK (dropK ws q)) (o := .dK false (pdrop kvs q)) ha2 (fun w z => by rw [k1] at z; cases z; exact ⟨rfl, fun _ q => by cases q⟩) ⟨_, upd_same, (k2.mono mv).drop⟩
                    exact .inl ⟨ws, q, v', k1, keyOf_ok h1 d2, l2, p2 _ _ _ r3 (l3.mono mv)⟩
                  · rw [h2'] at l1; cases l1
              | dT lk kvs =>
                cases lk with
                | true => cases e3
                | false =>
                  obtain ⟨q, h1, rfl⟩ := Option.map_eq_some_iff.mp e3
                  obtain ⟨q', h1', h2'⟩ := Option.map_eq_some_iff.mp e2
                  rw [h1] at h1'
                  cases h1'
                  obtain ⟨ws, k1, k2⟩ := r2.s.ob _ _ _ ed ha2
                  have k1 : H2 a = some (.dT ws) := k1
                  rcases k2.val (k := q) with ⟨x', v', l1, l2, l3⟩ | ⟨l1, _⟩
                  · rw [h2'] at l1
                    cases l1
                    have mv : MV ρ2 ρ2 H2 (upd H2 a (.dT (dropK ws q))) := ⟨fun _ _ h => h, fun b vs z => by
                      have : b ≠ a := fun q => by rw [q, k1] at z; cases z
                      rw [upd_ne this]; exact z⟩
                    have r3 := r2.put (u := .dT (dropK ws q)) (o := .dT false (pdrop kvs q)) ha2 (fun w z => by rw [k1] at z; cases z; exact ⟨rfl, fun _ q => by cases q⟩) ⟨_, upd_same, (k2.mono mv).drop⟩
                    obtain ⟨b, eb1, eb2⟩ := keysOf_ok h1 d2
                    exact .inr ⟨ws, q, v', b, k1, eb1, eb2, l2, p2 _ _ _ r3 (l3.mono mv)⟩
                  · rw [h2'] at l1; cases l1
              | _ => cases e3⟩
theorem px_dsetd {o e f : Expr} {apos cpos : Pos} {m n k : Mx PV} (hu : X.A.units + 1 < cLine) (ho : PX X W o m) (he : PX X W e n) (hf : PX X W f k) (mm : M2 X o "setdefault" apos e f cpos := by exact ⟨rfl, rfl, rfl, rfl⟩) : PX X W (.Call (.Attribute o "setdefault" apos) [e, f] [] cpos) (mDSetd m n k) :=
  .of (pe_dsetdU hu ho.pe he.pe hf.pe mm) fun ρ hs env σ st H Q r p => ⟨ρ, hs, env, st, r, PostG.bnd p fun x s1 _ p1 ρ1 H1 xv r1 d1 => by
    cases e1 : isDict s1 x with
    | none => simp only [e1] at p1; exact p1.elim
    | some d =>
      simp only [e1] at p1
      obtain ⟨a, rfl, ha, hd⟩ := isDict_at e1 r1 d1
      refine ⟨a, rfl, hd, ρ1, .val x (.ref a) :: hs, env, s1, r1.hold d1, PostG.bnd p1.hold fun k s2 _ p2 ρ2 H2 kv r2 d2 => ?_⟩
      refine ⟨ρ2, .val k kv :: .val x (.ref a) :: hs, env, s2, r2.hold d2, PostG.bnd p2.hold fun w s3 _ p3 ρ3 H3 wv r3 d3 => ?_⟩
      have ha3 := ref_at e1 r3.drop.top
      have dk := r3.top
      cases e2 : dGet s3 d k with
      | none => simp only [e2] at p3; exact p3.elim
      | some ro =>
        cases e3 : dPut s3 d k w with
        | none => simp only [e2, e3] at p3; cases ro <;> exact p3.elim
        | some s4 =>
          simp only [e2, e3] at p3
          obtain ⟨H4, g4, r4⟩ := r3.dput ha3 dk d3 e3
          obtain ⟨ov, g, dw⟩ := dget_ok r3 ha3 dk e2
          have fin : (∀ v, ov = some v → Q v H3) ∧ (ov = none → Q wv H4) := by
            cases ro with
            | none =>
              cases ov with
              | none => exact ⟨fun v z => (by cases z), fun _ => p3 ρ3 H4 _ r4 (by
                  have : PVr X.K ρ3 H4 w wv := by
                    rcases g4 with ⟨kvs, kk, h1, h2, h3, rfl⟩ | ⟨kvs, kk, b, h1, h2, h3, h4, rfl⟩
                    · exact d3.mono ⟨fun _ _ h => h, fun b vs z => by
                        have : b ≠ a := fun q => by rw [q, h1] at z; cases z
                        rw [upd_ne this]; exact z⟩
                    · exact d3.mono ⟨fun _ _ h => h, fun b vs z => by
                        have : b ≠ a := fun q => by rw [q, h1] at z; cases z
                        rw [upd_ne this]; exact z⟩
                  exact this)⟩
              | some _ => exact dw.elim
            | some v0 =>
              cases ov with
              | none => exact dw.elim
              | some v1 => exact ⟨fun v z => by cases z; exact p3 ρ3 H3 _ r3 dw, fun z => by cases z⟩
          rcases g4 with ⟨kvs, kk, h1, h2, h3, rfl⟩ | ⟨kvs, kk, b, h1, h2, h3, h4, rfl⟩
          · refine .inl ⟨kvs, kk, h1, h2, h3, ?_⟩
            have : ov = valV kvs kk := by
              rcases g with ⟨kvs', kk', q1, q2, q3⟩ | ⟨kvs', kk', b', q1, q2, q3, q4⟩
              · rcases q1 with q1 | ⟨_, q1⟩
                · rw [h1] at q1
                  cases q1
                  rw [h2] at q2
                  have : kk = kk' := by
                    cases kk <;> cases kk' <;> first | (cases q2; rfl) | cases q2
                  rw [this]; exact q3
                · rw [h1] at q1; cases q1
              · rcases q1 with q1 | ⟨_, q1⟩ <;> (rw [h1] at q1; cases q1)
            rw [← this]
            exact fin
          · refine .inr ⟨kvs, kk, b, h1, h2, h3, h4, ?_⟩
            have : ov = valV kvs kk := by
              rcases g with ⟨kvs', kk', q1, q2, q3⟩ | ⟨kvs', kk', b', q1, q2, q3, q4⟩
              · rcases q1 with q1 | ⟨_, q1⟩ <;> (rw [h1] at q1; cases q1)
              · rcases q1 with q1 | ⟨_, q1⟩
                · rw [h1] at q1
                  cases q1
                  rw [h2] at q2
                  cases q2
                  rw [h3] at q3
                  have hk : kk.map kV = kk'.map kV := by
                    have := Option.some.inj q3
                    injection this
                  have inj : ∀ a b : Key, kV a = kV b → a = b := fun a b h => by cases a <;> cases b <;> first | (cases h; rfl) | cases h
                  have : kk = kk' := (List.map_inj_right (fun a b => inj a b)).mp hk
                  rw [this]; exact q4
                · rw [h1] at q1; cases q1
            rw [← this]
            exact fin⟩
end
end
end PL
set_option Elab.async false
set_option linter.all false
set_option maxRecDepth 100000
set_option maxHeartbeats 1000000
set_option autoImplicit false
namespace PL
open PySem PySem.Spec PyProof.Rows L2 LW
noncomputable section
/-! ### items of a dict with tuple keys -/
def ItiT (d : Addr) (o : Obj) (kvs : List (List Key × V)) : It :=
  ⟨fun i H => H d = some (.frz o (.dT kvs)) ∧ i < kvs.length, fun i H x H' => ∃ T k v q, kvs[i]? = some (k, v) ∧ x = .ref T ∧ H T = none ∧ H q = some (.tup (k.map kV)) ∧ H' = upd H T (.tup [.ref q, v]), fun i H => H d = some (.frz o (.dT kvs)) ∧ kvs.length ≤ i⟩
section
variable {X : Cx} {pins : List (Addr × Obj)} {σ : L2.St} {H : Hp} {s : Shared} {d : Addr} {o : Obj}
theorem frzT2 {kvs : List (List Key × V)} (I : Inv X pins σ H s) (h : H d = some (.frz o (.dT kvs))) :
    (d == sysModules) = false ∧ ∃ (es : Array DictEntry) (ep : Nat), DT.Raw s.heap d es ep ∧ o.data = .dict es ep ∧ es.size = kvs.length ∧
      ∀ (i : Nat) (k : List Key) (v : V), kvs[i]? = some (k, v) → ∃ (en : DictEntry) (q : Addr), es[i]? = some en ∧ en.key = .ref q ∧ H q = some (.tup (k.map kV)) ∧ RelV v en.val := by
  obtain ⟨hd, z, hs, xs, pr, o', es, ep, ho, hx, hdt, he, _⟩ := I.hok d _ h
  rw [hd] at ho
  cases ho
  refine ⟨hs, es, ep, ⟨o, hd, hx, hdt⟩, hdt, ?_, fun i k v e => ?_⟩
  · have l1 : es.size = xs.length := size_of_entries he
    have l2 : kvs.length = xs.length := Paired.length pr
    omega
  · obtain ⟨b, hb, e1, e2, e3⟩ := paired_get pr e
    have q := entry_at he i
    rw [hb] at q
    exact ⟨_, b.2.1, q, rfl, e2, e3⟩
end
theorem turn_itemsT {P : Program} {w : World} {K : Fg} {d : Addr} {o : Obj} {es : Array DictEntry} {ep : Nat} {kvs : List (List Key × V)} {elts : List Expr} {kk : Nat} {tpos : Pos} (it : Addr) (hod : o.data = .dict es ep) :
    Turn P w K (.Tuple elts kk tpos) (ItiT d o kvs) [it] it (fun i h => ∃ ok ov, IsItemIter h it d i es.size ep ok ov) where
  mem := by simp
  obj := fun i h st b hb => by
    have e : b = it := by simpa using hb
    subst e
    obtain ⟨ok, ov, e⟩ := st
    exact ⟨_, e, fun v z => nomatch z⟩
  keep := fun i h h' st k => let ⟨ok, ov, e⟩ := st; ⟨ok, ov, k it (by simp) _ e⟩
  item := by
    intro X hP hw hK hc i pins s σ H E I hf st hg
    subst hP hw hK
    obtain ⟨hd, hi⟩ := hg
    obtain ⟨hs, es', ep', raw, hdt, hsz, ent⟩ := frzT2 I hd
    obtain ⟨rfl, rfl⟩ := dict_ep hod hdt
    obtain ⟨⟨k, v⟩, hkv⟩ : ∃ p, kvs[i]? = some p := ⟨kvs[i], List.getElem?_eq_getElem hi⟩
    obtain ⟨en, q, hen, hkey, hq, ru⟩ := ent i k v hkv
    have hie : i < es'.size := by rw [hsz]; exact hi
    have hee : es'[i] = en := by
      rw [Array.getElem?_eq_getElem hie] at hen
      exact Option.some.inj hen
    obtain ⟨ok, ov, he⟩ := st
    have hlt : it < s.heap.objs.size := Heap.lt_size he
    refine DT.nextI he raw hie fun h' ho hT hz hk => ?_
    rw [hee] at ho hT
    refine ⟨_, rfl, wpAny_letOwnedTupleGo_items (s := { s with heap := h' }) ho fun h'' he' sb => ?_⟩
    have hT2 : h''.get? s.heap.objs.size = some { cls := .type "tuple", data := .seq #[en.key, en.val] } := (sb.2 _ (Nat.ne_of_gt hlt)).trans hT
    have new : ObjOk X.prog X.w (upd H s.heap.objs.size (.tup [.ref q, v])) h'' s.heap.objs.size (.tup [.ref q, v]) :=
      ⟨by show 2 ≤ sizeLine; decide, [en.key, en.val], .cons hkey (.cons ru .nil), ⟨_, hT2, rfl, _, rfl⟩⟩
    have I1 : Inv X pins σ (upd H s.heap.objs.size (.tup [.ref q, v])) { s with heap := h'' } :=
      I.turnedNew (t' := s.toks) (ch := [it]) (fun b ob hb e => (sb.2 b (by simpa using hb)).trans (hk b ob (by simpa using hb) e)) hf (Nat.le_refl _) new
    refine ⟨.ref s.heap.objs.size, _, I1, rfl, ⟨_, k, v, q, hkv, rfl, I.hok.fresh (Nat.le_refl _), hq, rfl⟩, ⟨en.key, en.val, he'⟩, fun b hb => ?_⟩
    have e : b = it := by simpa using hb
    rw [e, upd_ne (Nat.ne_of_lt hlt)]
    exact (hf it (by simp)).1
  done := by
    intro X hP hw hK hc i pins s σ H E I hf st hg
    subst hP hw hK
    obtain ⟨hd, hi⟩ := hg
    obtain ⟨f0, f1, f2, f3, f4, f5⟩ := hf it (by simp)
    obtain ⟨hs, es', ep', raw, hdt, hsz, ent⟩ := frzT2 I hd
    obtain ⟨rfl, rfl⟩ := dict_ep hod hdt
    obtain ⟨ok, ov, he⟩ := st
    exact DT.endI (I.ok.hd hc) he raw (by rw [hsz]; exact hi) fun h' eb => ⟨rfl, I.turned (t' := s.toks) (fun b ob hb e => eb b ob hb e) f0 f1 f3 f4 f5⟩
  self := fun A i s Q E st h => let ⟨_, _, e⟩ := st; PySem.W.kcp_self e h
def iItemsT (td : TE) : TI := fun σ H R => td σ H fun x H1 => ∃ d o kvs, x = .ref d ∧ H1 d = some (.frz o (.dT kvs)) ∧ R (ItiT d o kvs) H1
theorem pi_itemsT {X : Cx} {e : Expr} {td : TE} {apos cpos : Pos} {elts : List Expr} {kk : Nat} {tpos : Pos} (he : PE X e td) (hbase : attributeBase e "items" X.env (eval e X.env) = eval e X.env := by rfl) (hline : (apos.endLine == cpos.line) = true := by rfl) :
    PI X (.Tuple elts kk tpos) (.Call (.Attribute e "items" apos) [] [] cpos) (iItemsT td) := by
  refine ⟨fun pins s σ H R I h => ?_⟩
  refine wpAny_Call_method (T := "dict") (id := "dict.items") hbase rfl hline F.plainAttrs_dict F.slot_dict_items F.type_dict_items (thn (he.run pins s σ H _ I h) fun u s1 ⟨x, H1, I1, rx, d, o, kvs, ex, hd, q⟩ => ?_)
  subst ex
  obtain rfl : u = Value.ref d := rx
  obtain ⟨hs, es, ep, raw, hdt, hsz, ent⟩ := frzT2 I1 hd
  refine ⟨raw.typeIs, fun b z => ?_, ?_⟩
  · cases z
    obtain ⟨o', h1, h2, _⟩ := raw
    exact ⟨o', h1, h2.2.1⟩
  have I2 : Inv X pins σ H1 { s1 with heap := s1.heap.push { cls := .type "dict_items", data := .fields #[.ref d] } } := I1.kept (t' := s1.toks) fun b ob q => Heap.get?_push_of_some _ q
  have fin : wpAny (model X.prog X.w) X.A (pyIter (.ref s1.heap.objs.size)) (PIE X pins σ (.Tuple elts kk tpos) R) X.xe { s1 with heap := s1.heap.push { cls := .type "dict_items", data := .fields #[.ref d] } } := by
    refine DT.iterI (d := d) ⟨_, Heap.get?_push_size _ rfl, rfl, rfl⟩ (raw.push _) (pi_one (tk := s1.toks) I2 _ (turn_itemsT _ hdt) ⟨.none, .none, ?_⟩ q)
    exact Heap.get?_push_size _ rfl
  show wpAny _ _ (callWith cpos (.builtin "dict.items") [.ref d] [] []) _ X.xe s1
  exact method_meetsIn F.slot_dict_items F.entry_dict_items rfl (PySem.evalArgs_none ⟨rfl, raw.typeIs, F.args_dict_items_1 _, _, DT.meetsItems (es := es) (ep := ep) hs, raw, fin⟩)
/-! ### walks of dicts: under a lock -/
def kPV : Key → PV
  | .inl i => .int i
  | .inr z => .str z
def keysP (st : Store) : PV → Option Wk
  | .ref i => match st[i]? with
    | some (.dK true kvs) => some (kvs.map fun kv => kPV kv.1, some (i, .dK true kvs))
    | some (.dT true kvs) => some (kvs.map fun kv => .tup (kv.1.map kPV), some (i, .dT true kvs))
    | _ => none
  | _ => none
def valsP (st : Store) : PV → Option Wk
  | .ref i => match st[i]? with
    | some (.dK true kvs) => some (kvs.map (·.2), some (i, .dK true kvs))
    | _ => none
  | _ => none
def itemsP (st : Store) : PV → Option Wk
  | .ref i => match st[i]? with
    | some (.dK true kvs) => some (kvs.map fun kv => .tup [kPV kv.1, kv.2], some (i, .dK true kvs))
    | some (.dT true kvs) => some (kvs.map fun kv => .tup [.tup (kv.1.map kPV), kv.2], some (i, .dT true kvs))
    | _ => none
  | _ => none
def mWk (f : Store → PV → Option Wk) (a : Mx PV) : Mi := fun env st => (a env st).bnd fun x s1 => match f s1 x with
  | some w => .ok w s1
  | none => .bad
section
variable {X : Cx} {W : WX} {K : Fg}
theorem kPV_rel {ρ : List Addr} {H : Hp} (k : Key) : PVr K ρ H (kPV k) (kV k) := by cases k <;> rfl
theorem kPVs_rel {ρ : List Addr} {H : Hp} : ∀ ks : List Key, PVrs K ρ H (ks.map kPV) (ks.map kV)
  | [] => PVrs.nil
  | k :: ks => .cons (kPV_rel k) (kPVs_rel ks)
theorem KR.get {ρ : List Addr} {H : Hp} {κ : Type} : ∀ {kvs : List (κ × PV)} {ws : List (κ × V)} {i : Nat} {k : κ} {v : V}, KR K ρ H kvs ws → ws[i]? = some (k, v) → ∃ x, kvs[i]? = some (k, x) ∧ PVr K ρ H x v
  | [], _, i, k, v, h, e => by cases h; simp at e
  | (k0, x) :: kvs, _, 0, k, v, h, e => by
    obtain ⟨w, q, rfl, h2, _⟩ := h
    simp at e
    obtain ⟨rfl, rfl⟩ := e
    exact ⟨x, by simp, h2⟩
  | (k0, x) :: kvs, _, i + 1, k, v, h, e => by
    obtain ⟨w, q, rfl, _, h3⟩ := h
    obtain ⟨y, hy, dy⟩ := KR.get h3 (by simpa using e)
    exact ⟨y, by simpa using hy, dy⟩
/-- the dict i is locked, with the same object all along -/
theorem locked_at {ρ : List Addr} {hs h0 : List HE} {env : Env} {σ : L2.St} {st : Store} {H : Hp} {i : Nat} {a : Addr} {ob : Obj} {ws : List (Key × V)} {kvs : List (Key × PV)} (hh : ∀ p ∈ [HE.val (.ref i) (.ref a), HE.fix a (.frz ob (.dK ws))], p ∈ hs) (r : Rel K ρ hs env σ st H) (hg : guardOk (some (i, .dK true kvs)) st = true) :
    H a = some (.frz ob (.dK ws)) ∧ KR K ρ H kvs ws := by
  obtain ⟨b, hb, eb⟩ := r.h _ (hh _ List.mem_cons_self)
  cases eb
  obtain ⟨_, hf⟩ := r.h _ (hh _ (List.mem_cons_of_mem _ List.mem_cons_self))
  obtain ⟨ws', ⟨o', k1⟩, k2⟩ := r.s.ob _ _ _ (of_decide_eq_true hg) hb
  rw [hf] at k1
  cases k1
  exact ⟨hf, k2⟩
theorem lockedT_at {ρ : List Addr} {hs : List HE} {env : Env} {σ : L2.St} {st : Store} {H : Hp} {i : Nat} {a : Addr} {ob : Obj} {ws : List (List Key × V)} {kvs : List (List Key × PV)} (hh : ∀ p ∈ [HE.val (.ref i) (.ref a), HE.fix a (.frz ob (.dT ws))], p ∈ hs) (r : Rel K ρ hs env σ st H) (hg : guardOk (some (i, .dT true kvs)) st = true) :
    H a = some (.frz ob (.dT ws)) ∧ KR K ρ H kvs ws := by
  obtain ⟨b, hb, eb⟩ := r.h _ (hh _ List.mem_cons_self)
  cases eb
  obtain ⟨_, hf⟩ := r.h _ (hh _ (List.mem_cons_of_mem _ List.mem_cons_self))
  obtain ⟨ws', ⟨o', k1⟩, k2⟩ := r.s.ob _ _ _ (of_decide_eq_true hg) hb
  rw [hf] at k1
  cases k1
  exact ⟨hf, k2⟩
theorem walkP_items {i : Nat} {a : Addr} {ob : Obj} {ws : List (Key × V)} {kvs : List (Key × PV)} : WalkP K (Iti a ob ws) [.val (.ref i) (.ref a), .fix a (.frz ob (.dK ws))] (some (i, .dK true kvs)) (kvs.map fun kv => .tup [kPV kv.1, kv.2]) := by
  intro ρ hs env σ st H hh r hg
  obtain ⟨h1, h2⟩ := locked_at (h0 := []) hh r hg
  have hl := h2.len
  refine ⟨fun j hj => ⟨h1, by simp at hj; omega⟩, ⟨h1, by simp; omega⟩, fun j x H' hj y => ?_⟩
  obtain ⟨T, k, v, e1, rfl, hT, rfl⟩ := y
  obtain ⟨z, hz, dz⟩ := h2.get e1
  obtain ⟨r2, d2⟩ := r.pair (p := kPV k) hT (kPV_rel k) dz
  exact ⟨_, by rw [List.getElem?_map, hz]; rfl, r2, d2⟩
theorem walkP_itemsT {i : Nat} {a : Addr} {ob : Obj} {ws : List (List Key × V)} {kvs : List (List Key × PV)} : WalkP K (ItiT a ob ws) [.val (.ref i) (.ref a), .fix a (.frz ob (.dT ws))] (some (i, .dT true kvs)) (kvs.map fun kv => .tup [.tup (kv.1.map kPV), kv.2]) := by
  intro ρ hs env σ st H hh r hg
  obtain ⟨h1, h2⟩ := lockedT_at hh r hg
  have hl := h2.len
  refine ⟨fun j hj => ⟨h1, by simp at hj; omega⟩, ⟨h1, by simp; omega⟩, fun j x H' hj y => ?_⟩
  obtain ⟨T, k, v, q, e1, rfl, hT, hq, rfl⟩ := y
  obtain ⟨z, hz, dz⟩ := h2.get e1
  obtain ⟨r2, d2⟩ := r.pair (p := .tup (k.map kPV)) hT ⟨q, _, rfl, hq, kPVs_rel k⟩ dz
  exact ⟨_, by rw [List.getElem?_map, hz]; rfl, r2, d2⟩
theorem walkP_vals {i : Nat} {a : Addr} {ob : Obj} {ws : List (Key × V)} {kvs : List (Key × PV)} : WalkP K (Itd a ob ws) [.val (.ref i) (.ref a), .fix a (.frz ob (.dK ws))] (some (i, .dK true kvs)) (kvs.map (·.2)) := by
  intro ρ hs env σ st H hh r hg
  obtain ⟨h1, h2⟩ := locked_at (h0 := []) hh r hg
  have hl := h2.len
  refine ⟨fun j hj => ⟨h1, by simp at hj; omega⟩, ⟨h1, by simp; omega⟩, fun j x H' hj y => ?_⟩
  obtain ⟨rfl, k, e1⟩ := y
  obtain ⟨z, hz, dz⟩ := h2.get e1
  exact ⟨z, by rw [List.getElem?_map, hz]; rfl, r, dz⟩
theorem walkP_keys {i : Nat} {a : Addr} {ob : Obj} {ws : List (Key × V)} {kvs : List (Key × PV)} : WalkP K (Itk a ob ws) [.val (.ref i) (.ref a), .fix a (.frz ob (.dK ws))] (some (i, .dK true kvs)) (kvs.map fun kv => kPV kv.1) := by
  intro ρ hs env σ st H hh r hg
  obtain ⟨h1, h2⟩ := locked_at (h0 := []) hh r hg
  have hl := h2.len
  refine ⟨fun j hj => ⟨h1, by simp at hj; omega⟩, ⟨h1, by simp; omega⟩, fun j x H' hj y => ?_⟩
  obtain ⟨rfl, k, v, e1, rfl⟩ := y
  obtain ⟨z, hz, dz⟩ := h2.get e1
  exact ⟨kPV k, by rw [List.getElem?_map, hz]; rfl, r, kPV_rel k⟩
theorem walkP_keysT {i : Nat} {a : Addr} {ob : Obj} {ws : List (List Key × V)} {kvs : List (List Key × PV)} : WalkP K (Itkt a ob ws) [.val (.ref i) (.ref a), .fix a (.frz ob (.dT ws))] (some (i, .dT true kvs)) (kvs.map fun kv => .tup (kv.1.map kPV)) := by
  intro ρ hs env σ st H hh r hg
  obtain ⟨h1, h2⟩ := lockedT_at hh r hg
  have hl := h2.len
  refine ⟨fun j hj => ⟨h1, by simp at hj; omega⟩, ⟨h1, by simp; omega⟩, fun j x H' hj y => ?_⟩
  obtain ⟨rfl, k, v, q, e1, rfl, hq⟩ := y
  obtain ⟨z, hz, dz⟩ := h2.get e1
  exact ⟨.tup (k.map kPV), by rw [List.getElem?_map, hz]; rfl, r, q, _, rfl, hq, kPVs_rel k⟩
theorem pxi_items {e : Expr} {m : Mx PV} {apos cpos : Pos} {elts : List Expr} {kk : Nat} {tpos : Pos} (h : PX X W e m) (hbase : attributeBase e "items" X.env (eval e X.env) = eval e X.env := by rfl) (hline : (apos.endLine == cpos.line) = true := by rfl) :
    PXI X W (.Tuple elts kk tpos) (.Call (.Attribute e "items" apos) [] [] cpos) (mWk itemsP m) :=
  .of (pi_or (pi_items h.pe hbase hline) (pi_itemsT h.pe hbase hline)) fun ρ hs env σ st H R r p => by
    unfold mWk at p
    cases e1 : m env st with
    | exc c x s1 => rw [e1] at p; exact .inl ⟨ρ, hs, env, st, r, by rw [e1]; exact p⟩
    | bad => rw [e1] at p; exact p.elim
    | ok x s1 =>
      rw [e1] at p
      simp only [bnd_ok] at p
      cases x with
      | ref i =>
        simp only [itemsP] at p
        cases ei : s1[i]? with
        | none => simp only [ei] at p; exact p.elim
        | some o =>
          simp only [ei] at p
          cases o with
          | dK lk kvs =>
            cases lk with
            | false => exact p.elim
            | true =>
              refine .inl ⟨ρ, hs, env, st, r, ?_⟩
              rw [e1]
              intro ρ1 H1 xv r1 d1
              obtain ⟨a, ha, rfl⟩ := id d1
              obtain ⟨ws, ⟨ob, k1⟩, k2⟩ := r1.s.ob _ _ _ ei ha
              exact ⟨a, ob, ws, rfl, k1, p ρ1 H1 _ [.val (.ref i) (.ref a), .fix a (.frz ob (.dK ws))] ((r1.push (q := .fix a (.frz ob (.dK ws))) ⟨rfl, k1⟩).hold d1) walkP_items⟩
          | dT lk kvs =>
            cases lk with
            | false => exact p.elim
            | true =>
              refine .inr ⟨ρ, hs, env, st, r, ?_⟩
              rw [e1]
              intro ρ1 H1 xv r1 d1
              obtain ⟨a, ha, rfl⟩ := id d1
              obtain ⟨ws, ⟨ob, k1⟩, k2⟩ := r1.s.ob _ _ _ ei ha
              exact ⟨a, ob, ws, rfl, k1, p ρ1 H1 _ [.val (.ref i) (.ref a), .fix a (.frz ob (.dT ws))] ((r1.push (q := .fix a (.frz ob (.dT ws))) ⟨rfl, k1⟩).hold d1) walkP_itemsT⟩
          | _ => exact p.elim
      | _ => exact p.elim
theorem pxi_vals {tg e : Expr} {m : Mx PV} {apos cpos : Pos} (h : PX X W e m) (hbase : attributeBase e "values" X.env (eval e X.env) = eval e X.env := by rfl) (hline : (apos.endLine == cpos.line) = true := by rfl) :
    PXI X W tg (.Call (.Attribute e "values" apos) [] [] cpos) (mWk valsP m) :=
  .of (pi_values h.pe hbase hline) fun ρ hs env σ st H R r p => ⟨ρ, hs, env, st, r, PostI.bnd p fun x s1 _ p1 ρ1 H1 xv r1 d1 => by
    cases x with
    | ref i =>
      simp only [valsP] at p1
      cases ei : s1[i]? with
      | none => simp only [ei] at p1; exact p1.elim
      | some o =>
        simp only [ei] at p1
        cases o with
        | dK lk kvs =>
          cases lk with
          | false => exact p1.elim
          | true =>
            obtain ⟨a, ha, rfl⟩ := id d1
            obtain ⟨ws, ⟨ob, k1⟩, k2⟩ := r1.s.ob _ _ _ ei ha
            exact ⟨a, ob, ws, rfl, k1, p1 ρ1 H1 _ [.val (.ref i) (.ref a), .fix a (.frz ob (.dK ws))] ((r1.push (q := .fix a (.frz ob (.dK ws))) ⟨rfl, k1⟩).hold d1) walkP_vals⟩
        | _ => exact p1.elim
    | _ => exact p1.elim⟩
theorem pxi_keys {tg e : Expr} {m : Mx PV} (h : PX X W e m) : PXI X W tg e (mWk keysP m) :=
  .of (pi_keys h.pe) fun ρ hs env σ st H R r p => ⟨ρ, hs, env, st, r, PostI.bnd p fun x s1 _ p1 ρ1 H1 xv r1 d1 => by
    cases x with
    | ref i =>
      simp only [keysP] at p1
      cases ei : s1[i]? with
      | none => simp only [ei] at p1; exact p1.elim
      | some o =>
        simp only [ei] at p1
        cases o with
        | dK lk kvs =>
          cases lk with
          | false => exact p1.elim
          | true =>
            obtain ⟨a, ha, rfl⟩ := id d1
            obtain ⟨ws, ⟨ob, k1⟩, k2⟩ := r1.s.ob _ _ _ ei ha
            exact ⟨a, ob, rfl, .inl ⟨ws, k1, p1 ρ1 H1 _ [.val (.ref i) (.ref a), .fix a (.frz ob (.dK ws))] ((r1.push (q := .fix a (.frz ob (.dK ws))) ⟨rfl, k1⟩).hold d1) walkP_keys⟩⟩
        | dT lk kvs =>
          cases lk with
          | false => exact p1.elim
          | true =>
            obtain ⟨a, ha, rfl⟩ := id d1
            obtain ⟨ws, ⟨ob, k1⟩, k2⟩ := r1.s.ob _ _ _ ei ha
            exact ⟨a, ob, rfl, .inr ⟨ws, k1, p1 ρ1 H1 _ [.val (.ref i) (.ref a), .fix a (.frz ob (.dT ws))] ((r1.push (q := .fix a (.frz ob (.dT ws))) ⟨rfl, k1⟩).hold d1) walkP_keysT⟩⟩
        | _ => exact p1.elim
    | _ => exact p1.elim⟩
/-! ### the lock -/
def setLk (lk : Bool) : PO → PO
  | .dK _ kvs => .dK lk kvs
  | .dT _ kvs => .dT lk kvs
  | o => o
/-- an open dict -/
def openD (st : Store) (x : PV) : Option (Nat × PO) := match x with
  | .ref i => (match st[i]? with
    | some (.dK false kvs) => some (i, .dK false kvs)
    | some (.dT false kvs) => some (i, .dT false kvs)
    | _ => none)
  | _ => none
/-- the expression runs while the dict that f tells is locked -/
def mLockE (f m : Mx PV) : Mx PV := fun env st => match f env st with
  | .ok x _ => (match openD st x with
    | some (i, o) => (match m env (st.set i (setLk true o)) with
      | .ok v s2 => if s2[i]? = some (setLk true o) then .ok v (s2.set i o) else .bad
      | _ => .bad)
    | none => .bad)
  | _ => .bad
def mLockS (f : Mx PV) (m : Ms) : Ms := fun env st => match f env st with
  | .ok x _ => (match openD st x with
    | some (i, o) => (match m env (st.set i (setLk true o)) with
      | .nx env' s2 => if s2[i]? = some (setLk true o) then .nx env' (s2.set i o) else .bad
      | .bk env' s2 => if s2[i]? = some (setLk true o) then .bk env' (s2.set i o) else .bad
      | .ct env' s2 => if s2[i]? = some (setLk true o) then .ct env' (s2.set i o) else .bad
      | .rt v s2 => if s2[i]? = some (setLk true o) then .rt v (s2.set i o) else .bad
      | _ => .bad)
    | none => .bad)
  | _ => .bad
theorem openD_at {st : Store} {x : PV} {i : Nat} {o : PO} (h : openD st x = some (i, o)) : st[i]? = some o ∧ ((∃ kvs, o = .dK false kvs) ∨ ∃ kvs, o = .dT false kvs) := by
  unfold openD at h
  cases x with
  | ref j =>
    dsimp only at h
    cases ej : st[j]? with
    | none => simp only [ej] at h; cases h
    | some ob =>
      simp only [ej] at h
      cases ob with
      | dK lk kvs => cases lk with
        | true => cases h
        | false => cases h; exact ⟨ej, .inl ⟨_, rfl⟩⟩
      | dT lk kvs => cases lk with
        | true => cases h
        | false => cases h; exact ⟨ej, .inr ⟨_, rfl⟩⟩
      | _ => cases h
  | _ => cases h
/-- locked: the state, what is held of it, and how it opens again -/
theorem Rel.lock {ρ : List Addr} {hs : List HE} {env : Env} {σ : L2.St} {st : Store} {H : Hp} {i : Nat} {o : PO} (r : Rel K ρ hs env σ st H) (hi : st[i]? = some o) (ho : (∃ kvs, o = .dK false kvs) ∨ ∃ kvs, o = .dT false kvs) :
    ∃ a u, H a = some u ∧ Mut (some u) ∧ ∀ od, Rel K ρ (.val (.ref i) (.ref a) :: .fix a (.frz od u) :: hs) env σ (st.set i (setLk true o)) (upd H a (.frz od u)) ∧
      ∀ ρ' env' σ' st' H', Rel K ρ' (.val (.ref i) (.ref a) :: .fix a (.frz od u) :: hs) env' σ' st' H' → st'[i]? = some (setLk true o) →
        H' a = some (.frz od u) ∧ Rel K ρ' hs env' σ' (st'.set i o) (upd H' a u) ∧ (∀ x v, PVr K ρ' H' x v → PVr K ρ' (upd H' a u) x v) := by
  obtain ⟨a, ha, hob⟩ := r.s.at hi
  have key : ∃ u, H a = some u ∧ Mut (some u) ∧ isFix u = false ∧ (∀ x, u ≠ .own x) ∧ (∀ zs, u ≠ .lst zs) ∧ (∀ od, ObR K ρ (upd H a (.frz od u)) a (setLk true o)) ∧
      ∀ ρ' H', (∀ od, H' a = some (.frz od u) → ObR K ρ' H' a (setLk true o) → ObR K ρ' (upd H' a u) a o) := by
    rcases ho with ⟨kvs, rfl⟩ | ⟨kvs, rfl⟩
    · obtain ⟨ws, k1, k2⟩ := hob
      have k1 : H a = some (.dK ws) := k1
      refine ⟨.dK ws, k1, True.intro, rfl, fun _ z => (by cases z), fun _ z => (by cases z), fun od => ⟨ws, ⟨od, upd_same⟩, k2.mono ⟨fun _ _ h => h, fun b vs z => by
        have : b ≠ a := fun q => by rw [q, k1] at z; cases z
        rw [upd_ne this]; exact z⟩⟩, fun ρ' H' od hf hob' => ?_⟩
      obtain ⟨ws', ⟨o', q1⟩, q2⟩ := hob'
      rw [hf] at q1
      cases q1
      exact ⟨ws, upd_same, q2.mono ⟨fun _ _ h => h, fun b vs z => by
        have : b ≠ a := fun q => by rw [q, hf] at z; cases z
        rw [upd_ne this]; exact z⟩⟩
    · obtain ⟨ws, k1, k2⟩ := hob
      have k1 : H a = some (.dT ws) := k1
      refine ⟨.dT ws, k1, True.intro, rfl, fun _ z => (by cases z), fun _ z => (by cases z), fun od => ⟨ws, ⟨od, upd_same⟩, k2.mono ⟨fun _ _ h => h, fun b vs z => by
        have : b ≠ a := fun q => by rw [q, k1] at z; cases z
        rw [upd_ne this]; exact z⟩⟩, fun ρ' H' od hf hob' => ?_⟩
      obtain ⟨ws', ⟨o', q1⟩, q2⟩ := hob'
      rw [hf] at q1
      cases q1
      exact ⟨ws, upd_same, q2.mono ⟨fun _ _ h => h, fun b vs z => by
        have : b ≠ a := fun q => by rw [q, hf] at z; cases z
        rw [upd_ne this]; exact z⟩⟩
  obtain ⟨u, hu, mu, nf, no, nl, hl, hun⟩ := key
  -- no fact of hs is about a
  have nfix : ∀ b w, HE.fix b w ∈ hs → b ≠ a := fun b w hm z => by
    obtain ⟨h1, h2⟩ := r.h _ hm
    rw [z, hu] at h2
    cases h2
    rw [nf] at h1
    cases h1
  refine ⟨a, u, hu, mu, fun od => ⟨?_, fun ρ' env' σ' st' H' r' hs' => ?_⟩⟩
  · have r1 := r.put (u := .frz od u) (o := setLk true o) ha (fun w z => by rw [hu] at z; cases z; exact ⟨nf, no⟩) (hl od)
    exact (r1.push (q := .fix a (.frz od u)) ⟨rfl, upd_same⟩).hold ⟨a, ha, rfl⟩
  · obtain ⟨b, hb, eb⟩ := r'.top
    cases eb
    obtain ⟨_, hf⟩ := r'.drop.top
    have mv : MV ρ' ρ' H' (upd H' a u) := ⟨fun _ _ h => h, fun b vs z => by
      have : b ≠ a := fun q => by rw [q, hf] at z; cases z
      rw [upd_ne this]; exact z⟩
    refine ⟨hf, ⟨r'.s.put hb mv (fun x z => by rw [hf] at z; cases z) (hun ρ' H' od hf (r'.s.ob _ _ _ hs' hb)), fun e he => ?_, r'.el, fun j x h => let ⟨v, e, d⟩ := r'.e j x h; ⟨v, e, d.mono mv⟩⟩, fun x v d => d.mono mv⟩
    have hin := r'.h e (List.mem_cons_of_mem _ (List.mem_cons_of_mem _ he))
    refine hin.mono' mv (fun b w z q => ?_) fun b z => ?_
    · subst z
      rw [upd_ne (nfix b w he)]
      exact q
    · have : b ≠ a := fun q => by
        subst q
        cases e with
        | val _ _ => cases z
        | fix _ _ => cases z
        | acc c xs => cases z; obtain ⟨ws, k1, _⟩ := hin; rw [hf] at k1; cases k1
        | hid c w => cases z; exact hin.2 (List.mem_of_getElem? hb)
      rw [upd_ne this]
      exact ⟨rfl, fun n => n⟩
theorem px_lock {e : Expr} {f m : Mx PV} (h : PX X W e m) : PX X W e (mLockE f m) :=
  .of (pe_lock h.pe) fun ρ hs env σ st H Q r p => by
    unfold mLockE at p
    cases e1 : f env st with
    | exc c x s1 => rw [e1] at p; exact p.elim
    | bad => rw [e1] at p; exact p.elim
    | ok x s1 =>
      rw [e1] at p
      dsimp only at p
      cases e2 : openD st x with
      | none => rw [e2] at p; exact p.elim
      | some io =>
        obtain ⟨i, o⟩ := io
        rw [e2] at p
        dsimp only at p
        obtain ⟨hi, ho⟩ := openD_at e2
        obtain ⟨a, u, hu, mu, hod⟩ := r.lock hi ho
        refine ⟨a, u, hu, mu, fun od => ?_⟩
        obtain ⟨r1, back⟩ := hod od
        refine ⟨ρ, _, env, _, r1, ?_⟩
        cases e3 : m env (st.set i (setLk true o)) with
        | exc c x s1 => rw [e3] at p; exact p.elim
        | bad => rw [e3] at p; exact p.elim
        | ok v s2 =>
          rw [e3] at p
          dsimp only at p
          intro ρ2 H2 vv r2 d2
          by_cases hc : s2[i]? = some (setLk true o)
          · rw [if_pos hc] at p
            obtain ⟨hf, r3, hp⟩ := back _ _ _ _ _ r2 hc
            exact ⟨hf, p _ _ _ r3 (hp _ _ d2)⟩
          · rw [if_neg hc] at p; exact p.elim
theorem pxs_lock {s : Stmt} {f : Mx PV} {m : Ms} (h : PXS X W s m) : PXS X W s (mLockS f m) :=
  .of (ps_lock h.pe) fun ρ hs env σ st H D r p => by
    unfold mLockS at p
    cases e1 : f env st with
    | exc c x s1 => rw [e1] at p; exact p.elim
    | bad => rw [e1] at p; exact p.elim
    | ok x s1 =>
      rw [e1] at p
      dsimp only at p
      cases e2 : openD st x with
      | none => rw [e2] at p; exact p.elim
      | some io =>
        obtain ⟨i, o⟩ := io
        rw [e2] at p
        dsimp only at p
        obtain ⟨hi, ho⟩ := openD_at e2
        obtain ⟨a, u, hu, mu, hod⟩ := r.lock hi ho
        refine ⟨a, u, hu, mu, fun od => ?_⟩
        obtain ⟨r1, back⟩ := hod od
        refine ⟨ρ, _, env, _, r1, ?_⟩
        cases e3 : m env (st.set i (setLk true o)) with
        | exc c x env' s1 => rw [e3] at p; exact p.elim
        | bad => rw [e3] at p; exact p.elim
        | nx env' s2 =>
          rw [e3] at p
          dsimp only at p
          intro ρ2 σ2 H2 r2
          by_cases hc : s2[i]? = some (setLk true o)
          · rw [if_pos hc] at p
            obtain ⟨hf, r3, hp⟩ := back _ _ _ _ _ r2 hc
            exact ⟨hf, p _ _ _ r3⟩
          · rw [if_neg hc] at p; exact p.elim
        | bk env' s2 =>
          rw [e3] at p
          dsimp only at p
          intro ρ2 σ2 H2 r2
          by_cases hc : s2[i]? = some (setLk true o)
          · rw [if_pos hc] at p
            obtain ⟨hf, r3, hp⟩ := back _ _ _ _ _ r2 hc
            exact ⟨hf, p _ _ _ r3⟩
          · rw [if_neg hc] at p; exact p.elim
        | ct env' s2 =>
          rw [e3] at p
          dsimp only at p
          intro ρ2 σ2 H2 r2
          by_cases hc : s2[i]? = some (setLk true o)
          · rw [if_pos hc] at p
            obtain ⟨hf, r3, hp⟩ := back _ _ _ _ _ r2 hc
            exact ⟨hf, p _ _ _ r3⟩
          · rw [if_neg hc] at p; exact p.elim
        | rt v s2 =>
          rw [e3] at p
          dsimp only at p
          intro ρ2 H2 vv r2 d2
          by_cases hc : s2[i]? = some (setLk true o)
          · rw [if_pos hc] at p
            obtain ⟨hf, r3, hp⟩ := back _ _ _ _ _ r2 hc
            exact ⟨hf, p _ _ _ r3 (hp _ _ d2)⟩
          · rw [if_neg hc] at p; exact p.elim
end
end
end PL
set_option Elab.async false
set_option linter.all false
set_option maxRecDepth 100000
set_option maxHeartbeats 1000000
set_option autoImplicit false
namespace PL
open PySem PySem.Spec PyProof.Rows L2 LW
noncomputable section
/-! ### calls whose exceptions are wished for at the slots -/
section
variable {X : Cx} {CX : CXT} {k n : Nat} {f C : Addr} {fd : FuncData} {ps ks : List Str} {sp : Sp} {dvs : List V} {ds : List Value} {E : L2.St → XK} {x m : Str} {p pos apos : Pos} {e o : Expr} {es : List Expr} {kws : List Keyword} {ta : TE} {t tk : TA} {g : List Value → List Value → List Value} {gV : List V → List V → List V}
def tMethSD (C : Addr) (m : Str) (sp : Sp) (dvs : List V) (E : L2.St → XK) (ta : TE) (t : TA) : TE := fun σ H Q => ta σ H fun x H1 => ∃ a dx fs, x = .ref a ∧ H1 a = some (.ins C dx fs) ∧ fs.lookup m = none ∧
  t σ H1 fun vs H2 => sp (x :: (vs ++ dvs)) H2 Q (E σ)
theorem pe_call0SD (F : FnOk X.prog X.w X.K X.mg X.base CX k f fd ps sp) (hr : Room k X.A) (hg : Gl X x) (hm : X.mg x = some (.ref f)) (hk : PySem.W.keepIn X.K (.ref f) = true) (hb : Binds X.K fd ps ds) (hd : Vals dvs ds) (hx : ∀ σ, PassesAt CX X σ (E σ))
    (hdb : (x == ("__debug__" : Str)) = false := by decide) : PE X (.Call (.Name x p) [] [] pos) (tCallSD sp dvs E tNil) := by
  refine ⟨fun pins s σ H Q I h => ?_⟩
  refine wpAny_Call_Name_kw (ld_glob I hg hm ?_ hdb)
  exact PySem.W.callWith_K0 I.kIn hk (run_fnSD (us := []) F hr hb hd (hx σ) I .nil h)
theorem pe_methSD {pl : Sem Bool} (he : PE X o ta) (c : Cls X.K C) (hm : Meth X.K C m f) (F : FnOk X.prog X.w X.K X.mg X.base CX k f fd ps sp) (hr : Room k X.A) (hb : Binds X.K fd ps ds) (hd : Vals dvs ds) (hx : ∀ σ, PassesAt CX X σ (E σ)) (ha : PA X (e :: es) t)
    (hst : starEach (e :: es) X.env = (false, eval e X.env) :: starEach es X.env := by rfl) (hpl : (backTo pos (starEach es X.env)).any (·.1) = false := by rfl)
    (ht : eval (.Call (.Attribute o m apos) (e :: es) [] pos) X.env = (do
      let ov ← eval o X.env
      standAt apos.atName
      let (f, first) ← holding [ov] (getMethod ov m pl)
      callWith pos f first (backTo pos (starEach (e :: es) X.env)) (backToKw pos (keywordEach [] X.env))) := by rfl) :
    PE X (.Call (.Attribute o m apos) (e :: es) [] pos) (tMethSD C m sp dvs E ta t) := by
  refine ⟨fun pins s σ H Q I h => ?_⟩
  refine PySem.W.methodCall_KW (pl := pl) (thn (he.run pins s σ H _ I h) fun u s1 ⟨x, H1, I1, rx, a, dx, fs, ex, ea, l, q⟩ => ?_) ht
  subst ex
  obtain rfl : u = Value.ref a := rx
  refine getmeth_ok I1 ea c hm l ?_
  refine PySem.W.callWith_K (first := [.ref a]) (h₀ := X.base) I.ok.mod.kin hm.kp (thn (ha.run pos pins s1 σ H1 _ I1 q) fun us s2 ⟨vs, H2, I2, r, q2⟩ => ⟨I2.kIn, ?_⟩) hst hpl
  exact run_fnSD (us := .ref a :: us) (vs := .ref a :: vs) F hr hb hd (hx σ) I2 (.cons rfl r) q2
theorem pe_meth0SD {pl : Sem Bool} (he : PE X o ta) (c : Cls X.K C) (hm : Meth X.K C m f) (F : FnOk X.prog X.w X.K X.mg X.base CX k f fd ps sp) (hr : Room k X.A) (hb : Binds X.K fd ps ds) (hd : Vals dvs ds) (hx : ∀ σ, PassesAt CX X σ (E σ))
    (ht : eval (.Call (.Attribute o m apos) [] [] pos) X.env = (do
      let ov ← eval o X.env
      standAt apos.atName
      let (f, first) ← holding [ov] (getMethod ov m pl)
      callWith pos f first (backTo pos (starEach [] X.env)) (backToKw pos (keywordEach [] X.env))) := by rfl) :
    PE X (.Call (.Attribute o m apos) [] [] pos) (tMethSD C m sp dvs E ta tNil) := by
  refine ⟨fun pins s σ H Q I h => ?_⟩
  refine PySem.W.methodCall_KW (pl := pl) (thn (he.run pins s σ H _ I h) fun u s1 ⟨x, H1, I1, rx, a, dx, fs, ex, ea, l, q⟩ => ?_) ht
  subst ex
  obtain rfl : u = Value.ref a := rx
  refine getmeth_ok I1 ea c hm l ?_
  exact PySem.W.callWith_K0 (first := [.ref a]) I1.kIn hm.kp (run_fnSD (us := [.ref a]) (vs := [.ref a]) F hr hb hd (hx σ) I1 (.cons rfl .nil) q)
/-- with keywords -/
def tCallNSD (n m : Nat) (sp : Sp) (gV : List V → List V → List V) (E : L2.St → XK) (t tk : TA) : TE := fun σ H Q => t σ H fun vs H1 => tk σ H1 fun zs H2 => vs.length = n ∧ zs.length = m ∧ sp (gV vs zs) H2 Q (E σ)
theorem run_fnNSD {pins : List (Addr × Obj)} {σ : L2.St} {H : Hp} {s : Shared} {Q : VK} {us ws : List Value} {vs zs : List V} (F : FnOk X.prog X.w X.K X.mg X.base CX k f fd ps sp) (hr : Room k X.A) (hb : KBn X.K fd ps n ks g gV) (hx : PassesAt CX X σ (E σ))
    (I : Inv X pins σ H s) (r : Vals vs us) (rz : Vals zs ws) (l1 : vs.length = n) (l2 : zs.length = ks.length) (h : sp (gV vs zs) H Q (E σ)) : wpAny (model X.prog X.w) X.A (call (.ref f) us (ks.zip ws)) (EP X pins σ Q) X.xe s := by
  have r2 := hb.rel r rz
  refine wpAny_call (codeAny_mono (F.run X.A X.stack s H ⟨us, ks.zip ws⟩ (g us ws) (gV vs zs) Q (E σ) hr I.env0 (hb.to s us ws I.kIn (r.length.symm.trans l1) (rz.length.symm.trans l2)) r2 h) fun r s' hq => ?_)
  cases r with
  | error e => exact hx pins H s e s' I hq
  | ok fl =>
    cases fl with
    | ret u => exact I.after hq
    | next => exact False.elim hq
    | brk => exact False.elim hq
    | cont => exact False.elim hq
theorem pe_callNSD (F : FnOk X.prog X.w X.K X.mg X.base CX k f fd ps sp) (hr : Room k X.A) (hg : Gl X x) (hm : X.mg x = some (.ref f)) (hk : PySem.W.keepIn X.K (.ref f) = true) (hb : KBn X.K fd ps n ks g gV) (hx : ∀ σ, PassesAt CX X σ (E σ))
    (ha : PA X (e :: es) t) (hkw : PK X kws tk) (hall : (backToKw pos (keywordEach kws X.env)).all (·.1.isSome) = true := by rfl) (hks : (backToKw pos (keywordEach kws X.env)).filterMap (·.1) = ks := by rfl)
    (hdb : (x == ("__debug__" : Str)) = false := by decide) (he : starEach (e :: es) X.env = (false, eval e X.env) :: starEach es X.env := by rfl)
    (hpl : ((backTo pos (starEach (e :: es) X.env)).any (·.1) || (backToKw pos (keywordEach kws X.env)).any (·.1.isNone)) = false := by rfl) :
    PE X (.Call (.Name x p) (e :: es) kws pos) (tCallNSD n ks.length sp gV E t tk) := by
  refine ⟨fun pins s σ H Q I h => ?_⟩
  refine wpAny_Call_Name_kw (ld_glob I hg hm ?_ hdb)
  refine PySem.W.callWith_KW (h₀ := X.base) I.ok.mod.kin hk hall (thn (ha.run pos pins s σ H _ I h) fun us s1 ⟨vs, H1, I1, r, q⟩ => ?_) hpl he
  refine thn (hkw.run pos pins s1 σ H1 _ I1 q) fun ws s2 ⟨zs, H2, I2, rz, l1, l2, q2⟩ => ⟨I2.kIn, ?_⟩
  rw [hks]
  exact run_fnNSD F hr hb (hx σ) I2 r rz l1 l2 q2
/-- o.m(e, .., k = v, ..) -/
def tMethNSD (C : Addr) (m : Str) (n mm : Nat) (sp : Sp) (gV : List V → List V → List V) (E : L2.St → XK) (ta : TE) (t tk : TA) : TE := fun σ H Q => ta σ H fun x H1 => ∃ a dx fs, x = .ref a ∧ H1 a = some (.ins C dx fs) ∧ fs.lookup m = none ∧
  t σ H1 fun vs H2 => tk σ H2 fun zs H3 => vs.length = n ∧ zs.length = mm ∧ sp (gV (x :: vs) zs) H3 Q (E σ)
theorem pe_methNSD {pl : Sem Bool} (he : PE X o ta) (c : Cls X.K C) (hm : Meth X.K C m f) (F : FnOk X.prog X.w X.K X.mg X.base CX k f fd ps sp) (hr : Room k X.A) (hb : KBn X.K fd ps (n + 1) ks g gV) (hx : ∀ σ, PassesAt CX X σ (E σ)) (ha : PA X (e :: es) t) (hkw : PK X kws tk)
    (hall : (backToKw pos (keywordEach kws X.env)).all (·.1.isSome) = true := by rfl) (hks : (backToKw pos (keywordEach kws X.env)).filterMap (·.1) = ks := by rfl)
    (hst : starEach (e :: es) X.env = (false, eval e X.env) :: starEach es X.env := by rfl)
    (hpl : ((backTo pos (starEach (e :: es) X.env)).any (·.1) || (backToKw pos (keywordEach kws X.env)).any (·.1.isNone)) = false := by rfl)
    (ht : eval (.Call (.Attribute o m apos) (e :: es) kws pos) X.env = (do
      let ov ← eval o X.env
      standAt apos.atName
      let (f, first) ← holding [ov] (getMethod ov m pl)
      callWith pos f first (backTo pos (starEach (e :: es) X.env)) (backToKw pos (keywordEach kws X.env))) := by rfl) :
    PE X (.Call (.Attribute o m apos) (e :: es) kws pos) (tMethNSD C m n ks.length sp gV E ta t tk) := by
  refine ⟨fun pins s σ H Q I h => ?_⟩
  refine PySem.W.methodCall_KW (pl := pl) (thn (he.run pins s σ H _ I h) fun u s1 ⟨x, H1, I1, rx, a, dx, fs, ex, ea, l, q⟩ => ?_) ht
  subst ex
  obtain rfl : u = Value.ref a := rx
  refine getmeth_ok I1 ea c hm l ?_
  refine PySem.W.callWith_KW (first := [.ref a]) (h₀ := X.base) I.ok.mod.kin hm.kp hall (thn (ha.run pos pins s1 σ H1 _ I1 q) fun us s2 ⟨vs, H2, I2, r, q2⟩ => ?_) hpl hst
  refine thn (hkw.run pos pins s2 σ H2 _ I2 q2) fun ws s3 ⟨zs, H3, I3, rz, l1, l2, q3⟩ => ⟨I3.kIn, ?_⟩
  rw [hks]
  exact run_fnNSD (us := .ref a :: us) (vs := .ref a :: vs) F hr hb (hx σ) I3 (.cons rfl r) rz (by rw [List.length_cons, l1]) l2 q3
/-- C(e, .., k = v, ..) -/
def tMakeSD (C : Addr) (n mm : Nat) (sp : Sp) (gV : List V → List V → List V) (E : L2.St → XK) (t tk : TA) : TE := fun σ H Q => t σ H fun vs H1 => tk σ H1 fun zs H2 => vs.length = n ∧ zs.length = mm ∧ ∀ x dx, H2 x = none → H2 dx = none → dx ≠ x →
  sp (gV (.ref x :: vs) zs) (upd (upd H2 dx (.own x)) x (.ins C dx [])) (fun v H3 => v = .non ∧ Q (.ref x) H3) (E σ)
theorem run_makeSD {pins : List (Addr × Obj)} {σ : L2.St} {H : Hp} {s : Shared} {Q : VK} {us ws : List Value} {vs zs : List V} (M : Mk X.K C f) (F : FnOk X.prog X.w X.K X.mg X.base CX k f fd ps sp) (hr : Room (k + 1) X.A) (hb : KBn X.K fd ps (n + 1) ks g gV) (hx : PassesAt CX X σ (E σ))
    (I : Inv X pins σ H s) (r : Vals vs us) (rz : Vals zs ws) (l1 : vs.length = n) (l2 : zs.length = ks.length)
    (h : ∀ x dx, H x = none → H dx = none → dx ≠ x → sp (gV (.ref x :: vs) zs) (upd (upd H dx (.own x)) x (.ins C dx [])) (fun v H2 => v = .non ∧ Q (.ref x) H2) (E σ)) :
    wpAny (model X.prog X.w) X.A (call (.ref C) us (ks.zip ws)) (EP X pins σ Q) X.xe s := by
  have hq := h (s.heap.objs.size + 1) s.heap.objs.size (I.hok.fresh (Nat.le_succ _)) (I.hok.fresh (Nat.le_refl _)) (Nat.ne_of_lt (Nat.lt_succ_self _))
  have I2 := Inv.made (C := C) I
  have r1 : Vals (V.ref (s.heap.objs.size + 1) :: vs) (Value.ref (s.heap.objs.size + 1) :: us) := .cons rfl r
  have r2 := hb.rel r1 rz
  have n1 : (Value.ref (s.heap.objs.size + 1) :: us).length = n + 1 := by
    rw [List.length_cons, ← r.length, l1]
  refine wpAny_call (make_map (f := f) I.kIn M.makes M.init (beq_iff_eq.mp M.fn) (codeAny_mono (F.run _ X.stack _ _ ⟨Value.ref (s.heap.objs.size + 1) :: us, ks.zip ws⟩ (g (Value.ref (s.heap.objs.size + 1) :: us) ws) _ _ (E σ) (hr.make C us (ks.zip ws))
    (I2.env0.make C us (ks.zip ws)) (hb.to _ (Value.ref (s.heap.objs.size + 1) :: us) ws I2.kIn n1 (rz.length.symm.trans l2)) r2 hq) fun r s' hq' => ?_))
  cases r with
  | error e => exact hx pins _ _ e s' I2 hq'
  | ok fl =>
    cases fl with
    | ret u =>
      obtain ⟨v, H', I3, rv, ev, q3⟩ := I2.after hq'
      subst ev
      exact ⟨rv, ⟨V.ref (s.heap.objs.size + 1), H', I3, rfl, q3⟩⟩
    | next => exact False.elim hq'
    | brk => exact False.elim hq'
    | cont => exact False.elim hq'
theorem pe_makeSD (M : Mk X.K C f) (F : FnOk X.prog X.w X.K X.mg X.base CX k f fd ps sp) (hr : Room (k + 1) X.A) (hg : Gl X x) (hm : X.mg x = some (.ref C)) (hb : KBn X.K fd ps (n + 1) ks g gV) (hx : ∀ σ, PassesAt CX X σ (E σ)) (ha : PA X (e :: es) t) (hkw : PK X kws tk)
    (hall : (backToKw pos (keywordEach kws X.env)).all (·.1.isSome) = true := by rfl) (hks : (backToKw pos (keywordEach kws X.env)).filterMap (·.1) = ks := by rfl) (hdb : (x == ("__debug__" : Str)) = false := by decide)
    (he : starEach (e :: es) X.env = (false, eval e X.env) :: starEach es X.env := by rfl) (hpl : ((backTo pos (starEach (e :: es) X.env)).any (·.1) || (backToKw pos (keywordEach kws X.env)).any (·.1.isNone)) = false := by rfl) :
    PE X (.Call (.Name x p) (e :: es) kws pos) (tMakeSD C n ks.length sp gV E t tk) := by
  refine ⟨fun pins s σ H Q I h => ?_⟩
  refine wpAny_Call_Name_kw (ld_glob I hg hm ?_ hdb)
  refine PySem.W.callWith_KW (h₀ := X.base) I.ok.mod.kin M.kp hall (thn (ha.run pos pins s σ H _ I h) fun us s1 ⟨vs, H1, I1, r, q⟩ => ?_) hpl he
  refine thn (hkw.run pos pins s1 σ H1 _ I1 q) fun ws s2 ⟨zs, H2, I2, rz, l1, l2, q2⟩ => ⟨I2.kIn, ?_⟩
  rw [hks]
  exact run_makeSD M F hr hb (hx σ) I2 r rz l1 l2 q2
/-- C() -/
theorem pe_make0SD (M : Mk X.K C f) (F : FnOk X.prog X.w X.K X.mg X.base CX k f fd ps sp) (hr : Room (k + 1) X.A) (hg : Gl X x) (hm : X.mg x = some (.ref C)) (hb : KBn X.K fd ps 1 [] g gV) (hx : ∀ σ, PassesAt CX X σ (E σ))
    (hdb : (x == ("__debug__" : Str)) = false := by decide) : PE X (.Call (.Name x p) [] [] pos) (tMakeSD C 0 0 sp gV E tNil tNil) := by
  refine ⟨fun pins s σ H Q I h => ?_⟩
  refine wpAny_Call_Name_kw (ld_glob I hg hm ?_ hdb)
  exact PySem.W.callWith_K0 I.kIn M.kp (run_makeSD (us := []) (ws := []) (vs := []) (zs := []) M F hr hb (hx σ) I .nil .nil rfl rfl h.2.2)
end
end
end PL
set_option Elab.async false
set_option linter.all false
set_option maxRecDepth 100000
set_option maxHeartbeats 1000000
set_option autoImplicit false
namespace PL
open PySem PySem.Spec PyProof.Rows L2 LW
noncomputable section
abbrev PF := List PV → Store → Res PV
def PostC (K : Fg) (hs : List HE) (Q : VK) (E : XK) : Res PV → Prop
  | .ok x st => ∀ ρ H v, Rel K ρ hs [] [] st H → PVr K ρ H x v → Q v H
  | .exc c x st => ∀ ρ H d y, Rel K ρ hs [] [] st H → XD c H d y → PVr K ρ H x y → E (.ref (He.ga K c)) d H
  | .bad => False
/-- what a pure function promises -/
def spOf (K : Fg) (pf : PF) : Sp := fun vs H Q E => ∃ ρ hs st as, Rel K ρ hs [] [] st H ∧ PVrs K ρ H as vs ∧ PostC K hs Q E (pf as st)
/-- a body run on arguments; n slots in all -/
def runF (np n : Nat) (m : Ms) : PF := fun as st => if as.length = np then (match m (as.map some ++ List.replicate (n - as.length) none) st with
  | .nx _ s1 => .ok .non s1
  | .rt v s1 => .ok v s1
  | .exc c x _ s1 => .exc c x s1
  | _ => .bad) else .bad
theorem start_rel {K : Fg} {ρ : List Addr} {hs : List HE} {st : Store} {H : Hp} {N : List Str} {as : List PV} {vs : List V} (r : Rel K ρ hs [] [] st H) (d : PVrs K ρ H as vs) : Rel K ρ hs (as.map some ++ List.replicate (N.length - as.length) none) (L2.start N vs) st H := by
  refine ⟨r.s, r.h, by simp [L2.start, d.len], fun i x h => ?_⟩
  by_cases hi : i < as.length
  · rw [List.getElem?_append_left (by simpa using hi), List.getElem?_map] at h
    obtain ⟨y, hy, e⟩ := Option.map_eq_some_iff.mp h
    cases e
    obtain ⟨v, hv, dv⟩ := d.get hy
    refine ⟨v, ?_, dv⟩
    unfold L2.start
    rw [List.getElem?_append_left (by simp [d.len]; exact hi), List.getElem?_map, hv]
    rfl
  · rw [List.getElem?_append_right (by simpa using hi)] at h
    have := List.mem_of_getElem? h
    simp at this
section
variable {P : Program} {w : World} {K : Fg} {mg : Str → Option Value} {base : Heap} {x qual : Str} {params : Arguments} {body : List Stmt} {scope : Scope} {dvs : List V} {kws : List (Str × V)} {f : Addr} {fd : FuncData}
/-- a def keeps what its pure body promises -/
theorem fn_pure {N ps : List Str} {k : Nat} {m : Ms} (F : FunD K x qual params body scope dvs kws f fd) (S : FnScope N ps scope)
    (hbody : ∀ (cdv : Value) (A : Around) (outer : List PySem.Env) (s : Shared) (H : Hp) (E : XK), Room k (A.deeper (envOfC qual scope s.heap.objs.size f cdv)) →
      PXB (cxOf (L2N.CX P w) P w K mg base N qual scope f cdv A outer s H E) (fun cls d _ H => E cls d H) body m) : FnOk P w K mg base (L2N.CX P w) (k + 1) f fd ps (spOf K (runF ps.length N.length m)) := by
  refine F.ok S (fun vs H Q E h => ?_) fun cdv A outer s H vs Q E hr h => ⟨_, (hbody cdv A outer s H E hr).pe, ?_⟩
  · obtain ⟨ρ, hs, st, as, r, d, p⟩ := h
    unfold runF at p
    by_cases hl : as.length = ps.length
    · rw [d.len]; exact hl
    · rw [if_neg hl] at p; exact p.elim
  · obtain ⟨ρ, hs, st, as, r, d, p⟩ := h
    refine ⟨ρ, hs, _, st, start_rel r d, ?_⟩
    unfold runF at p
    by_cases hl : as.length = ps.length
    · rw [if_pos hl] at p
      cases e : m (as.map some ++ List.replicate (N.length - as.length) none) st with
      | nx env s1 => rw [e] at p; exact fun ρ σ H r => p ρ H .non r.noenv rfl
      | rt v s1 => rw [e] at p; exact p
      | exc c y env s1 => rw [e] at p; exact fun ρ σ H d y r => p ρ H d y r.noenv
      | bk env s1 => rw [e] at p; exact p.elim
      | ct env s1 => rw [e] at p; exact p.elim
      | bad => rw [e] at p; exact p.elim
    · rw [if_neg hl] at p; exact p.elim
end
/-! ### arguments in their order -/
def pick {α : Type} (ix : List Nat) (l : List α) : List α := ix.filterMap (l[·]?)
theorem pick_cons {α : Type} (i : Nat) (ix : List Nat) (l : List α) : pick (i :: ix) l = (match l[i]? with
  | some x => x :: pick ix l
  | none => pick ix l) := by
  unfold pick
  rw [List.filterMap_cons]
  cases l[i]? <;> rfl
theorem pick_pv {K : Fg} {ρ : List Addr} {H : Hp} {as : List PV} {vs : List V} (d : PVrs K ρ H as vs) : ∀ ix, PVrs K ρ H (pick ix as) (pick ix vs)
  | [] => PVrs.nil
  | i :: ix => by
    rw [pick_cons, pick_cons]
    cases e : as[i]? with
    | none =>
      have : vs[i]? = none := List.getElem?_eq_none (by rw [d.len]; exact List.getElem?_eq_none_iff.mp e)
      rw [this]
      exact pick_pv d ix
    | some x =>
      obtain ⟨v, hv, dv⟩ := d.get e
      rw [hv]
      exact .cons dv (pick_pv d ix)
theorem pick_vals {as : List V} {vs : List Value} (d : Vals as vs) : ∀ ix, Vals (pick ix as) (pick ix vs)
  | [] => .nil
  | i :: ix => by
    rw [pick_cons, pick_cons]
    cases e : as[i]? with
    | none =>
      rw [d.none_of e]
      exact pick_vals d ix
    | some x =>
      obtain ⟨v, hv, dv⟩ := d.get e
      rw [hv]
      exact .cons dv (pick_vals d ix)
/-- how a call binds: n positional values, keywords ks; gP puts them in order -/
structure Bnd (K : Fg) (fd : FuncData) (ps : List Str) (n : Nat) (ks : List Str) (gP : List PV → List PV → List PV) : Prop where
  ex : ∃ g gV, KBn K fd ps n ks g gV ∧ ∀ ρ H as vs bs zs, PVrs K ρ H as vs → PVrs K ρ H bs zs → PVrs K ρ H (gP as bs) (gV vs zs)
structure CalN (P : Program) (w : World) (K : Fg) (mg : Str → Option Value) (base : Heap) (k : Nat) (x : Str) (n : Nat) (ks : List Str) (pf : PF) (gP : List PV → List PV → List PV) : Prop where
  ex : ∃ f fd ps, FnOk P w K mg base (L2N.CX P w) k f fd ps (spOf K pf) ∧ mg x = some (.ref f) ∧ PySem.W.keepIn K (.ref f) = true ∧ Bnd K fd ps n ks gP
structure CalM (P : Program) (w : World) (K : Fg) (mg : Str → Option Value) (base : Heap) (k : Nat) (c m : Str) (n : Nat) (ks : List Str) (pf : PF) (gP : List PV → List PV → List PV) : Prop where
  ex : ∃ f fd ps, FnOk P w K mg base (L2N.CX P w) k f fd ps (spOf K pf) ∧ Cls K (He.ga K c) ∧ Meth K (He.ga K c) m f ∧ Bnd K fd ps (n + 1) ks gP
structure CalC (P : Program) (w : World) (K : Fg) (mg : Str → Option Value) (base : Heap) (k : Nat) (c : Str) (n : Nat) (ks : List Str) (pf : PF) (gP : List PV → List PV → List PV) : Prop where
  ex : ∃ f fd ps, FnOk P w K mg base (L2N.CX P w) k f fd ps (spOf K pf) ∧ Mk K (He.ga K c) f ∧ mg c = some (.ref (He.ga K c)) ∧ Bnd K fd ps (n + 1) ks gP
structure PXk (X : Cx) (W : WX) (kws : List Keyword) (m : Mx (List PV)) : Prop where
  pe : PK X kws (rG (RVs X.K) X.K W m)
def mCall (pf : PF) (gP : List PV → List PV → List PV) (n kn : Nat) (as ks : Mx (List PV)) : Mx PV := fun env st => (as env st).bnd fun xs s1 => (ks env s1).bnd fun zs s2 => if xs.length = n ∧ zs.length = kn then pf (gP xs zs) s2 else .bad
def mMeth1 (c m : Str) (pf : PF) (gP : List PV → List PV → List PV) (n kn : Nat) (a : Mx PV) (as ks : Mx (List PV)) : Mx PV := fun env st => (a env st).bnd fun x s0 => match x with
  | .ref i => (match s0[i]? with
    | some (.ins c' fs) => if c' = c then (match pfld fs m with
      | none => (as env s0).bnd fun xs s1 => (ks env s1).bnd fun zs s2 => if xs.length = n ∧ zs.length = kn then pf (gP (x :: xs) zs) s2 else .bad
      | some _ => .bad) else .bad
    | _ => .bad)
  | _ => .bad
def mMake (c : Str) (pf : PF) (gP : List PV → List PV → List PV) (n kn : Nat) (as ks : Mx (List PV)) : Mx PV := fun env st => (as env st).bnd fun xs s1 => (ks env s1).bnd fun zs s2 => if xs.length = n ∧ zs.length = kn then (match pf (gP (.ref s2.length :: xs) zs) (s2 ++ [.ins c []]) with
  | .ok .non s3 => .ok (.ref s2.length) s3
  | .exc d y s3 => .exc d y s3
  | _ => .bad) else .bad
section
variable {X : Cx} {W : WX} {K : Fg}
theorem hold_all {ρ : List Addr} {H : Hp} : ∀ {xs : List PV} {vs : List V}, PVrs K ρ H xs vs → ∃ l : List HE, (∀ e ∈ l, HeldR K ρ H e) ∧ ∀ ρ' H', (∀ e ∈ l, HeldR K ρ' H' e) → PVrs K ρ' H' xs vs
  | [], _, h => by cases h; exact ⟨[], fun _ h => (nomatch h), fun _ _ _ => PVrs.nil⟩
  | y :: ys, _, h => by
    obtain ⟨w, ws, rfl, h1, h2⟩ := h
    obtain ⟨l, k1, k2⟩ := hold_all h2
    exact ⟨.val y w :: l, fun e he => (List.mem_cons.mp he).elim (fun z => z ▸ h1) (k1 e), fun ρ' H' k => .cons (k _ List.mem_cons_self) (k2 ρ' H' fun e he => k e (List.mem_cons_of_mem _ he))⟩
theorem Rel.more {ρ : List Addr} {hs l : List HE} {env : Env} {σ : L2.St} {st : Store} {H : Hp} (r : Rel K ρ hs env σ st H) (h : ∀ e ∈ l, HeldR K ρ H e) : Rel K ρ (l ++ hs) env σ st H := ⟨r.s, fun e he => (List.mem_append.mp he).elim (h e) (r.h e), r.el, r.e⟩
theorem pxk_nil : PXk X W [] mNil := ⟨⟨fun pos pins s σ H Q I h => pk_nil.run pos pins s σ H Q I (by obtain ⟨ρ, hs, env, st, r, q⟩ := h; exact q ρ H [] r rfl)⟩⟩
theorem pxk_cons {e : Expr} {kws : List Keyword} {nm : Option Str} {kpos : Pos} {m : Mx PV} {n : Mx (List PV)} (h : PX X W e m) (g : PXk X W kws n) : PXk X W (⟨nm, e, kpos⟩ :: kws) (mCons m n) := ⟨⟨fun pos pins s σ H Q I h' => (pk_cons h.pe g.pe).run pos pins s σ H Q I (Sim.go (sim_cons Sim.self Sim.self) h')⟩⟩
/-- the callee's promise, from the caller's state -/
theorem sp_go {pf : PF} {ρ : List Addr} {hs : List HE} {env : Env} {σ : L2.St} {st : Store} {H : Hp} {Q : VK} {as : List PV} {vs : List V} (r : Rel K ρ hs env σ st H) (d : PVrs K ρ H as vs) (p : PostG (RV K) K W hs env σ Q (pf as st)) : spOf K pf vs H Q (WE W σ) := by
  obtain ⟨l, l1, l2, l3⟩ := r.stash
  refine ⟨ρ, l ++ hs, st, as, ⟨r.s, fun e he => (List.mem_append.mp he).elim (l1 e) (r.h e), rfl, fun i x h => by simp at h⟩, d, ?_⟩
  cases e : pf as st with
  | ok v s1 => rw [e] at p; exact fun ρ1 H1 vv r1 d1 => p ρ1 H1 vv (l3 _ _ _ _ _ _ r1) d1
  | exc c x s1 => rw [e] at p; exact fun ρ1 H1 dd y r1 => p ρ1 H1 dd y (l3 _ _ _ _ _ _ r1)
  | bad => rw [e] at p; exact p
theorem px_call {k j n kn : Nat} {x : Str} {ks : List Str} {pf : PF} {gP : List PV → List PV → List PV} {e : Expr} {es : List Expr} {kws : List Keyword} {p pos : Pos} {ma mk : Mx (List PV)} (c : CalN X.prog X.w X.K X.mg X.base k x n ks pf gP) (tk : L2N.Takes X W) (hr : Room j X.A) (hk : k ≤ j) (hg : Gl X x) (ha : PXa X W (e :: es) ma) (hkw : PXk X W kws mk)
    (hall : (backToKw pos (keywordEach kws X.env)).all (·.1.isSome) = true := by rfl) (hks : (backToKw pos (keywordEach kws X.env)).filterMap (·.1) = ks := by rfl)
    (hdb : (x == ("__debug__" : Str)) = false := by decide) (he : starEach (e :: es) X.env = (false, eval e X.env) :: starEach es X.env := by rfl)
    (hpl : ((backTo pos (starEach (e :: es) X.env)).any (·.1) || (backToKw pos (keywordEach kws X.env)).any (·.1.isNone)) = false := by rfl) (hkn : ks.length = kn := by rfl) :
    PX X W (.Call (.Name x p) (e :: es) kws pos) (mCall pf gP n kn ma mk) := by
  subst hkn
  obtain ⟨f, fd, ps, F, hm, kp, ⟨g, gV, B, hB⟩⟩ := c.ex
  refine .of (pe_callNSD F (hr.mono hk) hg hm kp B (L2N.passAt tk) ha.pe hkw.pe hall hks hdb he hpl) fun ρ hs env σ st H Q r p => ?_
  refine ⟨ρ, hs, env, st, r, PostG.bnd p fun xs s1 _ p1 ρ1 H1 vs r1 d1 => ?_⟩
  obtain ⟨l, l1, l2⟩ := hold_all d1
  refine ⟨ρ1, l ++ hs, env, s1, r1.more l1, PostG.bnd (p1.held fun q hq => List.mem_append_right _ hq) fun zs s2 _ p2 ρ2 H2 ws r2 d2 => ?_⟩
  have d1' := l2 ρ2 H2 fun e he => r2.h e (List.mem_append_left _ he)
  by_cases hn : xs.length = n ∧ zs.length = ks.length
  · rw [if_pos hn] at p2
    exact ⟨by rw [d1'.len]; exact hn.1, by rw [d2.len]; exact hn.2, sp_go r2 (hB ρ2 H2 _ _ _ _ d1' d2) p2⟩
  · rw [if_neg hn] at p2; exact p2.elim
end
end
end PL
set_option Elab.async false
set_option linter.all false
set_option maxRecDepth 100000
set_option maxHeartbeats 1000000
set_option autoImplicit false
namespace PL
open PySem PySem.Spec PyProof.Rows L2 LW
noncomputable section
section
variable {X : Cx} {W : WX} {K : Fg} {k j n kn : Nat} {x c m : Str} {ks : List Str} {pf : PF} {gP : List PV → List PV → List PV} {e o : Expr} {es : List Expr} {kws : List Keyword} {p pos apos : Pos} {ma mk : Mx (List PV)} {mo : Mx PV}
theorem takes0 : L2N.Takes X W0 := fun u s' ⟨σ, H, _, _, _, _, _, _, _, _, _, _, _, _, _, _, h⟩ => h.elim
theorem px_alt {m m1 m2 : Mx PV} (h1 : PX X W e m1) (h2 : PX X W e m2) (h : ∀ env st, m env st = m1 env st ∨ m env st = m2 env st) : PX X W e m := by
  refine ⟨⟨fun pins s σ H Q I h' => ?_⟩⟩
  obtain ⟨ρ, hs, env, st, r, p⟩ := h'
  rcases h env st with e | e
  · exact h1.pe.run pins s σ H Q I ⟨ρ, hs, env, st, r, e ▸ p⟩
  · exact h2.pe.run pins s σ H Q I ⟨ρ, hs, env, st, r, e ▸ p⟩
theorem px_call0 (c : CalN X.prog X.w X.K X.mg X.base k x 0 [] pf gP) (tk : L2N.Takes X W) (hr : Room j X.A) (hk : k ≤ j) (hg : Gl X x) (hdb : (x == ("__debug__" : Str)) = false := by decide) :
    PX X W (.Call (.Name x p) [] [] pos) (mCall pf gP 0 0 mNil mNil) := by
  obtain ⟨f, fd, ps, F, hm, kp, ⟨g, gV, B, hB⟩⟩ := c.ex
  refine .of (te := fun σ H Q => spOf X.K pf (gV [] []) H Q (WE W σ)) ⟨fun pins s σ H Q I h => ?_⟩ fun ρ hs env σ st H Q r p => ?_
  · refine wpAny_Call_Name_kw (ld_glob I hg hm ?_ hdb)
    exact PySem.W.callWith_K0 I.kIn kp (run_fnNSD (us := []) (ws := []) (vs := []) (zs := []) F (hr.mono hk) B (L2N.passAt tk σ) I .nil .nil rfl rfl h)
  · exact sp_go r (hB ρ H [] [] [] [] rfl rfl) p
theorem px_meth {pl : Sem Bool} (cm : CalM X.prog X.w X.K X.mg X.base k c m n ks pf gP) (tk : L2N.Takes X W) (hr : Room j X.A) (hk : k ≤ j) (ho : PX X W o mo) (ha : PXa X W (e :: es) ma) (hkw : PXk X W kws mk)
    (hall : (backToKw pos (keywordEach kws X.env)).all (·.1.isSome) = true := by rfl) (hks : (backToKw pos (keywordEach kws X.env)).filterMap (·.1) = ks := by rfl)
    (hst : starEach (e :: es) X.env = (false, eval e X.env) :: starEach es X.env := by rfl)
    (hpl : ((backTo pos (starEach (e :: es) X.env)).any (·.1) || (backToKw pos (keywordEach kws X.env)).any (·.1.isNone)) = false := by rfl)
    (ht : eval (.Call (.Attribute o m apos) (e :: es) kws pos) X.env = (do
      let ov ← eval o X.env
      standAt apos.atName
      let (f, first) ← holding [ov] (getMethod ov m pl)
      callWith pos f first (backTo pos (starEach (e :: es) X.env)) (backToKw pos (keywordEach kws X.env))) := by rfl) (hkn : ks.length = kn := by rfl) :
    PX X W (.Call (.Attribute o m apos) (e :: es) kws pos) (mMeth1 c m pf gP n kn mo ma mk) := by
  subst hkn
  obtain ⟨f, fd, ps, F, hc, hm, ⟨g, gV, B, hB⟩⟩ := cm.ex
  refine .of (pe_methNSD ho.pe hc hm F (hr.mono hk) B (L2N.passAt tk) ha.pe hkw.pe hall hks hst hpl ht) fun ρ hs env σ st H Q r p => ?_
  refine ⟨ρ, hs, env, st, r, PostG.bnd p fun y s0 _ p0 ρ0 H0 v r0 d0 => ?_⟩
  cases y with
  | ref i =>
    dsimp only at p0
    cases e1 : s0[i]? with
    | none => rw [e1] at p0; exact p0.elim
    | some ob =>
      rw [e1] at p0
      cases ob with
      | ins c' fs =>
        dsimp only at p0
        by_cases hcc : c' = c
        · subst hcc
          rw [if_pos rfl] at p0
          have hold := d0
          obtain ⟨ad, h1, rfl⟩ := d0
          obtain ⟨dx, gs, k1, k2, k3⟩ := r0.s.ob _ _ _ e1 h1
          rcases k3.fld (f := m) with ⟨x, v, l1, l2, l3⟩ | ⟨l1, l2⟩
          · rw [l1] at p0; exact p0.elim
          · rw [l1] at p0
            refine ⟨ad, dx, gs, rfl, k1, l2, ρ0, .val (.ref i) (.ref ad) :: hs, env, s0, r0.hold hold, PostG.bnd (p0.held fun q hq => List.mem_cons_of_mem _ hq) fun xs s1 _ p1 ρ1 H1 vs r1 d1 => ?_⟩
            obtain ⟨l, m1, m2⟩ := hold_all d1
            refine ⟨ρ1, l ++ (.val (.ref i) (.ref ad) :: hs), env, s1, r1.more m1, PostG.bnd (p1.held fun q hq => List.mem_append_right _ hq) fun zs s2 _ p2 ρ2 H2 ws r2 d2 => ?_⟩
            have d1' := m2 ρ2 H2 fun e he => r2.h e (List.mem_append_left _ he)
            have d0' : PVr X.K ρ2 H2 (.ref i) (.ref ad) := r2.h _ (List.mem_append_right _ List.mem_cons_self)
            by_cases hn : xs.length = n ∧ zs.length = ks.length
            · rw [if_pos hn] at p2
              exact ⟨by rw [d1'.len]; exact hn.1, by rw [d2.len]; exact hn.2, sp_go r2 (hB ρ2 H2 _ _ _ _ (.cons d0' d1') d2) p2⟩
            · rw [if_neg hn] at p2; exact p2.elim
        · rw [if_neg hcc] at p0; exact p0.elim
      | _ => exact p0.elim
  | _ => exact p0.elim
theorem px_meth0 {pl : Sem Bool} (cm : CalM X.prog X.w X.K X.mg X.base k c m 0 [] pf gP) (tk : L2N.Takes X W) (hr : Room j X.A) (hk : k ≤ j) (ho : PX X W o mo)
    (ht : eval (.Call (.Attribute o m apos) [] [] pos) X.env = (do
      let ov ← eval o X.env
      standAt apos.atName
      let (f, first) ← holding [ov] (getMethod ov m pl)
      callWith pos f first (backTo pos (starEach [] X.env)) (backToKw pos (keywordEach [] X.env))) := by rfl) :
    PX X W (.Call (.Attribute o m apos) [] [] pos) (mMeth1 c m pf gP 0 0 mo mNil mNil) := by
  obtain ⟨f, fd, ps, F, hc, hm, ⟨g, gV, B, hB⟩⟩ := cm.ex
  refine .of (te := fun σ H Q => rG (RV X.K) X.K W mo σ H fun x H1 => ∃ a dx fs, x = .ref a ∧ H1 a = some (.ins (He.ga X.K c) dx fs) ∧ fs.lookup m = none ∧ spOf X.K pf (gV [x] []) H1 Q (WE W σ)) ⟨fun pins s σ H Q I h => ?_⟩ fun ρ hs env σ st H Q r p => ?_
  · refine PySem.W.methodCall_KW (pl := pl) (thn (ho.pe.run pins s σ H _ I h) fun u s1 ⟨x, H1, I1, rx, a, dx, fs, ex, ea, l, q⟩ => ?_) ht
    subst ex
    obtain rfl : u = Value.ref a := rx
    refine getmeth_ok I1 ea hc hm l ?_
    exact PySem.W.callWith_K0 (first := [.ref a]) I1.kIn hm.kp (run_fnNSD (us := [.ref a]) (vs := [.ref a]) (ws := []) (zs := []) F (hr.mono hk) B (L2N.passAt tk σ) I1 (.cons rfl .nil) .nil rfl rfl q)
  refine ⟨ρ, hs, env, st, r, PostG.bnd p fun y s0 _ p0 ρ0 H0 v r0 d0 => ?_⟩
  cases y with
  | ref i =>
    dsimp only at p0
    cases e1 : s0[i]? with
    | none => rw [e1] at p0; exact p0.elim
    | some ob =>
      rw [e1] at p0
      cases ob with
      | ins c' fs =>
        dsimp only at p0
        by_cases hcc : c' = c
        · subst hcc
          rw [if_pos rfl] at p0
          have hold := d0
          obtain ⟨ad, h1, rfl⟩ := d0
          obtain ⟨dx, gs, k1, k2, k3⟩ := r0.s.ob _ _ _ e1 h1
          rcases k3.fld (f := m) with ⟨x, v, l1, l2, l3⟩ | ⟨l1, l2⟩
          · rw [l1] at p0; exact p0.elim
          · rw [l1] at p0
            exact ⟨ad, dx, gs, rfl, k1, l2, sp_go r0 (hB ρ0 H0 [.ref i] [.ref ad] [] [] (.cons hold rfl) rfl) p0⟩
        · rw [if_neg hcc] at p0; exact p0.elim
      | _ => exact p0.elim
  | _ => exact p0.elim
/-- a new instance -/
theorem make_go {ρ : List Addr} {hs : List HE} {env : Env} {σ : L2.St} {st : Store} {H : Hp} {Q : VK} {as bs : List PV} {vs zs : List V} {gV : List V → List V → List V} {x dx : Addr} (hB : ∀ ρ H as vs bs zs, PVrs K ρ H as vs → PVrs K ρ H bs zs → PVrs K ρ H (gP as bs) (gV vs zs)) (r : Rel K ρ hs env σ st H) (da : PVrs K ρ H as vs) (db : PVrs K ρ H bs zs) (h1 : H x = none) (h2 : H dx = none) (h3 : dx ≠ x)
    (p : PostG (RV K) K W hs env σ Q (match pf (gP (.ref st.length :: as) bs) (st ++ [.ins c []]) with
      | .ok .non s3 => .ok (.ref st.length) s3
      | .exc d y s3 => .exc d y s3
      | _ => .bad)) : spOf K pf (gV (.ref x :: vs) zs) (upd (upd H dx (.own x)) x (.ins (He.ga K c) dx [])) (fun v H3 => v = .non ∧ Q (.ref x) H3) (WE W σ) := by
  have e1 : Evl.Ex H (upd H dx (.own x)) := Evl.Ex.new h2
  have r1 : Rel K ρ hs env σ st (upd H dx (.own x)) := r.ex e1
  have h1' : upd H dx (.own x) x = none := by rw [upd_ne (Ne.symm h3)]; exact h1
  have ho : ObR K (ρ ++ [x]) (upd (upd H dx (.own x)) x (.ins (He.ga K c) dx [])) x (.ins c []) := ⟨dx, [], upd_same, by rw [upd_ne h3]; exact upd_same, KR.nil⟩
  have e2 : Evl.Ex (upd H dx (.own x)) (upd (upd H dx (.own x)) x (.ins (He.ga K c) dx [])) := Evl.Ex.new h1'
  obtain ⟨r2, d2⟩ := Rel.alloc (o := .ins c []) r1 h1' ho
  have mv : MV ρ (ρ ++ [x]) H (upd (upd H dx (.own x)) x (.ins (He.ga K c) dx [])) := MV.push (fun a o h => e2 a o (e1 a o h))
  obtain ⟨l, l1, l2, l3⟩ := r2.stash
  refine ⟨ρ ++ [x], .val (.ref st.length) (.ref x) :: (l ++ hs), _, _, Rel.hold ⟨r2.s, fun e he => (List.mem_append.mp he).elim (l1 e) (r2.h e), rfl, fun i x h => by simp at h⟩ d2, hB _ _ _ _ _ _ (.cons d2 (da.mono mv)) (db.mono mv), ?_⟩
  cases e : pf (gP (.ref st.length :: as) bs) (st ++ [.ins c []]) with
  | ok v s1 =>
    rw [e] at p
    cases v with
    | non => exact fun ρ1 H1 vv r1 d1 => ⟨d1, p ρ1 H1 (.ref x) (l3 _ _ _ _ _ _ r1.drop) r1.top⟩
    | _ => exact p.elim
  | exc c x s1 => rw [e] at p; exact fun ρ1 H1 dd y r1 => p ρ1 H1 dd y (l3 _ _ _ _ _ _ r1.drop)
  | bad => rw [e] at p; exact p
theorem px_make (cc : CalC X.prog X.w X.K X.mg X.base k c n ks pf gP) (tk : L2N.Takes X W) (hr : Room j X.A) (hk : k + 1 ≤ j) (hg : Gl X c) (ha : PXa X W (e :: es) ma) (hkw : PXk X W kws mk)
    (hall : (backToKw pos (keywordEach kws X.env)).all (·.1.isSome) = true := by rfl) (hks : (backToKw pos (keywordEach kws X.env)).filterMap (·.1) = ks := by rfl)
    (hdb : (c == ("__debug__" : Str)) = false := by decide) (he : starEach (e :: es) X.env = (false, eval e X.env) :: starEach es X.env := by rfl)
    (hpl : ((backTo pos (starEach (e :: es) X.env)).any (·.1) || (backToKw pos (keywordEach kws X.env)).any (·.1.isNone)) = false := by rfl) (hkn : ks.length = kn := by rfl) :
    PX X W (.Call (.Name c p) (e :: es) kws pos) (mMake c pf gP n kn ma mk) := by
  subst hkn
  obtain ⟨f, fd, ps, F, hM, hm, ⟨g, gV, B, hB⟩⟩ := cc.ex
  refine .of (pe_makeSD hM F (hr.mono hk) hg hm B (L2N.passAt tk) ha.pe hkw.pe hall hks hdb he hpl) fun ρ hs env σ st H Q r p => ?_
  refine ⟨ρ, hs, env, st, r, PostG.bnd p fun xs s1 _ p1 ρ1 H1 vs r1 d1 => ?_⟩
  obtain ⟨l, l1, l2⟩ := hold_all d1
  refine ⟨ρ1, l ++ hs, env, s1, r1.more l1, PostG.bnd (p1.held fun q hq => List.mem_append_right _ hq) fun zs s2 _ p2 ρ2 H2 ws r2 d2 => ?_⟩
  have d1' := l2 ρ2 H2 fun e he => r2.h e (List.mem_append_left _ he)
  by_cases hn : xs.length = n ∧ zs.length = ks.length
  · rw [if_pos hn] at p2
    exact ⟨by rw [d1'.len]; exact hn.1, by rw [d2.len]; exact hn.2, fun x dx h1 h2 h3 => make_go hB r2 d1' d2 h1 h2 h3 p2⟩
  · rw [if_neg hn] at p2; exact p2.elim
theorem px_make0 (cc : CalC X.prog X.w X.K X.mg X.base k c 0 [] pf gP) (tk : L2N.Takes X W) (hr : Room j X.A) (hk : k + 1 ≤ j) (hg : Gl X c) (hdb : (c == ("__debug__" : Str)) = false := by decide) :
    PX X W (.Call (.Name c p) [] [] pos) (mMake c pf gP 0 0 mNil mNil) := by
  obtain ⟨f, fd, ps, F, hM, hm, ⟨g, gV, B, hB⟩⟩ := cc.ex
  refine .of (pe_make0SD hM F (hr.mono hk) hg hm B (L2N.passAt tk) hdb) fun ρ hs env σ st H Q r p => ?_
  exact ⟨rfl, rfl, fun x dx h1 h2 h3 => make_go (as := []) (bs := []) hB r PVrs.nil PVrs.nil h1 h2 h3 p⟩
end
end
end PL
set_option Elab.async false
set_option linter.all false
set_option maxRecDepth 100000
set_option maxHeartbeats 1000000
set_option autoImplicit false
namespace PL
open PySem PySem.Spec PyProof.Rows L2 LW
noncomputable section
/-! ### which rule: by what the receiver is -/
def isListB (st : Store) (x : PV) : Bool := (listOf st x).isSome
def isDictB (st : Store) (x : PV) : Bool := (isDict st x).isSome
def isClsB (c : Str) (st : Store) (x : PV) : Bool := clsAt st x == some c
def selB (f : Store → PV → Bool) (a : Mx PV) (env : Env) (st : Store) : Bool := match a env st with
  | .ok x s1 => f s1 x
  | _ => false
def mSel (f : Store → PV → Bool) (a m1 m2 : Mx PV) : Mx PV := fun env st => if selB f a env st = true then m1 env st else m2 env st
def mSelS (f : Store → PV → Bool) (a : Mx PV) (m1 m2 : Ms) : Ms := fun env st => if selB f a env st = true then m1 env st else m2 env st
section
variable {X : Cx} {W : WX} {K : Fg}
theorem px_sel {f : Store → PV → Bool} {a m1 m2 : Mx PV} {e : Expr} (h1 : PX X W e m1) (h2 : PX X W e m2) : PX X W e (mSel f a m1 m2) := px_alt h1 h2 fun env st => by
  unfold mSel
  by_cases h : selB f a env st = true
  · exact .inl (if_pos h)
  · exact .inr (if_neg h)
theorem pxs_sel {f : Store → PV → Bool} {a : Mx PV} {m1 m2 : Ms} {e : Stmt} (h1 : PXS X W e m1) (h2 : PXS X W e m2) : PXS X W e (mSelS f a m1 m2) := by
  refine ⟨⟨fun pins s σ H D I h' => ?_⟩⟩
  obtain ⟨ρ, hs, env, st, r, p⟩ := h'
  unfold mSelS at p
  by_cases h : selB f a env st = true
  · rw [if_pos h] at p; exact h1.pe.run pins s σ H D I ⟨ρ, hs, env, st, r, p⟩
  · rw [if_neg h] at p; exact h2.pe.run pins s σ H D I ⟨ρ, hs, env, st, r, p⟩
/-- a step under more that is held -/
theorem PostG.bndH {α β γ δ : Type} {R : RA α β} {S : RA γ δ} {hs hs' : List HE} {env : Env} {σ : L2.St} {Q : δ → Hp → Prop} {Q' : β → Hp → Prop} {r : Res α} {k : α → Store → Res γ} (h : PostG S K W hs env σ Q (r.bnd k)) (hh : ∀ p ∈ hs, p ∈ hs')
    (hk : ∀ x s1, r = .ok x s1 → PostG S K W hs env σ Q (k x s1) → ∀ ρ H v, Rel K ρ hs' env σ s1 H → R ρ H x v → Q' v H) : PostG R K W hs' env σ Q' r := by
  cases r with
  | ok x s1 => exact hk x s1 rfl h
  | exc c x s1 => exact fun ρ H d y r1 => h ρ H d y (r1.sub hh)
  | bad => exact h
/-! ### new dicts -/
theorem Rel.adoptH {ρ : List Addr} {hs : List HE} {env : Env} {σ : L2.St} {st : Store} {H : Hp} {D : Addr} {u : HO} {o : PO} (r : Rel K ρ (.hid D u :: hs) env σ st H) (nD : ∀ e ∈ hs, e.at ≠ some D) (ho : ObR K (ρ ++ [D]) H D o) : Rel K (ρ ++ [D]) hs env σ (st ++ [o]) H ∧ PVr K (ρ ++ [D]) H (.ref st.length) (.ref D) := by
  obtain ⟨h1, h3⟩ := r.top
  have m : MV ρ (ρ ++ [D]) H H := MV.push (Evl.Ex.refl H)
  refine ⟨⟨⟨by simp [r.s.len], ?_, fun i o a k1 k2 => ?_⟩, fun e he => ?_, r.el, fun i x h => let ⟨w, e, q⟩ := r.e i x h; ⟨w, e, q.mono m⟩⟩, D, ?_, rfl⟩
  · refine List.nodup_append.mpr ⟨r.s.nd, List.nodup_cons.mpr ⟨by simp, List.nodup_nil⟩, fun a ha b hb => ?_⟩
    have : b = D := by simpa using hb
    subst this
    exact fun z => h3 (z ▸ ha)
  · by_cases hi : i < st.length
    · rw [List.getElem?_append_left hi] at k1
      rw [List.getElem?_append_left (by rw [r.s.len]; exact hi)] at k2
      exact (r.s.ob i o a k1 k2).keep m rfl fun _ q => q
    · have e1 : i = st.length := by
        have := (List.getElem?_eq_some_iff.mp k1).1
        simp at this
        omega
      subst e1
      rw [List.getElem?_append_right (Nat.le_refl _)] at k1
      rw [List.getElem?_append_right (by rw [r.s.len]; exact Nat.le_refl _)] at k2
      simp at k1
      simp [r.s.len] at k2
      subst k1 k2
      exact ho
  · refine (r.h e (List.mem_cons_of_mem _ he)).mono' m (fun a u z q => q) fun a z => ⟨rfl, fun n => ?_⟩
    intro hm
    rcases List.mem_append.mp hm with q | q
    · exact n q
    · exact nD e he (by rw [z]; simpa using q)
  · rw [← r.s.len]
    simp
def mDNew (o : PO) : Mx PV := fun _ st => .ok (.ref st.length) (st ++ [o])
theorem px_dnewK {pos : Pos} : PX X W (.Dict [] [] pos) (mDNew (.dK false [])) := .of pe_dnewK fun ρ hs env σ st H Q r p q hq => by
  obtain ⟨r2, d2⟩ := Rel.alloc (o := .dK false []) r hq ⟨[], upd_same, KR.nil⟩
  exact p _ _ _ r2 d2
theorem px_dnewT {pos : Pos} : PX X W (.Dict [] [] pos) (mDNew (.dT false [])) := .of pe_dnewT fun ρ hs env σ st H Q r p q hq => by
  obtain ⟨r2, d2⟩ := Rel.alloc (o := .dT false []) r hq ⟨[], upd_same, KR.nil⟩
  exact p _ _ _ r2 d2
/-- the pairs of a display -/
def mPairs : List (Mx PV × Mx PV) → Mx (List (PV × PV))
  | [] => fun _ st => .ok [] st
  | (a, b) :: r => fun env st => (a env st).bnd fun x s1 => (b env s1).bnd fun y s2 => (mPairs r env s2).bnd fun ps s3 => .ok ((x, y) :: ps) s3
def keyPs : List (PV × PV) → Option (List (Key × PV))
  | [] => some []
  | (x, y) :: r => match keyOf x, keyPs r with
    | some k, some ks => some ((k, y) :: ks)
    | _, _ => none
def pmerge (kvs more : List (Key × PV)) : List (Key × PV) := more.foldl (fun acc kv => pputK acc kv.1 kv.2) kvs
def mDisp (ms : List (Mx PV × Mx PV)) : Mx PV := fun env st => (mPairs ms env st).bnd fun ps s1 => match keyPs ps with
  | some kvs => if kvs.length ≤ 15 then .ok (.ref s1.length) (s1 ++ [.dK false (pmerge [] kvs)]) else .bad
  | none => .bad
def RP (K : Fg) (ρ : List Addr) (H : Hp) : List (PV × PV) → List (V × V) → Prop
  | [], vs => vs = []
  | (x, y) :: r, vs => ∃ u v t, vs = (u, v) :: t ∧ PVr K ρ H x u ∧ PVr K ρ H y v ∧ RP K ρ H r t
theorem RP.mono {ρ ρ' : List Addr} {H H' : Hp} (m : MV ρ ρ' H H') : ∀ {xs : List (PV × PV)} {vs : List (V × V)}, RP K ρ H xs vs → RP K ρ' H' xs vs
  | [], _, h => h
  | (x, y) :: r, _, h => let ⟨u, v, t, e, h1, h2, h3⟩ := h; ⟨u, v, t, e, h1.mono m, h2.mono m, RP.mono m h3⟩
abbrev RPs (K : Fg) : List Addr → Hp → List (PV × PV) → List (V × V) → Prop := fun ρ H => RP K ρ H
theorem pairs_sim : ∀ (ms : List (Mx PV × Mx PV)) {ρ : List Addr} {hs : List HE} {env : Env} {σ : L2.St} {st : Store} {H : Hp} {Q : List (V × V) → Hp → Prop}, Rel K ρ hs env σ st H → PostG (RP K) K W hs env σ Q (mPairs ms env st) → tPairs (ms.map fun p => (rG (RV K) K W p.1, rG (RV K) K W p.2)) σ H Q := by
  intro ms
  induction ms with
  | nil => exact fun r p => p _ _ [] r rfl
  | cons q ms ih =>
    obtain ⟨a, b⟩ := q
    intro ρ hs env σ st H Q r p
    refine ⟨ρ, hs, env, st, r, PostG.bnd p fun x s1 _ p1 ρ1 H1 u r1 d1 => ?_⟩
    refine ⟨ρ1, .val x u :: hs, env, s1, r1.hold d1, PostG.bnd p1.hold fun y s2 _ p2 ρ2 H2 v r2 d2 => ?_⟩
    refine ih (r2.hold d2) (PostG.bnd p2.hold fun ps s3 _ p3 ρ3 H3 ws r3 d3 => ?_)
    exact p3 ρ3 H3 _ r3 ⟨u, v, ws, rfl, r3.drop.top, r3.top, d3⟩
theorem keyPs_ok {ρ : List Addr} {H : Hp} : ∀ {ps : List (PV × PV)} {vs : List (V × V)} {kvs : List (Key × PV)}, RP K ρ H ps vs → keyPs ps = some kvs → ∃ ws : List (Key × V), vs = ws.map (fun kv => (kV kv.1, kv.2)) ∧ ws.length = kvs.length ∧ KR K ρ H kvs ws
  | [], _, _, h, e => by cases h; cases e; exact ⟨[], rfl, rfl, KR.nil⟩
  | (x, y) :: r, _, kvs, h, e => by
    obtain ⟨u, v, t, rfl, h1, h2, h3⟩ := h
    unfold keyPs at e
    cases ek : keyOf x with
    | none => rw [ek] at e; cases e
    | some k =>
      cases er : keyPs r with
      | none => rw [ek, er] at e; cases e
      | some ks =>
        rw [ek, er] at e
        cases e
        obtain ⟨ws, e1, e2, e3⟩ := keyPs_ok h3 er
        have := keyOf_ok ek h1
        exact ⟨(k, v) :: ws, by rw [List.map_cons, ← e1, this], by rw [List.length_cons, List.length_cons, e2], KR.cons h2 e3⟩
theorem merge_rel {ρ : List Addr} {H : Hp} : ∀ {more : List (Key × PV)} {ms : List (Key × V)} {kvs : List (Key × PV)} {ws : List (Key × V)}, KR K ρ H more ms → KR K ρ H kvs ws → KR K ρ H (pmerge kvs more) (mergeK ws ms)
  | [], _, _, _, h, g => by cases h; exact g
  | (k, y) :: r, _, kvs, ws, h, g => by
    obtain ⟨v, vs, rfl, h1, h2⟩ := h
    exact merge_rel (kvs := pputK kvs k y) (ws := putK ws k v) h2 (g.put h1)
structure PXp (X : Cx) (W : WX) (pos : Pos) (keys : List (Option Expr)) (values : List Expr) (ms : List (Mx PV × Mx PV)) : Prop where
  pe : PPs X pos keys values (ms.map fun p => (rG (RV X.K) X.K W p.1, rG (RV X.K) X.K W p.2))
theorem pxp_nil {pos : Pos} : PXp X W pos [] [] [] := ⟨pps_nil⟩
theorem pxp_cons {pos : Pos} {k v : Expr} {ks : List (Option Expr)} {vs : List Expr} {a b : Mx PV} {ms : List (Mx PV × Mx PV)} (hk : PX X W k a) (hv : PX X W v b) (hr : PXp X W pos ks vs ms) : PXp X W pos (some k :: ks) (v :: vs) ((a, b) :: ms) := ⟨pps_cons hk.pe hv.pe hr.pe⟩
theorem px_disp {pos : Pos} {keys : List (Option Expr)} {values : List Expr} {ms : List (Mx PV × Mx PV)} (h : PXp X W pos keys values ms) (hall : keys.all (·.isSome) = true := by rfl) (hl : keys.length = values.length := by rfl) (h0 : keys ≠ [] := by decide)
    (h15 : keys.length ≤ 15 := by decide) : PX X W (.Dict keys values pos) (mDisp ms) := .of (pe_disp h.pe hall hl h0 h15) fun ρ hs env σ st H Q r p q hq => by
  have nD : ∀ e ∈ hs, e.at ≠ some q := fun e he z => (r.h e he).away hq z
  have r0 : Rel X.K ρ (.hid q (.dK []) :: hs) env σ st (upd H q (.dK [])) := (r.ex (Evl.Ex.new hq)).push ⟨upd_same, r.s.notin hq⟩
  refine pairs_sim ms r0 (PostG.bndH p (fun e he => List.mem_cons_of_mem _ he) fun ps s1 _ p1 ρ1 H1 vs r1 d1 => ?_)
  obtain ⟨g1, g2⟩ := r1.top
  refine ⟨g1, ?_⟩
  cases ek : keyPs ps with
  | none => rw [ek] at p1; exact p1.elim
  | some kvs =>
    rw [ek] at p1
    dsimp only at p1
    by_cases hn : kvs.length ≤ 15
    · rw [if_pos hn] at p1
      obtain ⟨ws, e1, e2, e3⟩ := keyPs_ok d1 ek
      refine ⟨ws, e1, by rw [e2]; exact hn, ?_⟩
      obtain ⟨r2, d2⟩ := r1.adoptH (o := .dK false []) nD ⟨[], g1, KR.nil⟩
      have mv : MV ρ1 (ρ1 ++ [q]) H1 H1 := MV.push (Evl.Ex.refl H1)
      have hi : (ρ1 ++ [q])[s1.length]? = some q := by rw [← r1.s.len]; simp
      have m : MV (ρ1 ++ [q]) (ρ1 ++ [q]) H1 (upd H1 q (.dK (mergeK [] ws))) := ⟨fun _ _ h => h, fun b vs z => by
        have : b ≠ q := fun t => by rw [t, g1] at z; cases z
        rw [upd_ne this]; exact z⟩
      have r3 := r2.put (i := s1.length) (o := .dK false (pmerge [] kvs)) (u := .dK (mergeK [] ws)) hi (fun w z => by rw [g1] at z; cases z; exact ⟨rfl, fun _ q => by cases q⟩) ⟨_, upd_same, merge_rel ((e3.mono mv).mono m) KR.nil⟩
      have e4 : (s1 ++ [PO.dK false []]).set s1.length (.dK false (pmerge [] kvs)) = s1 ++ [.dK false (pmerge [] kvs)] := by simp
      rw [e4] at r3
      exact p1 _ _ _ r3 (d2.mono m)
    · rw [if_neg hn] at p1; exact p1.elim
end
end
end PL
set_option Elab.async false
set_option linter.all false
set_option maxRecDepth 100000
set_option maxHeartbeats 1000000
set_option autoImplicit false
namespace PL
open PySem PySem.Spec PyProof.Rows L2 LW
noncomputable section
/-! ### isinstance with built-in types -/
def isiB (t c : String) : Bool := t == c || (t == "bool" && c == "int")
def tyNs : List String := ["NoneType", "bool", "int", "str", "tuple", "list", "dict"]
def clNs : List String := ["bool", "int", "str", "tuple", "list", "dict"]
theorem kit_all (K : Fg) : ∀ t ∈ tyNs, ∀ c ∈ clNs, PySem.W.kitOne K (.type t) (.type c) = some (isiB t c) := by
  intro t ht c hc
  simp only [tyNs, clNs, List.mem_cons, List.not_mem_nil, or_false] at ht hc
  rcases ht with rfl | rfl | rfl | rfl | rfl | rfl | rfl <;> rcases hc with rfl | rfl | rfl | rfl | rfl | rfl <;> rfl
def tyP (st : Store) : PV → Option String
  | .non => some "NoneType"
  | .bl _ => some "bool"
  | .int _ => some "int"
  | .str _ => some "str"
  | .tup _ => some "tuple"
  | .wtp _ => some "tuple"
  | .ref i => match st[i]? with
    | some (.lst _) => some "list"
    | some (.ro _) => some "list"
    | some (.dK false _) => some "dict"
    | some (.dT false _) => some "dict"
    | _ => none
  | _ => none
def clP : PV → Option (List String)
  | .ty c => if c ∈ clNs then some [c] else none
  | .tup [.ty c, .ty d] => if c ∈ clNs ∧ d ∈ clNs then some [c, d] else none
  | _ => none
def pIsi (a b : PV) (st : Store) : Res PV := match tyP st a, clP b with
  | some t, some cs => .ok (.bl (cs.any (isiB t))) st
  | _, _ => .bad
section
variable {X : Cx} {W : WX} {K : Fg}
theorem tyP_ok {ρ : List Addr} {hs : List HE} {env : Env} {σ : L2.St} {st : Store} {H : Hp} {a : PV} {x : V} {t : String} (r : Rel K ρ hs env σ st H) (d : PVr K ρ H a x) (h : tyP st a = some t) : t ∈ tyNs ∧ TyX K H x (.type t) := by
  cases a with
  | non => cases h; cases d; exact ⟨by decide, .base .non⟩
  | bl b => cases h; cases d; exact ⟨by decide, .base (.bl b)⟩
  | int i => cases h; cases d; exact ⟨by decide, .base (.int i)⟩
  | str i => cases h; cases d; exact ⟨by decide, .base (.str i)⟩
  | tup xs => cases h; obtain ⟨a, vs, rfl, h1, _⟩ := d; exact ⟨by decide, .base (.tup h1)⟩
  | wtp xs =>
    cases h
    obtain ⟨a, vs, rfl, h1, _⟩ := d
    rcases h1 (fun _ => none) with (q | ⟨_, q⟩) | ⟨o, its, n, q1, q2, _⟩
    · cases q
    · cases q
    · exact ⟨by decide, .kTuple q1 q2⟩
  | ref i =>
    obtain ⟨ad, h1, rfl⟩ := d
    unfold tyP at h
    cases e : st[i]? with
    | none => simp only [e] at h; cases h
    | some o =>
      simp only [e] at h
      have ob := r.s.ob _ _ _ e h1
      cases o with
      | lst xs => cases h; obtain ⟨vs, k, _⟩ := ob; exact ⟨by decide, .base (.lst k)⟩
      | ro xs => cases h; obtain ⟨o, vs, k, _⟩ := ob; exact ⟨by decide, .base (.frz k)⟩
      | dK lk kvs =>
        cases lk with
        | true => cases h
        | false => cases h; obtain ⟨ws, k, _⟩ := ob; exact ⟨by decide, .base (.dK k)⟩
      | dT lk kvs =>
        cases lk with
        | true => cases h
        | false => cases h; obtain ⟨ws, k, _⟩ := ob; exact ⟨by decide, .base (.dT k)⟩
      | ins c fs => cases h
  | con z => cases h
  | ty z => cases h
def rIsiU (K : Fg) : List V → Hp → VK → Prop := fun xs H Q => rIsi K xs H Q ∨ rIsiT K xs H Q
theorem call_isiU : CallR X (.builtin "isinstance") (rIsiU X.K) := CallR.or call_isi call_isiT
theorem sp_isi : OpA K (rIsiU K) (two pIsi) := opA2 (r := fun x y H Q => rIsiU K [x, y] H Q) (fun W ρ hs env σ st H Q a b x y r da db p => by
  unfold pIsi at p
  cases e1 : tyP st a with
  | none => rw [e1] at p; exact p.elim
  | some t =>
    cases e2 : clP b with
    | none => rw [e1, e2] at p; exact p.elim
    | some cs =>
      rw [e1, e2] at p
      obtain ⟨ht, ty⟩ := tyP_ok r da e1
      have q := p ρ H _ r rfl
      unfold clP at e2
      split at e2
      · rename_i c
        by_cases hc : c ∈ clNs
        · rw [if_pos hc] at e2
          cases e2
          cases db
          refine .inl ⟨x, _, _, _, _, rfl, .ty c, ty, kit_all K t ht c hc, ?_⟩
          simpa using q
        · rw [if_neg hc] at e2; cases e2
      · rename_i c d
        by_cases hc : c ∈ clNs ∧ d ∈ clNs
        · rw [if_pos hc] at e2
          cases e2
          obtain ⟨ad, vs, rfl, h1, u, w, rfl, h2, u2, w2, rfl, h3, rfl⟩ := db
          cases h2
          cases h3
          refine .inr ⟨x, ad, _, _, [.type c, .type d], _, rfl, h1, .cons (.ty c) (.cons (.ty d) .nil), ty, ?_, q⟩
          unfold PySem.W.kitAny
          rw [kit_all K t ht c hc.1]
          cases e3 : isiB t c with
          | true => simp [e3]
          | false =>
            unfold PySem.W.kitAny
            rw [kit_all K t ht d hc.2]
            cases e4 : isiB t d with
            | true => simp [e3, e4]
            | false => simp [e3, e4, PySem.W.kitAny]
        · rw [if_neg hc] at e2; cases e2
      · cases e2) fun _ _ _ _ h => h
/-! ### texts -/
def mM1 (φ : Str → PV → Store → Res PV) (a b : Mx PV) : Mx PV := fun env st => (a env st).bnd fun x s1 => match x with
  | .str z => (b env s1).bnd fun y s2 => φ z y s2
  | _ => .bad
def mM0 (φ : Str → Store → Res PV) (a : Mx PV) : Mx PV := fun env st => (a env st).bnd fun x s1 => match x with
  | .str z => φ z s1
  | _ => .bad
def newStrs (ys : List Str) (st : Store) : Res PV := .ok (.ref st.length) (st ++ [.lst (ys.map PV.str)])
def pJoin (z : Str) (y : PV) (st : Store) : Res PV := match (itemsOf st y).bind strsOf with
  | some ys => if (ys.map (·.length)).sum + ys.length * z.length ≤ 16777216 then .ok (.str (Txt.join z ys)) st else .bad
  | none => .bad
def pSplit (z : Str) (y : PV) (st : Store) : Res PV := match y with
  | .str b => if (b.length == 0) = false ∧ z.length + 2 ≤ sizeLine then newStrs (Txt.split z b) st else .bad
  | _ => .bad
def pWords (z : Str) (st : Store) : Res PV := if z.length + 2 ≤ sizeLine then newStrs (Txt.words z) st else .bad
theorem sim_m1 {r : V → List V → Hp → VK → Prop} {φ : Str → PV → Store → Res PV} {m n : Mx PV} (h : ∀ W ρ hs env σ st H Q z b y, Rel K ρ hs env σ st H → PVr K ρ H b y → PostG (RV K) K W hs env σ Q (φ z b st) → r (.str z) [y] H Q) :
    Sim (RV K) K W (tM1 r (rG (RV K) K W m) (rG (RV K) K W n)) (mM1 φ m n) := fun ρ hs env σ st H Q r p => by
  refine ⟨ρ, hs, env, st, r, PostG.bnd p fun x s1 _ p1 ρ1 H1 u r1 d1 => ?_⟩
  cases x with
  | str z =>
    cases d1
    exact ⟨⟨z, rfl⟩, ρ1, hs, env, s1, r1, PostG.bnd p1 fun y s2 _ p2 ρ2 H2 v r2 d2 => h W ρ2 hs env σ s2 H2 Q z y v r2 d2 p2⟩
  | _ => exact p1.elim
theorem sim_m0 {r : V → List V → Hp → VK → Prop} {φ : Str → Store → Res PV} {m : Mx PV} (h : ∀ W ρ hs env σ st H Q z, Rel K ρ hs env σ st H → PostG (RV K) K W hs env σ Q (φ z st) → r (.str z) [] H Q) :
    Sim (RV K) K W (tM0 r (rG (RV K) K W m)) (mM0 φ m) := fun ρ hs env σ st H Q r p => by
  refine ⟨ρ, hs, env, st, r, PostG.bnd p fun x s1 _ p1 ρ1 H1 u r1 d1 => ?_⟩
  cases x with
  | str z => cases d1; exact ⟨⟨z, rfl⟩, h W ρ1 hs env σ s1 H1 Q z r1 p1⟩
  | _ => exact p1.elim
theorem newStrs_go {ρ : List Addr} {hs : List HE} {env : Env} {σ : L2.St} {st : Store} {H : Hp} {Q : VK} {ys : List Str} (r : Rel K ρ hs env σ st H) (p : PostG (RV K) K W hs env σ Q (newStrs ys st)) : rNewStrs ys H Q := fun q hq => by
  obtain ⟨r2, d2⟩ := r.lst hq (PVrs.strs ys)
  exact p _ _ _ r2 d2
theorem px_split {o e : Expr} {apos pos : Pos} {m n : Mx PV} (ho : PX X W o m) (he : PX X W e n) (hs : starEach [e] X.env = [(false, eval e X.env)] := by rfl) (hbase : attributeBase o "split" X.env (eval o X.env) = eval o X.env := by rfl) (hline : (apos.endLine == pos.line) = true := by rfl) :
    PX X W (.Call (.Attribute o "split" apos) [e] [] pos) (mM1 pSplit m n) := .of (pe_split ho.pe he.pe hs hbase hline) (sim_m1 fun W ρ hs env σ st H Q z b y r d p => by
  unfold pSplit at p
  cases b with
  | str b =>
    dsimp only at p
    by_cases hb : (b.length == 0) = false ∧ z.length + 2 ≤ sizeLine
    · rw [if_pos hb] at p
      cases d
      exact ⟨z, b, rfl, rfl, hb.1, hb.2, newStrs_go r p⟩
    · rw [if_neg hb] at p; exact p.elim
  | _ => exact p.elim)
theorem px_words {o : Expr} {apos pos : Pos} {m : Mx PV} (ho : PX X W o m) (hbase : attributeBase o "split" X.env (eval o X.env) = eval o X.env := by rfl) (hline : (apos.endLine == pos.line) = true := by rfl) :
    PX X W (.Call (.Attribute o "split" apos) [] [] pos) (mM0 pWords m) := .of (pe_words ho.pe hbase hline) (sim_m0 fun W ρ hs env σ st H Q z r p => by
  unfold pWords at p
  by_cases hb : z.length + 2 ≤ sizeLine
  · rw [if_pos hb] at p
    exact ⟨z, rfl, rfl, hb, newStrs_go r p⟩
  · rw [if_neg hb] at p; exact p.elim)
theorem px_join {o e : Expr} {apos pos : Pos} {m n : Mx PV} (ho : PX X W o m) (he : PX X W e n) (hs : starEach [e] X.env = [(false, eval e X.env)] := by rfl) (hbase : attributeBase o "join" X.env (eval o X.env) = eval o X.env := by rfl) (hline : (apos.endLine == pos.line) = true := by rfl) :
    PX X W (.Call (.Attribute o "join" apos) [e] [] pos) (mM1 pJoin m n) := .of (pe_join ho.pe he.pe hs hbase hline) (sim_m1 fun W ρ hs env σ st H Q z b y r d p => by
  unfold pJoin at p
  cases e1 : itemsOf st b with
  | none => rw [e1] at p; exact p.elim
  | some xs =>
    rw [e1] at p
    cases e2 : strsOf xs with
    | none => simp only [Option.bind, e2] at p; exact p.elim
    | some ys =>
      simp only [Option.bind, e2] at p
      by_cases hb : (ys.map (·.length)).sum + ys.length * z.length ≤ 16777216
      · rw [if_pos hb] at p
        obtain ⟨a, vs, rfl, hq, dd⟩ := items_of r d e1
        have := strsOf_ok e2 dd
        subst this
        exact ⟨z, a, ys, rfl, rfl, hq, hb, p ρ H _ r rfl⟩
      · rw [if_neg hb] at p; exact p.elim)
end
end
end PL
set_option Elab.async false
set_option linter.all false
set_option maxRecDepth 100000
set_option maxHeartbeats 1000000
set_option autoImplicit false
namespace PL
open PySem PySem.Spec PyProof.Rows L2 LW
noncomputable section
/-! ### zip of two tuples -/
def zipP : List PV → List PV → List PV
  | x :: xs, y :: ys => .tup [x, y] :: zipP xs ys
  | _, _ => []
def tupOf : PV → Option (List PV)
  | .tup xs => some xs
  | .wtp xs => some xs
  | _ => none
def mZip (a b : Mx PV) : Mi := fun env st => (a env st).bnd fun x s1 => (b env s1).bnd fun y s2 => match tupOf x, tupOf y with
  | some xs, some ys => .ok (zipP xs ys, none) s2
  | _, _ => .bad
theorem zipP_len : ∀ xs ys : List PV, (zipP xs ys).length = min xs.length ys.length
  | [], _ => by simp [zipP]
  | _ :: _, [] => by simp [zipP]
  | x :: xs, y :: ys => by simp [zipP, zipP_len xs ys]
theorem zipP_get : ∀ (xs ys : List PV) (i : Nat) (x y : PV), xs[i]? = some x → ys[i]? = some y → (zipP xs ys)[i]? = some (.tup [x, y])
  | [], _, i, x, y, h, _ => by simp at h
  | _ :: _, [], i, x, y, _, h => by simp at h
  | a :: xs, b :: ys, 0, x, y, h, g => by simp at h g; simp [zipP, h, g]
  | a :: xs, b :: ys, i + 1, x, y, h, g => by simpa [zipP] using zipP_get xs ys i x y (by simpa using h) (by simpa using g)
theorem tupOf_eq {x : PV} {xs : List PV} (h : tupOf x = some xs) : x = .tup xs ∨ x = .wtp xs := by
  cases x with
  | tup ys => cases h; exact .inl rfl
  | wtp ys => cases h; exact .inr rfl
  | _ => cases h
section
variable {X : Cx} {W : WX} {K : Fg}
theorem walkP_zipT {x y : PV} {a b : Addr} {xs ys : List PV} (hx : x = .tup xs ∨ x = .wtp xs) (hy : y = .tup ys ∨ y = .wtp ys) : WalkP K (RZ.ItzT K a b) [.val x (.ref a), .val y (.ref b)] none (zipP xs ys) := by
  intro ρ hs env σ st H hh r hg
  obtain ⟨vs, h1, h2⟩ := tup_at hx (r.h _ (hh _ List.mem_cons_self))
  obtain ⟨ws, g1, g2⟩ := tup_at hy (r.h _ (hh _ (List.mem_cons_of_mem _ List.mem_cons_self)))
  rw [zipP_len]
  refine ⟨fun j hj => ?_, ⟨vs, ws, h1, g1, by rw [h2.len, g2.len]; omega⟩, fun j z H' hj w => ?_⟩
  · obtain ⟨v, hv, _⟩ := h2.get (List.getElem?_eq_getElem (show j < xs.length by omega))
    obtain ⟨u, hu, _⟩ := g2.get (List.getElem?_eq_getElem (show j < ys.length by omega))
    exact ⟨vs, ws, v, u, h1, g1, hv, hu⟩
  · obtain ⟨T, v, u, rfl, hT, rfl, hv, hu⟩ := w
    obtain ⟨p, hp, dp⟩ := h2.getV (hv vs h1)
    obtain ⟨q, hq, dq⟩ := g2.getV (hu ws g1)
    obtain ⟨r2, d2⟩ := r.pair hT dp dq
    exact ⟨_, zipP_get xs ys j p q hp hq, r2, d2⟩
theorem tupOf_ref {ρ : List Addr} {H : Hp} {x : PV} {xs : List PV} {v : V} (hx : x = .tup xs ∨ x = .wtp xs) (d : PVr K ρ H x v) : ∃ a, v = .ref a := by
  rcases hx with rfl | rfl
  · obtain ⟨a, _, rfl, _⟩ := d; exact ⟨a, rfl⟩
  · obtain ⟨a, _, rfl, _⟩ := d; exact ⟨a, rfl⟩
theorem pxi_zip {e e2 : Expr} {m n : Mx PV} {p pos tpos : Pos} {elts : List Expr} {kk : Nat} (h : PX X W e m) (g : PX X W e2 n) (hg : Gl X "zip") (hm : X.mg "zip" = none)
    (hs : starEach [e, e2] X.env = (false, eval e X.env) :: starEach [e2] X.env := by rfl) (hs2 : starEach (e2 :: []) X.env = (false, eval e2 X.env) :: starEach [] X.env := by rfl) (hpl : (backTo pos (starEach [e2] X.env)).any (·.1) = false := by rfl) :
    PXI X W (.Tuple elts kk tpos) (.Call (.Name "zip" p) [e, e2] [] pos) (mZip m n) :=
  .of (RZ.pi_zipA hg hm (pa_cons h.pe (pa_cons g.pe pa_nil hs2) hs) hs hpl) fun ρ hs env σ st H R r q => by
    refine ⟨ρ, hs, env, st, r, PostI.bnd q fun x s1 _ q1 ρ1 H1 u r1 d1 => ?_⟩
    refine ⟨ρ1, .val x u :: hs, env, s1, r1.hold d1, ?_⟩
    cases e2 : n env s1 with
    | bad => rw [e2] at q1; exact q1.elim
    | exc c z s3 => rw [e2] at q1; exact fun ρ H d y rl => q1 ρ H d y rl.drop
    | ok y s2 =>
      rw [e2] at q1
      intro ρ2 H2 v r2 d2
      simp only [bnd_ok] at q1
      cases t1 : tupOf x with
      | none => simp only [t1] at q1; exact q1.elim
      | some xs =>
        cases t2 : tupOf y with
        | none => simp only [t1, t2] at q1; exact q1.elim
        | some ys =>
          simp only [t1, t2] at q1
          have dx := r2.top
          obtain ⟨a, rfl⟩ := tupOf_ref (tupOf_eq t1) dx
          obtain ⟨b, rfl⟩ := tupOf_ref (tupOf_eq t2) d2
          obtain ⟨vs, k1, _⟩ := tup_at (tupOf_eq t1) dx
          obtain ⟨ws, k2, _⟩ := tup_at (tupOf_eq t2) d2
          refine ⟨a, b, vs, ws, rfl, .inr ⟨k1, k2, q1 ρ2 H2 _ [.val x (.ref a), .val y (.ref b)] ?_ (walkP_zipT (tupOf_eq t1) (tupOf_eq t2))⟩⟩
          exact (r2.drop.hold d2).hold dx
/-! ### list(range(..)) -/
def mLRng1 (a : Mx PV) : Mx PV := fun env st => (a env st).bnd fun x s1 => match x with
  | .int n => @ite _ (-(2 ^ 62) ≤ n ∧ n < 2 ^ 62 ∧ n.toNat ≤ 2 ^ 24) (Classical.propDecidable _) (.ok (.ref s1.length) (s1 ++ [.lst (rangeP 0 n.toNat)])) .bad
  | _ => .bad
def mLRng2 (a b : Mx PV) : Mx PV := fun env st => (a env st).bnd fun x s1 => (b env s1).bnd fun y s2 => match x, y with
  | .int i, .int j => @ite _ (-(2 ^ 62) ≤ i ∧ i < 2 ^ 62 ∧ -(2 ^ 62) ≤ j ∧ j < 2 ^ 62 ∧ (j - i).toNat ≤ 2 ^ 24) (Classical.propDecidable _) (.ok (.ref s2.length) (s2 ++ [.lst (rangeP i (j - i).toNat)])) .bad
  | _, _ => .bad
theorem rg_rel {ρ : List Addr} {H : Hp} (lo : Int) : ∀ n : Nat, PVrs K ρ H (rangeP lo n) ((List.range n).map fun i => V.int (lo + (i : Nat))) := by
  intro n
  induction n generalizing lo with
  | zero => exact PVrs.nil
  | succ n ih =>
    rw [List.range_succ_eq_map]
    simp only [List.map_cons, List.map_map]
    refine .cons (by show V.int _ = _; simp) ?_
    have := ih (lo + 1)
    have e : (List.map (fun i : Nat => V.int (lo + 1 + (i : Nat))) (List.range n)) = List.map ((fun i : Nat => V.int (lo + (i : Nat))) ∘ Nat.succ) (List.range n) := by
      apply List.map_congr_left
      intro i _
      show V.int _ = V.int _
      congr 1
      have : ((Nat.succ i : Nat) : Int) = (i : Int) + 1 := by simp
      rw [this]; omega
    rw [← e]
    exact this
theorem px_listRg1 {a : Expr} {m : Mx PV} {p q pos pos2 : Pos} (hc : X.calm = true) (hg : Gl X "list") (hm : X.mg "list" = none) (hg2 : Gl X "range") (hm2 : X.mg "range" = none) (ha : PX X W a m)
    (na2 : starEach [a] X.env = (false, eval a X.env) :: starEach [] X.env := by rfl) (na : starEach [.Call (.Name "range" q) [a] [] pos2] X.env = (false, eval (.Call (.Name "range" q) [a] [] pos2) X.env) :: starEach [] X.env := by rfl) :
    PX X W (.Call (.Name "list" p) [.Call (.Name "range" q) [a] [] pos2] [] pos) (mLRng1 m) := .of (pe_listRg hc hg hm (prg_1 hg2 hm2 ha.pe na2) na) fun ρ hs env σ st H Q r p => by
  refine ⟨ρ, hs, env, st, r, PostG.bnd p fun x s1 _ p1 ρ1 H1 u r1 d1 => ?_⟩
  cases x with
  | int n =>
    cases d1
    dsimp only at p1
    by_cases hn : -(2 ^ 62) ≤ n ∧ n < 2 ^ 62 ∧ n.toNat ≤ 2 ^ 24
    · rw [if_pos hn] at p1
      refine ⟨n, rfl, ⟨by decide, by decide, hn.1, hn.2.1, by simpa using hn.2.2⟩, fun q hq => ?_⟩
      have rr : PVrs X.K ρ1 H1 (rangeP 0 n.toNat) (rgV 0 n) := by
        have := rg_rel (K := X.K) (ρ := ρ1) (H := H1) 0 n.toNat
        unfold rgV
        rw [Int.sub_zero]
        exact this
      obtain ⟨r2, d2⟩ := r1.lst hq rr
      exact p1 _ _ _ r2 d2
    · rw [if_neg hn] at p1; exact p1.elim
  | _ => exact p1.elim
theorem px_listRg2 {a b : Expr} {m n : Mx PV} {p q pos pos2 : Pos} (hc : X.calm = true) (hg : Gl X "list") (hm : X.mg "list" = none) (hg2 : Gl X "range") (hm2 : X.mg "range" = none) (ha : PX X W a m) (hb : PX X W b n)
    (na2 : starEach [a, b] X.env = (false, eval a X.env) :: starEach [b] X.env := by rfl) (nb : starEach [b] X.env = (false, eval b X.env) :: starEach [] X.env := by rfl) (hp : (backTo pos2 (starEach [b] X.env)).any (·.1) = false := by rfl)
    (na : starEach [.Call (.Name "range" q) [a, b] [] pos2] X.env = (false, eval (.Call (.Name "range" q) [a, b] [] pos2) X.env) :: starEach [] X.env := by rfl) :
    PX X W (.Call (.Name "list" p) [.Call (.Name "range" q) [a, b] [] pos2] [] pos) (mLRng2 m n) := .of (pe_listRg hc hg hm (prg_2 hg2 hm2 ha.pe hb.pe na2 nb hp) na) fun ρ hs env σ st H Q r p => by
  refine ⟨ρ, hs, env, st, r, PostG.bnd p fun x s1 _ p1 ρ1 H1 u r1 d1 => ?_⟩
  refine ⟨ρ1, .val x u :: hs, env, s1, r1.hold d1, PostG.bnd p1.hold fun y s2 _ p2 ρ2 H2 v r2 d2 => ?_⟩
  have d1' := r2.top
  cases x with
  | int i =>
    cases y with
    | int j =>
      cases d1'
      cases d2
      dsimp only at p2
      by_cases hn : -(2 ^ 62) ≤ i ∧ i < 2 ^ 62 ∧ -(2 ^ 62) ≤ j ∧ j < 2 ^ 62 ∧ (j - i).toNat ≤ 2 ^ 24
      · rw [if_pos hn] at p2
        refine ⟨i, j, rfl, rfl, hn, fun q hq => ?_⟩
        obtain ⟨r3, d3⟩ := r2.lst hq (rg_rel (K := X.K) (ρ := ρ2) (H := H2) i (j - i).toNat)
        exact p2 _ _ _ r3 d3
      · rw [if_neg hn] at p2; exact p2.elim
    | _ => exact p2.elim
  | _ => exact p2.elim
/-! ### o[i] op= v -/
def pIAdd : PV → PV → Store → Res PV := pInt (fun _ _ => True) fun i j => .int (i + j)
theorem sp_iadd : Op2 K (ipI fun i j => i + j) pIAdd := sp_int0 (g := fun i j => .int (i + j)) fun _ _ _ _ => rfl
theorem sp_iaddF : Op2 K rAdd pIAdd := sp_int0 (g := fun i j => .int (i + j)) fun _ _ _ _ => rfl
theorem sp_isub : Op2 K (ipI fun i j => i - j) pSub := sp_int0 (g := fun i j => .int (i - j)) fun _ _ _ _ => rfl
theorem sp_isubF : Op2 K rSub pSub := sp_int0 (g := fun i j => .int (i - j)) fun _ _ _ _ => rfl
def getL (x k : PV) (st : Store) : Option PV := match k with
  | .int q => (listOf st x).bind fun xs => atI xs q
  | _ => none
def setL (x k z : PV) (st : Store) : Option Store := match x, k with
  | .ref j, .int q => (match st[j]? with
    | some (.lst xs) => (match ixN xs.length q with
      | some t => some (st.set j (.lst (xs.set t z)))
      | none => none)
    | _ => none)
  | _, _ => none
def mAugL (φ : PV → PV → Store → Res PV) (o i v : Mx PV) : Ms := fun env st => (o env st).stm env fun x s1 => (i env s1).stm env fun k s2 => match getL x k s2 with
  | some old => (v env s2).stm env fun y s3 => (φ old y s3).stm env fun z s4 => (match setL x k z s4 with
    | some s5 => .nx env s5
    | none => .bad)
  | none => .bad
theorem atI_rel2 {ρ : List Addr} {H : Hp} {xs : List PV} {vs : List V} {q : Int} {x : PV} (d : PVrs K ρ H xs vs) (h : atI xs q = some x) : ∃ v, atI vs q = some v ∧ PVr K ρ H x v := by
  unfold atI at h ⊢
  rw [d.len]
  cases e : ixN xs.length q with
  | none => rw [e] at h; cases h
  | some j =>
    rw [e] at h
    exact d.get h
theorem pxs_augL {o i e : Expr} {mo mi mv : Mx PV} {tip : TIp} {φ : PV → PV → Store → Res PV} {op : Operator} {tpos pos : Pos} (ho : PX X W o mo) (hi : PX X W i mi) (he : PX X W e mv) (hp : PIp X op tip) (hφ : Op2 X.K tip φ)
    (ha : ∀ ov iv new, augStore i ov iv new = (do holding [new, ov, iv] (setItem ov iv new); release [new, ov, iv] []; pure .next) := by intros; rfl) : PXS X W (.AugAssign (.Subscript o i tpos) op e pos) (mAugL φ mo mi mv) :=
  .of (ps_augS ho.pe hi.pe get_list he.pe hp set_list ha) fun ρ hs env σ st H D r p => by
    refine ⟨ρ, hs, env, st, r, PostG.stm (σ := σ) p fun x s1 _ p1 ρ1 H1 u r1 d1 => ?_⟩
    refine ⟨ρ1, .val x u :: hs, env, s1, r1.hold d1, PostG.stm (σ := σ) p1.hold fun k s2 _ p2 ρ2 H2 kv r2 d2 => ?_⟩
    cases eg : getL x k s2 with
    | none => rw [eg] at p2; exact p2.elim
    | some old =>
      rw [eg] at p2
      dsimp only at p2
      cases k with
      | int q =>
        cases d2
        obtain ⟨xs, e1, e2⟩ := Option.bind_eq_some_iff.mp (show (listOf s2 x).bind (fun xs => atI xs q) = some old from eg)
        obtain ⟨a, vs, rfl, hl, dv⟩ := listOf_ok r2 r2.top e1
        obtain ⟨v, hv, dold⟩ := atI_rel2 dv e2
        refine ⟨a, vs, q, v, rfl, rfl, hl, hv, ρ2, .val old v :: .val x (.ref a) :: hs, env, s2, r2.hold dold, PostG.stm (σ := σ) p2.hold fun y s3 _ p3 ρ3 H3 yv r3 d3 => ?_⟩
        refine hφ W ρ3 _ env σ s3 H3 _ old y v yv r3 r3.top d3 (PostG.stm (σ := σ) p3 fun z s4 _ p4 ρ4 H4 zv r4 d4 => ?_)
        cases es : setL x (.int q) z s4 with
        | none => rw [es] at p4; exact p4.elim
        | some s5 =>
          rw [es] at p4
          have dx := r4.drop.top
          cases x with
          | ref j =>
            unfold setL at es
            dsimp only at es
            cases ej : s4[j]? with
            | none => simp only [ej] at es; cases es
            | some ob =>
              simp only [ej] at es
              cases ob with
              | lst ys =>
                dsimp only at es
                cases eq : ixN ys.length q with
                | none => simp only [eq] at es; cases es
                | some t =>
                  simp only [eq] at es
                  cases es
                  obtain ⟨b, hb, eb⟩ := dx
                  cases eb
                  obtain ⟨ws, k1, k2⟩ := r4.s.ob _ _ _ ej hb
                  refine ⟨a, ws, q, t, rfl, rfl, k1, by rw [k2.len]; exact eq, p4 ρ4 σ _ ?_⟩
                  refine r4.lset (ys := ys.set t z) ej hb fun {vs' H'} m rv hv' => ?_
                  rw [k1] at hv'
                  cases hv'
                  exact (rv.mono m).set t (d4.mono m)
              | _ => cases es
          | _ => cases es
      | _ => cases eg
def mAugD (φ : PV → PV → Store → Res PV) (o i v : Mx PV) : Ms := fun env st => (o env st).stm env fun x s1 => (i env s1).stm env fun k s2 => match isDict s2 x with
  | some d => (match dGet s2 d k with
    | some (some old) => (v env s2).stm env fun y s3 => (φ old y s3).stm env fun z s4 => (match dPut s4 d k z with
      | some s5 => .nx env s5
      | none => .bad)
    | _ => .bad)
  | none => .bad
theorem pxs_augD {o i e : Expr} {mo mi mv : Mx PV} {rd : V → V → Hp → VK → Prop} {φ : PV → PV → Store → Res PV} {op : Operator} {tpos pos : Pos} (hu : X.A.units + 1 < cLine) (ho : PX X W o mo) (hi : PX X W i mi) (he : PX X W e mv) (hp : InOp X op rd) (hφ : Op2 X.K rd φ)
    (ha : ∀ ov iv new, augStore i ov iv new = (do holding [new, ov, iv] (setItem ov iv new); release [new, ov, iv] []; pure .next) := by intros; rfl) : PXS X W (.AugAssign (.Subscript o i tpos) op e pos) (mAugD φ mo mi mv) :=
  .of (ps_daug hu ho.pe hi.pe he.pe hp ha) fun ρ hs env σ st H D r p => by
    refine ⟨ρ, hs, env, st, r, PostG.stm (σ := σ) p fun x s1 _ p1 ρ1 H1 u r1 d1 => ?_⟩
    refine ⟨ρ1, .val x u :: hs, env, s1, r1.hold d1, PostG.stm (σ := σ) p1.hold fun k s2 _ p2 ρ2 H2 kv r2 d2 => ?_⟩
    cases ed : isDict s2 x with
    | none => rw [ed] at p2; exact p2.elim
    | some d =>
      rw [ed] at p2
      dsimp only at p2
      obtain ⟨a, rfl, hra, _⟩ := isDict_at ed r2 r2.top
      cases eg : dGet s2 d k with
      | none => rw [eg] at p2; exact p2.elim
      | some og =>
        rw [eg] at p2
        cases og with
        | none => exact p2.elim
        | some old =>
          dsimp only at p2
          obtain ⟨ov, g1, g2⟩ := dget_ok r2 hra d2 eg
          cases ov with
          | none => exact g2.elim
          | some v =>
            refine ⟨a, v, rfl, g1, ρ2, .val old v :: .val k kv :: .val x (.ref a) :: hs, env, s2, (r2.hold d2).hold g2, PostG.stm (σ := σ) p2.hold.hold fun y s3 _ p3 ρ3 H3 yv r3 d3 => ?_⟩
            refine hφ W ρ3 _ env σ s3 H3 _ old y v yv r3 r3.top d3 (PostG.stm (σ := σ) p3 fun z s4 _ p4 ρ4 H4 zv r4 d4 => ?_)
            cases es : dPut s4 d k z with
            | none => rw [es] at p4; exact p4.elim
            | some s5 =>
              rw [es] at p4
              have hd : x = .ref d := by
                cases x with
                | ref j =>
                  simp only [isDict] at ed
                  cases e0 : s2[j]? with
                  | none => simp only [e0] at ed; cases ed
                  | some ob => simp only [e0] at ed; cases ob <;> first | (cases ed; rfl) | cases ed
                | _ => cases ed
              obtain ⟨b, hb, eb⟩ := (hd ▸ r4.drop.drop.top : PVr X.K ρ4 H4 (.ref d) (.ref a))
              cases eb
              obtain ⟨H5, q1, q2⟩ := r4.dput hb r4.drop.top d4 es
              exact ⟨H5, q1, p4 ρ4 σ H5 q2⟩
/-! ### list(d.items()), keys ints and texts -/
def mLItems (a : Mx PV) : Mx PV := fun env st => (a env st).bnd fun x s1 => match x with
  | .ref i => (match s1[i]? with
    | some (.dK false kvs) => .ok (.ref s1.length) (s1 ++ [.lst (kvs.map fun kv => .tup [kPV kv.1, kv.2])])
    | _ => .bad)
  | _ => .bad
theorem items_rel {ρ : List Addr} {H : Hp} : ∀ {kvs : List (Key × PV)} {ws : List (Key × V)} {ts : List Addr}, KR K ρ H kvs ws → Paired (fun (t : Addr) (q : Key × V) => H t = some (.tup [kV q.1, q.2])) ts ws → PVrs K ρ H (kvs.map fun kv => .tup [kPV kv.1, kv.2]) (ts.map V.ref)
  | [], _, _, h, t => by cases h; cases t; exact PVrs.nil
  | (k, x) :: kvs, _, _, h, t => by
    obtain ⟨v, vs, rfl, h1, h2⟩ := h
    cases t with
    | cons a b => exact .cons ⟨_, _, rfl, a, .cons (kPV_rel k) (.cons h1 PVrs.nil)⟩ (items_rel h2 b)
theorem px_listItems {e : Expr} {m : Mx PV} {p apos cpos pos : Pos} (hc : X.calm = true) (he : PX X W e m) (hg : Gl X "list") (hm : X.mg "list" = none) (hv : bootBuiltins "list" = some (.type "list")) (hbase : attributeBase e "items" X.env (eval e X.env) = eval e X.env := by rfl) (hline : (apos.endLine == cpos.line) = true := by rfl)
    (hs : starEach [.Call (.Attribute e "items" apos) [] [] cpos] X.env = (false, eval (.Call (.Attribute e "items" apos) [] [] cpos) X.env) :: starEach [] X.env := by rfl) :
    PX X W (.Call (.Name "list" p) [.Call (.Attribute e "items" apos) [] [] cpos] [] pos) (mLItems m) := .of (LiI.pe_listItems hc he.pe hg hm hv hbase hline hs) fun ρ hs env σ st H Q r p => by
  refine ⟨ρ, hs, env, st, r, PostG.bnd p fun x s1 _ p1 ρ1 H1 u r1 d1 => ?_⟩
  cases x with
  | ref i =>
    dsimp only at p1
    cases e1 : s1[i]? with
    | none => rw [e1] at p1; exact p1.elim
    | some o =>
      rw [e1] at p1
      cases o with
      | dK lk kvs =>
        cases lk with
        | true => exact p1.elim
        | false =>
          obtain ⟨a, ha, rfl⟩ := d1
          obtain ⟨ws, k1, k2⟩ := r1.s.ob _ _ _ e1 ha
          refine ⟨a, ws, rfl, k1, fun H' q ts hk hq ht hn hl hp => ?_⟩
          have hk : Evl.Ex H1 H' := hk
          have ho : ObR X.K (ρ1 ++ [q]) H' q (.lst (kvs.map fun kv => .tup [kPV kv.1, kv.2])) := ⟨_, hl, items_rel (k2.mono (MV.push hk)) hp⟩
          refine p1 (ρ1 ++ [q]) H' (.ref q) (r1.to (Mono.push hk hq) (r1.s.alloc hk hq ho)) ⟨q, ?_, rfl⟩
          rw [← r1.s.len]
          simp
      | _ => exact p1.elim
  | _ => exact p1.elim
end
end
end PL
set_option Elab.async false
set_option linter.all false
set_option maxRecDepth 100000
set_option maxHeartbeats 1000000
set_option autoImplicit false
namespace PL
open PySem PySem.Spec PyProof.Rows L2 LW
noncomputable section
section
variable {K : Fg} {x qual : Str} {params : Arguments} {body : List Stmt} {scope : Scope} {dvs : List V} {kws : List (Str × V)} {f : Addr} {fd : FuncData} {ps ks : List Str} {n : Nat}
theorem FunD.bindsK (F : FunD K x qual params body scope [] kws f fd) (ks : List Str) (g : List Value → List Value → List Value)
    (h : ∀ (kV doc pm : Value) (an : Option Addr) (cdv ct : Value) (us ws : List Value), us.length = n → ws.length = ks.length → bindArgs (PySem.W.fnOf x qual params body scope .none kV doc pm an cdv ct) ⟨us, ks.zip ws⟩ = pure (ps.zip (g us ws))) (s : Shared) (us ws : List Value) (hl : us.length = n) (hl2 : ws.length = ks.length) : BindsTo s fd ⟨us, ks.zip ws⟩ (ps.zip (g us ws)) := by
  obtain ⟨oc, od, dV, kV, doc, pm, an, cdv, ct, osl, rfl, lk, hcd, hD, hK⟩ := F.ex
  rcases hD with ⟨_, rfl⟩ | ⟨e, _⟩
  · exact .of_eq (h kV doc pm an cdv ct us ws hl hl2)
  · exact absurd rfl e
theorem Bnd.plain (F : FunD K x qual params body scope [] kws f fd)
    (h : ∀ (kV doc pm : Value) (an : Option Addr) (cdv ct : Value) (us ws : List Value), us.length = n → ws.length = ([] : List Str).length → bindArgs (PySem.W.fnOf x qual params body scope .none kV doc pm an cdv ct) ⟨us, ([] : List Str).zip ws⟩ = pure (ps.zip us)) : Bnd K fd ps n [] (fun as _ => as) :=
  ⟨fun us _ => us, fun vs _ => vs, ⟨fun s us ws _ h1 h2 => FunD.bindsK F [] (fun us _ => us) h s us ws h1 h2, fun r _ => r⟩, fun _ _ _ _ _ _ d _ => d⟩
theorem Bnd.kwo (F : FunD K x qual params body scope [] kws f fd) (ix : List Nat)
    (h : ∀ (kV doc pm : Value) (an : Option Addr) (cdv ct : Value) (us ws : List Value), us.length = n → ws.length = ks.length → bindArgs (PySem.W.fnOf x qual params body scope .none kV doc pm an cdv ct) ⟨us, ks.zip ws⟩ = pure (ps.zip (pick ix (us ++ ws)))) : Bnd K fd ps n ks (fun as bs => pick ix (as ++ bs)) :=
  ⟨fun us ws => pick ix (us ++ ws), fun vs zs => pick ix (vs ++ zs), ⟨fun s us ws _ h1 h2 => FunD.bindsK F ks (fun us ws => pick ix (us ++ ws)) h s us ws h1 h2, fun r r2 => pick_vals (r.append r2) ix⟩, fun _ _ _ _ _ _ d d2 => pick_pv (d.append d2) ix⟩
theorem Bnd.kw0 (F : FunD K x qual params body scope [] kws f fd) (ix : List Nat) (ms : List (Str × V)) (pms : List PV) (hk : kws ≠ []) (hms : ∀ q ∈ ms, q ∈ kws) (hpm : ∀ ρ H, PVrs K ρ H pms (ms.map (·.2)))
    (h : ∀ (D : Addr) (doc pm : Value) (an : Option Addr) (cdv ct : Value) (us mv ws : List Value), us.length = n → mv.length = ms.length → ws.length = ks.length →
      KwChain D ((ms.map (·.1)).zip mv) (bindArgs (PySem.W.fnOf x qual params body scope .none (.ref D) doc pm an cdv ct) ⟨us, ks.zip ws⟩) (ps.zip (pick ix (us ++ (mv ++ ws))))) : Bnd K fd ps n ks (fun as bs => pick ix (as ++ (pms ++ bs))) := by
  obtain ⟨mv, B⟩ := F.kbinds0 n ks ms (fun {α} a b c => pick ix (a ++ (b ++ c))) hk hms (fun r1 r2 r3 => pick_vals (r1.append (r2.append r3)) ix) h
  exact ⟨_, _, B, fun ρ H _ _ _ _ d d2 => pick_pv (d.append ((hpm ρ H).append d2)) ix⟩
theorem Bnd.dfl (F : FunD K x qual params body scope dvs kws f fd) (ix : List Nat) (pds : List PV) (hd : dvs ≠ []) (hpd : ∀ ρ H, PVrs K ρ H pds dvs)
    (h : ∀ (T : Addr) (kV doc pm : Value) (an : Option Addr) (cdv ct : Value) (us its ws : List Value), us.length = n → its.length = dvs.length → ws.length = ks.length →
      ∃ k, bindArgs (PySem.W.fnOf x qual params body scope (.ref T) kV doc pm an cdv ct) ⟨us, ks.zip ws⟩ = seqItems? (.ref T) >>= k ∧ k (some its.toArray) = pure (ps.zip (pick ix (us ++ (its ++ ws))))) : Bnd K fd ps n ks (fun as bs => pick ix (as ++ (pds ++ bs))) := by
  obtain ⟨its, B⟩ := F.kbindsD n ks (fun {α} a b c => pick ix (a ++ (b ++ c))) hd (fun r1 r2 r3 => pick_vals (r1.append (r2.append r3)) ix) h
  exact ⟨_, _, B, fun ρ H _ _ _ _ d d2 => pick_pv (d.append ((hpd ρ H).append d2)) ix⟩
end
/-- the module's def f; a class's method -/
abbrev FnQ (K : Fg) (x qual : Str) (st : Stmt) (dvs : List V) (kws : List (Str × V)) (f : Addr) (fd : FuncData) : Prop := FunD K x qual (defArgs st) (defBody st) (defScope st) dvs kws f fd
def bigN : Nat := 1000000
end
end PL
set_option Elab.async false
set_option linter.all false
set_option maxRecDepth 100000
set_option maxHeartbeats 1000000
set_option autoImplicit false
namespace PL
open PySem PySem.Spec PyProof.Rows L2 LW
noncomputable section
section
variable {X : Cx} {W : WX} {P : Program} {w : World} {K : Fg} {mg : Str → Option Value} {base : Heap} {N : List Str} {qual : Str} {scope : Scope} {f : Addr} {cdv : Value} {A : Around} {outer : List PySem.Env} {s : Shared} {H : Hp} {E : XK}
theorem pvx (i : Nat) {x : Str} {pos : Pos} (hN : X.N[i]? = some x := by rfl) (hv : Vis X.env.scope x := by first | exact Or.inl rfl | exact Or.inr (Or.inl rfl) | exact Or.inr (Or.inr rfl)) (hd : (x == ("__debug__" : Str)) = false := by decide) (hcd : (x == ("__classdict__" : Str)) = false := by decide) : PX X W (.Name x pos) (mVar i) := px_var hN hv hd hcd
theorem tk_cx : L2N.Takes (cxOf (L2N.CX P w) P w K mg base N qual scope f cdv A outer s H E) (fun cls d _ H => E cls d H) := L2N.takes_of rfl rfl rfl rfl
theorem hp_cx : PassesOwn (model P w) (cxOf (L2N.CX P w) P w K mg base N qual scope f cdv A outer s H E).A (cxOf (L2N.CX P w) P w K mg base N qual scope f cdv A outer s H E).env (cxOf (L2N.CX P w) P w K mg base N qual scope f cdv A outer s H E).xe := passes_of rfl
theorem hu65_of {A : Around} {k : Nat} (hr : Room k A) : A.units + 65 < cLine := by have := hr.un; omega
end
end
end PL
set_option Elab.async false
set_option linter.all false
set_option maxRecDepth 100000
set_option maxHeartbeats 1000000
set_option autoImplicit false
namespace PL
open PySem PySem.Spec PyProof.Rows L2 LW
noncomputable section
/-- reading m off the class at C gives a -/
structure CAt (K : Fg) (C : Addr) (m : Str) (a : Value) : Prop where
  ga : PySem.W.specialIn K (.ref C) "__getattribute__" = some (some (.builtin "type.__getattribute__"))
  ty : PySem.W.typeIn K (.ref C) = some (.type "type")
  rd : PySem.W.readsIn K C (.type "type") = true
  fd : PySem.W.findCls K (.ref C) (.type "type") m = some (.val a)
  hh : PySem.W.handedIn a = true
structure CalK (P : Program) (w : World) (K : Fg) (mg : Str → Option Value) (base : Heap) (k : Nat) (x m : Str) (n : Nat) (ks : List Str) (pf : PF) (gP : List PV → List PV → List PV) : Prop where
  ex : ∃ C f fd ps, FnOk P w K mg base (L2N.CX P w) k f fd ps (spOf K pf) ∧ mg x = some (.ref C) ∧ CAt K C m (.ref f) ∧ PySem.W.keepIn K (.ref f) = true ∧ Bnd K fd ps n ks gP
section
variable {X : Cx} {W : WX} {K : Fg} {k j n kn : Nat} {x c m : Str} {ks : List Str} {pf : PF} {gP : List PV → List PV → List PV} {e o : Expr} {es : List Expr} {kws : List Keyword} {p pos apos : Pos} {ma mk : Mx (List PV)} {mo : Mx PV}
theorem getmeth_cls {pins : List (Addr × Obj)} {σ : L2.St} {H : Hp} {s : Shared} {C : Addr} {a : Value} {pl : Sem Bool} {Q : Value × List Value → Shared → Prop} {E : Value → Shared → Prop} {A : Around} (I : Inv X pins σ H s) (c : CAt X.K C m a) (h : ∀ s', Inv X pins σ H s' → Q (a, []) s') :
    wpAny (model X.prog X.w) A (getMethod (.ref C) m pl) Q E s := by
  obtain ⟨mm, fr⟩ := I.fr
  exact PySem.W.method_of_cls fr I.ok.mod.kin c.ga (PySem.W.cls_val fr I.ok.mod.kin c.ty c.rd c.fd c.hh (h _ (I.tok _)))
theorem px_clsCall {pl : Sem Bool} (cm : CalK X.prog X.w X.K X.mg X.base k x m n ks pf gP) (tk : L2N.Takes X W) (hr : Room j X.A) (hk : k ≤ j) (hg : Gl X x) (ha : PXa X W (e :: es) ma) (hkw : PXk X W kws mk)
    (hall : (backToKw pos (keywordEach kws X.env)).all (·.1.isSome) = true := by rfl) (hks : (backToKw pos (keywordEach kws X.env)).filterMap (·.1) = ks := by rfl)
    (hdb : (x == ("__debug__" : Str)) = false := by decide) (hst : starEach (e :: es) X.env = (false, eval e X.env) :: starEach es X.env := by rfl)
    (hpl : ((backTo pos (starEach (e :: es) X.env)).any (·.1) || (backToKw pos (keywordEach kws X.env)).any (·.1.isNone)) = false := by rfl)
    (ht : eval (.Call (.Attribute (.Name x p) m apos) (e :: es) kws pos) X.env = (do
      let ov ← eval (.Name x p) X.env
      standAt apos.atName
      let (f, first) ← holding [ov] (getMethod ov m pl)
      callWith pos f first (backTo pos (starEach (e :: es) X.env)) (backToKw pos (keywordEach kws X.env))) := by rfl) (hkn : ks.length = kn := by rfl) :
    PX X W (.Call (.Attribute (.Name x p) m apos) (e :: es) kws pos) (mCall pf gP n kn ma mk) := by
  subst hkn
  obtain ⟨C, f, fd, ps, F, hm, hc, hkp, ⟨g, gV, B, hB⟩⟩ := cm.ex
  refine .of (te := tCallNSD n ks.length (spOf X.K pf) gV (WE W) (rG (RVs X.K) X.K W ma) (rG (RVs X.K) X.K W mk)) ⟨fun pins s σ H Q I h => ?_⟩ fun ρ hs env σ st H Q r p => ?_
  · refine PySem.W.methodCall_KW (pl := pl) (ld_glob I hg hm ?_ hdb) ht
    refine getmeth_cls I hc fun s1 I1 => ?_
    refine PySem.W.callWith_KW (first := []) (h₀ := X.base) I.ok.mod.kin hkp hall (thn (ha.pe.run pos pins s1 σ H _ I1 h) fun us s2 ⟨vs, H2, I2, r, q2⟩ => ?_) hpl hst
    refine thn (hkw.pe.run pos pins s2 σ H2 _ I2 q2) fun ws s3 ⟨zs, H3, I3, rz, l1, l2, q3⟩ => ⟨I3.kIn, ?_⟩
    rw [hks]
    exact run_fnNSD F (hr.mono hk) B (L2N.passAt tk σ) I3 r rz l1 l2 q3
  · refine ⟨ρ, hs, env, st, r, PostG.bnd p fun xs s1 _ p1 ρ1 H1 vs r1 d1 => ?_⟩
    obtain ⟨l, l1, l2⟩ := hold_all d1
    refine ⟨ρ1, l ++ hs, env, s1, r1.more l1, PostG.bnd (p1.held fun q hq => List.mem_append_right _ hq) fun zs s2 _ p2 ρ2 H2 ws r2 d2 => ?_⟩
    have d1' := l2 ρ2 H2 fun e he => r2.h e (List.mem_append_left _ he)
    by_cases hn : xs.length = n ∧ zs.length = ks.length
    · rw [if_pos hn] at p2
      exact ⟨by rw [d1'.len]; exact hn.1, by rw [d2.len]; exact hn.2, sp_go r2 (hB ρ2 H2 _ _ _ _ d1' d2) p2⟩
    · rw [if_neg hn] at p2; exact p2.elim
/-! ### own exceptions -/
/-- B.__init__(self, ..), B an own class over ValueError without an own __init__ -/
theorem pe_leinit {ta : TA} {pl : Sem Bool} {C0 : Addr} (hg : Gl X x) (hm : X.mg x = some (.ref C0)) (hc : CAt X.K C0 "__init__" (.builtin "ValueError.__init__")) (ha : PA X (e :: es) ta) (hdb : (x == ("__debug__" : Str)) = false := by decide)
    (ht : eval (.Call (.Attribute (.Name x p) "__init__" apos) (e :: es) [] pos) X.env = (do
      let ov ← eval (.Name x p) X.env
      standAt apos.atName
      let (f, first) ← holding [ov] (getMethod ov "__init__" pl)
      callWith pos f first (backTo pos (starEach (e :: es) X.env)) (backToKw pos (keywordEach [] X.env))) := by rfl)
    (he : starEach (e :: es) X.env = (false, eval e X.env) :: starEach es X.env := by rfl) (hpl : (backTo pos (starEach es X.env)).any (·.1) = false := by rfl) :
    PE X (.Call (.Attribute (.Name x p) "__init__" apos) (e :: es) [] pos) (tVeI X.K ta) := by
  refine ⟨fun pins s σ H Q I h => ?_⟩
  refine PySem.W.methodCall_KW (pl := pl) (ld_glob I hg hm ?_ hdb) ht
  refine getmeth_cls I hc fun s1 I1 => ?_
  show wpAny _ _ (callWith pos (Value.builtin "ValueError.__init__") [] (backTo pos (starEach (e :: es) X.env)) []) _ _ _
  refine PyProof.Rows.callWith_method1 (thn (ha.run pos pins _ σ H _ I1 h) fun us s1 ⟨vs, H1, I1, r1, a, C, ws, ev, hl, T, ea, q⟩ => ?_) he hpl
  subst ev
  cases r1 with
  | @cons _ u0 _ ur ra rw' =>
    obtain rfl : u0 = Value.ref a := ra
    have hlen : ur.length ≤ sizeLine := by
      rw [← Paired.length rw', sizeLine_eq]
      omega
    exact oinit_ok T I1 ea hlen fun s' J => ⟨.non, H1, J, rfl, q⟩
end
end
end PL
set_option Elab.async false
set_option linter.all false
set_option maxRecDepth 100000
set_option maxHeartbeats 1000000
set_option autoImplicit false
namespace PL
open PySem PySem.Spec PyProof.Rows L2 LW
noncomputable section
/-- what an own error's __init__ promises: its one field is set -/
def spE (K : Fg) (f : Str) : Sp := fun vs H Q _ => ∃ (a C : Addr) (y : V), vs = [.ref a, y] ∧ OexC K C ∧ PySem.W.findIn K (.ref C) f = some none ∧ H a = some (exo a C none) ∧
  ∀ dx, H dx = none → dx ≠ a → Q .non (upd (upd H dx (exd dx [(f, y)])) a (exo a C (some dx)))
def tExcI (K : Fg) (f txt : Str) : TS := tSeq (tDrop (tVeI K (tCons (tVar 0) (tCons (tC (.str txt)) tNil)))) (tOst K f (tVar 0) (tVar 1))
section
variable {P : Program} {w : World} {K : Fg} {mg : Str → Option Value} {base : Heap} {x qual : Str} {params : Arguments} {body : List Stmt} {scope : Scope} {kws : List (Str × V)} {f : Addr} {fd : FuncData}
theorem exc_fn {N ps : List Str} {fl txt : Str} {k : Nat} (F : FunD K x qual params body scope [] kws f fd) (S : FnScope N ps scope) (hps : ps.length = 2) (hN : N.length = 2)
    (hbody : ∀ (cdv : Value) (A : Around) (outer : List PySem.Env) (s : Shared) (H : Hp) (E : XK), Room k (A.deeper (envOfC qual scope s.heap.objs.size f cdv)) →
      PSs (cxOf (L2N.CX P w) P w K mg base N qual scope f cdv A outer s H E) body (tExcI K fl txt)) : FnOk P w K mg base (L2N.CX P w) (k + 1) f fd ps (spE K fl) := by
  refine F.ok S (fun vs H Q E h => ?_) fun cdv A outer s H vs Q E hr h => ⟨_, hbody cdv A outer s H E hr, ?_⟩
  · obtain ⟨a, C, y, rfl, _⟩ := h; exact hps.symm
  · obtain ⟨a, C, y, rfl, T, hno, ha, q⟩ := h
    have e1 : (L2.start N [.ref a, y])[0]? = some (some (.ref a)) := rfl
    have e2 : (L2.start N [.ref a, y])[1]? = some (some y) := rfl
    refine ⟨.ref a, e1, a, C, [.str txt], rfl, (by show 1 ≤ 1000; decide), T, ha, ?_⟩
    refine ⟨y, e2, .ref a, e1, a, C, rfl, T, hno, .inl ⟨ha, fun dx hd ne => q dx hd ne⟩⟩
end
section
variable {X : Cx} {CX : CXT} {x : Str} {C fI : Addr} {k : Nat} {fd : FuncData} {ps : List Str} {sp : Sp} {e : Expr} {es : List Expr} {ta : TA} {p pos : Pos}
/-- an own exception is made, its context None -/
theorem pmk_oexN (T : OexC X.K C) (iC : PySem.W.findIn X.K (.ref C) "__init__" = some (some (.ref fI))) (tI : PySem.W.typeIn X.K (.ref fI) = some (.type "function")) (FI : FnOk X.prog X.w X.K X.mg X.base CX k fI fd ps sp) (rm : Room (k + 1) X.A) (bs : Binds X.K fd ps [])
    (no : Passes CX X (fun _ _ _ => False)) (gl : Gl X x) (at_ : X.mg x = some (.ref C)) (as : PA X (e :: es) ta) (nd : (x == ("__debug__" : Str)) = false := by decide)
    (s1 : starEach (e :: es) X.env = (false, eval e X.env) :: starEach es X.env := by rfl) (s2 : (backTo pos (starEach es X.env)).any (·.1) = false := by rfl) : L2N.PMk X (.Call (.Name x p) (e :: es) [] pos) (tMkO C sp [] ta) := fun pins s σ H Q I h => by
  obtain ⟨_, _, _, _, bm, _, _, _, _, _, _, _, _, _, _, hC, hbm⟩ := T.cls
  refine wpAny_Call_Name_kw (ld_glob I gl at_ (PySem.W.callWith_K (h₀ := X.base) I.ok.mod.kin T.kC (thn (as.run pos pins s σ H _ I h) fun us sA ⟨vs, H1, J, rv, small, q⟩ => ⟨J.kIn, ?_⟩) s1 s2) nd)
  obtain ⟨hp, gs, dr, tk, os⟩ := sA
  generalize ez : hp.objs.size + 1 = z
  have up1 : hp.objs.size ≤ z := by omega
  have q := q z (J.hok.fresh up1)
  rw [List.append_nil] at q
  generalize eh : (hp.push (PySem.W.kdv_tup us)).push (PySem.HandSPX.excO C hp.objs.size) = hq
  have keep : ∀ b o, hp.get? b = some o → hq.get? b = some o := fun b o y => by rw [← eh]; exact Heap.get?_push_of_some _ (Heap.get?_push_of_some _ y)
  have there : hq.get? z = some (PySem.HandSPX.excO C hp.objs.size) := by rw [← eh, ← ez]; heap_get
  have J2 : Inv X pins σ (upd H1 z (exo z C none)) ⟨hq, gs, dr, tk, os⟩ := J.laid (t' := tk) keep up1 (exo_ok there)
  have rv2 : Vals (V.ref z :: vs) (Value.ref z :: us) := .cons rfl rv
  have len : (Value.ref z :: us).length = ps.length := by rw [← FI.len _ _ _ _ q]; exact rv2.length.symm
  have b2 := bs _ (Value.ref z :: us) J2.kIn (by rw [List.append_nil]; exact len)
  rw [List.append_nil] at b2
  have run := FI.run _ X.stack _ _ ⟨Value.ref z :: us, []⟩ (Value.ref z :: us) _ _ (fun _ _ _ => False) (rm.make C us []) (J2.env0.make C us []) b2 rv2 q
  subst eh ez
  refine wpAny_call (PySem.HandSPX.call_own F.excBase_ValueError (fun Y => PySem.HandSPX.refsVE_contains Y bm hbm) (J.kIn _ _ hC) (PySem.W.looks_findIn J.kIn iC) (fun me => PySem.W.bind_fn J.kIn me tI) (by show us.length ≤ sizeLine; rw [← rv.length, sizeLine_eq]; omega) (codeAny_mono run fun r sB hr => ?_))
  match r, hr with
  | .error er, hr => exact no pins σ _ _ er sB J2 hr
  | .ok (.ret u), hr =>
    obtain ⟨v, H2, o2, bare, un, hok, ru, rfl, d, fs, ea, ed, nw, q2⟩ := hr
    obtain ⟨h2, g2, d2, t2, os'⟩ := sB
    obtain ⟨t0, G, JG, kG, gz, oz, nz⟩ := mk_end0 (d2 := d2) (t2 := t2) J up1 keep un hok o2 bare ea ed nw
    exact ⟨ru, _, _, _, ⟨G, g2, d2, t2, os'⟩, _, .ref C, some d, rfl, JG, kG, gz, oz, ⟨rfl, rfl, fun vs hv => by cases hv; rfl⟩, rfl, rfl, nz, rfl, bare, raises_own T.exC T.tyC, q2⟩
  | .ok .next, hr => exact False.elim hr
  | .ok .brk, hr => exact False.elim hr
  | .ok .cont, hr => exact False.elim hr
end
structure ExcK (P : Program) (w : World) (K : Fg) (mg : Str → Option Value) (base : Heap) (k : Nat) (c : Str) : Prop where
  ex : ∃ fI fd ps, OexC K (He.ga K c) ∧ PySem.W.findIn K (.ref (He.ga K c)) "__init__" = some (some (.ref fI)) ∧ PySem.W.typeIn K (.ref fI) = some (.type "function") ∧
    FnOk P w K mg base (L2N.CX P w) k fI fd ps (spE K (fieldOf c)) ∧ Binds K fd ps [] ∧ mg c = some (.ref (He.ga K c)) ∧ PySem.W.findIn K (.ref (He.ga K c)) (fieldOf c) = some none
def mRaise (c : Str) (a : Mx PV) : Ms := fun env st => (a env st).stm env fun v s1 => .exc c v env s1
section
variable {X : Cx} {W : WX} {K : Fg} {k j : Nat} {c : Str} {e : Expr} {p pos pos' : Pos} {m : Mx PV}
theorem pxs_raise (R : ExcK X.prog X.w X.K X.mg X.base k c) (hc : X.calm = true) (tk : L2N.Takes X W) (hr : Room j X.A) (hk : k + 1 ≤ j) (hg : Gl X c) (he : PX X W e m) (hfl : fieldOf c ≠ "" := by decide)
    (hdb : (c == ("__debug__" : Str)) = false := by decide) (hst : starEach (e :: []) X.env = (false, eval e X.env) :: starEach [] X.env := by rfl) (hpl : (backTo pos (starEach [] X.env)).any (·.1) = false := by rfl) :
    PXS X W (.Raise (some (.Call (.Name c p) [e] [] pos)) none pos') (mRaise c m) := by
  obtain ⟨fI, fd, ps, T, iC, tI, F, B, hm, hno⟩ := R.ex
  have mk := pmk_oexN (p := p) T iC tI F (hr.mono hk) B (L2N.passes_call tk fun _ _ _ _ h => h.elim) hg hm (pa_cons he.pe pa_nil hst) hdb hst hpl
  refine .of (L2N.ps_raise hc tk mk) fun ρ hs env σ st H D r p => ?_
  refine ⟨ρ, hs, env, st, r, PostG.stm (σ := σ) p fun x s1 _ p1 ρ1 H1 y r1 d1 => ?_⟩
  refine ⟨by show 1 ≤ 1000; decide, fun a ha => ⟨a, He.ga X.K c, y, rfl, T, hno, upd_same, fun dx hd ne => ⟨rfl, dx, [(fieldOf c, y)], upd_same, ?_, ?_, ?_⟩⟩⟩
  · rw [upd_ne ne]; exact upd_same
  · rw [upd_ne ne] at hd; exact hd
  · have hd1 : H1 dx = none := by rw [upd_ne ne] at hd; exact hd
    have e1 : upd (del (upd (upd (upd H1 a (exo a (He.ga X.K c) none)) dx (exd dx [(fieldOf c, y)])) a (exo a (He.ga X.K c) (some dx))) a) dx (.xd [(fieldOf c, y)]) = upd H1 dx (.xd [(fieldOf c, y)]) := by
      funext b
      by_cases hb : b = dx
      · rw [hb, upd_same, upd_same]
      · rw [upd_ne hb, upd_ne hb]
        by_cases hb2 : b = a
        · rw [hb2, del_same, ha]
        · rw [del_ne hb2, upd_ne hb2, upd_ne hb, upd_ne hb2]
    rw [e1]
    have ex := Evl.Ex.new (o := .xd [(fieldOf c, y)]) hd1
    exact p1 ρ1 σ _ (some dx) y (r1.ex ex) (.inr ⟨hfl, dx, rfl, upd_same⟩) (d1.mono (MV.ex ex))
end
end
end PL
set_option Elab.async false
set_option linter.all false
set_option maxRecDepth 100000
set_option maxHeartbeats 1000000
set_option autoImplicit false
namespace PL
open PySem PySem.Spec PyProof.Rows L2 LW
noncomputable section
/-- the same of what is held -/
def XHs (c : Str) (d : Option Addr) (y : V) (hs : List HE) : Prop := (fieldOf c = "" ∧ d = none) ∨ (fieldOf c ≠ "" ∧ ∃ dd, d = some dd ∧ .hid dd (.xd [(fieldOf c, y)]) ∈ hs)
theorem XHs.more {c : Str} {d : Option Addr} {y : V} {hs hs' : List HE} (h : XHs c d y hs) (hh : ∀ q ∈ hs, q ∈ hs') : XHs c d y hs' := h.imp id fun ⟨a, dd, b, e⟩ => ⟨a, dd, b, hh _ e⟩
/-- what is known of the caught exception: class c, its field's worth x; slot i has it -/
def HX (K : Fg) (i : Nat) (a : Addr) (cls : Value) (d : Option Addr) (c : Str) (x : PV) (hs : List HE) (σ : L2.St) : Prop :=
  ∃ y, cls = .ref (He.ga K c) ∧ XHs c d y hs ∧ .val x y ∈ hs ∧ σ[i]? = some (some (.ref a))
def rGh {α β : Type} (R : RA α β) (K : Fg) (W : WX) (i : Nat) (a : Addr) (cls : Value) (d : Option Addr) (m : Str → PV → Mx α) : L2.St → Hp → (β → Hp → Prop) → Prop := fun σ H Q => ∃ ρ hs env st c x, HX K i a cls d c x hs σ ∧ Rel K ρ hs env σ st H ∧ PostG R K W hs env σ Q (m c x env st)
def rSh (K : Fg) (W : WX) (i : Nat) (a : Addr) (cls : Value) (d : Option Addr) (m : Str → PV → Ms) : TS := fun D σ H => ∃ ρ hs env st c x, HX K i a cls d c x hs σ ∧ Rel K ρ hs env σ st H ∧ PostS K W hs D (m c x env st)
structure PXh (X : Cx) (W : WX) (i : Nat) (a : Addr) (cls : Value) (d : Option Addr) (e : Expr) (m : Str → PV → Mx PV) : Prop where
  pe : PE X e (rGh (RV X.K) X.K W i a cls d m)
structure PXah (X : Cx) (W : WX) (i : Nat) (a : Addr) (cls : Value) (d : Option Addr) (es : List Expr) (m : Str → PV → Mx (List PV)) : Prop where
  pe : PA X es (rGh (RVs X.K) X.K W i a cls d m)
structure PXBh (X : Cx) (W : WX) (i : Nat) (a : Addr) (cls : Value) (d : Option Addr) (b : List Stmt) (m : Str → PV → Ms) : Prop where
  pe : PSs X b (rSh X.K W i a cls d m)
section
variable {X : Cx} {W : WX} {K : Fg} {i : Nat} {a : Addr} {cls : Value} {d : Option Addr}
theorem HX.more {c : Str} {x : PV} {hs hs' : List HE} {σ : L2.St} (h : HX K i a cls d c x hs σ) (hh : ∀ q ∈ hs, q ∈ hs') : HX K i a cls d c x hs' σ := let ⟨y, h1, h2, h4, h5⟩ := h; ⟨y, h1, h2.more hh, hh _ h4, h5⟩
theorem pxh_of {e : Expr} {m : Mx PV} (h : PX X W e m) : PXh X W i a cls d e (fun _ _ => m) := ⟨⟨fun pins s σ H Q I q => h.pe.run pins s σ H Q I (let ⟨ρ, hs, env, st, _, _, _, r, p⟩ := q; ⟨ρ, hs, env, st, r, p⟩)⟩⟩
theorem pxah_nil : PXah X W i a cls d [] (fun _ _ => mNil) := ⟨⟨fun pos pins s σ H Q I q => pa_nil.run pos pins s σ H Q I (let ⟨ρ, hs, env, st, _, _, _, r, p⟩ := q; p ρ H [] r rfl)⟩⟩
theorem pxah_cons {e : Expr} {es : List Expr} {m : Str → PV → Mx PV} {n : Str → PV → Mx (List PV)} (h : PXh X W i a cls d e m) (g : PXah X W i a cls d es n) (hs : starEach (e :: es) X.env = (false, eval e X.env) :: starEach es X.env := by rfl) :
    PXah X W i a cls d (e :: es) (fun c x => mCons (m c x) (n c x)) := ⟨⟨fun pos pins s σ H Q I q => (pa_cons h.pe g.pe hs).run pos pins s σ H Q I (by
  obtain ⟨ρ, hs, env, st, c, x, hx, r, p⟩ := q
  refine ⟨ρ, hs, env, st, c, x, hx, r, PostG.bnd p fun y s1 _ p1 ρ1 H1 v r1 d1 => ?_⟩
  refine ⟨ρ1, .val y v :: hs, env, s1, c, x, hx.more fun q hq => List.mem_cons_of_mem _ hq, r1.hold d1, PostG.bnd p1.hold fun ys s2 _ p2 ρ2 H2 vs r2 d2 => ?_⟩
  exact p2 ρ2 H2 _ r2 (.cons r2.top d2))⟩⟩
theorem pxh_tup {es : List Expr} {x1} {pos : Pos} {m : Str → PV → Mx (List PV)} (h : PXah X W i a cls d es m) : PXh X W i a cls d (.Tuple es x1 pos) (fun c x => mTup (m c x)) := ⟨⟨fun pins s σ H Q I q => (pe_tup h.pe).run pins s σ H Q I (by
  obtain ⟨ρ, hs, env, st, c, x, hx, r, p⟩ := q
  refine ⟨ρ, hs, env, st, c, x, hx, r, PostG.bnd p fun ys s1 _ p1 ρ1 H1 vs r1 d1 => ?_⟩
  by_cases hl : ys.length ≤ sizeLine
  · rw [if_pos hl] at p1
    refine ⟨by rw [d1.len]; exact hl, fun q hq => ?_⟩
    obtain ⟨r2, d2⟩ := r1.tup hq d1
    exact p1 ρ1 _ _ r2 d2
  · rw [if_neg hl] at p1; exact p1.elim)⟩⟩
/-- the caught exception's field -/
structure ExF (K : Fg) (cs : List Str) : Prop where
  xf : ∀ c ∈ cs, XfC K (He.ga K c)
  no : ∀ c ∈ cs, PySem.W.findIn K (.ref (He.ga K c)) (fieldOf c) = some none
def mXf (cs : List Str) (f : Str) : Str → PV → Mx PV := fun c x => if c ∈ cs ∧ fieldOf c = f then mC x else mNeverE
theorem pxh_fld {cs : List Str} {n f : Str} {np pos : Pos} {oe : Obj} {pn : List (Addr × Obj)} (hE : ExF X.K cs) (hz : Zc cls d oe) (hf : ∃ vs, oe.data = .fields vs) (hN : X.N[i]? = some n := by rfl)
    (hv : Vis X.env.scope n := by first | exact Or.inl rfl | exact Or.inr (Or.inl rfl) | exact Or.inr (Or.inr rfl)) (hd : (n == ("__debug__" : Str)) = false := by decide) (hcd : (n == ("__classdict__" : Str)) = false := by decide)
    (hb : attributeBase (.Name n np) f X.env (eval (.Name n np) X.env) = eval (.Name n np) X.env := by rfl) (hfne : f ≠ "" := by decide) : PXh (X.suite a ((a, oe) :: pn)) W i a cls d (.Attribute (.Name n np) f pos) (mXf cs f) := ⟨⟨fun pins s σ H Q I q => by
  obtain ⟨ρ, hs, env, st, c, x, ⟨y, h1, h2, h4, h5⟩, r, p⟩ := q
  unfold mXf at p
  by_cases hc : c ∈ cs ∧ fieldOf c = f
  · rw [if_pos hc] at p
    obtain ⟨hc1, rfl⟩ := hc
    refine (pe_xf (X := X) (n := fieldOf c) (hE.xf c hc1) (hE.no c hc1) hz hf (pe_var (X := X.suite a ((a, oe) :: pn)) hN hv hd hcd) hb).run pins s σ H Q I ?_
    obtain ⟨z, _⟩ | ⟨_, dd, h2, h3⟩ := h2
    · exact absurd z hfne
    refine ⟨.ref a, h5, rfl, h1, dd, _, y, h2, (r.h _ h3).1, ?_, p ρ H y r (r.h _ h4)⟩
    simp [List.lookup]
  · rw [if_neg hc] at p; exact p.elim⟩⟩
theorem pxbh_set {j : Nat} {y : Str} {e : Expr} {m : Str → PV → Mx PV} {pos' pos : Pos} (hN : X.N.Nodup) (hj : X.N[j]? = some y) (hx : Loc X.env.scope y) (he : PXh X W i a cls d e m) (hs : swapsWith e (some (.Name y pos')) pos.line X.env = pure false := by rfl) (hf : X.fn y = true ∨ X.env.scope.names.lookup y = some .local := by first | exact .inl rfl | exact .inr rfl | assumption) :
    PXBh X W i a cls d [.Assign [.Name y pos'] e pos] (fun c x => mSet j (m c x)) := ⟨⟨fun pins s σ H D I q => (pss_one (ps_set hN hj hx he.pe hs hf)).run pins s σ H D I (by
  obtain ⟨ρ, hs, env, st, c, x, hx, r, p⟩ := q
  exact ⟨ρ, hs, env, st, c, x, hx, r, PostG.stm (σ := σ) p fun v s1 _ p1 ρ1 H1 w r1 d1 => p1 ρ1 _ H1 (r1.set d1)⟩)⟩⟩
end
end
end PL
set_option Elab.async false
set_option linter.all false
set_option maxRecDepth 100000
set_option maxHeartbeats 1000000
set_option autoImplicit false
namespace PL
open PySem PySem.Spec PyProof.Rows L2 LW
noncomputable section
/-- the classes that raise, and which stands under which -/
structure ExM (K : Fg) (cs : List Str) (sub : Str → Str → Bool) (cn : Str) : Prop where
  m : ∀ c ∈ cs, PySem.W.exmOne K (.ref (He.ga K c)) (.ref (He.ga K cn)) = some (sub c cn)
def Fl.unset (i : Nat) : Fl → Fl
  | .nx env st => .nx (env.set i none) st
  | .bk env st => .bk (env.set i none) st
  | .ct env st => .ct (env.set i none) st
  | .rt v st => .rt v st
  | _ => .bad
def mTryAs (cs : List Str) (sub : Str → Str → Bool) (cn : Str) (i : Nat) (m : Ms) (ms : Str → PV → Ms) : Ms := fun env st => match m env st with
  | .exc c x env1 st1 => if c ∈ cs ∧ i < env1.length then (if sub c cn = true then (ms c x (env1.set i none) st1).unset i else .exc c x env1 st1) else .bad
  | r => r
def mTryOnly (cs : List Str) (sub : Str → Str → Bool) (cn : Str) (m ms : Ms) : Ms := fun env st => match m env st with
  | .exc c x env1 st1 => if c ∈ cs then (if sub c cn = true then (match ms env1 st1 with
      | .exc _ _ _ _ => .bad
      | r => r) else .exc c x env1 st1) else .bad
  | r => r
section
variable {X : Cx} {W : WX} {K : Fg} {i : Nat}
theorem RelS.notxd {ρ : List Addr} {st : Store} {H : Hp} (r : RelS K ρ st H) {D : Addr} {fs : List (Str × V)} (h : H D = some (.xd fs)) : D ∉ ρ := fun hm => by
  obtain ⟨j, hj, e⟩ := List.mem_iff_getElem.mp hm
  have ob := r.ob j _ D (List.getElem?_eq_getElem (by rw [← r.len]; exact hj)) (by rw [List.getElem?_eq_getElem hj, e])
  generalize st[j]'(by rw [← r.len]; exact hj) = o at ob
  cases o with
  | lst xs => obtain ⟨vs, h1, _⟩ := ob; rw [h] at h1; cases h1
  | ro xs => obtain ⟨_, vs, h1, _⟩ := ob; rw [h] at h1; cases h1
  | dK lk kvs =>
    obtain ⟨ws, h1, _⟩ := ob
    cases lk with
    | true => obtain ⟨o, h1⟩ := h1; rw [h] at h1; cases h1
    | false => have h1 : H D = _ := h1; rw [h] at h1; cases h1
  | dT lk kvs =>
    obtain ⟨ws, h1, _⟩ := ob
    cases lk with
    | true => obtain ⟨o, h1⟩ := h1; rw [h] at h1; cases h1
    | false => have h1 : H D = _ := h1; rw [h] at h1; cases h1
  | ins c fs => obtain ⟨dx, gs, h1, _⟩ := ob; rw [h] at h1; cases h1
theorem Rel.unset {ρ : List Addr} {hs : List HE} {env : Env} {σ : L2.St} {st : Store} {H : Hp} (r : Rel K ρ hs env σ st H) (o : Option V) : Rel K ρ hs (env.set i none) (σ.set i o) st H := ⟨r.s, r.h, by rw [List.length_set, List.length_set]; exact r.el, fun j x h => by
  by_cases e : j = i
  · subst e
    by_cases hl : j < env.length
    · rw [List.getElem?_set_self hl] at h; cases h
    · rw [List.getElem?_eq_none (by rw [List.length_set]; omega)] at h; cases h
  · rw [List.getElem?_set_ne (Ne.symm e)] at h ⊢
    exact r.e j x h⟩
theorem Rel.pushX {ρ : List Addr} {hs : List HE} {env : Env} {σ : L2.St} {st : Store} {H : Hp} {c : Str} {d : Option Addr} {y : V} (r : Rel K ρ hs env σ st H) (hd : XD c H d y) : ∃ l, Rel K ρ (l ++ hs) env σ st H ∧ XHs c d y l := by
  rcases hd with h | ⟨h, dd, e, hd⟩
  · exact ⟨[], r, .inl h⟩
  · exact ⟨[.hid dd (.xd [(fieldOf c, y)])], r.push ⟨hd, r.s.notxd hd⟩, .inr ⟨h, dd, e, List.mem_cons_self⟩⟩
theorem pxs_tryAs {cs : List Str} {sub : Str → Str → Bool} {cn n : Str} {body suite : List Stmt} {b₀ : Stmt} {np pos pos' : Pos} {m : Ms} {ms : Str → PV → Ms} (hE : ExM X.K cs sub cn) (hs : X.stack = X.env :: X.outer) (hf : X.env.frame = some X.env.locals) (hN : X.N.Nodup) (hi : X.N[i]? = some n) (hln : X.env.kindOf n = some .local) (hc : Names X cn (.ref (He.ga X.K cn))) (tk : L2N.Takes X W)
    (hb : ∀ (W : WX) (pn : List (Addr × Obj)) (xe : Value → Shared → Prop), L2N.Takes (X.tr pn xe) W → PassesOwn (model X.prog X.w) X.A X.env xe → PXB (X.tr pn xe) W body m)
    (hsu : ∀ (a : Addr) (oe : Obj) (cls : Value) (d : Option Addr) (pn : List (Addr × Obj)), L2N.Zn cls d oe → (∃ vs, oe.data = .fields vs) → PXBh (X.suite a ((a, oe) :: pn)) W0 i a cls d (b₀ :: suite) ms) :
    PXS X W (.Try body [.ExceptHandler (some (.Name cn np)) (some n) (b₀ :: suite) pos'] [] [] pos) (mTryAs cs sub cn i m ms) := by
  have rule := L2N.ps_try_as (X := X) (i := i) (c := .ref (He.ga X.K cn)) (pos := pos) (pos' := pos') (np := np) (Wout := W) (tb := fun W => rS X.K W m) (ts := fun a cls d => rSh X.K W0 i a cls d ms) hs hf hN hi hln hc tk (fun W pn xe t p => (hb W pn xe t p).pe) (fun a oe cls d pn z q => (hsu a oe cls d pn z q).pe)
  refine .of rule fun ρ hs' env σ st H D r p => ⟨ρ, hs', env, st, r, ?_⟩
  unfold mTryAs at p
  cases e : m env st with
  | nx env1 s1 => rw [e] at p; exact p
  | rt v s1 => rw [e] at p; exact p
  | bk env1 s1 => rw [e] at p; exact p
  | ct env1 s1 => rw [e] at p; exact p
  | bad => rw [e] at p; exact p
  | exc c x env1 s1 =>
    rw [e] at p
    intro ρ1 σ1 H1 d y r1 hd dx
    dsimp only at p
    by_cases hcs : c ∈ cs ∧ i < env1.length
    · rw [if_pos hcs] at p
      refine ⟨sub c cn, hE.m c hcs.1, fun hb1 a ha => ?_, fun hb1 => ?_⟩
      · rw [if_pos hb1] at p
        have hsz : σ1.length = env1.length := r1.el.symm
        obtain ⟨l9, rl, hx9⟩ := (r1.hold dx).pushX hd
        have rs : ∀ q ∈ hs', q ∈ l9 ++ .val x y :: hs' := fun q hq => List.mem_append_right _ (List.mem_cons_of_mem _ hq)
        have r2 : Rel X.K ρ1 (l9 ++ .val x y :: hs') (env1.set i none) (σ1.set i (some (.ref a))) s1 H1 := rl.unset _
        by_cases hi1 : i < σ1.length
        · refine ⟨ρ1, _, _, s1, c, x, ⟨y, rfl, hx9.more (fun q hq => List.mem_append_left _ hq), List.mem_append_right _ List.mem_cons_self, by rw [List.getElem?_set_self hi1]⟩, r2, ?_⟩
          cases em : ms c x (env1.set i none) s1 with
          | nx env2 s2 => rw [em] at p; exact fun ρ2 σ2 H2 r3 => p ρ2 _ H2 ((r3.sub rs).unset none)
          | bk env2 s2 => rw [em] at p; exact fun ρ2 σ2 H2 r3 => p ρ2 _ H2 ((r3.sub rs).unset none)
          | ct env2 s2 => rw [em] at p; exact fun ρ2 σ2 H2 r3 => p ρ2 _ H2 ((r3.sub rs).unset none)
          | rt v s2 => rw [em] at p; exact fun ρ2 H2 v2 r3 => p ρ2 H2 v2 (r3.sub rs)
          | exc _ _ _ _ => rw [em] at p; exact p.elim
          | bad => rw [em] at p; exact p.elim
        · exact (hi1 (by rw [hsz]; exact hcs.2)).elim
      · rw [if_neg (by rw [hb1]; decide)] at p
        exact p ρ1 σ1 H1 d y r1 hd dx
    · rw [if_neg hcs] at p; exact p.elim
theorem pxs_tryOnly {cs : List Str} {sub : Str → Str → Bool} {cn : Str} {body suite : List Stmt} {b₀ : Stmt} {np pos pos' : Pos} {m ms : Ms} (hE : ExM X.K cs sub cn) (hs : X.stack = X.env :: X.outer) (hf : X.env.frame = some X.env.locals) (hc : Names X cn (.ref (He.ga X.K cn))) (tk : L2N.Takes X W)
    (hb : ∀ (W : WX) (pn : List (Addr × Obj)) (xe : Value → Shared → Prop), L2N.Takes (X.tr pn xe) W → PassesOwn (model X.prog X.w) X.A X.env xe → PXB (X.tr pn xe) W body m)
    (hsu : ∀ (a : Addr) (oe : Obj) (pn : List (Addr × Obj)), PXB (X.suite a ((a, oe) :: pn)) W0 (b₀ :: suite) ms) :
    PXS X W (.Try body [.ExceptHandler (some (.Name cn np)) none (b₀ :: suite) pos'] [] [] pos) (mTryOnly cs sub cn m ms) := by
  have rule := L2N.ps_try_many (X := X) (pos := pos) (Wout := W) (tb := fun W => rS X.K W m) (l := [(.ref (He.ga X.K cn), fun a cls d => rS X.K W0 ms)]) hs hf tk (fun W pn xe t p => (hb W pn xe t p).pe) (.cons (np := np) (pos' := pos') hc (fun a oe cls d pn z q => (hsu a oe pn).pe) .nil)
  refine .of rule fun ρ hs' env σ st H D r p => ⟨ρ, hs', env, st, r, ?_⟩
  unfold mTryOnly at p
  cases e : m env st with
  | nx env1 s1 => rw [e] at p; exact p
  | rt v s1 => rw [e] at p; exact p
  | bk env1 s1 => rw [e] at p; exact p
  | ct env1 s1 => rw [e] at p; exact p
  | bad => rw [e] at p; exact p
  | exc c x env1 s1 =>
    rw [e] at p
    intro ρ1 σ1 H1 d y r1 hd dx
    dsimp only at p
    by_cases hcs : c ∈ cs
    · rw [if_pos hcs] at p
      refine ⟨sub c cn, hE.m c hcs, fun hb1 a ha => ?_, fun hb1 => ?_⟩
      · rw [if_pos hb1] at p
        refine ⟨ρ1, hs', env1, s1, r1, ?_⟩
        cases em : ms env1 s1 with
        | nx env2 s2 => rw [em] at p; exact p
        | bk env2 s2 => rw [em] at p; exact p
        | ct env2 s2 => rw [em] at p; exact p
        | rt v s2 => rw [em] at p; exact p
        | exc _ _ _ _ => rw [em] at p; exact p.elim
        | bad => rw [em] at p; exact p.elim
      · rw [if_neg (by rw [hb1]; decide)] at p
        exact p ρ1 σ1 H1 d y r1 hd dx
    · rw [if_neg hcs] at p; exact p.elim
end
end
end PL
set_option Elab.async false
set_option linter.all false
set_option maxRecDepth 100000
set_option maxHeartbeats 1000000
set_option autoImplicit false
namespace PL
open PySem PySem.Spec PyProof.Rows L2 LW
noncomputable section
/-! ### d.update(d2), keys ints and texts -/
def rUpdate : V → List V → Hp → VK → Prop := fun x xs H Q => ∃ (a b : Addr) (kvs more : List (Key × V)), x = .ref a ∧ xs = [.ref b] ∧ a ≠ b ∧ H a = some (.dK kvs) ∧ H b = some (.dK more) ∧ kvs.length + more.length ≤ sizeLine ∧ Q .non (upd H a (.dK (mergeK kvs more)))
section
variable {X : Cx} {W : WX} {K : Fg}
theorem mt_update : MtR X "dict.update" rUpdate := by
  intro pins s σ H x xs v us Q I rx rxs h
  obtain ⟨a, b, kvs, more, rfl, rfl, hne, ha, hb, hl, q⟩ := h
  obtain rfl : v = Value.ref a := rx
  cases rxs with
  | cons rb rn =>
    cases rn
    rename_i u
    obtain rfl : u = Value.ref b := rb
    obtain ⟨z1, d1, vs1, k1, D1⟩ := dk_of I.hok ha
    obtain ⟨z2, d2, vs2, k2, D2⟩ := dk_of I.hok hb
    refine call_meetsIn PySem.F.slot_dict_update D1.typeIs PySem.F.entry_dict_update (PySem.F.args_dict_update_2 _ _) (meets_dict_update (mixKind X.prog X.w) a b hne d2) ⟨vs1, vs2, D1, D2, ?_, fun h' D' E' hs => ?_⟩
    · rw [← Paired.length k1, ← Paired.length k2]; exact hl
    · have he : ∃ q, h'.get? a = some q := let ⟨q, _, _, hq, _⟩ := D'; ⟨q, hq⟩
      have hz : (mergeK kvs more).length ≤ sizeLine := Nat.le_trans (length_mergeK more kvs) hl
      exact ⟨.non, _, d_write (t' := s.toks) I (by rw [ha]; exact True.intro) hs he (dk_new hz d1 (k2.merge k1) D'), rfl, q⟩
def mDUpdO (a b : Mx PV) : Mx PV := fun env st => (a env st).bnd fun x s1 => match x with
  | .ref i => (match s1[i]? with
    | some (.dK false _) => (b env s1).bnd fun y s2 => (match y with
      | .ref j => (match s2[i]?, s2[j]? with
        | some (.dK false kvs), some (.dK false more) => if i ≠ j ∧ kvs.length + more.length ≤ sizeLine then .ok .non (s2.set i (.dK false (pmerge kvs more))) else .bad
        | _, _ => .bad)
      | _ => .bad)
    | _ => .bad)
  | _ => .bad
theorem px_update {o e : Expr} {apos cpos : Pos} {m n : Mx PV} (ho : PX X W o m) (he : PX X W e n) (hbase : attributeBase o "update" X.env (eval o X.env) = eval o X.env := by rfl)
    (hfew : ((backTo cpos (starEach (e :: []) X.env)).all (fun x => !x.1) && (backToKw cpos (keywordEach [] X.env)).all (fun x => x.1.isSome)
      && decide ((e :: []).length + ([] : List Keyword).length + (if ([] : List Keyword).isEmpty then 0 else 1) < 30)) = true := by rfl)
    (hline : (apos.endLine == cpos.line) = true := by rfl) (hs : starEach (e :: []) X.env = (false, eval e X.env) :: starEach [] X.env := by rfl) (hplain : (backTo cpos (starEach [] X.env)).any (·.1) = false := by rfl) :
    PX X W (.Call (.Attribute o "update" apos) [e] [] cpos) (mDUpdO m n) := .of (pe_bm PySem.F.plainAttrs_dict PySem.F.slot_dict_update PySem.F.type_dict_update mt_update ho.pe (pa_cons he.pe pa_nil hs) hbase hfew hline hs hplain) fun ρ hs env σ st H Q r p => by
  refine ⟨ρ, hs, env, st, r, PostG.bnd p fun x s1 _ p1 ρ1 H1 u r1 d1 => ?_⟩
  cases x with
  | ref i =>
    dsimp only at p1
    cases e1 : s1[i]? with
    | none => rw [e1] at p1; exact p1.elim
    | some ob =>
      rw [e1] at p1
      cases ob with
      | dK lk kv0 =>
        cases lk with
        | true => exact p1.elim
        | false =>
          dsimp only at p1
          have hold := d1
          obtain ⟨a, ha, rfl⟩ := d1
          obtain ⟨ws0, k0, _⟩ := r1.s.ob _ _ _ e1 ha
          refine ⟨.inr (.inr (.inl ⟨rfl, .inl ⟨ws0, k0⟩⟩)), ρ1, .val (.ref i) (.ref a) :: hs, env, s1, r1.hold hold, PostG.bnd p1.hold fun y s2 _ p2 ρ2 H2 v r2 d2 => ?_⟩
          cases y with
          | ref j =>
            dsimp only at p2
            cases e2 : s2[i]? with
            | none => rw [e2] at p2; exact p2.elim
            | some ob2 =>
              cases e3 : s2[j]? with
              | none => rw [e2, e3] at p2; cases ob2 <;> first | exact p2.elim | (rename_i lk _; cases lk <;> exact p2.elim)
              | some ob3 =>
                rw [e2, e3] at p2
                cases ob2 with
                | dK lk2 kvs =>
                  cases lk2 with
                  | true => exact p2.elim
                  | false =>
                    cases ob3 with
                    | dK lk3 more =>
                      cases lk3 with
                      | true => exact p2.elim
                      | false =>
                        dsimp only at p2
                        by_cases hc : i ≠ j ∧ kvs.length + more.length ≤ sizeLine
                        · rw [if_pos hc] at p2
                          obtain ⟨a', ha2, ea⟩ := r2.top
                          cases ea
                          obtain ⟨b, hb2, rfl⟩ := d2
                          obtain ⟨ws, k1, k2⟩ := r2.s.ob _ _ _ e2 ha2
                          obtain ⟨zs, k3, k4⟩ := r2.s.ob _ _ _ e3 hb2
                          have k1 : H2 a = some (.dK ws) := k1
                          refine ⟨a, b, ws, zs, rfl, rfl, fun z => hc.1 (r2.s.inj ha2 (z ▸ hb2)), k1, k3, by rw [k2.len, k4.len]; exact hc.2, ?_⟩
                          have m : MV ρ2 ρ2 H2 (upd H2 a (.dK (mergeK ws zs))) := ⟨fun _ _ h => h, fun b vs z => by
                            have : b ≠ a := fun q => by rw [q, k1] at z; cases z
                            rw [upd_ne this]; exact z⟩
                          exact p2 ρ2 _ _ (r2.put ha2 (fun w z => by rw [k1] at z; cases z; exact ⟨rfl, fun _ q => by cases q⟩) ⟨_, upd_same, merge_rel (k4.mono m) (k2.mono m)⟩) rfl
                        · rw [if_neg hc] at p2; exact p2.elim
                    | _ => exact p2.elim
                | _ => cases ob3 <;> exact p2.elim
          | _ => exact p2.elim
      | _ => exact p1.elim
  | _ => exact p1.elim
end
end
end PL
set_option Elab.async false
set_option linter.all false
set_option maxRecDepth 100000
set_option maxHeartbeats 1000000
set_option autoImplicit false
namespace PL
open PySem PySem.Spec PyProof.Rows L2 LW
noncomputable section
theorem names_of {X : Cx} {x : Str} {c : Value} (hg : Gl X x) (h : X.mg x = some c) (hd : (x == ("__debug__" : Str)) = false := by decide) : Names X x c := ⟨hg, hd, .inl h⟩
end
end PL
set_option Elab.async false
set_option linter.all false
set_option maxRecDepth 100000
set_option maxHeartbeats 1000000
set_option autoImplicit false
namespace PL
open PySem PySem.Spec PyProof.Rows L2 LW
noncomputable section
/-! ### a hook with a given list of addresses -/
abbrev AlR : Type := Bool × He.AlD
def obsR (as : List Addr) (fa : List He.Fa) (fn : List He.DefD) (ex : Fg → Bool) (g : Addr → Option Obj) : AlR := (ex (He.frT g as), He.obsD fa fn (He.frT g as))
def hookR (as : List Addr) (fa : List He.Fa) (fn : List He.DefD) (ex : Fg → Bool) : PySem.W.Hook where
  α := AlR
  obs := fun s => obsR as fa fn ex s.heap.get?
  val := fun _ => (true, He.valD fn)
  says := fun _ h => ∃ K : Fg, K.In h ∧ ex K = true ∧ He.SaysD fa fn K
  of := fun _ _ e => ⟨_, He.frT_in, congrArg (fun z : AlR => z.1) e, congrArg (fun z : AlR => z.2) e⟩
  keeps := fun _ _ _ ⟨K, hK, c⟩ k => ⟨K, PySem.W.Frag.In.keeps hK k, c⟩
theorem obsR_eq {as : List Addr} {fa : List He.Fa} {fn : List He.DefD} {ex : Fg → Bool} {g : Addr → Option Obj} {s : Shared} (h : ∀ a, g a = s.heap.get? a) : obsR as fa fn ex g = (hookR as fa fn ex).obs s := by
  have e : g = s.heap.get? := funext h
  rw [e] <;> rfl
end
end PL
set_option Elab.async false
set_option linter.all false
set_option maxRecDepth 100000
set_option maxHeartbeats 1000000
set_option autoImplicit false
namespace PL
open PySem PySem.Spec PyProof.Rows L2 LW
noncomputable section
/-! ### Bool checks of what the written part says -/
def clsB (K : Fg) (cs fs : List Str) : Bool := cs.all fun c => (He.Fa.cls c).ok K && fs.all fun f => (He.Fa.noat c f).ok K
theorem clsB_ok {K : Fg} {cs fs : List Str} (h : clsB K cs fs = true) : ClsOk K cs fs := by
  have h' := fun c hc => (He.ba (List.all_eq_true.mp h c hc))
  exact ⟨fun c hc => He.cls_ok (h' c hc).1, fun c hc f hf => He.noat_ok (List.all_eq_true.mp (h' c hc).2 f hf)⟩
def catB (K : Fg) (C : Addr) (m : Str) (a : Value) : Bool := He.eqO (PySem.W.specialIn K (.ref C) "__getattribute__") (some (some (.builtin "type.__getattribute__"))) && (decide (PySem.W.typeIn K (.ref C) = some (.type "type")) && (PySem.W.readsIn K C (.type "type") && ((match PySem.W.findCls K (.ref C) (.type "type") m with
  | some (.val b) => decide (b = a)
  | _ => false) && PySem.W.handedIn a)))
theorem catB_ok {K : Fg} {C : Addr} {m : Str} {a : Value} (h : catB K C m a = true) : CAt K C m a := by
  obtain ⟨h1, h⟩ := He.ba h
  obtain ⟨h2, h⟩ := He.ba h
  obtain ⟨h3, h⟩ := He.ba h
  obtain ⟨h4, h5⟩ := He.ba h
  refine ⟨He.eqO_ok h1, of_decide_eq_true h2, h3, ?_, h5⟩
  cases e : PySem.W.findCls K (.ref C) (.type "type") m with
  | none => rw [e] at h4; cases h4
  | some r =>
    rw [e] at h4
    cases r with
    | val b => rw [of_decide_eq_true h4]
    | _ => cases h4
/-- the classes that raise: fields are read off their instances -/
def xfsB (K : Fg) (cs : List Str) : Bool := cs.all fun c => xfB K (He.ga K c) && (He.Fa.noat c (fieldOf c)).ok K
theorem xfsB_ok {K : Fg} {cs : List Str} (h : xfsB K cs = true) : ExF K cs := by
  have h' := fun c hc => (He.ba (List.all_eq_true.mp h c hc))
  exact ⟨fun c hc => xfB_ok (h' c hc).1, fun c hc => He.noat_ok (h' c hc).2⟩
def exmB (K : Fg) (cs : List Str) (sub : Str → Str → Bool) (cn : Str) : Bool := cs.all fun c => (He.Fa.exm c cn (sub c cn)).ok K
theorem exmB_ok {K : Fg} {cs : List Str} {sub : Str → Str → Bool} {cn : Str} (h : exmB K cs sub cn = true) : ExM K cs sub cn := ⟨fun c hc => He.exm_ok (List.all_eq_true.mp h c hc)⟩
/-- an own error with its own __init__ -/
def oexB (K : Fg) (C : Addr) : Bool := (match K.lookup C with
  | some ⟨.type "type", _, .cls cd, sl⟩ => (match cd.mro, sl.toList with
    | .ref C' :: bm, [_, _, _, _, some (.builtin n), _] => C' == C && (n == "ValueError.__new__" && (!cd.hasDel && (cd.hasDict && PySem.HandSPX.refsVE bm)))
    | _, _ => false)
  | _ => false) && (He.eqO (PySem.W.findIn K (.ref C) "__setattr__") (some (some (.builtin "object.__setattr__"))) && (decide (PySem.W.subIn K (.ref C) (.type "BaseException") = some true) && (decide (PySem.W.typeIn K (.ref C) = some (.type "type")) && PySem.W.keepIn K (.ref C))))
theorem oexB_ok {K : Fg} {C : Addr} (h : oexB K C = true) : OexC K C := by
  obtain ⟨q, h⟩ := He.ba h
  obtain ⟨h2, h⟩ := He.ba h
  obtain ⟨h3, h⟩ := He.ba h
  obtain ⟨h4, h5⟩ := He.ba h
  refine ⟨?_, He.eqO_ok h2, of_decide_eq_true h3, of_decide_eq_true h4, h5⟩
  split at q
  · rename_i dd cd sl ho
    split at q
    · rename_i C' bm k0 k1 k2 k3 n k5 hm hs
      simp only [Bool.and_eq_true, beq_iff_eq, Bool.not_eq_true'] at q
      obtain ⟨rfl, rfl, hdel, hdc, ht⟩ := q
      obtain ⟨nm, bs, mro, ns, qn, hd, sn, sub, ab, col, del⟩ := cd
      dsimp only at hm hdel hdc
      subst hm hdel hdc
      have hsl : sl = #[k0, k1, k2, k3, some (.builtin "ValueError.__new__"), k5] := by
        obtain ⟨l⟩ := sl
        simp only at hs
        rw [hs]
      subst hsl
      exact ⟨nm, qn, ns, bs, bm, sn, sub, ab, col, dd, k0, k1, k2, k3, k5, ho, ht⟩
    · cases q
  · cases q
/-- one and the same method, found by two classes -/
def sameB (K : Fg) (c d m : Str) : Bool := decide (He.ma K (He.ga K c) m = He.ma K (He.ga K d) m)
theorem sameB_ok {K : Fg} {c d m : Str} (h : sameB K c d m = true) : He.ma K (He.ga K c) m = He.ma K (He.ga K d) m := of_decide_eq_true h
end
end PL
set_option Elab.async false
set_option linter.all false
set_option maxRecDepth 100000
set_option maxHeartbeats 1000000
set_option autoImplicit false
namespace PL
open PySem PySem.Spec PyProof.Rows L2 LW
noncomputable section
/-! ### a hook with given addresses and tables; no list stands in what is written -/
def notL (q : Addr × Obj) : Bool := match q.2.cls with
  | .type c => !(c == "list")
  | _ => true
def frL (g : Addr → Option Obj) (as : List Addr) : Fg := (He.frT g as).filter notL
theorem frL_mem {g : Addr → Option Obj} {as : List Addr} {a : Addr} {o : Obj} (h : (frL g as).lookup a = some o) : g a = some o ∧ notL (a, o) = true := by
  obtain ⟨h1, h2⟩ := List.mem_filter.mp (He.lookup_mem h)
  exact ⟨He.frG_mem (List.mem_filter.mp h1).1, h2⟩
theorem frL_in {as : List Addr} {h : Heap} : (frL h.get? as).In h := fun _ _ e => (frL_mem e).1
def NoL (K : Fg) : Prop := ∀ a o, K.lookup a = some o → o.cls ≠ .type "list"
theorem frL_no {g : Addr → Option Obj} {as : List Addr} : NoL (frL g as) := fun a o e h => by
  have := (frL_mem e).2
  unfold notL at this
  simp only [h] at this
  cases this
abbrev AlS : Type := Bool × He.AlT
def obsS (as : List Addr) (fa : List He.Fa) (fn : List He.DefD) (ts : List He.Tab) (ex : Fg → Bool) (g : Addr → Option Obj) : AlS := (ex (frL g as), He.obsT fa fn ts (frL g as))
def hookS (as : List Addr) (fa : List He.Fa) (fn : List He.DefD) (ts : List He.Tab) (ex : Fg → Bool) : PySem.W.Hook where
  α := AlS
  obs := fun s => obsS as fa fn ts ex s.heap.get?
  val := fun w => (true, He.valT fn ts w)
  says := fun w h => ∃ K : Fg, K.In h ∧ NoL K ∧ ex K = true ∧ He.SaysT fa fn ts w K
  of := fun _ _ e => ⟨_, frL_in, frL_no, congrArg (fun z : AlS => z.1) e, congrArg (fun z : AlS => z.2) e⟩
  keeps := fun _ _ _ ⟨K, hK, c⟩ k => ⟨K, PySem.W.Frag.In.keeps hK k, c⟩
theorem obsS_eq {as : List Addr} {fa : List He.Fa} {fn : List He.DefD} {ts : List He.Tab} {ex : Fg → Bool} {g : Addr → Option Obj} {s : Shared} (h : ∀ a, g a = s.heap.get? a) : obsS as fa fn ts ex g = (hookS as fa fn ts ex).obs s := by
  have e : g = s.heap.get? := funext h
  rw [e] <;> rfl
/-- a law that gives True at the script gives True -/
theorem law_start {K : Fg} {H : Hp} {a : Addr} {ns : List Int} {pf : PF} (nl : NoL K) (hO : Only H) (hS : SqL K H a (ns.map V.int)) (h : ∃ st', pf [.ref 0] [.ro (ns.map .int)] = .ok (.bl true) st') :
    spOf K pf [.ref a] H (fun v _ => v = .bl true) fun _ _ _ => False := by
  obtain ⟨st', e⟩ := h
  have hz : ∃ o, H a = some (.frz o (.lst (ns.map V.int))) := by
    rcases hS with (h | h) | ⟨o, its, n, h1, h2, _⟩
    · rcases hO a with q | ⟨o, xs, q⟩
      · rw [q] at h; cases h
      · rw [q] at h; cases h
    · exact h
    · exact (nl a o h1 h2).elim
  obtain ⟨o, hz⟩ := hz
  have hints : ∀ (ρ : List Addr) (ns : List Int), PVrs K ρ H (ns.map .int) (ns.map V.int) := fun ρ ns => by
    induction ns with
    | nil => exact PVrs.nil
    | cons n ns ih => exact .cons rfl ih
  refine ⟨[a], [], [.ro (ns.map .int)], [.ref 0], ⟨⟨rfl, by simp, fun i u b h1 h2 => ?_⟩, fun p hp => (nomatch hp), rfl, fun i x h => by simp at h⟩, .one ⟨a, rfl, rfl⟩, ?_⟩
  · cases i with
    | zero =>
      simp at h1 h2
      subst h1 h2
      exact ⟨o, _, hz, hints _ ns⟩
    | succ i => simp at h1
  · rw [e]
    exact fun ρ H v _ d => d
theorem noCX {P : Program} {w : World} {H : Hp} {s s' : Shared} {e : Value} (h : L2N.CX P w [] H s (fun _ _ _ => False) e s') : False := by
  obtain ⟨a, B, H', cls, d, _, _, _, _, _, _, _, f⟩ := h
  exact f
theorem walk_ofW {l : PySem.W.OpenLaw} {n k : Nat} {q : Program} {loose : List Str} {XP : (Str → Option Value) → Heap → Prop} {YP : World → Heap → Prop} {d : DefRec} {CX : World → CXT} {x : Str}
    (hn : l.most = some n) (hn2 : n ≤ sizeLine) (hdf : d.params.defaults = []) (hr : Room k callerA)
    (F : ∀ (w : World) (mg : Str → Option Value) (fa : Addr) (h : Heap), YP w h → h.Ns mainGlobals mg → mg d.name = some (.ref fa) →
      ∃ (K : Fg) (fd : FuncData) (sp : Sp), K.In h ∧ (∀ (s : Shared) (u : Value), BindsTo s fd ⟨[u], []⟩ [(x, u)]) ∧
        (∀ (H : Hp) (a : Addr) (ns : List Int), ns.length ≤ n → (∀ z ∈ ns, Builtin.Int.intBits z ≤ 1048576) → Only H → SqL K H a (ns.map V.int) → sp [.ref a] H (fun v _ => v = .bl true) fun _ _ _ => False) ∧
        ∀ base : Heap, K.In base → base.Ns mainGlobals mg → FnOk l.prog w K mg base (CX w) k fa fd [x] sp)
    (hCX : ∀ (w : World) (H : Hp) (s : Shared) (e : Value) (s' : Shared), CX w [] H s (fun _ _ _ => False) e s' → False) :
    PySem.W.WalkO q loose XP YP l.row.toRowW d [] (fun f vs => PySem.call f vs) := by
  refine Att.attach_callB hn hdf fun w s₀ s₁ mg mb fa o pm cd doc a vs ns G Y ho hd hcd hmg hobj hints hlen hbits hg => ?_
  obtain ⟨K, fd, sp, KX, hb, hsp, hF⟩ := F w mg fa _ Y G.T.g hmg
  exact law_call KX G.T.g G.T.b G.T.builtins G.T.nolimit hg hobj hints (Nat.le_trans hlen hn2) hr hF hb (fun H hO hS => hsp H a ns hlen hbits hO hS) fun H e s' => hCX w H s₁ e s'
/-! ### written constants -/
section
variable {X : Cx} {W : WX} {K : Fg}
/-- a flat value -/
def flV : PV → V
  | .bl b => .bl b
  | .int i => .int i
  | .str z => .str z
  | _ => .non
def flOk : PV → Bool
  | .bl _ => true
  | .int _ => true
  | .str _ => true
  | .non => true
  | _ => false
theorem flV_ok {ρ : List Addr} {H : Hp} {x : PV} (h : flOk x = true) : PVr K ρ H x (flV x) := by
  cases x <;> first | rfl | cases h
theorem flVs_ok {ρ : List Addr} {H : Hp} : ∀ {xs : List PV}, xs.all flOk = true → PVrs K ρ H xs (xs.map flV)
  | [], _ => rfl
  | x :: xs, h => by
    have h' : (flOk x && xs.all flOk) = true := h
    obtain ⟨h1, h2⟩ := He.ba h'
    exact ⟨_, _, rfl, flV_ok h1, flVs_ok h2⟩
/-- a tuple of the module -/
theorem px_wtp {n : Str} {xs : List PV} {p : Pos} (hg : Gl X n) (hm : ∃ u, X.mg n = some u ∧ RelV (.ref (He.ga X.K n)) u) (ht : ∀ H, SqT X.K H (He.ga X.K n) (xs.map flV)) (hx : xs.all flOk = true := by decide) (hd : (n == ("__debug__" : Str)) = false := by decide) : PX X W (.Name n p) (mC (.wtp xs)) :=
  px_c (pe_gc hg hm hd) fun ρ H => ⟨_, _, rfl, ht, flVs_ok hx⟩
theorem px_con {n : Str} {p : Pos} (hg : Gl X n) (hm : ∃ u, X.mg n = some u ∧ RelV (.ref (He.ga X.K n)) u) (hd : (n == ("__debug__" : Str)) = false := by decide) : PX X W (.Name n p) (mC (.con n)) :=
  px_c (pe_gc hg hm hd) fun ρ H => rfl
/-- dict(D) of a written dict with texts -/
def keyedP (kvs : List (Str × PV)) : List (Key × PV) := kvs.map fun p => (Sum.inr p.1, p.2)
def pDictK (n : Str) (kvs : List (Str × PV)) : PV → Store → Res PV := fun a st => match a with
  | .con m => if m = n then alloc (.dK false (keyedP kvs)) st else .bad
  | _ => .bad
theorem KR_keyed {ρ : List Addr} {H : Hp} : ∀ {kvs : List (Str × PV)}, (kvs.map (·.2)).all flOk = true → KR K ρ H (keyedP kvs) (keyed (kvs.map fun p => (p.1, flV p.2)))
  | [], _ => rfl
  | x :: xs, h => by
    have h' : (flOk x.2 && (xs.map (·.2)).all flOk) = true := h
    obtain ⟨h1, h2⟩ := He.ba h'
    exact ⟨_, _, rfl, flV_ok h1, KR_keyed h2⟩
theorem sp_dictK {w : World} {n : Str} {kvs : List (Str × PV)} (D : DicK K w (He.ga K n) (kvs.map fun p => (p.1, flV p.2))) (hx : (kvs.map (·.2)).all flOk = true := by decide) : OpA K (rDictK K w) (one (pDictK n kvs)) := by
  intro W ρ hs env σ st H Q as xs r da p
  match as, da, p with
  | [], _, p => exact p.elim
  | [a], da, p =>
    obtain ⟨x, q, rfl, d, rfl⟩ := da
    have p : PostG (RV K) K W hs env σ Q (pDictK n kvs a st) := p
    cases a with
    | con m =>
      have p : PostG (RV K) K W hs env σ Q (if m = n then alloc (.dK false (keyedP kvs)) st else .bad) := p
      by_cases e : m = n
      · subst e
        rw [if_pos rfl] at p
        have d : x = .ref (He.ga K m) := d
        subst d
        refine ⟨_, _, rfl, D, fun a ha => ?_⟩
        obtain ⟨r2, d2⟩ := r.alloc (o := .dK false (keyedP kvs)) (u := .dK (keyed (kvs.map fun p => (p.1, flV p.2)))) ha ⟨_, upd_same, KR_keyed hx⟩
        exact p _ _ _ r2 d2
      · rw [if_neg e] at p
        exact p.elim
    | _ => exact p.elim
  | _ :: _ :: _, _, p => exact p.elim
end
end
end PL
set_option Elab.async false
set_option linter.all false
set_option maxRecDepth 100000
set_option maxHeartbeats 1000000
set_option autoImplicit false
namespace PL
open PySem PySem.Spec PyProof.Rows L2 LW
noncomputable section
/-! ### a written dict of pairs: a number and a def -/
abbrev Row := Str × Int × Str
structure TabK (K : Fg) (w : World) (n : Str) (rows : List Row) : Prop where
  kd : ∃ es c, KDict K w (He.ga K n) es c
  hit : ∀ r ∈ rows, ∃ a, PySem.W.nsIn K (He.ga K n) r.1 = some (some (.ref a)) ∧ ∀ H, SqT K H a [.int r.2.1, .ref (He.ga K r.2.2)]
  miss : ∀ z : Str, z ∉ rows.map (·.1) → PySem.W.nsIn K (He.ga K n) z = some none
def rowB (K : Fg) (n : Str) (r : Row) : Bool := match PySem.W.nsIn K (He.ga K n) r.1 with
  | some (some (.ref a)) => tupB K a [.int r.2.1, .ref (He.ga K r.2.2)]
  | _ => false
def keysB : List DictEntry → List Str → Bool
  | [], [] => true
  | e :: es, k :: ks => (match e.key with
    | .str x _ => decide (x = k)
    | _ => false) && (!e.refKey && keysB es ks)
  | _, _ => false
def tabKB (K : Fg) (n : Str) (rows : List Row) : Bool := rows.all (rowB K n) && (match K.lookup (He.ga K n) with
  | some ⟨_, _, .dict es _, _⟩ => keysB es.toList (rows.map (·.1))
  | _ => false)
theorem keysB_miss : ∀ {es : List DictEntry} {ks : List Str}, keysB es ks = true → ∀ z : Str, z ∉ ks → es.find? (·.key.isStr z) = none ∧ es.any (·.refKey) = false
  | [], [], _, _, _ => ⟨rfl, rfl⟩
  | e :: es, k :: ks, h, z, hz => by
    obtain ⟨h1, h2⟩ := He.ba h
    obtain ⟨h3, h4⟩ := He.ba h2
    have hz1 : z ≠ k := fun q => hz (by rw [q]; exact List.mem_cons_self)
    obtain ⟨i1, i2⟩ := keysB_miss h4 z fun q => hz (List.mem_cons_of_mem _ q)
    have hr : e.refKey = false := by
      cases q : e.refKey with
      | false => rfl
      | true => rw [q] at h3; cases h3
    have hs : e.key.isStr z = false := by
      cases q : e.key with
      | str x t =>
        rw [q] at h1
        have hx : x = k := of_decide_eq_true h1
        show (x == z) = false
        rw [hx]
        exact beq_eq_false_iff_ne.mpr (Ne.symm hz1)
      | _ => rfl
    exact ⟨by rw [List.find?_cons, hs]; exact i1, by rw [List.any_cons, hr, i2]; rfl⟩
  | [], _ :: _, h, _, _ => by cases h
  | _ :: _, [], h, _, _ => by cases h
theorem tabKB_ok {K : Fg} {w : World} {n : Str} {rows : List Row} (kd : ∃ es c, KDict K w (He.ga K n) es c) (h : tabKB K n rows = true) : TabK K w n rows := by
  obtain ⟨h1, h2⟩ := He.ba h
  refine ⟨kd, fun r hr => ?_, fun z hz => ?_⟩
  · have := List.all_eq_true.mp h1 r hr
    unfold rowB at this
    split at this
    · rename_i a e
      exact ⟨a, e, fun H => tupB_ok this H⟩
    · cases this
  · unfold PySem.W.nsIn
    split at h2
    · rename_i oc od es c osl e
      obtain ⟨i1, i2⟩ := keysB_miss h2 z hz
      simp only [e, i1, i2]
      rfl
    · cases h2
section
variable {X : Cx} {W : WX} {K : Fg}
/-- word not in TABLE -/
def pNotInT (n : Str) (ks : List Str) : PV → PV → Store → Res PV := fun a b st => match a, b with
  | .str z, .con m => if m = n then .ok (.bl (!decide (z ∈ ks))) st else .bad
  | _, _ => .bad
def rNotInT (K : Fg) (n : Str) (ks : List Str) : R2 := fun x y H Q => ∃ z : Str, x = .str z ∧ y = .ref (He.ga K n) ∧ Q (.bl (!decide (z ∈ ks))) H
theorem op_notInT {n : Str} {rows : List Row} (D : TabK X.K X.w n rows) : OpR X (compareOp .NotIn) (rNotInT X.K n (rows.map (·.1))) := by
  obtain ⟨es, c, kd⟩ := D.kd
  intro pins s σ H x y v u Q I rx ry h
  obtain ⟨z, ex, ey, q⟩ := h
  by_cases hz : z ∈ rows.map (·.1)
  · obtain ⟨r, hr, rfl⟩ := List.mem_map.mp hz
    obtain ⟨a, e, _⟩ := D.hit r hr
    exact op_notIn_kd kd pins s σ H x y v u Q I rx ry ⟨r.1, _, ex, ey, e, by rw [decide_eq_true hz] at q; exact q⟩
  · exact op_notIn_kd kd pins s σ H x y v u Q I rx ry ⟨z, _, ex, ey, D.miss z hz, by rw [decide_eq_false hz] at q; exact q⟩
theorem sp_notInT {n : Str} {ks : List Str} : Op2 K (rNotInT K n ks) (pNotInT n ks) := by
  intro W ρ hs env σ st H Q a b x y r da db p
  cases a with
  | str z =>
    cases b with
    | con m =>
      have p' : PostG (RV K) K W hs env σ Q (if m = n then .ok (.bl (!decide (z ∈ ks))) st else .bad) := p
      clear p
      by_cases e : m = n
      · rw [if_pos e] at p'
        subst e
        exact ⟨z, da, db, p' ρ H _ r rfl⟩
      · rw [if_neg e] at p'
        exact p'.elim
    | _ => exact p.elim
  | _ => exact p.elim
/-- TABLE[word] -/
def rowOf (rows : List Row) (z : Str) : Option Row := rows.find? fun r => decide (r.1 = z)
def pIxT (n : Str) (rows : List Row) : PV → PV → Store → Res PV := fun a b st => match a, b with
  | .con m, .str z => if m = n then (match rowOf rows z with
    | some r => .ok (.wtp [.int r.2.1, .con r.2.2]) st
    | none => .bad) else .bad
  | _, _ => .bad
theorem px_ixT {n : Str} {rows : List Row} {a b : Expr} {pos : Pos} {ma mb : Mx PV} (D : TabK X.K X.w n rows) (ha : PX X W a ma) (hb : PX X W b mb) (hs : PlainIx b := by exact fun _ _ => rfl) : PX X W (.Subscript a b pos) (mOp (pIxT n rows) ma mb) :=
  .of (pe_ix ix_kdict ha.pe hb.pe hs) (sim_op (fun W ρ hs env σ st H Q a b x y r da db p => by
    cases a with
    | con m =>
      cases b with
      | str z =>
        have p' : PostG (RV X.K) X.K W hs env σ Q (if m = n then (match rowOf rows z with
          | some r => .ok (.wtp [.int r.2.1, .con r.2.2]) st
          | none => .bad) else .bad) := p
        clear p
        by_cases e : m = n
        · rw [if_pos e] at p'
          subst e
          cases er : rowOf rows z with
          | none => rw [er] at p'; exact p'.elim
          | some row =>
            rw [er] at p'
            have hm := List.mem_of_find?_eq_some er
            have hk : row.1 = z := by have := List.find?_some (p := fun r : Row => decide (r.1 = z)) er; exact of_decide_eq_true this
            obtain ⟨ad, e1, e2⟩ := D.hit row hm
            obtain ⟨es, c, kd⟩ := D.kd
            have p2 : PostG (RV X.K) X.K W hs env σ Q (.ok (.wtp [.int row.2.1, .con row.2.2]) st) := p'
            refine ⟨_, z, .ref ad, da, db, ⟨es, c, .ref ad, kd.at_, kd.lit, by rw [← hk]; exact e1, rfl⟩, p2 ρ H (.ref ad) r ?_⟩
            exact ⟨ad, _, rfl, e2, ⟨_, _, rfl, rfl, _, _, rfl, rfl, rfl⟩⟩
        · rw [if_neg e] at p'
          exact p'.elim
      | _ => exact p.elim
    | _ => exact p.elim) Sim.self Sim.self)
theorem all_nil {α : Type} {Q : α → Prop} : ∀ p ∈ ([] : List α), Q p := fun _ h => (nomatch h)
theorem all_cons {α : Type} {Q : α → Prop} {a : α} {l : List α} (h : Q a) (g : ∀ p ∈ l, Q p) : ∀ p ∈ a :: l, Q p := fun p hp => (List.mem_cons.mp hp).elim (fun z => z ▸ h) (g p)
/-- a call of what an expression gives: one of some defs -/
def mCallV (tab : List (Str × PF)) (n : Nat) (mf : Mx PV) (ma : Mx (List PV)) : Mx PV := fun env st => (mf env st).bnd fun fv s0 => match fv with
  | .con x => (match tab.find? fun p => decide (p.1 = x) with
    | some p => (ma env s0).bnd fun xs s1 => if xs.length = n then p.2 xs s1 else .bad
    | none => .bad)
  | _ => .bad
theorem px_callV {tab : List (Str × PF)} {j n : Nat} {fe e : Expr} {es : List Expr} {pos : Pos} {mf : Mx PV} {ma : Mx (List PV)} (hf : PX X W fe mf) (tk : L2N.Takes X W) (hr : Room j X.A)
    (hc : ∀ p ∈ tab, X.mg p.1 = some (.ref (He.ga X.K p.1)) ∧ ∃ k, k ≤ j ∧ CalN X.prog X.w X.K X.mg X.base k p.1 n [] p.2 (fun as _ => as)) (ha : PXa X W (e :: es) ma)
    (hst : starEach (e :: es) X.env = (false, eval e X.env) :: starEach es X.env := by rfl) (hpl : (backTo pos (starEach es X.env)).any (·.1) = false := by rfl)
    (ht : eval (.Call fe (e :: es) [] pos) X.env = (do
      callWith pos (← eval fe X.env) [] (backTo pos (starEach (e :: es) X.env)) (backToKw pos (keywordEach [] X.env))) := by rfl) :
    PX X W (.Call fe (e :: es) [] pos) (mCallV tab n mf ma) := by
  refine .of (te := fun σ H Q => rG (RV X.K) X.K W mf σ H fun x H1 => ∃ p ∈ tab, x = .ref (He.ga X.K p.1) ∧ rG (RVs X.K) X.K W ma σ H1 fun vs H2 => vs.length = n ∧ ∃ ρ hs env st as, Rel X.K ρ hs env σ st H2 ∧ PVrs X.K ρ H2 as vs ∧ PostG (RV X.K) X.K W hs env σ Q (p.2 as st)) ⟨fun pins s σ H Q I h => ?_⟩ fun ρ hs env σ st H Q r p => ?_
  · rw [ht]
    refine wpAny_bind (thn (hf.pe.run pins s σ H _ I h) fun u s1 ⟨x, H1, I1, rx, p, hp, ex, q⟩ => ?_)
    subst ex
    obtain rfl : u = Value.ref (He.ga X.K p.1) := rx
    obtain ⟨hm, k, hk, c⟩ := hc p hp
    obtain ⟨f, fd, ps, F, hm2, kp, ⟨g, gV, B, hB⟩⟩ := c.ex
    have ef : f = He.ga X.K p.1 := by
      rw [hm] at hm2
      cases hm2
      rfl
    subst ef
    refine PySem.W.callWith_K (first := []) (h₀ := X.base) I.ok.mod.kin kp (thn (ha.pe.run pos pins s1 σ H1 _ I1 q) fun us s2 ⟨vs, H2, I2, rv, hl, ρ, hs, env, st, as, r, d, pp⟩ => ⟨I2.kIn, ?_⟩) hst hpl
    exact run_fnNSD (us := us) (ws := []) (vs := vs) (zs := []) F (hr.mono hk) B (L2N.passAt tk σ) I2 rv .nil hl rfl (sp_go r (hB ρ H2 as vs [] [] d rfl) pp)
  · refine ⟨ρ, hs, env, st, r, PostG.bnd p fun y s0 _ p0 ρ0 H0 v r0 d0 => ?_⟩
    cases y with
    | con x =>
      dsimp only at p0
      cases ef : tab.find? fun q => decide (q.1 = x) with
      | none => rw [ef] at p0; exact p0.elim
      | some q =>
        rw [ef] at p0
        have hq := List.mem_of_find?_eq_some ef
        have hx : q.1 = x := by have := List.find?_some (p := fun q : Str × PF => decide (q.1 = x)) ef; exact of_decide_eq_true this
        refine ⟨q, hq, by rw [hx]; exact d0, ρ0, hs, env, s0, r0, PostG.bnd p0 fun xs s1 _ p1 ρ1 H1 vs r1 d1 => ?_⟩
        by_cases hl : xs.length = n
        · rw [if_pos hl] at p1
          exact ⟨by rw [d1.len]; exact hl, ρ1, hs, env, s1, xs, r1, d1, p1⟩
        · rw [if_neg hl] at p1; exact p1.elim
    | _ => exact p0.elim
end
end
end PL
set_option Elab.async false
set_option linter.all false
set_option maxRecDepth 100000
set_option maxHeartbeats 1000000
set_option autoImplicit false
namespace PL
open PySem PySem.W PySem.Calls PyProof.Rows HandSHeadRun
/-! ### the run's equation, part by part (a House top at once is too much for the kernel) -/
theorem map_and {α β γ : Type} {x : Option α} {f : α → β} {g : α → γ} {b : β} {c : γ} (h1 : x.map f = some b) (h2 : x.map g = some c) : x.map (fun s => (f s, g s)) = some (b, c) := by
  cases x with
  | none => cases h1
  | some a =>
    simp only [Option.map_some, Option.some.injEq] at h1 h2 ⊢
    rw [h1, h2]
theorem map_as {α β γ : Type} {x : Option α} {f : α → β} {b : β} {g : α → γ} {c : γ} (h1 : x.map f = some b) (h : ∀ a, x = some a → f a = b → g a = c) : x.map g = some c := by
  cases e : x with
  | none => rw [e] at h1; cases h1
  | some a =>
    rw [e] at h1
    simp only [Option.map_some, Option.some.injEq] at h1 ⊢
    exact h a e h1
theorem run_parts {R : OpenRow} {q : Program} {as : List Addr} {fa : List He.Fa} {fn : List He.DefD} {ex : Fg → Bool} {M : Nat} {loose : List PySem.Str} {w : World}
    (a1 : ∀ os : OsState, (endF (stepQ (denQ tabQ) R.prog w) M R.prog w os).map (fun s => looksF R.prog (boot_heap w.params) s.abs) = some true)
    (a2 : ∀ os : OsState, (endF (stepQ (denQ tabQ) R.prog w) M R.prog w os).map (fun s => seenQ q loose (importedModules R.prog.main.body) (fun s => xlAt q [] s && recOk R.toRowW.records s) s.abs) = some (openGood q loose))
    (a3 : ∀ os : OsState, (endF (stepQ (denQ tabQ) R.prog w) M R.prog w os).map (fun s => ex (frL (getT s) as)) = some true)
    (a4 : ∀ os : OsState, (endF (stepQ (denQ tabQ) R.prog w) M R.prog w os).map (fun s => He.obsD fa [] (frL (getT s) as)) = some (He.valD []))
    (a5 : ∀ os : OsState, (endF (stepQ (denQ tabQ) R.prog w) M R.prog w os).map (fun s => He.obsD [] fn (frL (getT s) as)) = some (He.valD fn)) :
    RunEq R q (hookS as fa fn [] ex) (fun s => obsS as fa fn [] ex (getT s)) M loose w := by
  intro os
  refine map_and (a1 os) (map_and (a2 os) ?_)
  refine map_as (map_and (a3 os) (map_and (a4 os) (a5 os))) fun s _ e => ?_
  have e3 : ex (frL (getT s) as) = true := congrArg (fun z => z.1) e
  have e4 : He.obsD fa [] (frL (getT s) as) = He.valD [] := congrArg (fun z => z.2.1) e
  have e5 : He.obsD [] fn (frL (getT s) as) = He.valD fn := congrArg (fun z => z.2.2) e
  have b4 : (fa.all fun f => f.ok (frL (getT s) as)) = true := by
    have := congrArg (fun z => z.1) e4
    simpa [He.obsD, He.valD] using this
  have b5 : (fn.all fun d => d.ok (frL (getT s) as)) = true := by
    have := congrArg (fun z => z.1) e5
    simpa [He.obsD, He.valD] using this
  have c5 : (fn.map fun d => He.fnW (frL (getT s) as) d.at_) = fn.map He.DefD.val := congrArg (fun z => z.2) e5
  show (ex (frL (getT s) as), ((((fa.all fun f => f.ok (frL (getT s) as)) && fn.all fun d => d.ok (frL (getT s) as)), fn.map fun d => He.fnW (frL (getT s) as) d.at_), ([] : List He.Tab).map _)) = (true, ((true, fn.map He.DefD.val), ([] : List He.Tab).map _))
  rw [e3, b4, b5, c5]
  rfl
end PL
namespace PL
open PySem PySem.Spec PyProof.Rows L2 LW
noncomputable section
/-! ### min(xs, default=d) of a list of ints -/
section
variable {prog : Program} {w : World} {A : Around} {E : Value → Shared → Prop} {s : Shared}
theorem min_dflt {l : Addr} {its : List Value} {ns : List Int} {d : Value} {Q : Value → Shared → Prop} (hh : A.handled = none) (hl : s.heap.IsList l its.toArray) (hi : IntsAre its ns)
    (h0 : ns = [] → ∀ h' tk, (∀ b o, s.heap.get? b = some o → h'.get? b = some o) → Q d { s with heap := h', toks := tk })
    (h : ∀ h' tk M t', (∀ b o, s.heap.get? b = some o → h'.get? b = some o) → M ∈ ns → (∀ a, a ∈ ns → M ≤ a) → Q (.int M t') { s with heap := h', toks := tk }) : wpAny (model prog w) A (call (.builtin "min") [.ref l] [(Str.ofString "default", d)]) Q E s := by
  obtain ⟨xs, e⟩ := hi.allInts.items
  have hn : numsOf (intItems xs).toList = ns := by rw [← e]; exact hi.numsOf
  rw [nums_intItems] at hn
  subst hn
  rw [e] at hl
  refine PySem.call_min_walkD (PySem.W.iter_listW (A := A.in1) hh hl fun s₂ e W st hfp hw hk => ?_)
  refine ⟨_, _, _, _, _, _, _, s.heap, (fun i j => decide (numAt xs i < numAt xs j)), rfl, W, st, hfp, hw, hk, fun hz s' m => ?_, fun hp => ⟨fun i j vi vj s1 Q1 E1 _ a b q => PySem.CmpOf.ints_lt (numAt xs) (fun _ _ => intItems_at) i j vi vj s1 Q1 E1 a b q, fun v s' hP m => ?_⟩⟩
  · obtain ⟨h', tk, rfl, hk'⟩ := PySem.W.moved_old e rfl m
    refine h0 ?_ h' tk hk'
    have : xs.size = 0 := by simpa [intItems] using hz
    rw [Array.eq_empty_of_size_eq_zero this]
    rfl
  · obtain ⟨h', tk, rfl, hk'⟩ := PySem.W.moved_old e rfl m
    have hsz : 0 < xs.size := by simpa [intItems] using hp
    have hP : (intItems xs)[argBest (fun i j => decide (numAt xs i < numAt xs j)) (xs.size - 1)]? = some v := by simpa [intItems] using hP
    obtain ⟨t, rfl⟩ := intItems_at hP
    obtain ⟨h1, h2⟩ := argBest_lt (numAt xs) (xs.size - 1)
    refine h h' tk _ t hk' ?_ fun a ha => ?_
    · rw [numAt_eq]; exact PySem.getD_mem (by rw [List.length_map, Array.length_toList]; omega)
    · obtain ⟨j, hj, rfl⟩ := mem_getD ha
      rw [List.length_map, Array.length_toList] at hj
      rw [← numAt_eq]; exact h2 j (by omega)
end
def rMinD (K : Fg) : List V → List V → Hp → VK → Prop := fun vs zs H Q => ∃ (a : Addr) (ns : List Int) (d : V), vs = [V.ref a] ∧ zs = [d] ∧ SqL K H a (ns.map V.int) ∧ (ns = [] → Q d H) ∧ ∀ m, m ∈ ns → (∀ y, y ∈ ns → m ≤ y) → Q (.int m) H
section
variable {X : Cx} {W : WX} {K : Fg}
theorem crk_min (hc : X.calm = true) : CallRK X (.builtin "min") ["default"] (rMinD X.K) := by
  intro pins s σ H vs zs us ws Q I r rz h
  obtain ⟨a, ns, d, rfl, rfl, hs, q0, q⟩ := h
  obtain ⟨its, rv, hl, _⟩ := I.list hs
  rw [Vals.ref1 r]
  cases rz with
  | cons rd rn =>
    cases rn
    exact min_dflt (I.ok.hd hc) hl.isList rv.ints (fun e h' tk hk => ⟨d, H, I.kept hk, rd, q0 e⟩) fun h' tk m t' hk h1 h2 => ⟨.int _, H, I.kept hk, ⟨_, rfl⟩, q m h1 h2⟩
def pMinD : List PV → List PV → Store → Res PV := fun as zs st => match as, zs with
  | [a], [d] => (match (listOf st a).bind intsOf with
    | some ns => (match minI ns with
      | some m => .ok (.int m) st
      | none => .ok d st)
    | none => .bad)
  | _, _ => .bad
def mCKw (φ : List PV → List PV → Store → Res PV) (as ks : Mx (List PV)) : Mx PV := fun env st => (as env st).bnd fun xs s1 => (ks env s1).bnd fun zs s2 => φ xs zs s2
def OpK (K : Fg) (r : List V → List V → Hp → VK → Prop) (φ : List PV → List PV → Store → Res PV) : Prop := ∀ W ρ hs env σ st H Q as xs bs zs, Rel K ρ hs env σ st H → PVrs K ρ H as xs → PVrs K ρ H bs zs → PostG (RV K) K W hs env σ Q (φ as bs st) → r xs zs H Q
theorem minI_none : ∀ {ns : List Int}, minI ns = none → ns = []
  | [], _ => rfl
  | x :: xs, h => by
    unfold minI at h
    cases e : minI xs <;> rw [e] at h <;> cases h
theorem sp_minD : OpK K (rMinD K) pMinD := fun W ρ hs env σ st H Q as xs bs zs r da db p => by
  unfold pMinD at p
  match as, bs, da, db, p with
  | [], _, _, _, p => exact p.elim
  | _ :: _ :: _, _, _, _, p => exact p.elim
  | [_], [], _, _, p => exact p.elim
  | [_], _ :: _ :: _, _, _, p => exact p.elim
  | [a], [d], da, db, p =>
    obtain ⟨v, vs, rfl, d1, d2⟩ := da
    cases d2
    obtain ⟨z, zs, rfl, d3, d4⟩ := db
    cases d4
    dsimp only at p
    cases e : (listOf st a).bind intsOf with
    | none => simp only [e] at p; exact p.elim
    | some ns =>
      simp only [e] at p
      obtain ⟨ad, rfl, h2⟩ := ints_at r d1 e
      cases e2 : minI ns with
      | none =>
        simp only [e2] at p
        refine ⟨ad, ns, z, rfl, rfl, h2, fun _ => p ρ H _ r d3, fun m hm => ?_⟩
        rw [minI_none e2] at hm
        cases hm
      | some m =>
        simp only [e2] at p
        obtain ⟨m1, m2⟩ := minI_ok e2
        refine ⟨ad, ns, z, rfl, rfl, h2, fun en => ?_, fun m' k1 k2 => ?_⟩
        · rw [en] at m1; cases m1
        · have : m' = m := Int.le_antisymm (k2 m m1) (m2 m' k1)
          rw [this]
          exact p ρ H _ r rfl
theorem px_callBK {id : String} {x : Str} {ks : List Str} {r : List V → List V → Hp → VK → Prop} {φ : List PV → List PV → Store → Res PV} {e : Expr} {es : List Expr} {kws : List Keyword} {p pos : Pos} {ma mk : Mx (List PV)} (hc : CallRK X (.builtin id) ks r) (hφ : OpK X.K r φ) (hg : Gl X x) (hm : X.mg x = none) (hv : bootBuiltins x = some (.builtin id)) (ha : PXa X W (e :: es) ma) (hkw : PXk X W kws mk)
    (hn : x ≠ "__name__" := by decide) (hdb : (x == ("__debug__" : Str)) = false := by decide)
    (he : backTo pos (starEach (e :: es) X.env) = (false, eval e X.env) :: backTo pos (starEach es X.env) := by rfl) (hpl : (backTo pos (starEach (e :: es) X.env)).any (·.1) = false := by rfl)
    (hall : (backToKw pos (keywordEach kws X.env)).all (·.1.isSome) = true := by rfl) (hnone : (backToKw pos (keywordEach kws X.env)).any (·.1.isNone) = false := by rfl) (hks : (backToKw pos (keywordEach kws X.env)).filterMap (·.1) = ks := by rfl) :
    PX X W (.Call (.Name x p) (e :: es) kws pos) (mCKw φ ma mk) := by
  refine .of (pe_callBK hc hg hm hv ha.pe hkw.pe hn hdb he hpl hall hnone hks) fun ρ hs env σ st H Q r p => ?_
  refine ⟨ρ, hs, env, st, r, PostG.bnd p fun xs s1 _ p1 ρ1 H1 vs r1 d1 => ?_⟩
  obtain ⟨l, l1, l2⟩ := hold_all d1
  refine ⟨ρ1, l ++ hs, env, s1, r1.more l1, PostG.bnd (p1.held fun q hq => List.mem_append_right _ hq) fun zs s2 _ p2 ρ2 H2 ws r2 d2 => ?_⟩
  have d1' := l2 ρ2 H2 fun e he => r2.h e (List.mem_append_left _ he)
  exact hφ W ρ2 _ env σ s2 H2 Q xs vs zs ws r2 d1' d2 p2
end
end
end PL
set_option Elab.async false
set_option linter.all false
set_option maxRecDepth 100000
set_option maxHeartbeats 1000000
set_option autoImplicit false
namespace PL
open PySem PySem.Spec PyProof.Rows L2 LW L2H HotX
noncomputable section
/-! ### walks while an exception is handled -/
section
variable {prog : Program} {w : World} {A : Around} {E : Value → Shared → Prop} {s : Shared}
/-- StopIteration comes: what stood, but for it, stands -/
theorem stop_hot {α : Type} {x1 it : Addr} {Q : α → Shared → Prop} {h0 : Heap} (hot : HotAt A x1 s.heap) (kp : ∀ b o, b ≠ it → h0.get? b = some o → s.heap.get? b = some o)
    (hQ : ∀ (h' : Heap) (e : Addr), (∀ b o, b ≠ it → h0.get? b = some o → h'.get? b = some o) → (∃ o, h'.get? e = some o ∧ o.cls = .type "StopIteration") → E (.ref e) { s with heap := h' }) :
    wpAny (model prog w) A (newExc (.type "StopIteration") [] >>= fun e => (raiseNew e : Sem α)) Q E s := by
  obtain ⟨hh, o1, v1, g1, d1, c1⟩ := hot
  refine wpAny_bind ?_
  simp only [newExc, newTuple]
  refine wpAny_bind (wpAny_newObj_type (wpAny_bind (m := firstArgMember _ _) (wpAny_of_eq (a := Value.none) (by first | rfl | (simp only [firstArgMember]; rfl)) (wpAny_newObj_type ?_ (by size_fits)))) (by size_fits))
  refine raiseNew_hot (x1 := x1) ⟨hh, o1, v1, Heap.get?_push_of_some _ (Heap.get?_push_of_some _ g1), d1, c1⟩ (Nat.ne_of_lt (Heap.lt_size (Heap.get?_push_of_some _ g1))) (Heap.get?_push_size _ rfl) rfl (by first | (simp; done) | (simp; omega) | (simp only [Array.size_append]; simp; omega)) ?_
  refine hQ _ _ (fun b o nb e => ?_) ⟨_, Heap.get?_update_self _ (Heap.get?_push_size _ rfl) rfl, rfl⟩
  have e := kp b o nb e
  rw [Heap.get?_update_other _ _ (Nat.ne_of_gt (Heap.lt_size (Heap.get?_push_of_some _ e)))]
  exact Heap.get?_push_of_some _ (Heap.get?_push_of_some _ e)
theorem hot_at1 {x1 it : Addr} {h h' : Heap} (hot : HotAt A x1 h) (ne : x1 ≠ it) (k : ∀ b o, b ≠ it → h.get? b = some o → h'.get? b = some o) : HotAt A x1 h' := let ⟨a, o, v, g, r⟩ := hot; ⟨a, o, v, k _ _ ne g, r⟩
theorem hot_in1 {x1 : Addr} {h : Heap} (hot : HotAt A x1 h) : HotAt A.in1 x1 h := hot
theorem end_listH {it l x1 : Addr} {i : Nat} {items} {Q : Option Value → Shared → Prop} (hot : HotAt A x1 s.heap) (ne : x1 ≠ it) (hit : s.heap.IsListIter it l i) (hl : s.heap.IsList l items) (hx : items[i]? = none)
    (hQ : ∀ h', Heap.ExtBut it s.heap h' → Q none { s with heap := h' }) : wpAny (model prog w) A (pyNext (.ref it)) Q E s := by
  obtain ⟨oi, gi, ci, di⟩ := id hit
  obtain ⟨ol, gl, _, nl, dl⟩ := hl
  unfold pyNext
  refine wpAny_bind (wpAny_attempt (wpAny_callSpecial?_slot (name := Str.ofString "__next__") hit.typeIs slot_listiter_next (wpAny_call_entry slot_listiter_next hit.typeIs entry_listiter_next ?_ (args_listiter_next _))))
  show wpAny _ _ (field (.ref it) 0 >>= _) _ _ _
  refine wpAny_bind (wpAny_field gi di (x := .ref l) rfl ?_)
  show wpAny _ _ (if (Value.ref l == Value.none) = true then _ else _) _ _ _
  rw [if_neg (fun z : (Value.ref l == Value.none) = true => Bool.false_ne_true z)]
  show wpAny _ _ (field (.ref it) 1 >>= _) _ _ _
  refine wpAny_bind (wpAny_field gi di (x := .int i 0) rfl ?_)
  show wpAny _ _ (seqItems? (.ref l) >>= _) _ _ _
  refine wpAny_bind (wpAny_seqItems gl dl ?_)
  simp only [Int.toNat_natCast, hx]
  refine wpAny_bind (wpAny_rule (wpAny_bind (wpAny_setField gi di (by simp) ?_)))
  have k0 : ∀ (b : Addr) (o : Obj), b ≠ it → s.heap.get? b = some o → (s.heap.update it (Obj.mapFields (·.setIfInBounds 0 Value.none))).get? b = some o := fun b o nb e => by rw [Heap.get?_update_other _ _ (Ne.symm nb)]; exact e
  refine stop_hot (it := it) (h0 := s.heap) (x1 := x1) (hot_at1 (hot_in1 hot) ne k0) k0 fun h' e kk ⟨oe, ge, ce⟩ => ?_
  exact wpAny_bind (wpAny_isInstance (T := "StopIteration") (b := true) ⟨oe, ge, ce⟩ isSubtype_stop (wpAny_pure (hQ _ fun b o nb e => kk b o nb e)))
theorem end_tupH {it l x1 : Addr} {i : Nat} {items} {Q : Option Value → Shared → Prop} (hot : HotAt A x1 s.heap) (ne : x1 ≠ it) (hit : IsTupIter s.heap it l i) (hl : IsTup s.heap l items) (hx : items[i]? = none)
    (hQ : ∀ h', Heap.ExtBut it s.heap h' → Q none { s with heap := h' }) : wpAny (model prog w) A (pyNext (.ref it)) Q E s := by
  obtain ⟨oi, gi, ci, di⟩ := id hit
  obtain ⟨ol, gl, _, nl, dl⟩ := hl
  unfold pyNext
  refine wpAny_bind (wpAny_attempt (wpAny_callSpecial?_slot (name := Str.ofString "__next__") hit.typeIs slot_tupleiter_next (wpAny_call_entry slot_tupleiter_next hit.typeIs entry_tupleiter_next ?_ (args_tupleiter_next _))))
  show wpAny _ _ (field (.ref it) 0 >>= _) _ _ _
  refine wpAny_bind (wpAny_field gi di (x := .ref l) rfl ?_)
  show wpAny _ _ (if (Value.ref l == Value.none) = true then _ else _) _ _ _
  rw [if_neg (fun z : (Value.ref l == Value.none) = true => Bool.false_ne_true z)]
  show wpAny _ _ (field (.ref it) 1 >>= _) _ _ _
  refine wpAny_bind (wpAny_field gi di (x := .int i 0) rfl ?_)
  show wpAny _ _ (seqItems? (.ref l) >>= _) _ _ _
  refine wpAny_bind (wpAny_seqItems gl dl ?_)
  simp only [Int.toNat_natCast, hx]
  refine wpAny_bind (wpAny_rule (wpAny_bind (wpAny_setField gi di (by simp) ?_)))
  have k0 : ∀ (b : Addr) (o : Obj), b ≠ it → s.heap.get? b = some o → (s.heap.update it (Obj.mapFields (·.setIfInBounds 0 Value.none))).get? b = some o := fun b o nb e => by rw [Heap.get?_update_other _ _ (Ne.symm nb)]; exact e
  refine stop_hot (it := it) (h0 := s.heap) (x1 := x1) (hot_at1 (hot_in1 hot) ne k0) k0 fun h' e kk ⟨oe, ge, ce⟩ => ?_
  exact wpAny_bind (wpAny_isInstance (T := "StopIteration") (b := true) ⟨oe, ge, ce⟩ isSubtype_stop (wpAny_pure (hQ _ fun b o nb e => kk b o nb e)))
/-- (a, b, ..) = a tuple -/
theorem unpackH {t x1 : Addr} {items : Array Value} {targets : List (Bool × (Value → Sem Unit))} {Q : Unit → Shared → Prop} (hot : HotAt A x1 s.heap) (ht : IsTup s.heap t items) (hn : targets.length = items.size) (hstar : targets.findIdx? (·.1) = none)
    (h : ∀ h', Heap.ExtBut s.heap.objs.size s.heap h' → wpAny (model prog w) A (assignInOrder (targets.map (·.2)) items.toList) Q E { s with heap := h' }) : wpAny (model prog w) A (unpack (.ref t) targets) Q E s := by
  obtain ⟨ot, gt, rt⟩ := id ht
  obtain ⟨hh, o1, v1, g1, r1⟩ := id hot
  have nt : t ≠ s.heap.objs.size := Nat.ne_of_lt (Heap.lt_size gt)
  have n1 : x1 ≠ s.heap.objs.size := Nat.ne_of_lt (Heap.lt_size g1)
  unfold unpack
  rw [hn, hstar]
  refine wpAny_bind (wpAny_holding ?_)
  unfold unpackItems notIterableAtAll
  refine wpAny_bind (wpAny_bind (wpAny_specialOf ht.typeIs slot_tuple_iter.lookup (wpAny_pure ?_)))
  simp only [Bool.false_eq_true, if_false]
  refine wpAny_bind (wpAny_holding (iter_tuple ht ?_))
  refine wpAny_bind (wpAny_holding (draw_tuple nt items.size 0 _ _ ⟨_, Heap.get?_push_size _ rfl, rfl, rfl⟩ (ht.push _) (by omega) fun h1 i1 b1 => ?_))
  rw [List.drop_zero, List.take_of_length_le (by simp), if_neg (by simp)]
  have k1 : ∀ (b : Addr) (o : Obj), b ≠ s.heap.objs.size → s.heap.get? b = some o → h1.get? b = some o := fun b o nb e => b1.extBut b o nb (Heap.get?_push_of_some _ e)
  refine wpAny_bind (wpAny_holding (end_tupH (x1 := x1) (hot_at1 hot n1 k1) n1 i1 ((ht.push _).extBut b1.extBut nt) (by simp) fun h2 e2 => ?_))
  simp only [Option.isSome_none, Bool.false_eq_true, if_false]
  exact wpAny_pure (h h2 fun b o nb e => e2 b o nb (k1 b o nb e))
end
section
variable {X : Cx}
/-- a, b = a tuple, while an exception is handled -/
theorem pg_tupH {es : List Expr} {k n : Nat} {t : TGs} {pos : Pos} (hc : HotC X) (h : PGs X es t) (hn : (assignEach es X.env).length = n := by rfl) (hst : (assignEach es X.env).findIdx? (·.1) = none := by rfl) : PG X (.Tuple es k pos) (gTup X.K n t) := ⟨fun pins s σ H v u Q I r hw => by
  obtain ⟨a, xs, rfl, hq, hl, hw⟩ := hw
  cases r
  obtain ⟨its, rv, ht, _⟩ := I.tuple hq
  obtain ⟨x1, hot⟩ := hc.at I
  rw [assign_Tuple]
  refine wpAny_bind (wpAny_standAt (unpackH hot ht (by simp [hn, ← hl, rv.length]) hst fun h' hx => ?_))
  exact h.run pins _ σ H xs _ Q (I.kept (t' := s.toks) fun b o e => hx b o (Nat.ne_of_lt (Heap.lt_size e)) e) (by simpa using rv) hw⟩
theorem HotC.pin1 {pins : List (Addr × Obj)} {σ : L2.St} {H : Hp} {s : Shared} (c : HotC X) (I : Inv X pins σ H s) : ∃ p : Addr × Obj, Hot1 X.A p ∧ p ∈ X.pn ∧ HotAt X.A p.1 s.heap := by
  obtain ⟨p, ⟨hh, v, e1, c1⟩, hp⟩ := c
  exact ⟨p, ⟨hh, v, e1, c1⟩, hp, hh, p.2, v, (I.pin p (List.mem_append_left _ hp)).1, e1, c1⟩
theorem turn_listH {P : Program} {w : World} {K : Fg} {tg : Expr} (a it : Addr) : TurnH P w K tg (Itl K a) [it] it (fun i h => h.IsListIter it a i) where
  mem := List.mem_singleton.mpr rfl
  obj := (turn_list (P := P) (w := w) (K := K) (tg := tg) a it).obj
  keep := (turn_list (P := P) (w := w) (K := K) (tg := tg) a it).keep
  item := fun X hP hw hK hc i pins s σ H E I hf st hg => by
    subst hP hw hK
    obtain ⟨xs, x, hq, hx⟩ := hg
    obtain ⟨its, rv, p, _⟩ := I.list hq
    obtain ⟨u, hu, ru⟩ := rv.get hx
    have F := hf it (List.mem_singleton.mpr rfl)
    refine wpAny_pyNext_list_item st p.isList (x := u) (by simpa using hu) fun h' st' sb => ?_
    have J : Inv X pins σ H { s with heap := h' } := I.turned (t' := s.toks) (fun b o hb e => (sb.2 b hb).trans e) F.1 F.2.1 F.2.2.2.1 F.2.2.2.2.1 F.2.2.2.2.2
    obtain ⟨o, e, c, d⟩ := id st'
    exact ⟨u, rfl, go_of (s := { s with heap := h' }) e c d (by decide) ⟨x, H, J, ru, ⟨rfl, fun ys hy => by rw [I.list_inj hy hq]; exact hx⟩, st', fun b hb => (hf b hb).1⟩⟩
  done := fun X hP hw hK hc i pins s σ H E I hf st hg => by
    subst hP hw hK
    obtain ⟨xs, hq, hx⟩ := hg
    obtain ⟨its, rv, p, _⟩ := I.list hq
    have F := hf it (List.mem_singleton.mpr rfl)
    have ln := rv.length
    obtain ⟨q, _, hq1, hot⟩ := HotC.pin1 hc I
    exact end_listH hot (F.2.2.2.2.2 q (List.mem_append_left _ hq1)) st p.isList (by simp; omega) fun h' eb => ⟨rfl, I.turned (t' := s.toks) (fun b o hb e => eb b o hb e) F.1 F.2.1 F.2.2.2.1 F.2.2.2.2.1 F.2.2.2.2.2⟩
  self := (turn_list (P := P) (w := w) (K := K) (tg := tg) a it).self
theorem pi_listH {tg l : Expr} {tl : TE} (hl : PE X l tl) : PIH X tg l (iList X.K tl) := ⟨fun pins s σ H R I h => thn (hl.run pins s σ H _ I h) fun v s1 ⟨x, H1, I1, r1, q1⟩ => by
  obtain ⟨a, rfl, ⟨xs, hq⟩, q⟩ := q1
  cases r1
  obtain ⟨its, rv, p, _⟩ := I1.list hq
  refine wpAny_pyIter_list p.isList ⟨s1.heap.objs.size, [s1.heap.objs.size], _, _, H1, rfl, I1.kept (t' := s1.toks) fun b o e => Heap.get?_push_of_some _ e, turn_listH a _, ⟨_, Heap.get?_push_size _ rfl, rfl, rfl⟩, fun b hb => ?_, q⟩
  cases List.mem_singleton.mp hb
  exact I1.fpOk (Nat.le_refl _) (I1.hok.fresh (Nat.le_refl _))⟩
end
end
end PL
set_option Elab.async false
set_option linter.all false
set_option maxRecDepth 100000
set_option maxHeartbeats 1000000
set_option autoImplicit false
namespace PL
open PySem PySem.Spec PyProof.Rows L2 LW L2H HotX
noncomputable section
/-! ### a list comprehension while an exception is handled -/
/-- the block's context; the exception p stays pinned -/
abbrev blkH (X : Cx) (p : Addr × Obj) (s : Shared) (H : Hp) (scope : Scope) (cenv : PySem.Env) (fp : List Addr) : Cx := { X.blk s H scope cenv fp with pn := [p] }
section
variable {X : Cx}
theorem ok_pn {pn : List (Addr × Obj)} (o : X.Ok) : ({ X with pn := pn } : Cx).Ok := ⟨o.mod, o.kind, o.glob, o.blt, o.above, o.inj, o.has, o.cab, o.hd, o.frames, o.stk, o.exf, o.bs, o.bsz, o.noex, o.exfs, o.funs, o.frf⟩
theorem inv_pn {pins pn pins' : List (Addr × Obj)} {σ : L2.St} {H : Hp} {s : Shared} (I : Inv X pins σ H s) (h : ∀ q ∈ pn ++ pins', s.heap.get? q.1 = some q.2 ∧ H q.1 = none ∧ q.1 ≠ X.env.locals ∧ q.1 ∉ X.fs ∧ ∀ v, q.2.data ≠ .cell v) :
    Inv ({ X with pn := pn } : Cx) pins' σ H s := ⟨ok_pn I.ok, I.os, I.bare, I.base, I.loc, I.cell, I.free, I.freeC, h, I.hok, I.len⟩
theorem HotC.blk {p : Addr × Obj} {s : Shared} {H : Hp} {scope : Scope} {ce : PySem.Env} {fp : List Addr} (hp : Hot1 X.A p) : HotC (blkH X p s H scope ce fp) := ⟨p, hp, List.mem_singleton.mpr rfl⟩
theorem pe_lcH {elt tg iter : Expr} {ifs : List Expr} {scope : Scope} {own : List (Str × Nat)} {pos : Pos} {wi : TI} {g : TG} {tt : TT} {te : TE} (hc : HotC X) (hN : X.N.Nodup) (hi : PIH X tg iter wi) (ok : BlkOk X.N X.env.scope scope own)
    (hg : ∀ (p : Addr × Obj) (_ : Hot1 X.A p) (s : Shared) (H : Hp) (C : Addr) (cl : List (Str × Addr)) (fp : List Addr), PG (blkH X p s H scope (compEnvC scope cl C X.env) fp) tg g)
    (ht : ∀ (p : Addr × Obj) (_ : Hot1 X.A p) (s : Shared) (H : Hp) (C : Addr) (cl : List (Str × Addr)) (fp : List Addr), PTs (blkH X p s H scope (compEnvC scope cl C X.env) fp) ifs tt)
    (he : ∀ (p : Addr × Obj) (_ : Hot1 X.A p) (s : Shared) (H : Hp) (C : Addr) (cl : List (Str × Addr)) (fp : List Addr), PE (blkH X p s H scope (compEnvC scope cl C X.env) fp) elt te)
    (hs : ∀ x, foldedSetIterable iter X.env x = pure x := by intro _; rfl) : PE X (.ListComp elt [⟨tg, iter, ifs, 0⟩] scope pos) (tLc wi g tt te (own.map (·.2))) := by
  refine ⟨fun pins s σ H Q I hw => ?_⟩
  obtain ⟨p, hp, hpm⟩ := hc
  rw [eval_ListComp]
  have frees : ∀ y ∈ scope.names, y.2 = .free → ∃ c, X.env.cells.lookup y.1 = some c := fun y hy ey => (ok.free y hy ey).elim (fun k => I.ok.has _ (.inl k)) fun k => I.ok.has _ (.inr k)
  refine wpAny_comprehension_free (use := none) rfl hs (closure_ok frees) ok.kind (fun y hy ey => by rw [ok.uniq y hy, ey]) (thn (hi.run pins s σ H _ I hw) fun xv sA hx => thn hx fun itv sB hB => ?_)
  obtain ⟨it, fp, tn, J, HB, rfl, IB, T, tB, fB, wish⟩ := hB
  refine wpAny_newObj_type (newEnv_comp ?_) (by show 0 ≤ sizeLine; decide)
  -- the list that is made
  generalize eD : sB.heap.objs.size = D
  have nD : HB D = none := IB.hok.fresh (Nat.le_of_eq eD)
  obtain ⟨Wt, ⟨n0, w0⟩, turn⟩ := wish D nD
  generalize eC : ({ sB with heap := sB.heap.push { cls := .type "list", data := .seq ([] : List Value).toArray } } : Shared) = sC
  have hC : sC.heap = sB.heap.push { cls := .type "list", data := .seq ([] : List Value).toArray } := by rw [← eC]
  have IC : Inv X pins σ (upd HB D (.lst [])) sC := by
    subst eC
    exact IB.laid (t' := sB.toks) (fun b o e => Heap.get?_push_of_some _ e) (Nat.le_of_eq eD) ⟨Nat.zero_le _, [], 0, .nil, by rw [← eD]; exact Heap.get?_push_size _ rfl⟩
  have old : ∀ b ∈ fp, b < sB.heap.objs.size := fun b hb => let ⟨o, e, _⟩ := T.obj _ _ tB b hb; Heap.lt_size e
  have fC : ∀ b ∈ fp, FpOk X pins (upd HB D (.lst [])) b ∧ b < sC.heap.objs.size := fun b hb =>
    ⟨⟨by rw [upd_ne (by rw [← eD]; exact Nat.ne_of_lt (old b hb))]; exact (fB b hb).1, (fB b hb).2⟩, by rw [hC, Heap.size_push]; exact Nat.lt_succ_of_lt (old b hb)⟩
  have tC : tn 0 sC.heap := T.keep _ _ _ tB fun b _ o e => by rw [hC]; exact Heap.get?_push_of_some _ e
  have ID := block_start IC ok hN fC
  generalize eH : upd HB D (.lst []) = HC at IC ID w0 fC
  generalize ecl : cellsFrom (sC.heap.objs.size + 1) scope.names (cloFrom X.env.cells scope.names []) = cl at ID ⊢
  have pg := hg p hp sC HC sC.heap.objs.size cl fp
  have pt := ht p hp sC HC sC.heap.objs.size cl fp
  have pe := he p hp sC HC sC.heap.objs.size cl fp
  show codeAny _ _ (.compStart (.ListComp elt [⟨tg, iter, ifs, 0⟩] scope pos) 0 (.ref it) (.ref D) (compEnvC scope cl sC.heap.objs.size X.env)) (compPost (model X.prog X.w) X.A X.xe none _ (.ref D) sC.heap.objs.size) { sC with heap := pushCells (sC.heap.push { cls := .type "dict", data := .dict #[] }) scope.names }
  generalize ece : compEnvC scope cl sC.heap.objs.size X.env = ce at ID pg pt pe ⊢
  have lC : ce.locals = sC.heap.objs.size := by subst ece; rfl
  have kD : ∀ b o, sC.heap.get? b = some o → (pushCells (sC.heap.push { cls := .type "dict", data := .dict #[] }) scope.names).get? b = some o := fun b o e => pushCells_keeps _ _ _ _ (Heap.get?_push_of_some _ e)
  generalize esD : ({ sC with heap := pushCells (sC.heap.push { cls := .type "dict", data := .dict #[] }) scope.names } : Shared) = sD at ID ⊢
  have kD : ∀ b o, sC.heap.get? b = some o → sD.heap.get? b = some o := fun b o e => by rw [← esD]; exact kD b o e
  have pC := IC.pin p (List.mem_append_left _ hpm)
  have IE : Inv (blkH X p sC HC scope ce fp) [] (wipe σ (own.map (·.2))) HC sD := inv_pn (pn := [p]) ID fun q hq => by
    cases List.mem_singleton.mp (show q ∈ [p] by simpa using hq)
    refine ⟨kD _ _ pC.1, pC.2.1, ?_, fun hm => (List.mem_cons.mp (IC.stkSub p.1 hm)).elim pC.2.2.1 pC.2.2.2.1, pC.2.2.2.2⟩
    show p.1 ≠ ce.locals
    rw [lC]
    exact Nat.ne_of_lt (Heap.lt_size pC.1)
  have tD : tn 0 sD.heap := T.keep _ _ _ tC fun b _ o e => kD b o e
  have pfp : ∀ b ∈ fp, p.1 ≠ b := fun b hb => (fC b hb).1.2.2.2.2.2 p (List.mem_append_left _ hpm)
  have fpE : ∀ {σ' : L2.St} {H' : Hp} {s' : Shared}, Inv (blkH X p sC HC scope ce fp) [] σ' H' s' → (∀ b ∈ fp, H' b = none) → ∀ b ∈ fp, FpOk (blkH X p sC HC scope ce fp) [] H' b := fun {σ' H' s'} I' hn b hb =>
    ⟨hn b hb, (I'.ok.exf b hb).1, I'.ok.exfs b hb, .inl hb, (I'.ok.exf b hb).2, fun q hq => by cases List.mem_singleton.mp (show q ∈ [p] by simpa using hq); exact pfp b hb⟩
  have hotB : HotC (blkH X p sC HC scope ce fp) := HotC.blk hp
  have loop : codeAny (model X.prog X.w) X.A (.compLoop (.ListComp elt [⟨tg, iter, ifs, 0⟩] scope pos) 0 (.ref it) (.ref D) ce) (compPost (model X.prog X.w) X.A X.xe none (EP X pins σ Q) (.ref D) sC.heap.objs.size) sD := by
    refine compLoop_any (fun n s' => ∃ i H', Inv (blkH X p sC HC scope ce fp) [] (wipe σ (own.map (·.2))) H' s' ∧ tn i s'.heap ∧ (∀ b ∈ fp, H' b = none) ∧ Wt i n H') ?_ n0 ⟨0, HC, IE, tD, fun b hb => (fC b hb).1.1, w0⟩
    rintro n s5 ⟨i, H5, I5, t5, n5, w5⟩
    rcases turn i n H5 w5 with ⟨over, q⟩ | ⟨more, Nx, less, step⟩
    · refine thnF (T.done (blkH X p sC HC scope ce fp) rfl rfl rfl hotB i [] s5 _ H5 (fun _ _ => False) I5 (fpE I5 n5) t5 over) fun r s6 ⟨hr, I6⟩ => ?_
      subst hr
      have I7 : Inv X pins σ H5 s6 := IC.call' (ch := fp) I6.os I6.base I6.hok I6.bare fun b hb => let z := (fC b hb).1; ⟨z.2.2.2.1, z.2.1, z.2.2.2.2.1, z.2.2.2.2.2⟩
      have z : H5 ce.locals = none := I6.free
      obtain ⟨m, ns, _⟩ := I6.loc
      have ns : s6.heap.Ns ce.locals m := ns
      rw [lC] at z ns
      have f := IC.fpOk (Nat.le_refl _) z
      exact ⟨m, ns, fun h'' sb => ⟨.ref D, H5, I7.turned (t' := s6.toks) (fun b o hb e => (sb.2 b hb).trans e) f.1 f.2.1 f.2.2.2.1 f.2.2.2.2.1 f.2.2.2.2.2, rfl, q⟩⟩
    · refine thnF (T.item (blkH X p sC HC scope ce fp) rfl rfl rfl hotB i [] s5 _ H5 (fun _ _ => False) I5 (fpE I5 n5) t5 more) fun r s6 ⟨u, hr, h6⟩ => ?_
      subst hr
      refine thnF h6 fun _ s7 ⟨x, H7, I7, r7, y7, t7, n7⟩ => ?_
      have P7 := I7.pinned (fpE I7 n7) (T.obj _ _ t7)
      refine thnF (pg.run _ s7 _ H7 x u _ P7 r7 (step x H7 y7)) fun _ s8 ⟨σ8, H8, I8, same, q8⟩ => thnF (pt.run _ s8 σ8 H8 _ I8 q8) fun b s9 ⟨H9, I9, q9⟩ => ?_
      have next : ∀ {s' : Shared} {H' : Hp}, Inv (blkH X p sC HC scope ce fp) ([] ++ pinsAt fp s7.heap) σ8 H' s' → Nx H' → ∃ m, m < n ∧ ∃ i H', Inv (blkH X p sC HC scope ce fp) [] (wipe σ (own.map (·.2))) H' s' ∧ tn i s'.heap ∧ (∀ b ∈ fp, H' b = none) ∧ Wt i m H' := fun {s' H'} I' nx => by
        obtain ⟨m', lt, w'⟩ := less H' nx
        have at' : ∀ b ∈ fp, ∀ o, s7.heap.get? b = some o → s'.heap.get? b = some o ∧ H' b = none := fun b hb o e =>
          have z := I'.pin (b, o) (List.mem_append_right _ (List.mem_append_right _ (mem_pinsAt hb e)))
          ⟨z.1, z.2.1⟩
        refine ⟨m', lt, i + 1, H', (I'.unpinned (pins := [])).weak (by rw [← same, wipe_length]) (fun j v e => ?_), T.keep _ _ _ t7 fun b hb o e => (at' b hb o e).1, fun b hb => ?_, w'⟩
        · rw [← same] at e
          exact (wipe_some e).1
        · obtain ⟨o, e, _⟩ := T.obj _ _ t7 b hb
          exact (at' b hb o e).2
      cases b with
      | false =>
        simp only [Bool.false_eq_true, if_false] at q9 ⊢
        exact next I9 q9
      | true =>
        simp only [if_true] at q9 ⊢
        exact thnF (pe.run _ s9 σ8 H9 _ I9 q9) fun z s10 ⟨yv, H10, I10, r10, acc, hD, hz, nx⟩ => app_ok (X := blkH X p sC HC scope ce fp) I10 hD hz r10 fun s11 I11 => next I11 nx
  exact codeAny_compStart_list loop (T.self X.A 0 _ _ _ tD loop)
end
end
end PL
set_option Elab.async false
set_option linter.all false
set_option maxRecDepth 100000
set_option maxHeartbeats 1000000
set_option autoImplicit false
/-! ### isinstance of a caught error that has a dict -/
namespace PySem.W
open PySem PySem.Spec PySem.Calls PyProof.Rows
section
variable {prog : Program} {w : World} {A : Around} {E : Value → Shared → Prop} {s : Shared} {K : Frag} {x D : Addr} {ox : Obj} {od : Option Obj}
theorem excD_class {Q : Option Value → Shared → Prop} (C : L2.ExcC K D) (X : K.In s.heap) (I : InstAt s.heap x ox D od) (h : Q (some (.ref D)) { s with toks := s.toks + 1 }) : wpAny (model prog w) A (getAttr? (.ref x) "__class__") Q E s := by
  obtain ⟨cd, hcd, _⟩ := any_some C.hd
  have fnd : findObj K D od "__class__" = some (.bind (.builtin "getset_descriptor.__get__") (.builtin "object.__class__")) := by
    unfold findObj
    rw [hcd, Option.bind_some, C.ha, Option.bind_some]
    simp [C.hn, C.ht]
  obtain ⟨hp, g, d, t, os⟩ := s
  have ty := I.type (M := model prog w)
  have l1 := looks_findIn (M := model prog w) X C.hg
  have l2 := looks_findIn (M := model prog w) X C.hk
  have l3 := looks_find (M := model prog w) X I fnd
  have isB : Looks (model prog w) hp (isInstance (.ref x) (.type "BaseException")) true := ty.andThen (looks_subIn X C.hs)
  have ne : (Value.builtin "BaseException.__getattribute__" == Value.builtin "object.__getattribute__") = false := by decide +kernel
  have no : (onTheHeap (Value.ref D) && Value.builtin "BaseException.__getattribute__" == Value.builtin "object.__getattribute__") = false := by rw [ne]; rfl
  unfold getAttr? getAttrBy? getAttrBy
  refine wpAny_bind (wpAny_mkText (wpAny_bind (wpAny_attempt (wpAny_holding (wpAny_bind (ty.at (wpAny_bind (l1.at ?_))))))))
  show wpAny _ _ (if (onTheHeap (Value.ref D) && Value.builtin "BaseException.__getattribute__" == Value.builtin "object.__getattribute__") = true then _ else _) _ _ _
  rw [no, if_neg (fun z => Bool.false_ne_true z)]
  unfold getAttrByItsOwn hookBefore
  refine wpAny_bind ?_
  rw [if_pos (show onTheHeap (Value.ref D) = true from rfl)]
  refine l2.at (wpAny_bind (wpAny_attempt (wpAny_holding ?_)))
  unfold callGetattribute
  rw [show (false && onTheHeap (Value.builtin "BaseException.__getattribute__")) = false from rfl, if_neg (fun z => Bool.false_ne_true z)]
  unfold boundAndCalled
  rw [PySem.F.excAttr_ValueError.ga.bind (.ref x)]
  refine wpAny_bind (wpAny_pure ?_)
  show wpAny _ _ (call (.builtin "BaseException.__getattribute__") [.ref x, .str "__class__" t]) _ _ _
  refine wpAny_call (codeAny_call_builtin PySem.F.excAttr_ValueError.ga.plain PySem.F.entry_bexc_ga ?_)
  refine @check_slot (model prog w) _ _ ⟨hp, g, d, t + 1, os⟩ "BaseException.__getattribute__" "BaseException" "__getattribute__" (.ref x) [.str "__class__" t] [] _ (by decide +kernel) (by decide +kernel) isB (PySem.F.args_bexc_ga (.ref x) (.str "__class__" t)) ?_
  unfold Builtin.«object.__getattribute__»
  refine wpAny_bind (wpAny_of_eq (a := ((Value.ref x : Value), [Value.str "__class__" t])) (by first | rfl | (simp only [slotArgs]; rfl)) (wpAny_bind (wpAny_pure (wpAny_bind (ty.at (wpAny_bind (l3.at ?_)))))))
  show wpAny _ _ (holding [Value.builtin "object.__class__"] (call (.builtin "getset_descriptor.__get__") [.builtin "object.__class__", .ref x, .ref D]) >>= ret) _ _ _
  refine wpAny_bind (wpAny_holding (wpAny_call (class_get (s := ⟨hp, g, d, t + 1, os⟩) (ox := ox) (od := od) X I C.hm (wpAny_pure ?_))))
  show wpAny _ _ (handedOut (.ref D)) _ _ _
  rw [handedOut_of (v := .ref D) rfl]
  first
    | exact wpAny_pure (wpAny_pure h)
    | exact wpAny_pure h
    | exact wpAny_pure (wpAny_bind (wpAny_pure (wpAny_pure h)))
theorem excD_kit (C : L2.ExcC K D) : KitX K (.ref x) (.ref D) (fun h => ∃ od, InstAt h x ox D od) :=
  have Z := handS_kitx_exc (x := x) (ox := ox) C.hg C.hk C.hs C.hd C.ha C.hn C.ht C.hm
  { ty := fun _ _ _ ⟨od, I⟩ => I.type
    it := fun M h X ⟨od, I⟩ => by
      obtain ⟨cd, hcd, _⟩ := any_some C.hd
      unfold clsIn at hcd
      split at hcd
      · rename_i c' d' cd' sl' ho
        exact fun A' Q' E' s' k q => by
          unfold isType loadHead
          exact wpAny_bind (wpAny_loadPart (k _ _ (X _ _ ho)) (wpAny_pure q))
      · cases hcd
    ne := Z.ne
    ca := fun X ⟨od, I⟩ k => excD_class C X I k }
end
end PySem.W
namespace PL
open PySem PySem.Spec PyProof.Rows L2 LW L2H HotX
noncomputable section
/-- isinstance(e, c): e the pinned exception, D its class, dd its dict -/
def rIsX (K : Fg) (D a : Addr) (d : Option Addr) : List V → Hp → VK → Prop := fun xs H Q => ∃ (c : V) (cv : Value) (b : Bool), xs = [.ref a, c] ∧ (∀ u, RelV c u → u = cv) ∧ PySem.W.kitOne K (.ref D) cv = some b ∧ (∀ dd, d = some dd → ∃ fs, H dd = some (.xd fs)) ∧ Q (.bl b) H
section
variable {X : Cx} {W : WX} {K : Fg} {i : Nat} {a : Addr} {cls : Value} {d : Option Addr}
theorem call_isX {D : Addr} {oe : Obj} (C : ExcC X.K D) (hp : (a, oe) ∈ X.pn) (hz : Zc (.ref D) d oe) (hf : ∃ vs, oe.data = .fields vs) : CallR X (.builtin "isinstance") (rIsX X.K D a d) := fun pins s σ H xs us Q I r h => by
  obtain ⟨c, cv, b, rfl, hcv, e, hd, q⟩ := h
  match us, r with
  | [_, _], .cons rx (.cons rt .nil) =>
    cases rx
    cases hcv _ rt
    have g := (I.pin (a, oe) (List.mem_append_left _ hp)).1
    obtain ⟨vs, hv⟩ := hf
    have J : ∃ od, PySem.W.InstAt s.heap a oe D od := by
      have z2 : oe.dict = d := hz.2
      cases d with
      | none => exact ⟨none, g, hz.1, by unfold PySem.W.notCls; rw [hv] <;> rfl, by rw [z2]; trivial⟩
      | some dd =>
        obtain ⟨fs, hd⟩ := hd dd rfl
        have hx : ObjOk X.prog X.w H s.heap dd (.xd fs) := I.hok dd _ hd
        obtain ⟨mA, hns, _⟩ := hx
        obtain ⟨od, ho, _⟩ := lookIn_ns hns
        exact ⟨some od, g, hz.1, by unfold PySem.W.notCls; rw [hv] <;> rfl, by rw [z2]; exact ho⟩
    exact PySem.W.kia_one (PySem.W.excD_kit (ox := oe) C) I.kIn J e (fun z => nomatch z) fun tk => ⟨.bl b, H, I.kept (t' := tk) fun _ _ z => z, rfl, q⟩
/-! ### expressions that hold the caught exception -/
theorem pxh_lst {es : List Expr} {pos : Pos} {m : Str → PV → Mx (List PV)} (h : PXah X W i a cls d es m) : PXh X W i a cls d (.List es pos) (fun c x => mLst (m c x)) := ⟨⟨fun pins s σ H Q I q => (pe_lst h.pe).run pins s σ H Q I (by
  obtain ⟨ρ, hs, env, st, c, x, hx, r, p⟩ := q
  refine ⟨ρ, hs, env, st, c, x, hx, r, PostG.bnd p fun ys s1 _ p1 ρ1 H1 vs r1 d1 => ?_⟩
  by_cases hl : ys.length ≤ sizeLine
  · rw [if_pos hl] at p1
    refine ⟨by rw [d1.len]; exact hl, fun q hq => ?_⟩
    obtain ⟨r2, d2⟩ := r1.lst hq d1
    exact p1 _ _ _ r2 d2
  · rw [if_neg hl] at p1; exact p1.elim)⟩⟩
theorem pxh_not {e : Expr} {pos : Pos} {m : Str → PV → Mx PV} (h : PXh X W i a cls d e m) : PXh X W i a cls d (.UnaryOp .Not e pos) (fun c x => mNotV (m c x)) := ⟨⟨fun pins s σ H Q I q => (pe_not h.pe).run pins s σ H Q I (by
  obtain ⟨ρ, hs, env, st, c, x, hx, r, p⟩ := q
  refine ⟨ρ, hs, env, st, c, x, hx, r, PostG.bnd p fun y s1 _ p1 ρ1 H1 v r1 d1 => ?_⟩
  cases y with
  | bl b => cases d1; exact ⟨b, rfl, p1 ρ1 H1 _ r1 rfl⟩
  | _ => exact p1.elim)⟩⟩
theorem pxh_op {op : Operator} {e1 e2 : Expr} {pos : Pos} {r : R2} {φ : PV → PV → Store → Res PV} {m n : Str → PV → Mx PV} (ho : OpR X (binaryOp op) r) (hs : Op2 X.K r φ) (h : PXh X W i a cls d e1 m) (g : PXh X W i a cls d e2 n) :
    PXh X W i a cls d (.BinOp e1 op e2 pos) (fun c x => mOp φ (m c x) (n c x)) := ⟨⟨fun pins s σ H Q I q => (pe_op ho h.pe g.pe).run pins s σ H Q I (by
  obtain ⟨ρ, hs', env, st, c, x, hx, r, p⟩ := q
  refine ⟨ρ, hs', env, st, c, x, hx, r, PostG.bnd p fun y s1 _ p1 ρ1 H1 v r1 d1 => ?_⟩
  refine ⟨ρ1, .val y v :: hs', env, s1, c, x, hx.more fun q hq => List.mem_cons_of_mem _ hq, r1.hold d1, PostG.bnd p1.hold fun z s2 _ p2 ρ2 H2 w r2 d2 => ?_⟩
  exact hs W ρ2 _ env σ s2 H2 Q y z v w r2 r2.top d2 p2)⟩⟩
/-- of which class an error is -/
structure ExI (K : Fg) (cs : List Str) (sub : Str → Str → Bool) (cn : Str) : Prop where
  m : ∀ c ∈ cs, PySem.W.kitOne K (.ref (He.ga K c)) (.ref (He.ga K cn)) = some (sub c cn)
structure ExT (K : Fg) (cs : List Str) (tn : String) : Prop where
  m : ∀ c ∈ cs, PySem.W.kitOne K (.ref (He.ga K c)) (.type tn) = some true
structure ExQ (K : Fg) (cs : List Str) : Prop where
  m : ∀ c ∈ cs, ExcC K (He.ga K c)
def mIsX (cs : List Str) (b : Str → Bool) : Str → PV → Mx PV := fun c _ => if c ∈ cs then mC (.bl (b c)) else mNeverE
theorem pxh_isG {cs : List Str} {n : Str} {ce : Expr} {cV : V} {cv : Value} {b : Str → Bool} {np pos p : Pos} {oe : Obj} (Q0 : ExQ X.K cs) (hk : ∀ c ∈ cs, PySem.W.kitOne X.K (.ref (He.ga X.K c)) cv = some (b c)) (hp : (a, oe) ∈ X.pn) (hz : Zc cls d oe) (hf : ∃ vs, oe.data = .fields vs)
    (hce : PE X ce (tC cV)) (hcv : ∀ u, RelV cV u → u = cv) (hg : Gl X "isinstance") (hm : X.mg "isinstance" = none) (hN : X.N[i]? = some n)
    (hv : Vis X.env.scope n) (hd : (n == ("__debug__" : Str)) = false) (hcd : (n == ("__classdict__" : Str)) = false)
    (h1 : starEach [ce] X.env = (false, eval ce X.env) :: starEach [] X.env) (h2 : starEach [.Name n np, ce] X.env = (false, eval (.Name n np) X.env) :: starEach [ce] X.env) (hpl : (backTo pos (starEach [ce] X.env)).any (·.1) = false) :
    PXh X W i a cls d (.Call (.Name "isinstance" p) [.Name n np, ce] [] pos) (mIsX cs b) := ⟨⟨fun pins s σ H Q I q => by
  obtain ⟨ρ, hs, env, st, c, x, ⟨y, e1, e2, e4, e5⟩, r, p⟩ := q
  unfold mIsX at p
  by_cases hc : c ∈ cs
  · rw [if_pos hc] at p
    subst e1
    refine (pe_callB (call_isX (Q0.m c hc) hp hz hf) hg hm boot_isinstance (pa_cons (pe_var hN hv hd hcd) (pa_cons hce pa_nil h1) h2) (by decide) (by decide) h2 hpl).run pins s σ H Q I ?_
    refine ⟨.ref a, e5, cV, cv, b c, rfl, hcv, hk c hc, fun dd ed => ?_, p ρ H _ r rfl⟩
    obtain ⟨_, z⟩ | ⟨_, dd', z, e3⟩ := e2
    · rw [z] at ed; cases ed
    · rw [z] at ed; cases ed; exact ⟨_, (r.h _ e3).1⟩
  · rw [if_neg hc] at p; exact p.elim⟩⟩
theorem pxbh_of {b : List Stmt} {m : Ms} (h : PXB X W b m) : PXBh X W i a cls d b (fun _ _ => m) := ⟨⟨fun pins s σ H D I q => h.pe.run pins s σ H D I (let ⟨ρ, hs, env, st, _, _, _, r, p⟩ := q; ⟨ρ, hs, env, st, r, p⟩)⟩⟩
theorem pxbh_cons {j : Nat} {y : Str} {e : Expr} {rest : List Stmt} {m : Str → PV → Mx PV} {n : Str → PV → Ms} {pos' pos : Pos} (hN : X.N.Nodup) (hj : X.N[j]? = some y) (hx : Loc X.env.scope y) (hij : j ≠ i) (he : PXh X W i a cls d e m) (hr : PXBh X W i a cls d rest n)
    (hs : swapsWith e (some (.Name y pos')) pos.line X.env = pure false := by rfl) (hf : X.fn y = true ∨ X.env.scope.names.lookup y = some .local := by first | exact .inl rfl | exact .inr rfl | assumption) :
    PXBh X W i a cls d (.Assign [.Name y pos'] e pos :: rest) (fun c x => mSeq (mSet j (m c x)) (n c x)) := ⟨⟨fun pins s σ H D I q => (pss_cons (ps_set hN hj hx he.pe hs hf) hr.pe).run pins s σ H D I (by
  obtain ⟨ρ, hs, env, st, c, x, hx, r, p⟩ := q
  refine ⟨ρ, hs, env, st, c, x, hx, r, ?_⟩
  unfold mSeq mSet at p
  dsimp only at p
  cases e1 : m c x env st with
  | ok v s1 =>
    rw [e1] at p
    intro ρ1 H1 w r1 d1
    obtain ⟨y, h1, h2, h4, h5⟩ := hx
    exact ⟨ρ1, hs, _, s1, c, x, ⟨y, h1, h2, h4, by rw [List.getElem?_set_ne hij]; exact h5⟩, r1.set d1, p⟩
  | exc c' x' s1 => rw [e1] at p; exact fun ρ1 H1 d1 y1 r1 k1 k2 => p ρ1 σ H1 d1 y1 r1 k1 k2
  | bad => rw [e1] at p; exact p.elim)⟩⟩
end
end
end PL
set_option Elab.async false
set_option linter.all false
set_option maxRecDepth 100000
set_option maxHeartbeats 1000000
set_option autoImplicit false
namespace PL
open PySem PySem.Spec PyProof.Rows L2 LW L2H HotX
noncomputable section
/-! ### a def that is handed the caught exception -/
abbrev PFh := Str → PV → Store → Res PV
def NoX : XK := fun _ _ _ => False
def spH (K : Fg) (cls : Value) (d : Option Addr) (pf : PFh) (H : Hp) (Q : VK) : Prop :=
  ∃ ρ hs st c x y, cls = .ref (He.ga K c) ∧ XHs c d y hs ∧ HE.val x y ∈ hs ∧ Rel K ρ hs [] [] st H ∧ PostC K hs Q NoX (pf c x st)
def runH (n : Nat) (m : Str → PV → Ms) : PFh := fun c x st => match m c x (List.replicate n none) st with
  | .nx _ s1 => .ok .non s1
  | .rt v s1 => .ok v s1
  | _ => .bad
structure FnX (P : Program) (w : World) (K : Fg) (mg : Str → Option Value) (base : Heap) (k : Nat) (f : Addr) (fd : FuncData) (p0 : Str) (pf : PFh) : Prop where
  run : ∀ (A : Around) (outer : List PySem.Env) (s : Shared) (H : Hp) (a : Addr) (oe : Obj) (cls : Value) (d : Option Addr) (Q : VK), RoomH k A → Hot1 A (a, oe) → PinOk outer H s (a, oe) → Zc cls d oe → (∃ vs, oe.data = .fields vs) →
    Env0 P w K mg base A outer s H → BindsTo s fd ⟨[.ref a], []⟩ [(p0, .ref a)] → spH K cls d pf H Q → codeAny (model P w) A (.call (.ref f) ⟨[.ref a], []⟩) (CR (L2N.CX P w) outer P w H s Q NoX) s
section
variable {P : Program} {w : World} {K : Fg} {mg : Str → Option Value} {base : Heap} {x qual p0 : Str} {params : Arguments} {body : List Stmt} {scope : Scope} {dvs : List V} {kws : List (Str × V)} {f : Addr} {fd : FuncData}
abbrev cxX (P : Program) (w : World) (K : Fg) (mg : Str → Option Value) (base : Heap) (N : List Str) (qual : Str) (scope : Scope) (f : Addr) (cdv : Value) (A : Around) (outer : List PySem.Env) (s : Shared) (H : Hp) (p : Addr × Obj) : Cx := cxH (L2N.CX P w) P w K mg base N qual scope f cdv A outer s H NoX p
theorem hot_cx {N : List Str} {cdv : Value} {A : Around} {outer : List PySem.Env} {s : Shared} {H : Hp} {p : Addr × Obj} (h : Hot1 A p) : HotC (cxX P w K mg base N qual scope f cdv A outer s H p) := ⟨p, h, List.mem_singleton.mpr rfl⟩
theorem pn_cx {N : List Str} {cdv : Value} {A : Around} {outer : List PySem.Env} {s : Shared} {H : Hp} {p : Addr × Obj} : p ∈ (cxX P w K mg base N qual scope f cdv A outer s H p).pn := List.mem_singleton.mpr rfl
theorem fn_pureX {N : List Str} {k : Nat} {m : Str → PV → Ms} (F : FunD K x qual params body scope dvs kws f fd) (S : FnScope N [p0] scope)
    (hbody : ∀ (cdv : Value) (A : Around) (outer : List PySem.Env) (s : Shared) (H : Hp) (a : Addr) (oe : Obj) (cls : Value) (d : Option Addr), Hot1 A (a, oe) → Zc cls d oe → (∃ vs, oe.data = .fields vs) → RoomH k (A.deeper (envOfC qual scope s.heap.objs.size f cdv)) →
      PXBh (cxX P w K mg base N qual scope f cdv A outer s H (a, oe)) W0 0 a cls d body m) : FnX P w K mg base (k + 1) f fd p0 (runH N.length m) := by
  obtain ⟨oc, od, dV, kV, doc, pm, an, cdv, ct, osl, rfl, lk, hcd, _, _⟩ := F.ex
  refine ⟨fun A outer s H a oe cls d Q hr hot pin hz hf e0 hb hsp => ?_⟩
  have kin : K.In s.heap := e0.mod.kin.keeps fun b o e => (e0.bs b o e).1
  have par : ∀ y ∈ [p0].zip [Value.ref a], scope.names.lookup y.1 = some .local ∨ (scope.names.lookup y.1 = some .cell ∧ ((cellsFrom (s.heap.objs.size + 1) scope.names []).lookup y.1).isSome = true) := fun ⟨n, v⟩ hy =>
    (S.par n (List.of_mem_zip hy).1).imp id fun q => ⟨q, PySem.W.cellsFrom_some _ _ _ (.inl q)⟩
  refine codeAny_call_function hr.depth (kin _ _ lk) rfl S.co S.gen rfl (PySem.W.codeRec_of kin hcd) (hb _ _ _ _ (wpAny_newFunctionEnv_cells S.kind par fun env he s1 x1 => ?_))
  subst he
  refine ⟨(e0.mod.nolimit.keeps fun b o e => (e0.bs b o e).1).keeps x1.toInCall.keep, codeAny_func ?_⟩
  have I : Inv (cxX P w K mg base N qual scope f cdv A outer s H (a, oe)) [] (L2.start N [V.ref a]) H s1 := inv_startH (us := [.ref a]) (vs := [.ref a]) S pin e0 rfl (.cons rfl .nil) x1
  obtain ⟨ρ, hs, st, c, xv, y, e1, e2, e4, r, p⟩ := hsp
  have hlen : 1 ≤ N.length := by have := congrArg List.length S.pre; rw [List.length_take] at this; simp at this; omega
  have sl : (L2.start N [V.ref a])[0]? = some (some (.ref a)) := rfl
  have st0 : Rel K ρ hs (List.replicate N.length none) (L2.start N [V.ref a]) st H := ⟨r.s, r.h, by simp [L2.start]; omega, fun i z h => by
    rw [List.getElem?_replicate] at h
    split at h <;> cases h⟩
  have go : rSh K W0 0 a cls d m { nx := fun _ H' => Q .non H', rt := Q } (L2.start N [V.ref a]) H := by
    refine ⟨ρ, hs, _, st, c, xv, ⟨y, e1, e2, e4, sl⟩, st0, ?_⟩
    unfold runH at p
    cases e : m c xv (List.replicate N.length none) st with
    | nx env s2 => rw [e] at p; exact fun ρ σ H r => p ρ H .non r.noenv rfl
    | rt v s2 => rw [e] at p; exact p
    | exc c y env s2 => rw [e] at p; exact p.elim
    | bk env s2 => rw [e] at p; exact p.elim
    | ct env s2 => rw [e] at p; exact p.elim
    | bad => rw [e] at p; exact p.elim
  refine wpAny_mono ((hbody cdv A outer s H a oe cls d hot hz hf (hr.deeper _)).pe.run [] s1 _ H _ I go) (fun fl s' h => ?_) fun e s' h => h
  have fin : ∀ {σ' : L2.St} {H' : Hp} {v : V} {u : Value}, Inv (cxX P w K mg base N qual scope f cdv A outer s H (a, oe)) [] σ' H' s' → RelV v u → Q v H' → CE outer P w H s Q u s' := fun {σ' H' v u} J rv q => ⟨v, H', J.os, J.bare, J.base, J.hok, rv, q⟩
  match fl, h with
  | .ret u, ⟨v, σ', H', J, rv, q⟩ => exact fin J rv q
  | .next, ⟨σ', H', J, q⟩ => exact fin (v := V.non) (u := Value.none) J rfl q
  | .brk, ⟨_, _, _, q⟩ => exact False.elim q
  | .cont, ⟨_, _, _, q⟩ => exact False.elim q
end
/-- how it is had by its name -/
structure CalH (P : Program) (w : World) (K : Fg) (mg : Str → Option Value) (base : Heap) (k : Nat) (x : Str) (pf : PFh) : Prop where
  ex : ∃ f fd p0, FnX P w K mg base k f fd p0 pf ∧ mg x = some (.ref f) ∧ PySem.W.keepIn K (.ref f) = true ∧ Binds K fd [p0] []
def mCalH (pf : PFh) : Str → PV → Mx PV := fun c x _ st => match pf c x st with
  | .ok v s1 => .ok v s1
  | _ => .bad
section
variable {X : Cx} {W : WX} {i k j : Nat} {a : Addr} {cls : Value} {d : Option Addr} {x n : Str} {pf : PFh}
/-- f(e) in the suite that caught e -/
theorem pxh_call {pn : List (Addr × Obj)} {oe : Obj} {p np pos : Pos} (F : CalH X.prog X.w X.K X.mg X.base k x pf) (hz : L2N.Zn cls d oe) (hf : ∃ vs, oe.data = .fields vs) (hr : Room j X.A) (hk : k ≤ j) (hg : Gl X x)
    (hN : X.N[i]? = some n) (hv : Vis X.env.scope n) (hdb : (x == ("__debug__" : Str)) = false := by decide) (hd : (n == ("__debug__" : Str)) = false := by decide) (hcd : (n == ("__classdict__" : Str)) = false := by decide)
    (he : starEach [.Name n np] X.env = (false, eval (.Name n np) X.env) :: starEach [] X.env := by rfl) (hpl : (backTo pos (starEach [] X.env)).any (·.1) = false := by rfl) :
    PXh (X.suite a ((a, oe) :: pn)) W i a cls d (.Call (.Name x p) [.Name n np] [] pos) (mCalH pf) := ⟨⟨fun pins s σ H Q I q => by
  obtain ⟨f, fd, p0, FX, hm, kp, B⟩ := F.ex
  obtain ⟨ρ, hs, env, st, c, xv, ⟨y, e1, e2, e4, e5⟩, r, pp⟩ := q
  have pv : PE (X.suite a ((a, oe) :: pn)) (.Name n np) (tVar i) := pe_var (X := X.suite a ((a, oe) :: pn)) hN hv hd hcd
  have pa : PA (X.suite a ((a, oe) :: pn)) [.Name n np] (tCons (tVar i) tNil) := pa_cons pv pa_nil he
  refine wpAny_Call_Name_kw (ld_glob (X := X.suite a ((a, oe) :: pn)) I hg hm ?_ hdb)
  have q0 : tCons (tVar i) tNil σ H (fun vs H1 => vs = [V.ref a] ∧ H1 = H) := ⟨.ref a, e5, rfl, rfl⟩
  have ar := pa.run pos pins s σ H _ I q0
  have kin : X.K.In X.base := I.ok.mod.kin
  refine PySem.W.callWith_K (h₀ := X.base) kin kp (thn ar fun us s1 hh => ?_) he hpl
  obtain ⟨vs, H1, I1, rv, ev, eH⟩ := hh
  refine ⟨I1.kIn, ?_⟩
  subst ev eH
  match us, rv with
  | [_], .cons r1 .nil =>
    cases r1
    obtain ⟨vs0, hv0⟩ := hf
    have b := B s1 [.ref a] I1.kIn rfl
    have P1 := I1.pin (a, oe) (List.mem_append_left _ List.mem_cons_self)
    have hpin : PinOk X.stack H1 s1 (a, oe) := ⟨P1.1, P1.2.1, fun hm => (List.mem_cons.mp (I1.stkSub a hm)).elim P1.2.2.1 P1.2.2.2.1, P1.2.2.2.2⟩
    obtain ⟨l, l1, l2, l3⟩ := r.stash
    have hsp : spH X.K cls d pf H1 (fun v H2 => Q v H2) := by
      refine ⟨ρ, l ++ hs, st, c, xv, y, e1, e2.more (fun q hq => List.mem_append_right _ hq), List.mem_append_right _ e4, ⟨r.s, fun e he => (List.mem_append.mp he).elim (l1 e) (r.h e), rfl, fun i x h => by simp at h⟩, ?_⟩
      unfold mCalH at pp
      cases e : pf c xv st with
      | ok v s2 => rw [e] at pp; exact fun ρ1 H2 vv r2 d2 => pp ρ1 H2 vv (l3 _ _ _ _ _ _ r2) d2
      | exc c2 x2 s2 => rw [e] at pp; exact pp.elim
      | bad => rw [e] at pp; exact pp
    refine wpAny_call (codeAny_mono (FX.run _ X.stack s1 H1 a oe cls d Q ⟨(hr.mono hk).dp, (hr.mono hk).un⟩ ⟨rfl, vs0, hv0, hz.2.2 vs0 hv0⟩ hpin hz.zc ⟨vs0, hv0⟩ I1.env0 b hsp) fun rr s' hq => ?_)
    match rr, hq with
    | .error er, hq => exact (by obtain ⟨_, _, _, _, _, _, _, _, _, _, _, _, z⟩ := hq; exact z.elim)
    | .ok (.ret u), hq => exact I1.after hq
    | .ok .next, hq => exact hq.elim
    | .ok .brk, hq => exact hq.elim
    | .ok .cont, hq => exact hq.elim⟩⟩
end
end
end PL
set_option Elab.async false
set_option linter.all false
set_option maxRecDepth 100000
set_option maxHeartbeats 1000000
set_option autoImplicit false
namespace PL
open PySem PySem.Spec PyProof.Rows L2 LW L2H HotX
noncomputable section
/-! ### the pure forms of walks and targets there -/
structure PXIH (X : Cx) (W : WX) (tg iter : Expr) (m : Mi) : Prop where
  pe : PIH X tg iter (rI X.K W m)
def mItL (m : Mx PV) : Mi := fun env st => (m env st).bnd fun v s1 => match v with
  | .ref i => (match s1[i]? with
    | some (.lst xs) => .ok (xs, some (i, .lst xs)) s1
    | _ => .bad)
  | _ => .bad
def gUt (n : Nat) (b : Mgs) : Mg := fun x env st => match x with
  | .tup xs => if xs.length = n then b xs env st else .bad
  | _ => .bad
section
variable {X : Cx} {W : WX} {K : Fg}
theorem sim_itL {t : TE} {m : Mx PV} (s : Sim (RV K) K W t m) : SimI K W (iList K t) (mItL m) := fun ρ hs env σ st H R r p => by
  refine s ρ hs env σ st H _ r ?_
  unfold mItL at p
  cases e : m env st with
  | bad => rw [e] at p; exact p.elim
  | exc c x s1 => rw [e] at p; exact p
  | ok v s1 =>
    rw [e] at p
    intro ρ1 H1 b r1 d
    simp only [bnd_ok] at p
    cases v with
    | ref i =>
      dsimp only at p
      cases e1 : s1[i]? with
      | none => rw [e1] at p; exact p.elim
      | some o =>
        rw [e1] at p
        cases o with
        | lst xs =>
          obtain ⟨a, h1, rfl⟩ := id d
          obtain ⟨vs, k1, _⟩ := r1.s.ob _ _ _ e1 h1
          exact ⟨a, rfl, ⟨vs, SqL.of k1⟩, p ρ1 H1 _ [.val (.ref i) (.ref a)] (r1.hold d) (walkP_list (.inl rfl))⟩
        | _ => exact p.elim
    | _ => exact p.elim
theorem pxih_list {tg e : Expr} {m : Mx PV} (h : PX X W e m) : PXIH X W tg e (mItL m) := ⟨⟨fun pins sh σ H R I q => let ⟨ρ, hs, env, st, r, p⟩ := q; (pi_listH h.pe).run pins sh σ H R I (sim_itL Sim.self ρ hs env σ st H R r p)⟩⟩
theorem pxg_tupH {es : List Expr} {k n : Nat} {vs : List Nat} {b : Mgs} {pos : Pos} (hc : HotC X) (h : PXGs X es vs b) (hn : (assignEach es X.env).length = n := by rfl) (hst : (assignEach es X.env).findIdx? (·.1) = none := by rfl) : PXG X (.Tuple es k pos) vs (gUt n b) :=
  .of (pg_tupH hc h.pe hn hst) fun ρ hs env σ st H Q x v r d p => by
    cases x with
    | tup xs =>
      unfold gUt at p
      dsimp only at p
      obtain ⟨a, ws, h1, h2, h3⟩ := id d
      by_cases hl : xs.length = n
      · rw [if_pos hl] at p
        exact ⟨a, ws, h1, SqT.of h2, by rw [h3.len]; exact hl, ρ, hs, env, st, xs, r, h3, p⟩
      · rw [if_neg hl] at p; exact p.elim
    | _ => exact p.elim
theorem px_lcH {elt tg iter : Expr} {ifs : List Expr} {scope : Scope} {own : List (Str × Nat)} {pos : Pos} {mi : Mi} {us : List Nat} {g : Mg} {tt : Mx Bool} {te : Mx PV} (hc : HotC X) (hN : X.N.Nodup) (hi : PXIH X W tg iter mi) (ok : BlkOk X.N X.env.scope scope own)
    (hg : ∀ (p : Addr × Obj) (_ : Hot1 X.A p) (s : Shared) (H : Hp) (C : Addr) (cl : List (Str × Addr)) (fp : List Addr), PXG (blkH X p s H scope (compEnvC scope cl C X.env) fp) tg us g)
    (ht : ∀ (p : Addr × Obj) (_ : Hot1 X.A p) (s : Shared) (H : Hp) (C : Addr) (cl : List (Str × Addr)) (fp : List Addr), PXts (blkH X p s H scope (compEnvC scope cl C X.env) fp) W0 ifs tt)
    (he : ∀ (p : Addr × Obj) (_ : Hot1 X.A p) (s : Shared) (H : Hp) (C : Addr) (cl : List (Str × Addr)) (fp : List Addr), PX (blkH X p s H scope (compEnvC scope cl C X.env) fp) W0 elt te)
    (hu : ∀ i ∈ us, i ∈ own.map (·.2) := by decide) (hs : ∀ x, foldedSetIterable iter X.env x = pure x := by intro _; rfl) : PX X W (.ListComp elt [⟨tg, iter, ifs, 0⟩] scope pos) (mLc mi g tt te (own.map (·.2))) :=
  .of (pe_lcH hc hN hi.pe ok (fun p hp s H C cl fp => (hg p hp s H C cl fp).pe) (fun p hp s H C cl fp => (ht p hp s H C cl fp).pe) (fun p hp s H C cl fp => (he p hp s H C cl fp).pe) hs) (sim_lc hu)
/-- isinstance(e, C), C an own class; isinstance(e, T), T built-in -/
theorem pxh_isC {cs : List Str} {sub : Str → Str → Bool} {n cn : Str} {i : Nat} {a : Addr} {cls : Value} {d : Option Addr} {np pos p cp : Pos} {oe : Obj} (Q0 : ExQ X.K cs) (hk : ExI X.K cs sub cn) (hp : (a, oe) ∈ X.pn) (hz : Zc cls d oe) (hf : ∃ vs, oe.data = .fields vs)
    (hcg : Gl X cn) (hcm : X.mg cn = some (.ref (He.ga X.K cn))) (hg : Gl X "isinstance") (hm : X.mg "isinstance" = none) (hN : X.N[i]? = some n := by rfl) (hv : Vis X.env.scope n := by first | exact Or.inl rfl | exact Or.inr (Or.inl rfl) | exact Or.inr (Or.inr rfl))
    (hd : (n == ("__debug__" : Str)) = false := by decide) (hcd : (n == ("__classdict__" : Str)) = false := by decide) (hcb : (cn == ("__debug__" : Str)) = false := by decide)
    (h1 : starEach [.Name cn cp] X.env = (false, eval (.Name cn cp) X.env) :: starEach [] X.env := by rfl) (h2 : starEach [.Name n np, .Name cn cp] X.env = (false, eval (.Name n np) X.env) :: starEach [.Name cn cp] X.env := by rfl)
    (hpl : (backTo pos (starEach [.Name cn cp] X.env)).any (·.1) = false := by rfl) : PXh X W i a cls d (.Call (.Name "isinstance" p) [.Name n np, .Name cn cp] [] pos) (mIsX cs (fun c => sub c cn)) :=
  pxh_isG (cV := .ref (He.ga X.K cn)) (cv := .ref (He.ga X.K cn)) Q0 hk.m hp hz hf (pe_glob hcg hcm rfl hcb) (fun _ h => h) hg hm hN hv hd hcd h1 h2 hpl
theorem pxh_isT {cs : List Str} {n : Str} {i : Nat} {a : Addr} {cls : Value} {d : Option Addr} {np pos p cp : Pos} {oe : Obj} (Q0 : ExQ X.K cs) (hk : ExT X.K cs "ValueError") (hp : (a, oe) ∈ X.pn) (hz : Zc cls d oe) (hf : ∃ vs, oe.data = .fields vs)
    (hcg : Gl X "ValueError") (hcm : X.mg "ValueError" = none) (hg : Gl X "isinstance") (hm : X.mg "isinstance" = none) (hN : X.N[i]? = some n := by rfl) (hv : Vis X.env.scope n := by first | exact Or.inl rfl | exact Or.inr (Or.inl rfl) | exact Or.inr (Or.inr rfl))
    (hd : (n == ("__debug__" : Str)) = false := by decide) (hcd : (n == ("__classdict__" : Str)) = false := by decide)
    (h1 : starEach [.Name "ValueError" cp] X.env = (false, eval (.Name "ValueError" cp) X.env) :: starEach [] X.env := by rfl) (h2 : starEach [.Name n np, .Name "ValueError" cp] X.env = (false, eval (.Name n np) X.env) :: starEach [.Name "ValueError" cp] X.env := by rfl)
    (hpl : (backTo pos (starEach [.Name "ValueError" cp] X.env)).any (·.1) = false := by rfl) : PXh X W i a cls d (.Call (.Name "isinstance" p) [.Name n np, .Name "ValueError" cp] [] pos) (mIsX cs (fun _ => true)) :=
  pxh_isG (cV := .ty "ValueError") (cv := .type "ValueError") Q0 hk.m hp hz hf (pe_bltn hcg hcm (by decide +kernel) rfl) (fun _ h => h) hg hm hN hv hd hcd h1 h2 hpl
end
/-! ### the checks -/
def exqB (K : Fg) (cs : List Str) : Bool := cs.all fun c => He.eqO (PySem.W.findIn K (.ref (He.ga K c)) "__getattribute__") (some (some (.builtin "BaseException.__getattribute__"))) && (decide (PySem.W.findIn K (.ref (He.ga K c)) "__getattr__" = some none) &&
  (decide (PySem.W.subIn K (.ref (He.ga K c)) (.type "BaseException") = some true) && (PySem.W.hasDictIn K (He.ga K c) && (He.eqO (PySem.W.findIn K (.ref (He.ga K c)) "__class__") (some (some (.builtin "object.__class__"))) &&
    (He.eqO (PySem.W.specialIn K (.builtin "object.__class__") "__get__") (some (some (.builtin "getset_descriptor.__get__"))) && (decide (PySem.W.takesIn K (.builtin "object.__class__") = some true) && decide (PySem.W.mroIn K (He.ga K c) (.type "object") = some true)))))))
theorem exqB_ok {K : Fg} {cs : List Str} (h : exqB K cs = true) : ExQ K cs := ⟨fun c hc => by
  have q := List.all_eq_true.mp h c hc
  obtain ⟨h1, q⟩ := He.ba q
  obtain ⟨h2, q⟩ := He.ba q
  obtain ⟨h3, q⟩ := He.ba q
  obtain ⟨h4, q⟩ := He.ba q
  obtain ⟨h5, q⟩ := He.ba q
  obtain ⟨h6, q⟩ := He.ba q
  obtain ⟨h7, h8⟩ := He.ba q
  exact ⟨He.eqO_ok h1, of_decide_eq_true h2, of_decide_eq_true h3, h4, He.eqO_ok h5, He.eqO_ok h6, of_decide_eq_true h7, of_decide_eq_true h8⟩⟩
def exiB (K : Fg) (cs : List Str) (sub : Str → Str → Bool) (cn : Str) : Bool := cs.all fun c => decide (PySem.W.kitOne K (.ref (He.ga K c)) (.ref (He.ga K cn)) = some (sub c cn))
theorem exiB_ok {K : Fg} {cs : List Str} {sub : Str → Str → Bool} {cn : Str} (h : exiB K cs sub cn = true) : ExI K cs sub cn := ⟨fun c hc => of_decide_eq_true (List.all_eq_true.mp h c hc)⟩
def extB (K : Fg) (cs : List Str) (tn : String) : Bool := cs.all fun c => decide (PySem.W.kitOne K (.ref (He.ga K c)) (.type tn) = some true)
theorem extB_ok {K : Fg} {cs : List Str} {tn : String} (h : extB K cs tn = true) : ExT K cs tn := ⟨fun c hc => of_decide_eq_true (List.all_eq_true.mp h c hc)⟩
end
end PL
set_option Elab.async false
set_option linter.all false
set_option maxRecDepth 100000
set_option maxHeartbeats 1000000
set_option autoImplicit false
namespace PL
open PySem PySem.Spec PyProof.Rows L2 LW
noncomputable section
/-! ### text.replace of written texts -/
section
variable {X : Cx} {W : WX} {K : Fg}
theorem const_toks {M : Model} {A : Around} {env : PySem.Env} {c m : Str} {j : Nat} {cp apos pos : Pos} {es : List Expr} {Q E : Value → Shared → Prop} {s : Shared}
    (h : wpAny M A (eval (.Call (.Attribute (.Constant (.str c) j cp) m apos) es [] pos) env) Q E s) : wpAny M A (eval (.Call (.Attribute (.Constant (.str c) j cp) m apos) es [] pos) env) (fun v s1 => 1 ≤ s1.toks ∧ Q v s1) E s := fun Γ p hΓ => by
  have h := h Γ p hΓ
  have ⟨f, ef⟩ : ∃ f, eval (.Call (.Attribute (.Constant (.str c) j cp) m apos) es [] pos) env = (eval (.Constant (.str c) j cp) env >>= f) := ⟨_, rfl⟩
  rw [ef, Sem.wp_bind'] at h ⊢
  have up : (1 : Nat) ≤ ({ s with toks := s.toks + 1 } : Shared).toks := Nat.le_add_left 1 s.toks
  exact Sem.wp_mono M Γ (f (.str c s.toks)) (fun _ _ _ q => q) (fun _ _ _ q => q.2) _ _ (Sem.wp_toks M Γ 1 (f (.str c s.toks)) (fun a _ s' => Q a s') (fun e _ s' => E e s') _ _ up h)
/-- 'c'.m(..).replace(y, z) -/
theorem pe_replC {c m y z : Str} {j k l : Nat} {cp ap apos pos ipos c0 c1 : Pos} {es : List Expr} {to : TE} (ho : PE X (.Call (.Attribute (.Constant (.str c) l cp) m ap) es [] ipos) to) (hyz : (y == z) = false := by decide)
    (hst : starEach [.Constant (.str y) j c0, .Constant (.str z) k c1] X.env = [(false, eval (.Constant (.str y) j c0) X.env), (false, eval (.Constant (.str z) k c1) X.env)] := by rfl)
    (hbase : attributeBase (.Call (.Attribute (.Constant (.str c) l cp) m ap) es [] ipos) "replace" X.env (eval (.Call (.Attribute (.Constant (.str c) l cp) m ap) es [] ipos) X.env) = eval (.Call (.Attribute (.Constant (.str c) l cp) m ap) es [] ipos) X.env := by rfl) (hline : (apos.endLine == pos.line) = true := by rfl) :
    PE X (.Call (.Attribute (.Call (.Attribute (.Constant (.str c) l cp) m ap) es [] ipos) "replace" apos) [.Constant (.str y) j c0, .Constant (.str z) k c1] [] pos) (CwR.tReplC to y z) := ⟨fun pins s σ H Q I h => by
  refine PySem.Call_method2 hbase hst hline (thn (const_toks (ho.run pins s σ H _ I h)) fun v s1 q => ?_)
  obtain ⟨h1, v', H1, I1, r1, x, rfl, hb, q⟩ := q
  obtain ⟨tx, rfl⟩ := r1
  refine ⟨"str", _, PySem.F.plainAttrs_str, PySem.F.slot_str_replace, PySem.F.type_str_replace, typeIs_str _ _ _, (fun _ e => nomatch e), Calls.callWith_builtin rfl (Calls.evalArgs_plain (Calls.spliced_cons (Calls.Constant_str (Calls.spliced_cons (Calls.Constant_str (Calls.spliced_nil ?_))))))⟩
  have n1 : s1.toks ≠ 0 := by omega
  have n2 : s1.toks + 1 ≠ 0 := by omega
  have n3 : s1.toks ≠ s1.toks + 1 := by omega
  exact PySem.SC.replace n1 n2 n3 hyz hb fun t' k => ⟨.str (Txt.replace x y z), H1, I1.tok k, ⟨t', rfl⟩, q⟩⟩
def mReplC (a : Mx PV) (y z : Str) : Mx PV := fun env st => (a env st).bnd fun v s1 => match v with
  | .str x => if x.length + (x.length + 1) * z.length ≤ 16777216 then .ok (.str (Txt.replace x y z)) s1 else .bad
  | _ => .bad
theorem px_replC {c m y z : Str} {j k l : Nat} {cp ap apos pos ipos c0 c1 : Pos} {es : List Expr} {a : Mx PV} (ho : PX X W (.Call (.Attribute (.Constant (.str c) l cp) m ap) es [] ipos) a) (hyz : (y == z) = false := by decide)
    (hst : starEach [.Constant (.str y) j c0, .Constant (.str z) k c1] X.env = [(false, eval (.Constant (.str y) j c0) X.env), (false, eval (.Constant (.str z) k c1) X.env)] := by rfl)
    (hbase : attributeBase (.Call (.Attribute (.Constant (.str c) l cp) m ap) es [] ipos) "replace" X.env (eval (.Call (.Attribute (.Constant (.str c) l cp) m ap) es [] ipos) X.env) = eval (.Call (.Attribute (.Constant (.str c) l cp) m ap) es [] ipos) X.env := by rfl) (hline : (apos.endLine == pos.line) = true := by rfl) :
    PX X W (.Call (.Attribute (.Call (.Attribute (.Constant (.str c) l cp) m ap) es [] ipos) "replace" apos) [.Constant (.str y) j c0, .Constant (.str z) k c1] [] pos) (mReplC a y z) := .of (pe_replC ho.pe hyz hst hbase hline) fun ρ hs env σ st H Q r p => by
  refine ⟨ρ, hs, env, st, r, PostG.bnd p fun v s1 _ p1 ρ1 H1 u r1 d1 => ?_⟩
  cases v with
  | str x =>
    dsimp only at p1
    by_cases hc : x.length + (x.length + 1) * z.length ≤ 16777216
    · rw [if_pos hc] at p1
      exact ⟨x, d1, hc, p1 ρ1 H1 _ r1 rfl⟩
    · rw [if_neg hc] at p1; exact p1.elim
  | _ => exact p1.elim
/-! ### targets o[i] -/
def gSx (mo mi : Mx PV) : Mg := fun v env st => match mo env st with
  | .ok (.ref j) s1 => (match mi env s1 with
    | .ok (.int k) s2 => (match s2[j]? with
      | some (.lst xs) => (match ixN xs.length k with
        | some q => .ok env (s2.set j (.lst (xs.set q v)))
        | none => .bad)
      | _ => .bad)
    | _ => .bad)
  | _ => .bad
theorem pxg_sub {o i : Expr} {pos' : Pos} {mo mi : Mx PV} (ho : PX X W0 o mo) (hi : PX X W0 i mi)
    (ha : ∀ v, assign (.Subscript o i pos') X.env v = (do
      let ov ← holding [v] (eval o X.env)
      let iv ← holding [v, ov] (eval i X.env)
      standAt pos'
      holding [v, ov, iv] (setItem ov iv v)
      release [v, ov, iv] []) := by intro _; rfl) : PXG X (.Subscript o i pos') [] (gSx mo mi) :=
  .of (pg_sub ho.pe hi.pe set_list ha) fun ρ hs env σ st H Q x v r d p => by
    unfold gSx at p
    refine ⟨ρ, .val x v :: hs, env, st, r.hold d, ?_⟩
    cases e1 : mo env st with
    | bad => rw [e1] at p; exact p.elim
    | exc c y s1 => rw [e1] at p; exact p.elim
    | ok ov s1 =>
      rw [e1] at p
      cases ov with
      | ref j =>
        dsimp only at p
        intro ρ1 H1 ou r1 d1
        refine ⟨ρ1, .val (.ref j) ou :: .val x v :: hs, env, s1, r1.hold d1, ?_⟩
        cases e2 : mi env s1 with
        | bad => rw [e2] at p; exact p.elim
        | exc c y s2 => rw [e2] at p; exact p.elim
        | ok iv s2 =>
          rw [e2] at p
          cases iv with
          | int k =>
            dsimp only at p
            intro ρ2 H2 iu r2 d2
            cases ej : s2[j]? with
            | none => rw [ej] at p; exact p.elim
            | some ob =>
              rw [ej] at p
              cases ob with
              | lst xs =>
                dsimp only at p
                cases eq : ixN xs.length k with
                | none => rw [eq] at p; exact p.elim
                | some t =>
                  rw [eq] at p
                  obtain ⟨a, ha, rfl⟩ := id r2.top
                  cases d2
                  obtain ⟨vs, k1, k2⟩ := r2.s.ob _ _ _ ej ha
                  have r3 := r2.lset (ys := xs.set t x) (ws := vs.set t v) ej ha fun {vs' H'} m rv hv' => by
                    rw [k1] at hv'
                    cases hv'
                    exact (rv.mono m).set t (PVr.mono m r2.drop.top)
                  exact ⟨a, vs, k, t, rfl, rfl, k1, by rw [k2.len]; exact eq, p ρ2 σ _ r3.drop.drop OnlyAt.refl⟩
              | _ => exact p.elim
          | _ => exact p.elim
      | _ => exact p.elim
end
end
end PL
set_option Elab.async false
set_option linter.all false
set_option maxRecDepth 100000
set_option maxHeartbeats 1000000
set_option autoImplicit false
namespace PL
open PySem PySem.Spec PyProof.Rows L2 LW
noncomputable section
/-! ### for over zip of two lists: both are looked at at each turn -/
def mLoopC (ck : Store → Bool) (tg : Mg) (body : Ms) : List PV → Env → Store → Fl
  | [], env, st => if ck st = true then .nx env st else .bad
  | x :: xs, env, st => if ck st = true then (match tg x env st with
    | .ok env1 st1 => (match body env1 st1 with
      | .nx env2 st2 => mLoopC ck tg body xs env2 st2
      | .ct env2 st2 => mLoopC ck tg body xs env2 st2
      | .bk env2 st2 => .nx env2 st2
      | .rt v st2 => .rt v st2
      | .exc c y env2 st2 => .exc c y env2 st2
      | .bad => .bad)
    | _ => .bad) else .bad
def WalkC (K : Fg) (J : It) (h0 : List HE) (ck : Store → Bool) (items : List PV) : Prop :=
  ∀ ρ hs env σ st H, (∀ p ∈ h0, p ∈ hs) → Rel K ρ hs env σ st H → ck st = true →
    (∀ i, i < items.length → J.go i H) ∧ J.stop items.length H ∧ ∀ i x H', i < items.length → J.yld i H x H' → ∃ y, items[i]? = some y ∧ Rel K ρ hs env σ st H' ∧ PVr K ρ H' y x
section
variable {K : Fg} {W : WX}
theorem sim_loopC {vs : List Nat} {tg : Mg} {body : Ms} {ck : Store → Bool} {items : List PV} {J : It} {h0 hs : List HE} {ρ1 : List Addr} {env : Env} {σ : L2.St} {st1 : Store} {H1 : Hp} {D : Ends} (wk : WalkC K J h0 ck items) (r1 : Rel K ρ1 (h0 ++ hs) env σ st1 H1) (p : PostS K W hs D (mLoopC ck tg body items env st1)) :
    tFor (fun _ _ R => R J H1) (rT K vs tg) (rS K W body) D σ H1 := by
  refine ⟨fun i m σ H => i + m = items.length ∧ ∃ ρ env st, Rel K ρ (h0 ++ hs) env σ st H ∧ PostS K W hs D (mLoopC ck tg body (items.drop i) env st), ⟨items.length, by omega, ρ1, env, st1, r1, by simpa using p⟩, ?_⟩
  rintro i m σ2 H2 ⟨him, ρ2, env2, st2, r2, p2⟩
  have wk2 := wk ρ2 (h0 ++ hs) env2 σ2 st2 H2 (fun q hq => List.mem_append_left _ hq) r2
  cases hd : items.drop i with
  | nil =>
    rw [hd] at p2
    have hi : items.length ≤ i := List.drop_eq_nil_iff.mp hd
    have e2 : i = items.length := by omega
    unfold mLoopC at p2
    by_cases hg : ck st2 = true
    · rw [if_pos hg] at p2
      refine .inl ⟨?_, p2 ρ2 σ2 H2 (r2.sub fun q hq => List.mem_append_right _ hq)⟩
      rw [e2]
      exact (wk2 hg).2.1
    · rw [if_neg hg] at p2; exact p2.elim
  | cons y ys =>
    rw [hd] at p2
    have hi : i < items.length := by
      rcases Nat.lt_or_ge i items.length with h | h
      · exact h
      · rw [List.drop_eq_nil_of_le h] at hd; cases hd
    have hy : items[i]? = some y := by
      have := congrArg (fun l => l[0]?) hd
      simpa using this
    have hys : items.drop (i + 1) = ys := by
      have := congrArg (fun l => l.drop 1) hd
      simpa [Nat.add_comm] using this
    unfold mLoopC at p2
    by_cases hg : ck st2 = true
    · rw [if_pos hg] at p2
      obtain ⟨w1, w2, w3⟩ := wk2 hg
      refine .inr ⟨w1 i hi, fun σ H => i + 1 + (m - 1) = items.length ∧ ∃ ρ env st, Rel K ρ (h0 ++ hs) env σ st H ∧ PostS K W hs D (mLoopC ck tg body ys env st), fun σ' H' ⟨h1, ρ', env', st', h2, h3⟩ => ⟨m - 1, by omega, h1, ρ', env', st', h2, by rw [hys]; exact h3⟩, fun x H' yl => ?_⟩
      obtain ⟨y', hy', r3, d3⟩ := w3 i x H' hi yl
      rw [hy] at hy'
      cases hy'
      refine ⟨ρ2, h0 ++ hs, env2, st2, y, r3, d3, ?_⟩
      cases et : tg y env2 st2 with
      | exc c x st3 => rw [et] at p2; exact p2.elim
      | bad => rw [et] at p2; exact p2.elim
      | ok env3 st3 =>
        rw [et] at p2
        intro ρ4 σ4 H4 r4 _
        refine ⟨ρ4, h0 ++ hs, env3, st3, r4, ?_⟩
        dsimp only at p2
        cases eb : body env3 st3 with
        | nx env5 st5 => rw [eb] at p2; exact fun ρ5 σ5 H5 r5 => ⟨by omega, ρ5, env5, st5, r5, p2⟩
        | ct env5 st5 => rw [eb] at p2; exact fun ρ5 σ5 H5 r5 => ⟨by omega, ρ5, env5, st5, r5, p2⟩
        | bk env5 st5 => rw [eb] at p2; exact fun ρ5 σ5 H5 r5 => p2 ρ5 σ5 H5 (r5.sub fun q hq => List.mem_append_right _ hq)
        | rt v st5 => rw [eb] at p2; exact fun ρ5 H5 w r5 => p2 ρ5 H5 w (r5.sub fun q hq => List.mem_append_right _ hq)
        | exc c x env5 st5 => rw [eb] at p2; exact fun ρ5 σ5 H5 d y r5 => p2 ρ5 σ5 H5 d y (r5.sub fun q hq => List.mem_append_right _ hq)
        | bad => rw [eb] at p2; exact p2.elim
    · rw [if_neg hg] at p2; exact p2.elim
theorem walkC_zipL {i j : Nat} {a b : Addr} {xs ys : List PV} : WalkC K (Itz K a b) [.val (.ref i) (.ref a), .val (.ref j) (.ref b)] (fun s => decide (s[i]? = some (.lst xs)) && decide (s[j]? = some (.lst ys))) (zipP xs ys) := by
  intro ρ hs env σ st H hh r hg
  obtain ⟨a', ha, ea⟩ := r.h _ (hh _ List.mem_cons_self)
  obtain ⟨b', hb, eb⟩ := r.h _ (hh _ (List.mem_cons_of_mem _ List.mem_cons_self))
  cases ea
  cases eb
  obtain ⟨g1, g2⟩ := (Bool.and_eq_true _ _).mp hg
  obtain ⟨vs, h1, h2⟩ := r.s.ob _ _ _ (of_decide_eq_true g1) ha
  obtain ⟨ws, k1, k2⟩ := r.s.ob _ _ _ (of_decide_eq_true g2) hb
  rw [zipP_len]
  refine ⟨fun j hj => ?_, ⟨vs, ws, SqL.of h1, SqL.of k1, by rw [h2.len, k2.len]; omega⟩, fun j z H' hj w => ?_⟩
  · obtain ⟨v, hv, _⟩ := h2.get (List.getElem?_eq_getElem (show j < xs.length by omega))
    obtain ⟨u, hu, _⟩ := k2.get (List.getElem?_eq_getElem (show j < ys.length by omega))
    exact ⟨vs, ws, v, u, SqL.of h1, SqL.of k1, hv, hu⟩
  · obtain ⟨T, v, u, rfl, hT, rfl, hv, hu⟩ := w
    obtain ⟨p, hp, dp⟩ := h2.getV (hv vs (SqL.of h1))
    obtain ⟨q, hq, dq⟩ := k2.getV (hu ws (SqL.of k1))
    obtain ⟨r2, d2⟩ := r.pair hT dp dq
    exact ⟨_, zipP_get xs ys j p q hp hq, r2, d2⟩
end
def mForZ (a b : Mx PV) (tg : Mg) (body : Ms) : Ms := fun env st => (a env st).stm env fun x s1 => (b env s1).stm env fun y s2 => match x, y with
  | .ref i, .ref j => (match s2[i]?, s2[j]? with
    | some (.lst xs), some (.lst ys) => mLoopC (fun s => decide (s[i]? = some (.lst xs)) && decide (s[j]? = some (.lst ys))) tg body (zipP xs ys) env s2
    | _, _ => .bad)
  | _, _ => .bad
section
variable {X : Cx} {W : WX}
theorem pxs_forZ {e e2 : Expr} {m n : Mx PV} {p pos tpos fpos : Pos} {elts : List Expr} {kk : Nat} {body : List Stmt} {vs : List Nat} {g : Mg} {b : Ms} (h1 : PX X W e m) (h2 : PX X W e2 n) (hg : Gl X "zip") (hm : X.mg "zip" = none)
    (hp : PassesOwn (model X.prog X.w) X.A X.env X.xe) (hc : X.calm = true) (ht : PXG X (.Tuple elts kk tpos) vs g) (hb : PXB X W body b)
    (hs : starEach [e, e2] X.env = (false, eval e X.env) :: starEach [e2] X.env := by rfl) (hs2 : starEach (e2 :: []) X.env = (false, eval e2 X.env) :: starEach [] X.env := by rfl) (hpl : (backTo pos (starEach [e2] X.env)).any (·.1) = false := by rfl)
    (hf : ∀ x, foldedSetIterable (.Call (.Name "zip" p) [e, e2] [] pos) X.env x = pure x := by intro _; rfl) :
    PXS X W (.For (.Tuple elts kk tpos) (.Call (.Name "zip" p) [e, e2] [] pos) body [] fpos) (mForZ m n g b) :=
  .of (ps_for hp hc (RZ.pi_zipA hg hm (pa_cons h1.pe (pa_cons h2.pe pa_nil hs2) hs) hs hpl) ht.pe hb.pe hf) fun ρ hs env σ st H D r q => by
    refine ⟨ρ, hs, env, st, r, PostG.stm (σ := σ) q fun x s1 _ q1 ρ1 H1 u r1 d1 => ?_⟩
    refine ⟨ρ1, .val x u :: hs, env, s1, r1.hold d1, PostG.stm (σ := σ) q1.hold fun y s2 _ q2 ρ2 H2 v r2 d2 => ?_⟩
    cases x with
    | ref i =>
      cases y with
      | ref j =>
        dsimp only at q2
        cases e1 : s2[i]? with
        | none => rw [e1] at q2; exact q2.elim
        | some o1 =>
          cases o1 with
          | lst xs =>
            cases e2 : s2[j]? with
            | none => rw [e1, e2] at q2; exact q2.elim
            | some o2 =>
              cases o2 with
              | lst ys =>
                rw [e1, e2] at q2
                have dx := r2.top
                obtain ⟨a, ha, rfl⟩ := id dx
                obtain ⟨b', hb', rfl⟩ := id d2
                obtain ⟨ws, k1, _⟩ := r2.s.ob _ _ _ e1 ha
                obtain ⟨zs, k2, _⟩ := r2.s.ob _ _ _ e2 hb'
                refine ⟨a, b', ws, zs, rfl, .inl ⟨SqL.of k1, SqL.of k2, ?_⟩⟩
                exact sim_loopC (vs := vs) walkC_zipL ((r2.hold d2).hold dx) q2
              | _ => rw [e1, e2] at q2; exact q2.elim
          | _ => rw [e1] at q2; exact q2.elim
      | _ => exact q2.elim
    | _ => exact q2.elim
end
end
end PL
set_option Elab.async false
set_option linter.all false
set_option maxRecDepth 100000
set_option maxHeartbeats 1000000
set_option autoImplicit false
namespace PL
open PySem PySem.Spec PyProof.Rows L2 LW
noncomputable section
/-! ### len(o) by an own __len__ -/
def lenBk : Res PV → Res PV
  | .ok (.int n) s => @ite _ (0 ≤ n ∧ n < 2 ^ 62) (Classical.propDecidable _) (.ok (.int n) s) .bad
  | _ => .bad
def mLenO (c : Str) (pf : PF) (a : Mx PV) : Mx PV := fun env st => (a env st).bnd fun x s0 => match x with
  | .ref i => (match s0[i]? with
    | some (.ins c' fs) => if c' = c then lenBk (pf [x] s0) else .bad
    | _ => .bad)
  | _ => .bad
section
variable {X : Cx} {W : WX} {k j n : Nat} {c : Str} {pf : PF} {gP : List PV → List PV → List PV} {e : Expr} {p pos : Pos} {mo : Mx PV} {C f : Addr} {fd : FuncData} {ps : List Str} {sp : Sp} {g : List Value → List Value → List Value} {gV : List V → List V → List V}
theorem call_lenOwn (cl : Cls X.K C) (hm : Meth X.K C "__len__" f) (F : FnOk X.prog X.w X.K X.mg X.base (L2N.CX X.prog X.w) k f fd ps sp) (hr : Room (k + 1) X.A) (hb : KBn X.K fd ps 1 [] g gV) :
    CallR X (.builtin "len") (fun xs H Q => ∃ a dx fs, xs = [.ref a] ∧ H a = some (.ins C dx fs) ∧ sp (gV [.ref a] []) H (fun v H' => ∃ n : Int, v = .int n ∧ 0 ≤ n ∧ n < 2 ^ 63 ∧ Q (.int n) H') (fun _ _ _ => False)) := by
  intro pins s σ H xs us Q I rv h
  obtain ⟨a, dx, fs, rfl, ha, hq⟩ := h
  obtain ⟨u, rfl, ru⟩ := rv.one
  obtain rfl : u = Value.ref a := ru
  obtain ⟨mA, J, _⟩ := ins_get I.hok ha
  obtain ⟨od, J, _⟩ := J.look
  obtain ⟨m, hF⟩ := I.fr
  refine PySem.W.len_K hF I.ok.mod.kin J hm.at_ hm.fn ?_
  have e0 : Env0 X.prog X.w X.K X.mg X.base X.A.in1 X.stack s H := by
    have e := I.env0
    exact ⟨e.frames, e.mod, e.bs, e.bsz, e.funs, e.frf, e.hok, e.bare⟩
  have r2 : Vals [V.ref a] [Value.ref a] := .cons rfl .nil
  refine wpAny_call (codeAny_mono (F.run X.A.in1 X.stack s H ⟨[.ref a], []⟩ (g [.ref a] []) (gV [.ref a] []) _ _ hr.in1 e0 (hb.to s [.ref a] [] I.kIn rfl rfl) (hb.rel r2 .nil) hq) fun r s' hq => ?_)
  cases r with
  | error e => exact L2N.passAt (takes0 (X := X)) σ pins H s e s' I hq
  | ok fl =>
    cases fl with
    | ret u =>
      obtain ⟨v, H', I', rv', n, rfl, h0, h1, q⟩ := I.after hq
      obtain ⟨t, rfl⟩ := rv'
      exact ⟨⟨h0, h1⟩, .int n, H', I'.tok _, ⟨_, rfl⟩, q⟩
    | next => exact False.elim hq
    | brk => exact False.elim hq
    | cont => exact False.elim hq
theorem px_lenOwn (cm : CalM X.prog X.w X.K X.mg X.base k c "__len__" 0 [] pf gP) (hr : Room j X.A) (hk : k + 1 ≤ j) (hgl : Gl X "len") (hmg : X.mg "len" = none) (ho : PX X W e mo)
    (hgP : ∀ x, gP [x] [] = [x] := by intro _; rfl)
    (he : starEach (e :: []) X.env = (false, eval e X.env) :: starEach [] X.env := by rfl) (hpl : (backTo pos (starEach [] X.env)).any (·.1) = false := by rfl) :
    PX X W (.Call (.Name "len" p) (e :: []) [] pos) (mLenO c pf mo) := by
  obtain ⟨f, fd, ps, F, hc, hm, ⟨g, gV, B, hB⟩⟩ := cm.ex
  refine .of (pe_callB (call_lenOwn hc hm F (hr.mono hk) B) hgl hmg bt_len (pxa_cons ho pxa_nil he).pe (by decide) (by decide) he hpl) fun ρ hs env σ st H Q r p => ?_
  refine ⟨ρ, hs, env, st, r, ?_⟩
  unfold mLenO at p
  unfold mCons
  cases e1 : mo env st with
  | bad => rw [e1] at p; exact p.elim
  | exc c x s1 => rw [e1] at p; exact p
  | ok x s0 =>
    rw [e1] at p
    simp only [bnd_ok] at p ⊢
    intro ρ1 H1 vs r1 d1
    obtain ⟨v, w, rfl, dv, rfl⟩ := d1
    cases x with
    | ref i =>
      dsimp only at p
      have hold := dv
      obtain ⟨a, ha, rfl⟩ := dv
      cases e2 : s0[i]? with
      | none => rw [e2] at p; exact p.elim
      | some o =>
        rw [e2] at p
        cases o with
        | ins c' fs =>
          dsimp only at p
          by_cases hcc : c' = c
          · subst hcc
            rw [if_pos rfl] at p
            obtain ⟨dx, gs, k1, k2, k3⟩ := r1.s.ob _ _ _ e2 ha
            have hd := hB ρ1 H1 [.ref i] [.ref a] [] [] (.cons hold rfl) rfl
            rw [hgP] at hd
            refine ⟨a, dx, gs, rfl, k1, sp_go (W := W0) (σ := σ) r1 hd ?_⟩
            cases e3 : pf [.ref i] s0 with
            | bad => rw [e3] at p; exact p.elim
            | exc c x s1 => rw [e3] at p; exact p.elim
            | ok y s1 =>
              rw [e3] at p
              cases y with
              | int n =>
                unfold lenBk at p
                dsimp only at p
                by_cases hn : 0 ≤ n ∧ n < 2 ^ 62
                · rw [if_pos hn] at p
                  intro ρ2 H2 b r2 d2
                  cases d2
                  exact ⟨n, rfl, hn.1, by omega, p ρ2 H2 (.int n) r2 rfl⟩
                · rw [if_neg hn] at p; exact p.elim
              | _ => exact p.elim
          · rw [if_neg hcc] at p; exact p.elim
        | _ => exact p.elim
    | _ => exact p.elim
end
/-! ### evaluation -/
def lenOK (c : Str) (pf : PF) : Res PV → Res PV
  | .ok (.ref i) s0 => (match s0[i]? with
    | some (.ins c' fs) => if c' = c then lenBk (pf [.ref i] s0) else .bad
    | _ => .bad)
  | .exc d x s => .exc d x s
  | _ => .bad
@[simp] theorem mLenO_ap {c : Str} {pf : PF} {a : Mx PV} {env : Env} {st : Store} : mLenO c pf a env st = lenOK c pf (a env st) := by
  unfold mLenO lenOK
  cases a env st with
  | ok x s => cases x <;> rfl
  | _ => rfl
end
end PL
set_option Elab.async false
set_option linter.all false
set_option maxRecDepth 100000
set_option maxHeartbeats 1000000
set_option autoImplicit false
namespace PL
open PySem PySem.Spec PyProof.Rows L2 LW
noncomputable section
section
variable {X : Cx} {W : WX} {k j kn : Nat} {c x : Str} {ks : List Str} {pf : PF} {gP : List PV → List PV → List PV} {kws : List Keyword} {p pos : Pos} {mk : Mx (List PV)}
/-! ### C(k = v, ..) without positional arguments -/
theorem px_makeK0 (cc : CalC X.prog X.w X.K X.mg X.base k c 0 ks pf gP) (tk : L2N.Takes X W) (hr : Room j X.A) (hk : k + 1 ≤ j) (hg : Gl X c) (hkw : PXk X W kws mk)
    (hall : (backToKw pos (keywordEach kws X.env)).all (·.1.isSome) = true := by rfl) (hks : (backToKw pos (keywordEach kws X.env)).filterMap (·.1) = ks := by rfl)
    (hdb : (c == ("__debug__" : Str)) = false := by decide) (hpl : ((backTo pos (starEach [] X.env)).any (·.1) || (backToKw pos (keywordEach kws X.env)).any (·.1.isNone)) = false := by rfl) (hkn : ks.length = kn := by rfl) :
    PX X W (.Call (.Name c p) [] kws pos) (mMake c pf gP 0 kn mNil mk) := by
  subst hkn
  obtain ⟨f, fd, ps, F, hM, hm, ⟨g, gV, B, hB⟩⟩ := cc.ex
  refine .of (te := fun σ H Q => rG (RVs X.K) X.K W mk σ H fun zs H2 => zs.length = ks.length ∧ ∀ x dx, H2 x = none → H2 dx = none → dx ≠ x →
    spOf X.K pf (gV [.ref x] zs) (upd (upd H2 dx (.own x)) x (.ins (He.ga X.K c) dx [])) (fun v H3 => v = .non ∧ Q (.ref x) H3) (WE W σ)) ⟨fun pins s σ H Q I h => ?_⟩ fun ρ hs env σ st H Q r p => ?_
  · refine wpAny_Call_Name_kw (ld_glob I hg hm ?_ hdb)
    refine PySem.W.callWith_KW0 (h₀ := X.base) I.ok.mod.kin hM.kp hall ?_ hpl
    refine thn (hkw.pe.run pos pins s σ H _ I h) fun ws s2 ⟨zs, H2, I2, rz, l2, q2⟩ => ⟨I2.kIn, ?_⟩
    rw [hks]
    exact run_makeSD (us := []) (vs := []) hM F (hr.mono hk) B (L2N.passAt tk σ) I2 .nil rz rfl l2 q2
  · unfold mMake at p
    simp only [mNil, bnd_ok] at p
    refine ⟨ρ, hs, env, st, r, PostG.bnd p fun zs s2 _ p2 ρ2 H2 ws r2 d2 => ?_⟩
    by_cases hn : ([] : List PV).length = 0 ∧ zs.length = ks.length
    · rw [if_pos hn] at p2
      exact ⟨by rw [d2.len]; exact hn.2, fun x dx h1 h2 h3 => make_go (as := []) hB r2 PVrs.nil d2 h1 h2 h3 p2⟩
    · rw [if_neg hn] at p2; exact p2.elim
end
/-! ### == and != by an own __eq__ -/
theorem ne_ownK {prog : Program} {w : World} {A : Around} {E : Value → Shared → Prop} {s : Shared} {K : PySem.W.Frag} {x y C L f : Addr} {h₀ : Heap} {m : Str → Option Value} {ox : Obj} {od : Option Obj} {Q : Value → Shared → Prop} (hu : A.units + 1 < cLine)
    (hF : Fr h₀ L s.heap m) (X₀ : K.In h₀) (I : PySem.W.InstAt s.heap x ox C od) (hb : PySem.W.Looks (model prog w) s.heap (typeOf (.ref y)) (.ref C))
    (hn : PySem.W.findIn K (.ref C) "__ne__" = some (some (.builtin "object.__ne__"))) (hm : PySem.W.mroIn K C (.type "object") = some true) (hs : PySem.W.findIn K (.ref C) "__eq__" = some (some (.ref f))) (hf : PySem.W.isFn K (.ref f) = true)
    (h : wpAny (model prog w) A.in1 (call (.ref f) [.ref x, .ref y]) (fun v s' => ∃ b, v = .bool b ∧ Q (.bool (!b)) s') E s) : wpAny (model prog w) A (richCompare .NotEq (.ref x) (.ref y)) Q E s := by
  have KX := X₀.keeps hF.keep
  have S := F.cmp_object.ne
  have body : wpAny (model prog w) A.in1 (Builtin.«object.__ne__» ⟨[.ref x, .ref y], []⟩) (fun fin s' => ∃ b, fin = .done (.ret (.bool (!b))) ∧ Q (.bool (!b)) s') E s := by
    unfold Builtin.«object.__ne__»
    repeat (first
      | with_reducible refine wpAny_cRoomFor hu ?_
      | (refine wpAny_bind (m := callSpecialIfBound? (.ref x) (Str.ofString "__eq__") [.ref y]) (PySem.W.ifBound_K KX I hs hf (wpAny_mono h (fun r s' hr => by
          obtain ⟨b, rfl, hq⟩ := hr
          repeat (first
            | exact ⟨b, rfl, hq⟩
            | exact wpAny_pure ⟨b, rfl, hq⟩
            | exact wpAny_pure (wpAny_pure ⟨b, rfl, hq⟩)
            | exact wpAny_truthy_bool ⟨b, rfl, hq⟩
            | (refine wpAny_bind (m := truthy (.bool _)) (wpAny_truthy_bool ?_))
            | wp_step)) fun _ _ e => e)))
      | wp_step)
  have call_ : wpAny (model prog w) A (call (.builtin "object.__ne__") [.ref x, .ref y]) (fun v s' => ∃ b, v = .bool (!b) ∧ Q (.bool (!b)) s') E s := by
    refine wpAny_call (codeAny_call_builtin (S.plain) F.cmpEntry_ne (PySem.W.check_slot F.cmpKind_ne F.cmpSplit_ne (I.type.andThen (PySem.W.looks_mroIn KX hm)) (F.cmpArgs_ne _ _) (wpAny_mono body (fun fin s' hv => ?_) fun _ _ e => e)))
    obtain ⟨b, rfl, hq⟩ := hv
    exact ⟨b, rfl, hq⟩
  have try_ : wpAny (model prog w) A (tryCompare (.ref x) "__ne__" (.ref y)) (fun r s' => ∃ v, r = some v ∧ Q v s') E s := by
    unfold tryCompare
    simp only [callSpecialIfBound?, bindSpecialIfBound?]
    have fin : ∀ {T : Option Value → Sem (Option Value)}, (∀ b s', Q (.bool (!b)) s' → wpAny (model prog w) A (T (some (.bool (!b)))) (fun r s' => ∃ v, r = some v ∧ Q v s') E s') →
        wpAny (model prog w) A (call (.builtin "object.__ne__") ([.ref x] ++ [.ref y]) >>= fun v => pure (some v)) (fun r s' => wpAny (model prog w) A (T r) (fun r s' => ∃ v, r = some v ∧ Q v s') E s') E s := fun {T} hT => wpAny_bind (wpAny_mono call_ (fun v s' hv => by
          obtain ⟨b, rfl, hq⟩ := hv
          exact wpAny_pure (hT b s' hq)) fun _ _ e => e)
    refine wpAny_bind (wpAny_holding (wpAny_bind (wpAny_bind (wpAny_bind (I.type.here ((PySem.W.looks_findIn KX hn).here ?_))))))
    simp only [S.bind]
    have hT : ∀ b s', Q (.bool (!b)) s' → wpAny (model prog w) A (match some (Value.bool (!b)) with
        | some .notImplemented => pure none
        | none => pure none
        | some v => pure (some v)) (fun r s' => ∃ v, r = some v ∧ Q v s') E s' := fun b s' hq => wpAny_pure ⟨_, rfl, hq⟩
    refine wpAny_bind (wpAny_askSetting (wpAny_ite ?_))
    split
    · exact wpAny_bind (wpAny_pure (wpAny_pure (fin hT)))
    · exact wpAny_tryCatch (wpAny_bind (wpAny_pure (wpAny_pure (fin hT))))
  unfold richCompare
  simp only [oneThing_ref]
  refine wpAny_holding (wpAny_bind (wpAny_cRoomFor (Nat.lt_of_succ_lt hu) ?_))
  refine wpAny_bind (I.type.here (wpAny_bind (hb.here ?_)))
  rw [show (Value.ref C != Value.ref C) = false from by simp]
  refine wpAny_bind (wpAny_pure ?_)
  simp only [Bool.false_eq_true, if_false]
  refine wpAny_bind (wpAny_mono try_ (fun r s' z => ?_) fun _ _ e => e)
  obtain ⟨v, rfl, hq⟩ := z
  exact wpAny_pure hq
section
variable {X : Cx} {W : WX} {k j n : Nat} {c : Str} {pf : PF} {gP : List PV → List PV → List PV} {C f : Addr} {fd : FuncData} {ps : List Str} {sp : Sp} {g : List Value → List Value → List Value} {gV : List V → List V → List V}
/-- what x == y asks: two instances of C, and the def's word -/
def rEqO (C : Addr) (sp : Sp) (gV : List V → List V → List V) (neg : Bool) : R2 := fun x y H Q => ∃ a b dx dy fs gs, x = .ref a ∧ y = .ref b ∧ H a = some (.ins C dx fs) ∧ H b = some (.ins C dy gs) ∧
  sp (gV [.ref a, .ref b] []) H (fun v H' => ∃ t, v = .bl t ∧ Q (.bl (if neg then !t else t)) H') (fun _ _ _ => False)
theorem run_eqO (F : FnOk X.prog X.w X.K X.mg X.base (L2N.CX X.prog X.w) k f fd ps sp) {A : Around} (hr : Room k A) (hfr : A.frames = X.A.frames) (hb : KBn X.K fd ps 2 [] g gV) {pins : List (Addr × Obj)} {s : Shared} {σ : L2.St} {H : Hp} {a b : Addr} {Q : VK} (I : Inv X pins σ H s)
    (h : sp (gV [.ref a, .ref b] []) H Q (fun _ _ _ => False)) : wpAny (model X.prog X.w) A (call (.ref f) [.ref a, .ref b]) (EP X pins σ Q) X.xe s := by
  have e0 : Env0 X.prog X.w X.K X.mg X.base A X.stack s H := by
    have e := I.env0
    exact ⟨by rw [hfr]; exact e.frames, e.mod, e.bs, e.bsz, e.funs, e.frf, e.hok, e.bare⟩
  have r2 : Vals [V.ref a, V.ref b] [Value.ref a, Value.ref b] := .cons rfl (.cons rfl .nil)
  refine wpAny_call (codeAny_mono (F.run A X.stack s H ⟨[.ref a, .ref b], []⟩ (g [.ref a, .ref b] []) (gV [.ref a, .ref b] []) _ _ hr e0 (hb.to s [.ref a, .ref b] [] I.kIn rfl rfl) (hb.rel r2 .nil) h) fun r s' hq => ?_)
  cases r with
  | error e => exact L2N.passAt (takes0 (X := X)) σ pins H s e s' I hq
  | ok fl =>
    cases fl with
    | ret u => exact I.after hq
    | next => exact False.elim hq
    | brk => exact False.elim hq
    | cont => exact False.elim hq
theorem op_eqO (hm : Meth X.K C "__eq__" f) (F : FnOk X.prog X.w X.K X.mg X.base (L2N.CX X.prog X.w) k f fd ps sp) (hr : Room k X.A) (hb : KBn X.K fd ps 2 [] g gV) : OpR X (compareOp .Eq) (rEqO C sp gV false) := by
  intro pins s σ H x y v u Q I rx ry h
  obtain ⟨a, b, dx, dy, fs, gs, rfl, rfl, ha, hb', hq⟩ := h
  obtain rfl : v = Value.ref a := rx
  obtain rfl : u = Value.ref b := ry
  obtain ⟨mA, J, _⟩ := ins_get I.hok ha
  obtain ⟨mB, J', _⟩ := ins_get I.hok hb'
  obtain ⟨od, J, _⟩ := J.look
  obtain ⟨od', J', _⟩ := J'.look
  obtain ⟨m, hF⟩ := I.fr
  show wpAny (model X.prog X.w) X.A (richCompare .Eq (.ref a) (.ref b)) (EP X pins σ Q) X.xe s
  refine PySem.W.cmp_K (op := .Eq) (tb := .ref C) hr.units0 hF I.ok.mod.kin J J'.type (by simp [PySem.W.notFirst]) hm.at_ hm.fn (wpAny_mono (run_eqO F hr rfl hb I hq) (fun r s' z => ?_) fun _ _ e => e)
  obtain ⟨v, H', I', rv, t, rfl, q⟩ := z
  obtain rfl : r = Value.bool t := rv
  exact ⟨.bl t, H', I', rfl, q⟩
theorem op_neO (hm : Meth X.K C "__eq__" f) (hn : PySem.W.findIn X.K (.ref C) "__ne__" = some (some (.builtin "object.__ne__"))) (ho : PySem.W.mroIn X.K C (.type "object") = some true) (F : FnOk X.prog X.w X.K X.mg X.base (L2N.CX X.prog X.w) k f fd ps sp) (hr : Room (k + 2) X.A) (hb : KBn X.K fd ps 2 [] g gV) : OpR X (compareOp .NotEq) (rEqO C sp gV true) := by
  intro pins s σ H x y v u Q I rx ry h
  obtain ⟨a, b, dx, dy, fs, gs, rfl, rfl, ha, hb', hq⟩ := h
  obtain rfl : v = Value.ref a := rx
  obtain rfl : u = Value.ref b := ry
  obtain ⟨mA, J, _⟩ := ins_get I.hok ha
  obtain ⟨mB, J', _⟩ := ins_get I.hok hb'
  obtain ⟨od, J, _⟩ := J.look
  obtain ⟨od', J', _⟩ := J'.look
  obtain ⟨m, hF⟩ := I.fr
  show wpAny (model X.prog X.w) X.A (richCompare .NotEq (.ref a) (.ref b)) (EP X pins σ Q) X.xe s
  refine ne_ownK (by have := hr.un; omega) hF I.ok.mod.kin J J'.type hn ho hm.at_ hm.fn (wpAny_mono (run_eqO F (hr.mono (Nat.le_succ _)).in1 rfl hb I hq) (fun r s' z => ?_) fun _ _ e => e)
  obtain ⟨v, H', I', rv, t, rfl, q⟩ := z
  obtain rfl : r = Value.bool t := rv
  exact ⟨t, rfl, .bl (!t), H', I', rfl, q⟩
end
end
end PL
set_option Elab.async false
set_option linter.all false
set_option maxRecDepth 100000
set_option maxHeartbeats 1000000
set_option autoImplicit false
namespace PL
open PySem PySem.Spec PyProof.Rows L2 LW
noncomputable section
/-! ### own == and !=: as operators -/
structure NeK (K : Fg) (c : Str) : Prop where
  ne : PySem.W.findIn K (.ref (He.ga K c)) "__ne__" = some (some (.builtin "object.__ne__"))
  ob : PySem.W.mroIn K (He.ga K c) (.type "object") = some true
def neB (K : Fg) (c : Str) : Bool := He.eqO (PySem.W.findIn K (.ref (He.ga K c)) "__ne__") (some (some (.builtin "object.__ne__"))) && decide (PySem.W.mroIn K (He.ga K c) (.type "object") = some true)
theorem neB_ok {K : Fg} {c : Str} (h : neB K c = true) : NeK K c := by
  obtain ⟨h1, h2⟩ := (Bool.and_eq_true _ _).mp h
  exact ⟨He.eqO_ok h1, of_decide_eq_true h2⟩
def eqBk (neg : Bool) : Res PV → Res PV
  | .ok (.bl b) s => .ok (.bl (if neg then !b else b)) s
  | _ => .bad
def eqO1 (neg : Bool) (c : Str) (pf : PF) (i j : Nat) (st : Store) : Option PO → Option PO → Res PV
  | some (.ins c1 _), some (.ins c2 _) => if c1 = c ∧ c2 = c then eqBk neg (pf [.ref i, .ref j] st) else .bad
  | _, _ => .bad
def pEqO (neg : Bool) (c : Str) (pf : PF) : PV → PV → Store → Res PV := fun x y st => match x, y with
  | .ref i, .ref j => eqO1 neg c pf i j st st[i]? st[j]?
  | _, _ => .bad
@[simp] theorem eqBk_ok {neg b : Bool} {s : Store} : eqBk neg (.ok (.bl b) s) = .ok (.bl (if neg then !b else b)) s := rfl
@[simp] theorem pEqO_ref {neg : Bool} {c : Str} {pf : PF} {i j : Nat} {st : Store} : pEqO neg c pf (.ref i) (.ref j) st = eqO1 neg c pf i j st st[i]? st[j]? := rfl
@[simp] theorem eqO1_ins {neg : Bool} {c c1 c2 : Str} {pf : PF} {i j : Nat} {st : Store} {fs gs : List (Str × PV)} : eqO1 neg c pf i j st (some (.ins c1 fs)) (some (.ins c2 gs)) = if c1 = c ∧ c2 = c then eqBk neg (pf [.ref i, .ref j] st) else .bad := rfl
section
variable {X : Cx} {W : WX} {K : Fg} {k j : Nat} {c : Str} {pf : PF} {gP : List PV → List PV → List PV} {gV : List V → List V → List V} {neg : Bool} {a b : Expr} {m n : Mx PV}
theorem sp_eqO (hB : ∀ ρ H as vs bs zs, PVrs K ρ H as vs → PVrs K ρ H bs zs → PVrs K ρ H (gP as bs) (gV vs zs)) (hg : ∀ x y, gP [x, y] [] = [x, y]) : Op2 K (rEqO (He.ga K c) (spOf K pf) gV neg) (pEqO neg c pf) := by
  intro W ρ hs env σ st H Q x y u v r dx dy p
  cases x with
  | ref i =>
    cases y with
    | ref j =>
      have q : PostG (RV K) K W hs env σ Q (eqO1 neg c pf i j st st[i]? st[j]?) := p
      clear p
      have dx0 := dx
      have dy0 := dy
      obtain ⟨a, ha, rfl⟩ := dx
      obtain ⟨b, hb, rfl⟩ := dy
      cases e1 : st[i]? with
      | none => rw [e1] at q; exact q.elim
      | some o1 =>
        cases e2 : st[j]? with
        | none => rw [e1, e2] at q; cases o1 <;> exact q.elim
        | some o2 =>
          rw [e1, e2] at q
          cases o1 with
          | ins c1 fs =>
            cases o2 with
            | ins c2 gs =>
              rw [eqO1_ins] at q
              by_cases hc : c1 = c ∧ c2 = c
              · rw [if_pos hc] at q
                obtain ⟨rfl, rfl⟩ := hc
                obtain ⟨d1, f1, k1, _⟩ := r.s.ob _ _ _ e1 ha
                obtain ⟨d2, f2, k2, _⟩ := r.s.ob _ _ _ e2 hb
                have hd := hB ρ H [.ref i, .ref j] [.ref a, .ref b] [] [] (.cons dx0 (.cons dy0 .nil)) rfl
                rw [hg] at hd
                refine ⟨a, b, d1, d2, f1, f2, rfl, rfl, k1, k2, sp_go (W := W0) (σ := σ) r hd ?_⟩
                cases e3 : pf [.ref i, .ref j] st with
                | bad => rw [e3] at q; exact q.elim
                | exc d z s1 => rw [e3] at q; exact q.elim
                | ok z s1 =>
                  rw [e3] at q
                  cases z with
                  | bl t =>
                    intro ρ2 H2 w r2 d2
                    cases d2
                    exact ⟨t, rfl, q ρ2 H2 _ r2 rfl⟩
                  | _ => exact q.elim
              · rw [if_neg hc] at q; exact q.elim
            | _ => exact q.elim
          | _ => cases o2 <;> exact q.elim
    | _ => exact p.elim
  | _ => exact p.elim
theorem pxc_eqO (cm : CalM X.prog X.w X.K X.mg X.base k c "__eq__" 1 [] pf gP) (hr : Room j X.A) (hk : k ≤ j) (ha : PX X W a m) (hb : PX X W b n) (hg : ∀ x y, gP [x, y] [] = [x, y] := by intro _ _; rfl) : PXc X W .Eq a b (mOp (pEqO false c pf) m n) := by
  obtain ⟨f, fd, ps, F, hc, hm, ⟨g, gV, B, hB⟩⟩ := cm.ex
  exact pxc_op (op_eqO hm F (hr.mono hk) B) (sp_eqO hB hg) ha hb
theorem pxc_neO (cm : CalM X.prog X.w X.K X.mg X.base k c "__eq__" 1 [] pf gP) (N : NeK X.K c) (hr : Room j X.A) (hk : k + 2 ≤ j) (ha : PX X W a m) (hb : PX X W b n) (hg : ∀ x y, gP [x, y] [] = [x, y] := by intro _ _; rfl) : PXc X W .NotEq a b (mOp (pEqO true c pf) m n) := by
  obtain ⟨f, fd, ps, F, hc, hm, ⟨g, gV, B, hB⟩⟩ := cm.ex
  exact pxc_op (op_neO hm N.ne N.ob F (hr.mono hk) B) (sp_eqO hB hg) ha hb
end
end
end PL
set_option Elab.async false
set_option linter.all false
set_option maxRecDepth 100000
set_option maxHeartbeats 1000000
set_option autoImplicit false
namespace PL
open PySem PySem.Spec PyProof.Rows L2 LW
noncomputable section
/-! ### isinstance(o, C) of an instance of an own class -/
def eqCls (c d : Str) : Bool := decide (c = d)
def isO1 (cs : List Str) (cn : Str) (st : Store) : Option PO → Res PV
  | some (.ins c _) => if c ∈ cs then .ok (.bl (eqCls c cn)) st else .bad
  | _ => .bad
def isO0 (cs : List Str) (cn : Str) : PV → Store → Res PV
  | .ref i, st => isO1 cs cn st st[i]?
  | _, _ => .bad
def mIsO (cs : List Str) (cn : Str) (a : Mx PV) : Mx PV := mUn (isO0 cs cn) a
@[simp] theorem mIsO_ap {cs : List Str} {cn : Str} {a : Mx PV} {env : Env} {st : Store} : mIsO cs cn a env st = mUn (isO0 cs cn) a env st := rfl
@[simp] theorem isO0_ref {cs : List Str} {cn : Str} {i : Nat} {st : Store} : isO0 cs cn (.ref i) st = isO1 cs cn st st[i]? := rfl
@[simp] theorem isO1_ins {cs : List Str} {cn c : Str} {fs : List (Str × PV)} {st : Store} : isO1 cs cn st (some (.ins c fs)) = if c ∈ cs then .ok (.bl (eqCls c cn)) st else .bad := rfl
structure IsK (K : Fg) (c : Str) : Prop where
  m : PySem.W.kitOne K (.ref (He.ga K c)) (.ref (He.ga K c)) = some true
  ha : PySem.W.findIn K (.ref (He.ga K c)) "__class__" = some (some (.builtin "object.__class__"))
  hn : PySem.W.specialIn K (.builtin "object.__class__") "__get__" = some (some (.builtin "getset_descriptor.__get__"))
  ht : PySem.W.takesIn K (.builtin "object.__class__") = some true
  ho : PySem.W.mroIn K (He.ga K c) (.type "object") = some true
def isB1 (K : Fg) (c : Str) : Bool := decide (PySem.W.kitOne K (.ref (He.ga K c)) (.ref (He.ga K c)) = some true) && (He.eqO (PySem.W.findIn K (.ref (He.ga K c)) "__class__") (some (some (.builtin "object.__class__"))) &&
  (He.eqO (PySem.W.specialIn K (.builtin "object.__class__") "__get__") (some (some (.builtin "getset_descriptor.__get__"))) && (decide (PySem.W.takesIn K (.builtin "object.__class__") = some true) && decide (PySem.W.mroIn K (He.ga K c) (.type "object") = some true))))
theorem isB1_ok {K : Fg} {c : Str} (h : isB1 K c = true) : IsK K c := by
  obtain ⟨h1, h⟩ := He.ba h
  obtain ⟨h2, h⟩ := He.ba h
  obtain ⟨h3, h⟩ := He.ba h
  obtain ⟨h4, h5⟩ := He.ba h
  exact ⟨of_decide_eq_true h1, He.eqO_ok h2, He.eqO_ok h3, of_decide_eq_true h4, of_decide_eq_true h5⟩
section
variable {X : Cx} {W : WX} {cs : List Str} {cn : Str} {e : Expr} {m : Mx PV} {p cp pos : Pos}
theorem px_isO (hk : IsK X.K cn) (hcl : Cls X.K (He.ga X.K cn)) (hcg : Gl X cn) (hcm : X.mg cn = some (.ref (He.ga X.K cn))) (hg : Gl X "isinstance") (hm : X.mg "isinstance" = none) (he : PX X W e m) (hcb : (cn == ("__debug__" : Str)) = false := by decide)
    (h2 : starEach (e :: [.Name cn cp]) X.env = (false, eval e X.env) :: starEach [.Name cn cp] X.env := by rfl) (h1 : starEach (.Name cn cp :: []) X.env = (false, eval (.Name cn cp) X.env) :: starEach [] X.env := by rfl)
    (hpl : (backTo pos (starEach [.Name cn cp] X.env)).any (·.1) = false := by rfl) : PX X W (.Call (.Name "isinstance" p) (e :: [.Name cn cp]) [] pos) (mIsO [cn] cn m) := by
  refine .of (pe_callB call_isi hg hm bt_isinstance (pa_cons he.pe (pa_cons (pe_glob (v := .ref (He.ga X.K cn)) hcg hcm rfl hcb) pa_nil h1) h2) (by decide) (by decide) h2 hpl) fun ρ hs env σ st H Q r q => ?_
  refine ⟨ρ, hs, env, st, r, ?_⟩
  unfold mIsO mUn at q
  cases e1 : m env st with
  | bad => rw [e1] at q; exact q.elim
  | exc d z s1 => rw [e1] at q; exact q
  | ok x s0 =>
    rw [e1] at q
    intro ρ1 H1 v r1 d1
    cases x with
    | ref i =>
      have q : PostG (RV X.K) X.K W hs env σ Q (isO1 [cn] cn s0 s0[i]?) := q
      obtain ⟨a, ha, rfl⟩ := d1
      cases e2 : s0[i]? with
      | none => rw [e2] at q; exact q.elim
      | some o =>
        rw [e2] at q
        cases o with
        | ins c fs =>
          rw [isO1_ins] at q
          by_cases hc : c ∈ [cn]
          · rw [if_pos hc] at q
            obtain ⟨dx, gs, k1, _⟩ := r1.s.ob _ _ _ e2 ha
            obtain rfl : c = cn := by simpa using hc
            have ec : eqCls c c = true := decide_eq_true rfl
            rw [ec] at q
            exact ⟨.ref a, .ref (He.ga X.K c), .ref (He.ga X.K c), .ref (He.ga X.K c), true, rfl, .own _, .base (.ins k1 hcl hk.ha hk.hn hk.ht hk.ho), hk.m, q ρ1 H1 _ r1 rfl⟩
          · rw [if_neg hc] at q; exact q.elim
        | _ => exact q.elim
    | _ => exact q.elim
end
end
end PL
set_option Elab.async false
set_option linter.all false
set_option maxRecDepth 100000
set_option maxHeartbeats 1000000
set_option autoImplicit false
namespace PL
open PySem PySem.Spec PyProof.Rows L2 LW
noncomputable section
/-! ### try with several clauses, each of one own class or of two, by one name -/
inductive Alt (X : Cx) : Expr → List Value → Prop
  | one {x : Str} {C : Addr} {p : Pos} (hg : Gl X x) (hm : X.mg x = some (.ref C)) (hd : (x == ("__debug__" : Str)) = false) : Alt X (.Name x p) [.ref C]
  | two {x y : Str} {C D : Addr} {p q pos : Pos} {k : Nat} (hg : Gl X x) (hm : X.mg x = some (.ref C)) (hd : (x == ("__debug__" : Str)) = false) (gg : Gl X y) (gm : X.mg y = some (.ref D)) (gd : (y == ("__debug__" : Str)) = false) :
      Alt X (.Tuple [.Name x p, .Name y q] k pos) [.ref C, .ref D]
def unE (i : Nat) (D : Ends) : Ends := { nx := fun σ H => D.nx (σ.set i none) H, rt := D.rt, bk := fun σ H => D.bk (σ.set i none) H, ct := fun σ H => D.ct (σ.set i none) H }
abbrev AltL := List (List Value × (Addr → Value → Option Addr → TS))
def wAlts (K : Fg) (i : Nat) (Wout : WX) (D : Ends) : AltL → WX
  | [] => Wout
  | (cs, ts) :: r => fun cls d σ H => ∃ b, PySem.W.exmAny K cls cs = some b ∧ (b = true → ∀ a, H a = none → ts a cls d (unE i D) (σ.set i (some (.ref a))) H) ∧ (b = false → wAlts K i Wout D r cls d σ H)
inductive HdsA (X : Cx) (n : Str) : List ExceptHandler → AltL → Prop
  | nil : HdsA X n [] []
  | cons {t : Expr} {cs : List Value} {ts : Addr → Value → Option Addr → TS} {b₀ : Stmt} {suite : List Stmt} {p : Pos} {hds : List ExceptHandler} {l : AltL} (ha : Alt X t cs)
      (hsu : ∀ (a : Addr) (oe : Obj) (cls : Value) (d : Option Addr) (pn : List (Addr × Obj)), L2N.Zn cls d oe → (∃ vs, oe.data = .fields vs) → PSs (X.suite a ((a, oe) :: pn)) (b₀ :: suite) (ts a cls d)) (r : HdsA X n hds l) :
      HdsA X n (.ExceptHandler (some t) (some n) (b₀ :: suite) p :: hds) ((cs, ts) :: l)
theorem fly_ext {B h h' : Heap} {l : List PySem.Env} {e : Addr} {Z : Obj → Prop} (k : ∀ b o, h.get? b = some o → h'.get? b = some o) (f : HandSPX.FlyingZ B l e Z h) : HandSPX.FlyingZ B l e Z h' := by
  obtain ⟨f1, f2, f3, oe, vs, T, oT, ts, h1, h2, h3, h4, h5, h6, h7, h8, h9⟩ := f
  exact ⟨fun b o q => k _ _ (f1 b o q), f2, f3.of_keeps fun b o q _ => ⟨o, k _ _ q, rfl⟩, oe, vs, T, oT, ts, k _ _ h1, h2, h3, h4, h5, h6, k _ _ h7, h8, h9⟩
section
variable {X : Cx} {i : Nat} {n : Str}
/-- the test of a clause -/
theorem alt_test {t : Expr} {cs : List Value} (ha : Alt X t cs) {a : Addr} {cls : Value} {oe : Obj} {pn : List (Addr × Obj)} {σ : L2.St} {H : Hp} {s : Shared} {b : Bool} {Q : Bool → Shared → Prop} {E : Value → Shared → Prop} (S : Inv (X.suite a ((a, oe) :: pn)) [] σ H s) (he : s.heap.get? a = some oe) (hz : oe.cls = cls)
    (hb : PySem.W.exmAny X.K cls cs = some b) (h : ∀ h', (∀ c o, s.heap.get? c = some o → h'.get? c = some o) → Q b { s with heap := h' }) :
    wpAny (model X.prog X.w) (X.A.mark (some (.ref a))) (eval t X.env) (fun c s1 => wpAny (model X.prog X.w) (X.A.mark (some (.ref a))) (excMatches (.ref a) c) Q E s1) E s := by
  have LT : ∀ {h1 : Heap}, (∀ c o, s.heap.get? c = some o → h1.get? c = some o) → PySem.W.Looks (model X.prog X.w) h1 (typeOf (.ref a)) cls := fun {h1} k0 A Q E s k q => wpAny_typeOf_ref (k _ _ (k0 _ _ he)) (by rw [hz]; exact q)
  cases ha with
  | @one x C p hg hm hd =>
    refine ld_glob (X := X.suite a ((a, oe) :: pn)) S hg hm ?_ hd
    obtain ⟨b1, d1, x1, y1, z1⟩ := PySem.W.exmAny_cons hb
    have w1 : some false = some d1 := y1
    cases w1
    rw [Bool.or_false] at z1
    subst z1
    exact (PySem.W.exm_one (S.kIn) (LT fun _ _ q => q) x1).here (h s.heap fun _ _ q => q)
  | @two x y C D p q pos k hg hm hd gg gm gd =>
    refine Tuple_ ?_
    show wpAny _ _ (spliced ((false, eval (.Name x p) X.env) :: (false, eval (.Name y q) X.env) :: [])) _ _ s
    refine Calls.spliced_cons (ld_glob (X := X.suite a ((a, oe) :: pn)) S hg hm (Calls.spliced_cons (ld_glob (X := X.suite a ((a, oe) :: pn)) S gg gm (Calls.spliced_nil ?_) gd)) hd)
    refine wpAny_newTuple ?_ (by show 2 ≤ sizeLine; decide)
    have hk : ∀ c o, s.heap.get? c = some o → (s.heap.push ({ cls := .type "tuple", data := .seq [Value.ref C, .ref D].toArray } : Obj)).get? c = some o := fun c o z => Heap.get?_push_of_some _ z
    exact (PySem.W.exm_tup2 (S.kIn.keeps hk) (LT hk) (Heap.get?_push_size _ rfl) hb).here (h _ hk)
theorem ps_tryAlts {body : List Stmt} {h₀ : ExceptHandler} {hds : List ExceptHandler} {l : AltL} {pos : Pos} {tb : WX → TS} {Wout : WX} (hs : X.stack = X.env :: X.outer) (hf : X.env.frame = some X.env.locals) (hN : X.N.Nodup) (hi : X.N[i]? = some n) (hln : X.env.kindOf n = some .local) (tk : L2N.Takes X Wout)
    (hb : ∀ (W : WX) (pn : List (Addr × Obj)) (xe : Value → Shared → Prop), L2N.Takes (X.tr pn xe) W → PassesOwn (model X.prog X.w) X.A X.env xe → PSs (X.tr pn xe) body (tb W))
    (hh : HdsA X n (h₀ :: hds) l) : PS X (.Try body (h₀ :: hds) [] [] pos) (fun D σ H => tb (wAlts X.K i Wout D l) D σ H) := by
  refine ⟨fun pins s σ H D I h => ?_⟩
  have ok := I.ok
  have hfr : X.A.frames = some (X.env :: X.outer) := by rw [ok.frames, hs]
  have hloc : Loc X.env.scope n := .inl hln
  refine wpAny_Try_except (wpAny_mono ((hb (wAlts X.K i Wout D l) (X.pn ++ pins) (fun e s₁ => wpAny (model X.prog X.w) X.A (noteFrame e X.env) (fun _ s₂ => wpAny (model X.prog X.w) X.A (setFlight e none) (fun _ s₃ =>
    wpAny (model X.prog X.w) X.A (handleBy e X.env (h₀ :: hds)) (SP X pins D) X.xe s₃) X.xe s₂) X.xe s₁) (fun u s' xx => ?caught) PassesOwn.looking).run [] s σ H D (I.toTry _) h) (fun f s1 hsp => ?through) (fun e s1 he => he))
  case caught =>
    obtain ⟨a, B, sI, pins', σ', H', cls, d, rfl, J', nb, up, sky, na, os, ag, w⟩ := xx
    have J : Inv X pins σ' H' sI := J'.ofTry ok
    have sky2 : L2.Sky B (X.env :: X.outer) a (L2N.Zn cls d) X.env.locals s'.heap := hs ▸ sky
    show wpAny (model X.prog X.w) X.A (noteFrame (.ref a) X.env) _ _ _
    refine L2N.Sky.land L2N.Zn.steady hfr hf sky2 fun h3 fl3 up3 => ?_
    -- clause by clause, while the heap only grows
    have turn : ∀ {hds' : List ExceptHandler} {l' : AltL}, HdsA X n hds' l' → wAlts X.K i Wout D l' cls d σ' H' → ∀ hN' : Heap, HandSPX.FlyingZ B (X.env :: X.outer) a (L2N.Zn cls d) hN' → s'.heap.UpToSlots hN' →
        wpAny (model X.prog X.w) X.A (handleBy (.ref a) X.env hds') (SP X pins D) X.xe { s' with heap := hN' } := by
      intro hds' l' hk
      induction hk with
      | nil =>
        intro w hq fl upq
        refine wpAny_handleBy_nil ?_
        obtain ⟨k1, k2, k3, oe, vs, T, oT, ts', he, hz, hd, h1, hr⟩ := id fl
        unfold PySem.passOn
        refine wpAny_bind (wpAny_field he hd h1 ?_)
        rw [if_neg (by simp : ¬ (Value.ref T == Value.none) = true)]
        have fin : wpAny (model X.prog X.w) X.A (setFlight (.ref a) X.env.frame) (fun _ s4 => wpAny (model X.prog X.w) X.A (throw (.ref a) : Sem Flow) (SP X pins D) X.xe s4) X.xe { s' with heap := hq } := by
          rw [hf]
          exact HandSPX.setFlight_upZ fl fun h4 hh4 up4 => wpAny_throw (tk _ _ ⟨a, B, sI, pins, σ', H', cls, d, rfl, J, nb, (up.trans upq).trans up4, .inr (.inr (hs ▸ hh4)), na, os, ag, w⟩)
        first
          | exact wpAny_bind (wpAny_pure (wpAny_bind fin))
          | exact wpAny_bind fin
      | @cons t cs ts b₀ suite p hds2 l2 ht hsu r ih =>
        intro w hq fl upq
        obtain ⟨b, hb1, hyes, hno⟩ := w
        -- what is known of the exception in a heap in which it flies
        have at_ : ∀ h5 : Heap, HandSPX.FlyingZ B (X.env :: X.outer) a (L2N.Zn cls d) h5 → s'.heap.UpToSlots h5 → ∃ oe vs, h5.get? a = some oe ∧ L2N.Zn cls d oe ∧ oe.data = .fields vs ∧ Inv (X.suite a ((a, oe) :: (X.pn ++ pins))) [] σ' H' { s' with heap := h5 } := fun h5 fl5 up5 => by
          obtain ⟨oe, vs, he, hz, hd⟩ := fl5.there
          have noF : a ∉ frs (X.env :: X.outer) := fun hm => by
            obtain ⟨_, o', e', hnf⟩ := fl5.2.2.1.mem hm
            rw [he] at e'
            cases e'
            exact hnf _ hd
          have J5 : Inv X pins σ' H' { s' with heap := h5 } := J.landed nb fl5.1 (up.trans up5) os ag
          refine ⟨oe, vs, he, hz, hd, J5.suite he hd na (fun z => noF (List.mem_filterMap.mpr ⟨X.env, List.mem_cons_self, by rw [hf, z]⟩)) fun hm => ?_⟩
          obtain ⟨e, hm1, hm2⟩ := List.mem_filterMap.mp hm
          exact noF (List.mem_filterMap.mpr ⟨e, List.mem_cons_of_mem _ hm1, hm2⟩)
        obtain ⟨oe3, vs3, he3, hz3, hd3, S3⟩ := at_ hq fl upq
        refine wpAny_handleBy_cons (codeAny_handlers_test (alt_test ht S3 he3 hz3.1 hb1 fun h5 k5 => ?_)) (fun z => nomatch z)
        have fl5 := fly_ext k5 fl
        have up5 := upq.trans (Heap.UpToSlots.of_keeps k5)
        cases b with
        | true =>
          refine codeAny_handlers_suite_as (HandSPX.lands_againZ fl5 fun h6 fl6 up6 => ?_)
          obtain ⟨oe6, vs6, he6, hz6, hd6, S6⟩ := at_ h6 fl6 (up5.trans up6)
          refine store_ok (X := X.suite a ((a, oe6) :: (X.pn ++ pins))) (v := .ref a) S6 hN hi hloc rfl (fun s7 S7 => ?_) (.inr hln)
          refine wpAny_mono ((hsu a oe6 cls d (X.pn ++ pins) hz6 ⟨_, hd6⟩).run [] s7 _ H' _ S7 (hyes rfl a na)) (fun f s8 hsp => ?_) (fun _ _ z => z.elim)
          have out : ∀ {σ8 : L2.St} {H8 : Hp} {Q : Shared → Prop}, Inv (X.suite a ((a, oe6) :: (X.pn ++ pins))) [] σ8 H8 s8 → (∀ s9, Inv X pins (σ8.set i none) H8 s9 → Q s9) →
              wpAny (model X.prog X.w) X.A (do bindName X.env n .none; unbindBehindTheSuite X.env n p) (fun _ s9 => Q s9) X.xe s8 := fun {σ8 H8 Q} S8 hQ => gone_ok (S8.unsuite ok) hN hi hln hQ
          cases f with
          | next => obtain ⟨σ8, H8, S8, q8⟩ := hsp; exact out S8 fun s9 J9 => ⟨_, _, J9, q8⟩
          | brk => obtain ⟨σ8, H8, S8, q8⟩ := hsp; exact out S8 fun s9 J9 => ⟨_, _, J9, q8⟩
          | cont => obtain ⟨σ8, H8, S8, q8⟩ := hsp; exact out S8 fun s9 J9 => ⟨_, _, J9, q8⟩
          | ret u => obtain ⟨v8, σ8, H8, S8, r8, q8⟩ := hsp; exact out S8 fun s9 J9 => ⟨_, _, _, J9, r8, q8⟩
        | false => exact ih (hno rfl) h5 fl5 up5
    exact turn hh w h3 fl3 up3
  case through =>
    cases f with
    | next => obtain ⟨σ', H', J', q⟩ := hsp; exact wpAny_execs_nil ⟨σ', H', J'.ofTry ok, q⟩
    | brk => obtain ⟨σ', H', J', q⟩ := hsp; exact ⟨σ', H', J'.ofTry ok, q⟩
    | cont => obtain ⟨σ', H', J', q⟩ := hsp; exact ⟨σ', H', J'.ofTry ok, q⟩
    | ret u => obtain ⟨v, σ', H', J', r, q⟩ := hsp; exact ⟨v, σ', H', J'.ofTry ok, r, q⟩
end
end
end PL
set_option Elab.async false
set_option linter.all false
set_option maxRecDepth 100000
set_option maxHeartbeats 1000000
set_option autoImplicit false
namespace PL
/-! ### checks in groups -/
theorem map_ba {α : Type} {X : Option α} {f g : α → Bool} (h : X.map f = some true) (k : X.map g = some true) : X.map (fun s => f s && g s) = some true := by
  cases X with
  | none => cases h
  | some a =>
    have h1 : f a = true := Option.some.inj h
    have h2 : g a = true := Option.some.inj k
    show some (f a && g a) = some true
    rw [h1, h2]
    rfl
theorem map_tt {α : Type} {X : Option α} {f : α → Bool} (h : X.map f = some true) : X.map (fun _ => true) = some true := by
  cases X with
  | none => cases h
  | some a => rfl
end PL
set_option Elab.async false
set_option linter.all false
set_option maxRecDepth 100000
set_option maxHeartbeats 1000000
set_option autoImplicit false
namespace PL
open PySem PySem.Spec PyProof.Rows L2 LW
noncomputable section
/-! ### try with several clauses by one name, in the pure layer -/
abbrev AltM := List (List Str × (Str → PV → Ms))
def altsM (sub : Str → Str → Bool) (i : Nat) (c : Str) (x : PV) (env1 : Env) (st1 : Store) : AltM → Fl
  | [] => .exc c x env1 st1
  | (cns, ms) :: r => if cns.any (sub c) = true then (ms c x (env1.set i none) st1).unset i else altsM sub i c x env1 st1 r
def mTryAlts (cs : List Str) (sub : Str → Str → Bool) (i : Nat) (m : Ms) (l : AltM) : Ms := fun env st => match m env st with
  | .exc c x env1 st1 => if c ∈ cs ∧ i < env1.length then altsM sub i c x env1 st1 l else .bad
  | r => r
def altL (K : Fg) (i : Nat) (l : AltM) : AltL := l.map fun q => (q.1.map fun cn => .ref (He.ga K cn), fun a cls d => rSh K W0 i a cls d q.2)
theorem exmAny_of {K : Fg} {cs : List Str} {sub : Str → Str → Bool} {c : Str} (hcs : c ∈ cs) : ∀ {cns : List Str}, (∀ cn ∈ cns, ExM K cs sub cn) → PySem.W.exmAny K (.ref (He.ga K c)) (cns.map fun cn => .ref (He.ga K cn)) = some (cns.any (sub c))
  | [], _ => rfl
  | cn :: r, h => by
    have h1 := (h cn List.mem_cons_self).m c hcs
    have h2 := exmAny_of hcs fun q hq => h q (List.mem_cons_of_mem _ hq)
    show (match PySem.W.exmOne K (.ref (He.ga K c)) (.ref (He.ga K cn)), PySem.W.exmAny K (.ref (He.ga K c)) (r.map fun cn => .ref (He.ga K cn)) with
      | some b, some d => some (b || d)
      | _, _ => none) = _
    rw [h1, h2]
    rfl
def AltE (K : Fg) (cs : List Str) (sub : Str → Str → Bool) (l : AltM) : Prop := ∀ q ∈ l, ∀ cn ∈ q.1, ExM K cs sub cn
theorem altE_nil {K : Fg} {cs : List Str} {sub : Str → Str → Bool} : AltE K cs sub [] := fun _ h => nomatch h
theorem altE_one {K : Fg} {cs : List Str} {sub : Str → Str → Bool} {l : AltM} {cn : Str} {ms : Str → PV → Ms} (h : ExM K cs sub cn) (r : AltE K cs sub l) : AltE K cs sub (([cn], ms) :: l) := fun q hq => by
  rcases List.mem_cons.mp hq with rfl | hq
  · intro c hc
    rcases List.mem_cons.mp hc with rfl | hc
    · exact h
    · cases hc
  · exact r q hq
theorem altE_two {K : Fg} {cs : List Str} {sub : Str → Str → Bool} {l : AltM} {cn dn : Str} {ms : Str → PV → Ms} (h : ExM K cs sub cn) (h' : ExM K cs sub dn) (r : AltE K cs sub l) : AltE K cs sub (([cn, dn], ms) :: l) := fun q hq => by
  rcases List.mem_cons.mp hq with rfl | hq
  · intro c hc
    rcases List.mem_cons.mp hc with rfl | hc
    · exact h
    · rcases List.mem_cons.mp hc with rfl | hc
      · exact h'
      · cases hc
  · exact r q hq
section
variable {X : Cx} {W : WX} {i : Nat} {n : Str}
theorem hdsM_nil : HdsA X n [] (altL X.K i []) := .nil
theorem hdsM_one {cn : Str} {np p : Pos} {ms : Str → PV → Ms} {b₀ : Stmt} {suite : List Stmt} {hds : List ExceptHandler} {l : AltM} (hg : Gl X cn) (hm : X.mg cn = some (.ref (He.ga X.K cn))) (hd : (cn == ("__debug__" : Str)) = false)
    (hsu : ∀ (a : Addr) (oe : Obj) (cls : Value) (d : Option Addr) (pn : List (Addr × Obj)), L2N.Zn cls d oe → (∃ vs, oe.data = .fields vs) → PXBh (X.suite a ((a, oe) :: pn)) W0 i a cls d (b₀ :: suite) ms) (r : HdsA X n hds (altL X.K i l)) :
    HdsA X n (.ExceptHandler (some (.Name cn np)) (some n) (b₀ :: suite) p :: hds) (altL X.K i (([cn], ms) :: l)) := .cons (.one hg hm hd) (fun a oe cls d pn z q => (hsu a oe cls d pn z q).pe) r
theorem hdsM_two {cn dn : Str} {np nq p tp : Pos} {k : Nat} {ms : Str → PV → Ms} {b₀ : Stmt} {suite : List Stmt} {hds : List ExceptHandler} {l : AltM} (hg : Gl X cn) (hm : X.mg cn = some (.ref (He.ga X.K cn))) (hd : (cn == ("__debug__" : Str)) = false) (gg : Gl X dn) (gm : X.mg dn = some (.ref (He.ga X.K dn))) (gd : (dn == ("__debug__" : Str)) = false)
    (hsu : ∀ (a : Addr) (oe : Obj) (cls : Value) (d : Option Addr) (pn : List (Addr × Obj)), L2N.Zn cls d oe → (∃ vs, oe.data = .fields vs) → PXBh (X.suite a ((a, oe) :: pn)) W0 i a cls d (b₀ :: suite) ms) (r : HdsA X n hds (altL X.K i l)) :
    HdsA X n (.ExceptHandler (some (.Tuple [.Name cn np, .Name dn nq] k tp)) (some n) (b₀ :: suite) p :: hds) (altL X.K i (([cn, dn], ms) :: l)) := .cons (.two hg hm hd gg gm gd) (fun a oe cls d pn z q => (hsu a oe cls d pn z q).pe) r
theorem pxs_tryAlts {cs : List Str} {sub : Str → Str → Bool} {body : List Stmt} {h₀ : ExceptHandler} {hds : List ExceptHandler} {pos : Pos} {m : Ms} {l : AltM} (hE : AltE X.K cs sub l) (hs : X.stack = X.env :: X.outer) (hf : X.env.frame = some X.env.locals) (hN : X.N.Nodup) (hi : X.N[i]? = some n) (hln : X.env.kindOf n = some .local) (tk : L2N.Takes X W)
    (hb : ∀ (W : WX) (pn : List (Addr × Obj)) (xe : Value → Shared → Prop), L2N.Takes (X.tr pn xe) W → PassesOwn (model X.prog X.w) X.A X.env xe → PXB (X.tr pn xe) W body m)
    (hh : HdsA X n (h₀ :: hds) (altL X.K i l)) :
    PXS X W (.Try body (h₀ :: hds) [] [] pos) (mTryAlts cs sub i m l) := by
  have rule := ps_tryAlts (X := X) (i := i) (pos := pos) (Wout := W) (tb := fun W => rS X.K W m) hs hf hN hi hln tk (fun W pn xe t p => (hb W pn xe t p).pe) hh
  refine .of rule fun ρ hs' env σ st H D r p => ⟨ρ, hs', env, st, r, ?_⟩
  unfold mTryAlts at p
  cases e : m env st with
  | nx env1 s1 => rw [e] at p; exact p
  | rt v s1 => rw [e] at p; exact p
  | bk env1 s1 => rw [e] at p; exact p
  | ct env1 s1 => rw [e] at p; exact p
  | bad => rw [e] at p; exact p
  | exc c x env1 s1 =>
    rw [e] at p
    intro ρ1 σ1 H1 d y r1 hd dx
    dsimp only at p
    by_cases hcs : c ∈ cs ∧ i < env1.length
    · rw [if_pos hcs] at p
      clear rule hh
      revert p hE
      induction l with
      | nil => intro hE p; exact p ρ1 σ1 H1 d y r1 hd dx
      | cons q l ih =>
        obtain ⟨cns, ms⟩ := q
        intro hE p
        refine ⟨cns.any (sub c), exmAny_of hcs.1 (hE _ List.mem_cons_self), fun hb1 a ha => ?_, fun hb1 => ?_⟩
        · unfold altsM at p
          rw [if_pos hb1] at p
          have hsz : σ1.length = env1.length := r1.el.symm
          obtain ⟨l9, rl, hx9⟩ := (r1.hold dx).pushX hd
          have rs : ∀ q ∈ hs', q ∈ l9 ++ .val x y :: hs' := fun q hq => List.mem_append_right _ (List.mem_cons_of_mem _ hq)
          have r2 : Rel X.K ρ1 (l9 ++ .val x y :: hs') (env1.set i none) (σ1.set i (some (.ref a))) s1 H1 := rl.unset _
          by_cases hi1 : i < σ1.length
          · refine ⟨ρ1, _, _, s1, c, x, ⟨y, rfl, hx9.more (fun q hq => List.mem_append_left _ hq), List.mem_append_right _ List.mem_cons_self, by rw [List.getElem?_set_self hi1]⟩, r2, ?_⟩
            show PostS X.K W0 _ (unE i D) (ms c x (env1.set i none) s1)
            cases em : ms c x (env1.set i none) s1 with
            | nx env2 s2 => rw [em] at p; exact fun ρ2 σ2 H2 r3 => p ρ2 _ H2 ((r3.sub rs).unset none)
            | bk env2 s2 => rw [em] at p; exact fun ρ2 σ2 H2 r3 => p ρ2 _ H2 ((r3.sub rs).unset none)
            | ct env2 s2 => rw [em] at p; exact fun ρ2 σ2 H2 r3 => p ρ2 _ H2 ((r3.sub rs).unset none)
            | rt v s2 => rw [em] at p; exact fun ρ2 H2 v2 r3 => p ρ2 H2 v2 (r3.sub rs)
            | exc _ _ _ _ => rw [em] at p; exact p.elim
            | bad => rw [em] at p; exact p.elim
          · exact (hi1 (by rw [hsz]; exact hcs.2)).elim
        · unfold altsM at p
          rw [if_neg (by rw [hb1]; decide)] at p
          exact ih (fun q hq => hE q (List.mem_cons_of_mem _ hq)) p
    · rw [if_neg hcs] at p; exact p.elim
end
end
end PL
set_option Elab.async false
set_option linter.all false
set_option maxRecDepth 100000
set_option maxHeartbeats 1000000
set_option autoImplicit false
namespace PL
open PySem PySem.Spec PyProof.Rows L2 LW
noncomputable section
/-! ### own exceptions as values: C(e).field -/
def tExv (C : Addr) (sp : Sp) (f : Str) (ta : TA) : TE := fun σ H Q => ta σ H fun vs H1 => vs.length ≤ 1000 ∧ ∀ z, H1 z = none → sp (.ref z :: vs) (upd H1 z (exo z C none))
  (fun v H2 => v = .non ∧ ∃ (d : Addr) (fs : List (Str × V)) (y : V), H2 z = some (exo z C (some d)) ∧ H2 d = some (exd d fs) ∧ fs.lookup f = some y ∧ Q y H2) (fun _ _ _ => False)
section
variable {X : Cx} {CX : CXT} {x n : Str} {C fI : Addr} {k : Nat} {fd : FuncData} {ps : List Str} {sp : Sp} {e : Expr} {es : List Expr} {ta : TA} {p pos pos' : Pos}
/-- the field of an exception that tracked is -/
theorem exo_fld {pins : List (Addr × Obj)} {σ : L2.St} {H : Hp} {s : Shared} {z d : Addr} {fs : List (Str × V)} {y : V} {b : Bool} {Q : Value → Shared → Prop} {E : Value → Shared → Prop} (T : XfC X.K C) (hno : PySem.W.findIn X.K (.ref C) n = some none) (I : Inv X pins σ H s)
    (hz : H z = some (exo z C (some d))) (hd : H d = some (exd d fs)) (hl : fs.lookup n = some y) (h : ∀ u t, RelV y u → Inv X pins σ H { s with toks := t } → Q u { s with toks := t }) : wpAny (model X.prog X.w) X.A (getAttr (.ref z) n b) Q E s := by
  obtain ⟨t1, he⟩ := exo_at I.hok hz
  obtain ⟨mA, hns, hr⟩ := exd_at I.hok hd
  obtain ⟨od, ho, hlk⟩ := lookIn_ns hns
  obtain ⟨u, hu, ru⟩ := RelO.some_of (v := y) (o := mA n) (by rw [← hl]; exact hr n)
  have J : PySem.W.InstAt s.heap z ({ cls := .ref C, dict := some d, data := .fields #[.ref t1, .none, .none, .none, .bool false, .none] } : Obj) C (some od) := ⟨he, rfl, by unfold PySem.W.notCls; rfl, ho⟩
  exact HandSPX.exc_get I.kIn J T.ga T.gg T.exC (PySem.W.findObj_own T.hdC hno rfl (by rw [hlk, hu])) (handed_of ru) (h u _ ru (I.tok _))
theorem pe_exv (T : OexC X.K C) (TF : XfC X.K C) (hno : PySem.W.findIn X.K (.ref C) n = some none) (iC : PySem.W.findIn X.K (.ref C) "__init__" = some (some (.ref fI))) (tI : PySem.W.typeIn X.K (.ref fI) = some (.type "function")) (FI : FnOk X.prog X.w X.K X.mg X.base CX k fI fd ps sp) (rm : Room (k + 1) X.A) (bs : Binds X.K fd ps [])
    (no : Passes CX X (fun _ _ _ => False)) (gl : Gl X x) (at_ : X.mg x = some (.ref C)) (as : PA X (e :: es) ta) (nd : (x == ("__debug__" : Str)) = false := by decide)
    (s1 : starEach (e :: es) X.env = (false, eval e X.env) :: starEach es X.env := by rfl) (s2 : (backTo pos (starEach es X.env)).any (·.1) = false := by rfl)
    (hb : attributeBase (.Call (.Name x p) (e :: es) [] pos) n X.env (eval (.Call (.Name x p) (e :: es) [] pos) X.env) = eval (.Call (.Name x p) (e :: es) [] pos) X.env := by rfl) : PE X (.Attribute (.Call (.Name x p) (e :: es) [] pos) n pos') (tExv C sp n ta) := by
  refine ⟨fun pins s σ H Q I h => ?_⟩
  obtain ⟨_, _, _, _, bm, _, _, _, _, _, _, _, _, _, _, hC, hbm⟩ := T.cls
  refine attr_of hb ?_
  refine wpAny_Call_Name_kw (ld_glob I gl at_ (PySem.W.callWith_K (h₀ := X.base) I.ok.mod.kin T.kC (thn (as.run pos pins s σ H _ I h) fun us sA ⟨vs, H1, J, rv, small, q⟩ => ⟨J.kIn, ?_⟩) s1 s2) nd)
  obtain ⟨hp, gs, dr, tk, os⟩ := sA
  have up1 : hp.objs.size ≤ hp.objs.size + 1 := Nat.le_succ _
  have q := q _ (J.hok.fresh up1)
  have keep : ∀ b o, hp.get? b = some o → ((hp.push (PySem.W.kdv_tup us)).push (PySem.HandSPX.excO C hp.objs.size)).get? b = some o := fun b o y => Heap.get?_push_of_some _ (Heap.get?_push_of_some _ y)
  have there : ((hp.push (PySem.W.kdv_tup us)).push (PySem.HandSPX.excO C hp.objs.size)).get? (hp.objs.size + 1) = some (PySem.HandSPX.excO C hp.objs.size) := by heap_get
  have J2 : Inv X pins σ (upd H1 (hp.objs.size + 1) (exo (hp.objs.size + 1) C none)) ⟨(hp.push (PySem.W.kdv_tup us)).push (PySem.HandSPX.excO C hp.objs.size), gs, dr, tk, os⟩ := J.laid (t' := tk) keep up1 (exo_ok there)
  have rv2 : Vals (V.ref (hp.objs.size + 1) :: vs) (Value.ref (hp.objs.size + 1) :: us) := .cons rfl rv
  have len : (Value.ref (hp.objs.size + 1) :: us).length = ps.length := by rw [← FI.len _ _ _ _ q]; exact rv2.length.symm
  have b2 := bs _ (Value.ref (hp.objs.size + 1) :: us) J2.kIn (by rw [List.append_nil]; exact len)
  rw [List.append_nil] at b2
  have run := FI.run _ X.stack _ _ ⟨Value.ref (hp.objs.size + 1) :: us, []⟩ (Value.ref (hp.objs.size + 1) :: us) _ _ (fun _ _ _ => False) (rm.make C us []) (J2.env0.make C us []) b2 rv2 q
  refine wpAny_call (PySem.HandSPX.call_own F.excBase_ValueError (fun Y => PySem.HandSPX.refsVE_contains Y bm hbm) (J.kIn _ _ hC) (PySem.W.looks_findIn J.kIn iC) (fun me => PySem.W.bind_fn J.kIn me tI) (by show us.length ≤ sizeLine; rw [← rv.length, sizeLine_eq]; omega) (codeAny_mono run fun r sB hr => ?_))
  match r, hr with
  | .error er, hr => exact no pins σ _ _ er sB J2 hr
  | .ok (.ret u), hr =>
    obtain ⟨v, H2, I2, r2, rfl, d, fs, y, ea, ed, hl, q2⟩ := J2.after hr
    cases r2
    exact ⟨rfl, exo_fld TF hno I2 ea ed hl fun w t rw' I3 => ⟨y, H2, I3, rw', q2⟩⟩
  | .ok .next, hr => exact False.elim hr
  | .ok .brk, hr => exact False.elim hr
  | .ok .cont, hr => exact False.elim hr
end
section
variable {X : Cx} {W : WX} {K : Fg} {k j : Nat} {c : Str} {e : Expr} {p pos pos' : Pos} {m : Mx PV} {cs : List Str}
/-- C(e).field, C an own exception class: just e -/
theorem px_exv (R : ExcK X.prog X.w X.K X.mg X.base k c) (hE : ExF X.K cs) (hcs : c ∈ cs) (tk : L2N.Takes X W) (hr : Room j X.A) (hk : k + 1 ≤ j) (hg : Gl X c) (he : PX X W e m)
    (hdb : (c == ("__debug__" : Str)) = false := by decide) (hst : starEach (e :: []) X.env = (false, eval e X.env) :: starEach [] X.env := by rfl) (hpl : (backTo pos (starEach [] X.env)).any (·.1) = false := by rfl)
    (hb : attributeBase (.Call (.Name c p) [e] [] pos) (fieldOf c) X.env (eval (.Call (.Name c p) [e] [] pos) X.env) = eval (.Call (.Name c p) [e] [] pos) X.env := by rfl) :
    PX X W (.Attribute (.Call (.Name c p) [e] [] pos) (fieldOf c) pos') m := by
  obtain ⟨fI, fd, ps, T, iC, tI, F, B, hm, hno⟩ := R.ex
  refine .of (pe_exv (p := p) T (hE.xf c hcs) hno iC tI F (hr.mono hk) B (L2N.passes_call tk fun _ _ _ _ h => h.elim) hg hm (pa_cons he.pe pa_nil hst) hdb hst hpl hb) fun ρ hs env σ st H Q r p => ?_
  have p' : PostG (RV X.K) X.K W hs env σ Q ((m env st).bnd fun x s => .ok x s) := by
    cases e1 : m env st <;> (rw [e1] at p; exact p)
  refine ⟨ρ, hs, env, st, r, PostG.bnd p' fun x s1 _ p1 ρ1 H1 y r1 d1 => ?_⟩
  refine ⟨by show 1 ≤ 1000; decide, fun z hz => ⟨z, He.ga X.K c, y, rfl, T, hno, upd_same, fun dx hd ne => ⟨rfl, dx, [(fieldOf c, y)], y, upd_same, ?_, by simp [List.lookup], ?_⟩⟩⟩
  · rw [upd_ne ne]; exact upd_same
  · have hd1 : H1 dx = none := by rw [upd_ne ne] at hd; exact hd
    have e1 : upd (upd (upd H1 z (exo z (He.ga X.K c) none)) dx (exd dx [(fieldOf c, y)])) z (exo z (He.ga X.K c) (some dx)) = upd (upd H1 dx (exd dx [(fieldOf c, y)])) z (exo z (He.ga X.K c) (some dx)) := by
      funext b
      by_cases hb : b = z
      · rw [hb, upd_same, upd_same]
      · rw [upd_ne hb, upd_ne hb]
        by_cases hb2 : b = dx
        · rw [hb2, upd_same, upd_same]
        · rw [upd_ne hb2, upd_ne hb2, upd_ne hb]
    rw [e1]
    have ex1 := Evl.Ex.new (o := exd dx [(fieldOf c, y)]) hd1
    have ex2 := Evl.Ex.new (H := upd H1 dx (exd dx [(fieldOf c, y)])) (o := exo z (He.ga X.K c) (some dx)) (by rw [upd_ne (Ne.symm ne)]; exact hz)
    exact p1 ρ1 _ y ((r1.ex ex1).ex ex2) ((d1.mono (MV.ex ex1)).mono (MV.ex ex2))
end
end
end PL
set_option Elab.async false
set_option linter.all false
set_option maxRecDepth 100000
set_option maxHeartbeats 1000000
set_option autoImplicit false
namespace PL
open PySem PySem.Spec PyProof.Rows L2 LW
noncomputable section
/-! ### raise C(e), C an own error without own __init__ (no field, no dict) -/
structure Exc0K (K : Fg) (mg : Str → Option Value) (c : Str) : Prop where
  ok : (He.Fa.exc c).ok K = true
  mg : mg c = some (.ref (He.ga K c))
section
variable {X : Cx} {W : WX} {K : Fg} {c : Str} {e : Expr} {p pos pos' : Pos} {m : Mx PV} {ta : TE}
theorem pmk_ex0 {t : TA} (R : Exc0K X.K X.mg c) (hg : Gl X c) (ha : PA X [e] t) (hs : starEach [e] X.env = (false, eval e X.env) :: starEach [] X.env := by rfl) (hdb : (c == ("__debug__" : Str)) = false := by decide) :
    L2N.PMk X (.Call (.Name c p) [e] [] pos) (fun σ H Q => t σ H fun vs H1 => vs.length ≤ sizeLine ∧ Q (.ref (He.ga X.K c)) none H1) := fun pins s σ H Q I h => by
  obtain ⟨q, kC, sC, tC⟩ := He.exc_ok R.ok
  refine wpAny_Call_Name_kw (ld_glob I hg R.mg (PySem.W.callWith_K (h₀ := X.base) I.ok.mod.kin kC (thn (ha.run pos pins s σ H _ I h) fun us s1 hh => ?_) hs (by rfl)) hdb)
  obtain ⟨vs, H1, J, rv, sm, z⟩ := hh
  refine ⟨J.kIn, ?_⟩
  obtain ⟨bm, N, nm, qn, bs, hdct, sn, sub, ab, col, dd, k0, k1, k2, k3, k5, mN, hC, hN, hni, T⟩ := exc_obj J.kIn q
  exact wpAny_call_exc_subT F.excBase_ValueError T hC hN hni (fun h' a hm => L2N.mk_of J hm (raises_own sC tC) z (J.hok.gone hm.new)) (by show us.length ≤ sizeLine; rw [← rv.length]; exact sm)
theorem pxs_raise0 (R : Exc0K X.K X.mg c) (hc : X.calm = true) (tk : L2N.Takes X W) (hg : Gl X c) (he : PX X W e m) (hfl : fieldOf c = "" := by decide)
    (hdb : (c == ("__debug__" : Str)) = false := by decide) (hst : starEach [e] X.env = (false, eval e X.env) :: starEach [] X.env := by rfl) :
    PXS X W (.Raise (some (.Call (.Name c p) [e] [] pos)) none pos') (mRaise c m) := by
  refine .of (L2N.ps_raise hc tk (pmk_ex0 (p := p) R hg (pa_cons he.pe pa_nil hst) hst hdb)) fun ρ hs env σ st H D r p => ?_
  exact ⟨ρ, hs, env, st, r, PostG.stm (σ := σ) p fun x s1 _ p1 ρ1 H1 y r1 d1 => ⟨by show 1 ≤ sizeLine; decide, p1 ρ1 σ H1 none y r1 (.inl ⟨hfl, rfl⟩) d1⟩⟩
end
end
end PL
set_option Elab.async false
set_option linter.all false
set_option maxRecDepth 100000
set_option maxHeartbeats 2000000
set_option autoImplicit false
namespace PL
open PySem PySem.Spec PySem.Calls PyProof.Rows PySem.HandSPX
noncomputable section
/-! ### C(f = e) for an own error with its own __init__: by one keyword alone -/
section
variable {M : Model} {prog : Program} {w : World} {A : Around} {E : Value → Shared → Prop} {R : Result → Shared → Prop} {h : Heap} {g : Array GenState} {d : Drawn} {t : Nat} {os : OsState}
variable {nm q : Str} {C N : Addr} {bs bm bmB : List Value} {hdct : Bool} {sn : List Str} {sub : List Value} {ab : Bool} {col : Option Bool} {dd : Option Addr} {k0 k1 k2 k3 k5 : Option Value} {B newId initId : String} {kn : Str} {kv : Value}
abbrev clO (nm q : Str) (C N : Addr) (bs bm : List Value) (hdct : Bool) (sn : List Str) (sub : List Value) (ab : Bool) (col : Option Bool) (dd : Option Addr) (k0 k1 k2 k3 k5 : Option Value) (newId : String) : Obj := excClassObj nm q C N bs bm hdct sn sub ab col dd k0 k1 k2 k3 k5 newId
theorem kw_check_new (F : ExcBaseFacts B newId initId bmB) (same : ∀ X : String, bm.contains (.type X) = bmB.contains (.type X)) {Q : Unit → Shared → Prop} (hC : h.get? C = some (clO nm q C N bs bm hdct sn sub ab col dd k0 k1 k2 k3 k5 newId)) (hq : Q () ⟨h, g, d, t, os⟩) :
    wpAny M A (checkBuiltinCall newId ⟨[.ref C], [(kn, kv)]⟩) Q E ⟨h, g, d, t, os⟩ := by
  have inB : (Value.ref C :: bm).contains (.type B) = true := by rw [List.contains_cons, same, F.hasB, Bool.or_true]
  have := F.noStar
  simp only [checkBuiltinCall, F.newKind, F.newSplit, F.newRow]
  repeat (first
    | refine wpAny_loadPart_at hC ?_
    | (refine wpAny_isSubtype_exc hC ?_; rw [inB])
    | refine wpAny_staticBase_exc hC ?_
    | refine wpAny_madeBy_exc hC ?_
    | simp only [bne_self_eq_false, Bool.false_eq_true, if_false]
    | wp_step)
  exact hq
theorem kw_new (F : ExcBaseFacts B newId initId bmB) (same : ∀ X : String, bm.contains (.type X) = bmB.contains (.type X)) (hC : h.get? C = some (clO nm q C N bs bm hdct sn sub ab col dd k0 k1 k2 k3 k5 newId))
    (hq : R (.ok (.ret (.ref (h.objs.size + 1)))) ⟨(h.push (PySem.W.kdv_tup [])).push (excO C h.objs.size), g, d, t, os⟩) : codeAny (model prog w) A (.builtin newId ⟨[.ref C], [(kn, kv)]⟩) R ⟨h, g, d, t, os⟩ := by
  have inB : (Value.ref C :: bm).contains (.type B) = true := by rw [List.contains_cons, same, F.hasB, Bool.or_true]
  have outA : (Value.ref C :: bm).contains (.type "AttributeError") = false := by rw [List.contains_cons, same, F.noAttr]; rfl
  have outN : (Value.ref C :: bm).contains (.type "NameError") = false := by rw [List.contains_cons, same, F.noName]; rfl
  have := F.ends
  refine codeAny_builtinAt F.entry ?_
  unfold Builtin.«BaseException.__new__»
  refine PySem.wpAt_bind ?_
  show PySem.wpAt _ _ _ (stack >>= _) _ _ _
  refine PySem.wpAt_bind (PySem.wpAt_stack fun p below => PySem.wpAt_of_wpAny ?_)
  wp_walk
  refine PySem.wpAt_of_wpAny ?_
  rw [F.owner]
  repeat (first
    | with_reducible refine wpAny_madeHere_exc F.canon hC ?_
    | with_reducible refine wpAny_loadPart_at hC ?_
    | (with_reducible refine wpAny_isSubtype_exc hC ?_; first | rw [inB] | rw [outA] | rw [outN])
    | wp_step)
  show R _ _
  rw [Heap.size_push]
  exact hq
theorem kw_check_call {Q : Unit → Shared → Prop} (hC : h.get? C = some (clO nm q C N bs bm hdct sn sub ab col dd k0 k1 k2 k3 k5 newId)) (hq : Q () ⟨h, g, d, t, os⟩) : wpAny M A (checkBuiltinCall "type.__call__" ⟨[.ref C], [(kn, kv)]⟩) Q E ⟨h, g, d, t, os⟩ := by
  have := tc_sub
  have hT : (⟨h, g, d, t, os⟩ : Shared).TypeIs (.ref C) "type" := ⟨_, hC, rfl⟩
  simp only [checkBuiltinCall, tc_kind, tc_split]
  repeat (any_goals (first
    | assumption
    | with_reducible refine wpAny_loadPart_at hC ?_
    | with_reducible refine wpAny_onRaise ?_
    | with_reducible refine wpAny_map ?_
    | wp_step))
theorem kw_type_call (F : ExcBaseFacts B newId initId bmB) (same : ∀ X : String, bm.contains (.type X) = bmB.contains (.type X)) {fI : Addr} {Q : Fin → Shared → Prop} (hC : h.get? C = some (clO nm q C N bs bm hdct sn sub ab col dd k0 k1 k2 k3 k5 newId))
    (hi : PySem.W.Looks (model prog w) h (typeLookup (.ref C) "__init__") (some (.ref fI))) (hb : ∀ self, PySem.W.Looks (model prog w) h (bindSpecial (.ref fI) self) (.ref fI, [self]))
    (hq : codeAny (model prog w) A (.call (.ref fI) ⟨[.ref (h.objs.size + 1)], [(kn, kv)]⟩)
      (fun r s' => match r with | .ok (.ret v) => v = .none ∧ Q (.done (.ret (.ref (h.objs.size + 1)))) s' | .ok _ => False | .error e => E e s')
      ⟨(h.push (PySem.W.kdv_tup [])).push (excO C h.objs.size), g, d, t, os⟩) : wpAny (model prog w) A (Builtin.«type.__call__» ⟨[.ref C], [(kn, kv)]⟩) Q E ⟨h, g, d, t, os⟩ := by
  repeat (first
    | with_reducible refine wpAny_loadPart_at hC ?_
    | with_reducible refine wpAny_madeBy_exc hC ?_
    | wp_step)
  refine codeAny_call_builtin_code (Code.quiet_builtin _ F.quiet) (kw_check_new F same hC (kw_new F same hC ?_))
  show wpAny _ _ _ _ _ _
  have up : ∀ b o, h.get? b = some o → ((h.push (PySem.W.kdv_tup [])).push (excO C h.objs.size)).get? b = some o := fun b o e => Heap.get?_push_of_some _ (Heap.get?_push_of_some _ e)
  have made : ((h.push (PySem.W.kdv_tup [])).push (excO C h.objs.size)).get? (h.objs.size + 1) = some (excO C h.objs.size) := by heap_get
  have own : (Value.ref C :: bm).contains (.ref C) = true := by simp
  have i1 := hi.keeps up
  have b1 := (hb (.ref (h.objs.size + 1))).keeps up
  unfold isInstance
  repeat (first
    | with_reducible refine wpAny_loadPart_at made ?_
    | (with_reducible refine wpAny_isSubtype_exc (up _ _ hC) ?_; rw [own])
    | wp_step)
  show wpAny _ _ (typeLookup (.ref C) _) _ _ _
  refine i1.at ?_
  refine wpAny_holding (wpAny_bind (b1.at ?_))
  refine wpAny_bind (wpAny_call (codeAny_mono hq fun r s' z => ?_))
  rcases r with e | (v | _ | _ | _) <;> first | exact z | exact z.elim | skip
  obtain ⟨rfl, z⟩ := z
  first
    | exact wpAny_pure (wpAny_pure z)
    | (wp_walk; exact z)
theorem kw_call_own (F : ExcBaseFacts B newId initId bmB) (same : ∀ X : String, bm.contains (.type X) = bmB.contains (.type X)) {fI : Addr} (hC : h.get? C = some (clO nm q C N bs bm hdct sn sub ab col dd k0 k1 k2 k3 k5 newId))
    (hi : PySem.W.Looks (model prog w) h (typeLookup (.ref C) "__init__") (some (.ref fI))) (hb : ∀ self, PySem.W.Looks (model prog w) h (bindSpecial (.ref fI) self) (.ref fI, [self]))
    (hq : codeAny (model prog w) (A.under (.builtin "type.__call__" ⟨[.ref C], [(kn, kv)]⟩)) (.call (.ref fI) ⟨[.ref (h.objs.size + 1)], [(kn, kv)]⟩) (PySem.W.InitBack (h.objs.size + 1) R)
      ⟨(h.push (PySem.W.kdv_tup [])).push (excO C h.objs.size), g, d, t, os⟩) : codeAny (model prog w) A (.call (.ref C) ⟨[], [(kn, kv)]⟩) R ⟨h, g, d, t, os⟩ := by
  have := tc_lookup
  have := tc_bind (.ref C)
  have hTy : (⟨h, g, d, t, os⟩ : Shared).TypeIs (.ref C) "type" := ⟨_, hC, rfl⟩
  refine codeAny_of_tree ?_
  show wpAny _ _ (callAny (.ref C) _) _ _ _
  repeat (any_goals (first
    | assumption
    | with_reducible refine wpAny_loadPart_at hC ?_
    | wp_step))
  refine ⟨rfl, ?_⟩
  refine codeAny_call_builtin_at (Code.quiet_builtin _ (by decide +kernel)) entry_typeCall (kw_check_call hC (kw_type_call F same hC hi hb ?_))
  refine codeAny_mono hq fun r s' z => ?_
  rcases r with e | (v | _ | _ | _) <;> exact z
end
end
end PL
set_option Elab.async false
set_option linter.all false
set_option maxRecDepth 100000
set_option maxHeartbeats 2000000
set_option autoImplicit false
namespace PL
open PySem PySem.Spec PyProof.Rows L2 LW
noncomputable section
structure ExcKK (P : Program) (w : World) (K : Fg) (mg : Str → Option Value) (base : Heap) (k : Nat) (c : Str) : Prop where
  ex : ∃ fI fd ps, OexC K (He.ga K c) ∧ PySem.W.findIn K (.ref (He.ga K c)) "__init__" = some (some (.ref fI)) ∧ PySem.W.typeIn K (.ref fI) = some (.type "function") ∧
    FnOk P w K mg base (L2N.CX P w) k fI fd ps (spE K (fieldOf c)) ∧ (∀ s z u, BindsTo s fd ⟨[z], [(fieldOf c, u)]⟩ (ps.zip [z, u])) ∧ mg c = some (.ref (He.ga K c)) ∧ PySem.W.findIn K (.ref (He.ga K c)) (fieldOf c) = some none
def mOnly (m : Mx (List PV)) : Mx PV := fun env st => (m env st).bnd fun zs s1 => match zs with
  | [x] => .ok x s1
  | _ => .bad
section
variable {X : Cx} {W : WX} {k j : Nat} {c : Str} {kws : List Keyword} {p pos pos' : Pos} {mk : Mx (List PV)} {cs : List Str}
theorem px_exvK (R : ExcKK X.prog X.w X.K X.mg X.base k c) (hE : ExF X.K cs) (hcs : c ∈ cs) (tk : L2N.Takes X W) (hr : Room j X.A) (hk : k + 1 ≤ j) (hg : Gl X c) (hkw : PXk X W kws mk)
    (hall : (backToKw pos (keywordEach kws X.env)).all (·.1.isSome) = true := by rfl) (hks : (backToKw pos (keywordEach kws X.env)).filterMap (·.1) = [fieldOf c] := by rfl)
    (hdb : (c == ("__debug__" : Str)) = false := by decide) (hpl : ((backTo pos (starEach [] X.env)).any (·.1) || (backToKw pos (keywordEach kws X.env)).any (·.1.isNone)) = false := by rfl)
    (hb : attributeBase (.Call (.Name c p) [] kws pos) (fieldOf c) X.env (eval (.Call (.Name c p) [] kws pos) X.env) = eval (.Call (.Name c p) [] kws pos) X.env := by rfl) :
    PX X W (.Attribute (.Call (.Name c p) [] kws pos) (fieldOf c) pos') (mOnly mk) := by
  obtain ⟨fI, fd, ps, T, iC, tI, FI, B, hm, hno⟩ := R.ex
  have no : Passes (L2N.CX X.prog X.w) X (fun _ _ _ => False) := L2N.passes_call tk fun _ _ _ _ h => h.elim
  refine .of (te := fun σ H Q => rG (RVs X.K) X.K W mk σ H fun zs H1 => ∃ y, zs = [y] ∧ ∀ z, H1 z = none → spE X.K (fieldOf c) [.ref z, y] (upd H1 z (exo z (He.ga X.K c) none))
      (fun v H2 => v = .non ∧ ∃ (d : Addr) (fs : List (Str × V)) (y : V), H2 z = some (exo z (He.ga X.K c) (some d)) ∧ H2 d = some (exd d fs) ∧ fs.lookup (fieldOf c) = some y ∧ Q y H2) (fun _ _ _ => False)) ⟨fun pins s σ H Q I h => ?_⟩ fun ρ hs env σ st H Q r p => ?_
  · obtain ⟨_, _, _, _, bm, _, _, _, _, _, _, _, _, _, _, hC, hbm⟩ := T.cls
    refine attr_of hb (wpAny_Call_Name_kw (ld_glob I hg hm ?_ hdb))
    refine PySem.W.callWith_KW0 (h₀ := X.base) I.ok.mod.kin T.kC hall ?_ hpl
    refine thn (hkw.pe.run pos pins s σ H _ I h) fun ws sA ⟨zs, H1, J, rz, y, ez, q⟩ => ⟨J.kIn, ?_⟩
    subst ez
    rw [hks]
    obtain ⟨u, ews, ru⟩ : ∃ u, ws = [u] ∧ RelV y u := by
      cases rz with
      | cons ru rn =>
        cases rn
        exact ⟨_, rfl, ru⟩
    subst ews
    obtain ⟨hp, gs, dr, tk0, os⟩ := sA
    have up1 : hp.objs.size ≤ hp.objs.size + 1 := Nat.le_succ _
    have q := q _ (J.hok.fresh up1)
    have keep : ∀ b o, hp.get? b = some o → ((hp.push (PySem.W.kdv_tup [])).push (PySem.HandSPX.excO (He.ga X.K c) hp.objs.size)).get? b = some o := fun b o y => Heap.get?_push_of_some _ (Heap.get?_push_of_some _ y)
    have there : ((hp.push (PySem.W.kdv_tup [])).push (PySem.HandSPX.excO (He.ga X.K c) hp.objs.size)).get? (hp.objs.size + 1) = some (PySem.HandSPX.excO (He.ga X.K c) hp.objs.size) := by heap_get
    have J2 : Inv X pins σ (upd H1 (hp.objs.size + 1) (exo (hp.objs.size + 1) (He.ga X.K c) none)) ⟨(hp.push (PySem.W.kdv_tup [])).push (PySem.HandSPX.excO (He.ga X.K c) hp.objs.size), gs, dr, tk0, os⟩ := J.laid (t' := tk0) keep up1 (exo_ok there)
    have rv2 : Vals [V.ref (hp.objs.size + 1), y] [Value.ref (hp.objs.size + 1), u] := .cons rfl (.cons ru .nil)
    have run := FI.run _ X.stack _ _ ⟨[Value.ref (hp.objs.size + 1)], [(fieldOf c, u)]⟩ [Value.ref (hp.objs.size + 1), u] _ _ (fun _ _ _ => False) ((hr.mono hk).make (He.ga X.K c) [] [(fieldOf c, u)]) (J2.env0.make (He.ga X.K c) [] [(fieldOf c, u)]) (B _ _ _) rv2 q
    refine wpAny_call (kw_call_own F.excBase_ValueError (fun Y => PySem.HandSPX.refsVE_contains Y bm hbm) (J.kIn _ _ hC) (PySem.W.looks_findIn J.kIn iC) (fun me => PySem.W.bind_fn J.kIn me tI) (codeAny_mono run fun r sB hr => ?_))
    match r, hr with
    | .error er, hr => exact no pins σ _ _ er sB J2 hr
    | .ok (.ret u2), hr =>
      obtain ⟨v, H2, I2, r2, ev, d, fs, y2, ea, ed, hl, q2⟩ := J2.after hr
      rw [ev] at r2
      cases (show u2 = Value.none from r2)
      exact ⟨rfl, exo_fld (hE.xf c hcs) hno I2 ea ed hl fun w t rw' I3 => ⟨y2, H2, I3, rw', q2⟩⟩
    | .ok .next, hr => exact False.elim hr
    | .ok .brk, hr => exact False.elim hr
    | .ok .cont, hr => exact False.elim hr
  · unfold mOnly at p
    refine ⟨ρ, hs, env, st, r, PostG.bnd p fun zs s1 _ p1 ρ1 H1 ys r1 d1 => ?_⟩
    obtain ⟨x, rfl⟩ : ∃ x, zs = [x] := by
      cases zs with
      | nil => exact p1.elim
      | cons x t => cases t with
        | nil => exact ⟨x, rfl⟩
        | cons _ _ => exact p1.elim
    obtain ⟨y, ys', e0, d1, d2⟩ := d1
    obtain rfl : ys' = [] := d2
    subst e0
    refine ⟨y, rfl, fun z hz => ⟨z, He.ga X.K c, y, rfl, T, hno, upd_same, fun dx hd ne => ⟨rfl, dx, [(fieldOf c, y)], y, upd_same, ?_, by simp [List.lookup], ?_⟩⟩⟩
    · rw [upd_ne ne]; exact upd_same
    · have hd1 : H1 dx = none := by rw [upd_ne ne] at hd; exact hd
      have e1 : upd (upd (upd H1 z (exo z (He.ga X.K c) none)) dx (exd dx [(fieldOf c, y)])) z (exo z (He.ga X.K c) (some dx)) = upd (upd H1 dx (exd dx [(fieldOf c, y)])) z (exo z (He.ga X.K c) (some dx)) := by
        funext b
        by_cases hb : b = z
        · rw [hb, upd_same, upd_same]
        · rw [upd_ne hb, upd_ne hb]
          by_cases hb2 : b = dx
          · rw [hb2, upd_same, upd_same]
          · rw [upd_ne hb2, upd_ne hb2, upd_ne hb]
      rw [e1]
      have ex1 := Evl.Ex.new (o := exd dx [(fieldOf c, y)]) hd1
      have ex2 := Evl.Ex.new (H := upd H1 dx (exd dx [(fieldOf c, y)])) (o := exo z (He.ga X.K c) (some dx)) (by rw [upd_ne (Ne.symm ne)]; exact hz)
      exact p1 ρ1 _ y ((r1.ex ex1).ex ex2) ((d1.mono (MV.ex ex1)).mono (MV.ex ex2))
theorem px_exv1 {fl : Str} {e : Expr} {m : Mx PV} (R : ExcK X.prog X.w X.K X.mg X.base k c) (hE : ExF X.K cs) (hcs : c ∈ cs) (tk : L2N.Takes X W) (hr : Room j X.A) (hk : k + 1 ≤ j) (hg : Gl X c) (he : PX X W e m) (hfl : fieldOf c = fl := by first | rfl | decide)
    (hdb : (c == ("__debug__" : Str)) = false := by decide) (hst : starEach (e :: []) X.env = (false, eval e X.env) :: starEach [] X.env := by rfl) (hpl : (backTo pos (starEach [] X.env)).any (·.1) = false := by rfl)
    (hb : attributeBase (.Call (.Name c p) [e] [] pos) fl X.env (eval (.Call (.Name c p) [e] [] pos) X.env) = eval (.Call (.Name c p) [e] [] pos) X.env := by rfl) :
    PX X W (.Attribute (.Call (.Name c p) [e] [] pos) fl pos') m := by
  subst hfl
  exact px_exv R hE hcs tk hr hk hg he hdb hst hpl hb
theorem px_exvK1 {fl : Str} (R : ExcKK X.prog X.w X.K X.mg X.base k c) (hE : ExF X.K cs) (hcs : c ∈ cs) (tk : L2N.Takes X W) (hr : Room j X.A) (hk : k + 1 ≤ j) (hg : Gl X c) (hkw : PXk X W kws mk) (hfl : fieldOf c = fl := by first | rfl | decide)
    (hall : (backToKw pos (keywordEach kws X.env)).all (·.1.isSome) = true := by rfl) (hks : (backToKw pos (keywordEach kws X.env)).filterMap (·.1) = [fl] := by rfl)
    (hdb : (c == ("__debug__" : Str)) = false := by decide) (hpl : ((backTo pos (starEach [] X.env)).any (·.1) || (backToKw pos (keywordEach kws X.env)).any (·.1.isNone)) = false := by rfl)
    (hb : attributeBase (.Call (.Name c p) [] kws pos) fl X.env (eval (.Call (.Name c p) [] kws pos) X.env) = eval (.Call (.Name c p) [] kws pos) X.env := by rfl) :
    PX X W (.Attribute (.Call (.Name c p) [] kws pos) fl pos') (mOnly mk) := by
  subst hfl
  exact px_exvK R hE hcs tk hr hk hg hkw hall hks hdb hpl hb
end
theorem FunD.bindsFK {K : Fg} {x qual : Str} {params : Arguments} {body : List Stmt} {scope : Scope} {kws : List (Str × V)} {f : Addr} {fd : FuncData} {ps : List Str} {c fl : Str} (F : FunD K x qual params body scope [] kws f fd) (hfl : fieldOf c = fl)
    (h : ∀ (kV doc pm : Value) (an : Option Addr) (cdv ct z u : Value), bindArgs (PySem.W.fnOf x qual params body scope .none kV doc pm an cdv ct) ⟨[z], [(fl, u)]⟩ = pure (ps.zip [z, u])) : ∀ s z u, BindsTo s fd ⟨[z], [(fieldOf c, u)]⟩ (ps.zip [z, u]) := fun s z u => by
  subst hfl
  obtain ⟨oc, od, dV, kV, doc, pm, an, cdv, ct, osl, rfl, lk, hcd, hD, hK⟩ := F.ex
  rcases hD with ⟨_, rfl⟩ | ⟨e, _⟩
  · exact .of_eq (h kV doc pm an cdv ct z u)
  · exact absurd rfl e
end
end PL
set_option Elab.async false
set_option linter.all false
set_option maxRecDepth 100000
set_option maxHeartbeats 1000000
set_option autoImplicit false
namespace PL
open PySem PySem.Spec PyProof.Rows L2 LW
noncomputable section
/-! ### evaluation by simp: named continuations -/
def Fl.fin : Fl → Res PV
  | .nx _ s1 => .ok .non s1
  | .rt v s1 => .ok v s1
  | .exc c x _ s1 => .exc c x s1
  | _ => .bad
@[simp] theorem fin_nx {env : Env} {st : Store} : (Fl.nx env st).fin = .ok .non st := rfl
@[simp] theorem fin_rt {v : PV} {st : Store} : (Fl.rt v st).fin = .ok v st := rfl
@[simp] theorem fin_exc {c : Str} {x : PV} {env : Env} {st : Store} : (Fl.exc c x env st).fin = .exc c x st := rfl
@[simp] theorem runF_ap {np n : Nat} {m : Ms} {xs : List PV} {st : Store} : runF np n m xs st = if xs.length = np then (m (xs.map some ++ List.replicate (n - xs.length) none) st).fin else .bad := by
  unfold runF Fl.fin
  by_cases h : xs.length = np
  · simp only [if_pos h]; all_goals (cases m (xs.map some ++ List.replicate (n - xs.length) none) st <;> rfl)
  · simp only [if_neg h]
@[simp] theorem mSeq_ap {s s' : Ms} {env : Env} {st : Store} : mSeq s s' env st = (s env st).then s' := rfl
@[simp] theorem mRetN_ap {env : Env} {st : Store} : mRetN env st = .rt .non st := rfl
@[simp] theorem mNext_ap {env : Env} {st : Store} : mNext env st = .nx env st := rfl
@[simp] theorem mC_ap {v : PV} {env : Env} {st : Store} : mC v env st = .ok v st := rfl
@[simp] theorem mNil_ap {env : Env} {st : Store} : mNil env st = .ok [] st := rfl
@[simp] theorem alloc_ap {o : PO} {st : Store} : alloc o st = .ok (.ref st.length) (st ++ [o]) := rfl
@[simp] theorem mNoPart_ap {env : Env} {st : Store} : mNoPart env st = .ok none st := rfl
@[simp] theorem mYes_ap {env : Env} {st : Store} : mYes env st = .ok true st := rfl
@[simp] theorem gN_ap {i : Nat} {x : PV} {env : Env} {st : Store} : gN i x env st = .ok (env.set i (some x)) st := rfl
@[simp] theorem gNi_ap {env : Env} {st : Store} : gNi [] env st = .ok env st := rfl
@[simp] theorem one_ap {φ : PV → Store → Res PV} {x : PV} {st : Store} : one φ [x] st = φ x st := rfl
@[simp] theorem two_ap {φ : PV → PV → Store → Res PV} {x y : PV} {st : Store} : two φ [x, y] st = φ x y st := rfl
def dropK (env : Env) : Res PV → Fl
  | .ok x s => .nx env s
  | .exc c y s => .exc c y env s
  | .bad => .bad
@[simp] theorem dropK_ok {env : Env} {x : PV} {s : Store} : dropK env (.ok x s) = .nx env s := id rfl
@[simp] theorem dropK_exc {env : Env} {c : Str} {y : PV} {s : Store} : dropK env (.exc c y s) = .exc c y env s := id rfl
@[simp] theorem mDrop_ap {a : Mx PV} {env : Env} {st : Store} : mDrop a env st = dropK env (a env st) := by
  simp only [mDrop]
  cases a env st <;> rfl
def retK (env : Env) : Res PV → Fl
  | .ok x s => .rt x s
  | .exc c y s => .exc c y env s
  | .bad => .bad
@[simp] theorem retK_ok {env : Env} {x : PV} {s : Store} : retK env (.ok x s) = .rt x s := id rfl
@[simp] theorem retK_exc {env : Env} {c : Str} {y : PV} {s : Store} : retK env (.exc c y s) = .exc c y env s := id rfl
@[simp] theorem mRet_ap {a : Mx PV} {env : Env} {st : Store} : mRet a env st = retK env (a env st) := by
  simp only [mRet]
  cases a env st <;> rfl
def ifK (p : Ms) (q : Ms) (env : Env) : Res Bool → Fl
  | .ok x s => if x = true then p env s else q env s
  | .exc c y s => .exc c y env s
  | .bad => .bad
@[simp] theorem ifK_ok {p : Ms} {q : Ms} {env : Env} {x : Bool} {s : Store} : ifK p q env (.ok x s) = if x = true then p env s else q env s := id rfl
@[simp] theorem ifK_exc {p : Ms} {q : Ms} {env : Env} {c : Str} {y : PV} {s : Store} : ifK p q env (.exc c y s) = .exc c y env s := id rfl
@[simp] theorem mIfS_ap {t : Mx Bool} {p : Ms} {q : Ms} {env : Env} {st : Store} : mIfS t p q env st = ifK p q env (t env st) := by
  simp only [mIfS]
  cases t env st <;> rfl
def setK (i : Nat) (env : Env) : Res PV → Fl
  | .ok x s => .nx (env.set i (some x)) s
  | .exc c y s => .exc c y env s
  | .bad => .bad
@[simp] theorem setK_ok {i : Nat} {env : Env} {x : PV} {s : Store} : setK i env (.ok x s) = .nx (env.set i (some x)) s := id rfl
@[simp] theorem setK_exc {i : Nat} {env : Env} {c : Str} {y : PV} {s : Store} : setK i env (.exc c y s) = .exc c y env s := id rfl
@[simp] theorem mSet_ap {i : Nat} {a : Mx PV} {env : Env} {st : Store} : mSet i a env st = setK i env (a env st) := by
  simp only [mSet]
  cases a env st <;> rfl
def asgK2 : Res Env → Fl
  | .ok env s => .nx env s
  | _ => .bad
@[simp] theorem asgK2_ok {env : Env} {s : Store} : asgK2 (.ok env s) = .nx env s := rfl
def asgK (g : Mg) (env : Env) : Res PV → Fl
  | .ok x s => asgK2 (g x env s)
  | .exc c y s => .exc c y env s
  | .bad => .bad
@[simp] theorem asgK_ok {g : Mg} {env : Env} {x : PV} {s : Store} : asgK g env (.ok x s) = asgK2 (g x env s) := id rfl
@[simp] theorem asgK_exc {g : Mg} {env : Env} {c : Str} {y : PV} {s : Store} : asgK g env (.exc c y s) = .exc c y env s := id rfl
@[simp] theorem mAsg_ap {a : Mx PV} {g : Mg} {env : Env} {st : Store} : mAsg a g env st = asgK g env (a env st) := by
  simp only [mAsg]
  cases a env st with
  | ok x s => simp only [stm_ok, asgK]; cases g x env s <;> rfl
  | _ => rfl
def forK (g : Mg) (p : Ms) (env : Env) : Res Wk → Fl
  | .ok x s => mLoop x.2 g p x.1 env s
  | .exc c y s => .exc c y env s
  | .bad => .bad
@[simp] theorem forK_ok {g : Mg} {p : Ms} {env : Env} {x : Wk} {s : Store} : forK g p env (.ok x s) = mLoop x.2 g p x.1 env s := id rfl
@[simp] theorem forK_exc {g : Mg} {p : Ms} {env : Env} {c : Str} {y : PV} {s : Store} : forK g p env (.exc c y s) = .exc c y env s := id rfl
@[simp] theorem mFor_ap {mi : Mi} {g : Mg} {p : Ms} {env : Env} {st : Store} : mFor mi g p env st = forK g p env (mi env st) := by
  simp only [mFor]
  cases mi env st <;> rfl
def raiseK (d : Str) (env : Env) : Res PV → Fl
  | .ok x s => .exc d x env s
  | .exc c y s => .exc c y env s
  | .bad => .bad
@[simp] theorem raiseK_ok {d : Str} {env : Env} {x : PV} {s : Store} : raiseK d env (.ok x s) = .exc d x env s := id rfl
@[simp] theorem raiseK_exc {d : Str} {env : Env} {c : Str} {y : PV} {s : Store} : raiseK d env (.exc c y s) = .exc c y env s := id rfl
@[simp] theorem mRaise_ap {d : Str} {a : Mx PV} {env : Env} {st : Store} : mRaise d a env st = raiseK d env (a env st) := by
  simp only [mRaise]
  cases a env st <;> rfl
def unK (φ : PV → Store → Res PV) : Res PV → Res PV
  | .ok x s => φ x s
  | .exc c y s => .exc c y s
  | .bad => .bad
@[simp] theorem unK_ok {φ : PV → Store → Res PV} {x : PV} {s : Store} : unK φ (.ok x s) = φ x s := id rfl
@[simp] theorem unK_exc {φ : PV → Store → Res PV} {c : Str} {y : PV} {s : Store} : unK φ (.exc c y s) = .exc c y s := id rfl
@[simp] theorem mUn_ap {φ : PV → Store → Res PV} {a : Mx PV} {env : Env} {st : Store} : mUn φ a env st = unK φ (a env st) := by
  simp only [mUn]
  cases a env st <;> rfl
def opK2 (φ : PV → PV → Store → Res PV) (z : PV) : Res PV → Res PV
  | .ok x s => φ z x s
  | .exc c y s => .exc c y s
  | .bad => .bad
@[simp] theorem opK2_ok {φ : PV → PV → Store → Res PV} {z : PV} {x : PV} {s : Store} : opK2 φ z (.ok x s) = φ z x s := id rfl
@[simp] theorem opK2_exc {φ : PV → PV → Store → Res PV} {z : PV} {c : Str} {y : PV} {s : Store} : opK2 φ z (.exc c y s) = .exc c y s := id rfl
def opK (φ : PV → PV → Store → Res PV) (b : Mx PV) (env : Env) : Res PV → Res PV
  | .ok x s => opK2 φ x (b env s)
  | .exc c y s => .exc c y s
  | .bad => .bad
@[simp] theorem opK_ok {φ : PV → PV → Store → Res PV} {b : Mx PV} {env : Env} {x : PV} {s : Store} : opK φ b env (.ok x s) = opK2 φ x (b env s) := id rfl
@[simp] theorem opK_exc {φ : PV → PV → Store → Res PV} {b : Mx PV} {env : Env} {c : Str} {y : PV} {s : Store} : opK φ b env (.exc c y s) = .exc c y s := id rfl
@[simp] theorem mOp_ap {φ : PV → PV → Store → Res PV} {a : Mx PV} {b : Mx PV} {env : Env} {st : Store} : mOp φ a b env st = opK φ b env (a env st) := by
  simp only [mOp]
  cases a env st with
  | ok x s => simp only [bnd_ok, opK]; cases b env s <;> rfl
  | _ => rfl
def consK2 (z : PV) : Res (List PV) → Res (List PV)
  | .ok x s => .ok (z :: x) s
  | .exc c y s => .exc c y s
  | .bad => .bad
@[simp] theorem consK2_ok {z : PV} {x : (List PV)} {s : Store} : consK2 z (.ok x s) = .ok (z :: x) s := id rfl
@[simp] theorem consK2_exc {z : PV} {c : Str} {y : PV} {s : Store} : consK2 z (.exc c y s) = .exc c y s := id rfl
def consK (as : Mx (List PV)) (env : Env) : Res PV → Res (List PV)
  | .ok x s => consK2 x (as env s)
  | .exc c y s => .exc c y s
  | .bad => .bad
@[simp] theorem consK_ok {as : Mx (List PV)} {env : Env} {x : PV} {s : Store} : consK as env (.ok x s) = consK2 x (as env s) := id rfl
@[simp] theorem consK_exc {as : Mx (List PV)} {env : Env} {c : Str} {y : PV} {s : Store} : consK as env (.exc c y s) = .exc c y s := id rfl
@[simp] theorem mCons_ap {a : Mx PV} {as : Mx (List PV)} {env : Env} {st : Store} : mCons a as env st = consK as env (a env st) := by
  simp only [mCons]
  cases a env st with
  | ok x s => simp only [bnd_ok, consK]; cases as env s <;> rfl
  | _ => rfl
def cbK (φ : List PV → Store → Res PV) : Res (List PV) → Res PV
  | .ok x s => φ x s
  | .exc c y s => .exc c y s
  | .bad => .bad
@[simp] theorem cbK_ok {φ : List PV → Store → Res PV} {x : (List PV)} {s : Store} : cbK φ (.ok x s) = φ x s := id rfl
@[simp] theorem cbK_exc {φ : List PV → Store → Res PV} {c : Str} {y : PV} {s : Store} : cbK φ (.exc c y s) = .exc c y s := id rfl
@[simp] theorem mCB_ap {φ : List PV → Store → Res PV} {as : Mx (List PV)} {env : Env} {st : Store} : mCB φ as env st = cbK φ (as env st) := by
  simp only [mCB]
  cases as env st <;> rfl
def isB : PV → Store → Res Bool
  | .bl b, s => .ok b s
  | _, _ => .bad
@[simp] theorem isB_bl {b : Bool} {s : Store} : isB (.bl b) s = .ok b s := rfl
def bK  : Res PV → Res Bool
  | .ok x s => isB x s
  | .exc c y s => .exc c y s
  | .bad => .bad
@[simp] theorem bK_ok  {x : PV} {s : Store} : bK  (.ok x s) = isB x s := id rfl
@[simp] theorem bK_exc  {c : Str} {y : PV} {s : Store} : bK  (.exc c y s) = .exc c y s := id rfl
@[simp] theorem mB_ap {a : Mx PV} {env : Env} {st : Store} : mB a env st = bK (a env st) := by
  simp only [mB]
  cases a env st with
  | ok x s => cases x <;> rfl
  | _ => rfl
def opt {α : Type} (o : Option α) (s : Store) : Res α := match o with
  | some x => .ok x s
  | none => .bad
@[simp] theorem opt_some {α : Type} {x : α} {s : Store} : opt (some x) s = .ok x s := rfl
@[simp] theorem opt_none {α : Type} {s : Store} : opt (none : Option α) s = .bad := rfl
def truK  : Res PV → Res Bool
  | .ok x s => opt (pTru s x) s
  | .exc c y s => .exc c y s
  | .bad => .bad
@[simp] theorem truK_ok  {x : PV} {s : Store} : truK  (.ok x s) = opt (pTru s x) s := id rfl
@[simp] theorem truK_exc  {c : Str} {y : PV} {s : Store} : truK  (.exc c y s) = .exc c y s := id rfl
@[simp] theorem mTru_ap {a : Mx PV} {env : Env} {st : Store} : mTru a env st = truK (a env st) := by
  simp only [mTru]
  cases a env st with
  | ok x s => simp only [bnd_ok, truK, opt]; cases pTru s x <;> rfl
  | _ => rfl
def andK (u : Mx Bool) (env : Env) : Res Bool → Res Bool
  | .ok x s => if x = true then u env s else .ok false s
  | .exc c y s => .exc c y s
  | .bad => .bad
@[simp] theorem andK_ok {u : Mx Bool} {env : Env} {x : Bool} {s : Store} : andK u env (.ok x s) = if x = true then u env s else .ok false s := id rfl
@[simp] theorem andK_exc {u : Mx Bool} {env : Env} {c : Str} {y : PV} {s : Store} : andK u env (.exc c y s) = .exc c y s := id rfl
@[simp] theorem mAnd_ap {t : Mx Bool} {u : Mx Bool} {env : Env} {st : Store} : mAnd t u env st = andK u env (t env st) := by
  simp only [mAnd]
  cases t env st <;> rfl
def orK (u : Mx Bool) (env : Env) : Res Bool → Res Bool
  | .ok x s => if x = true then .ok true s else u env s
  | .exc c y s => .exc c y s
  | .bad => .bad
@[simp] theorem orK_ok {u : Mx Bool} {env : Env} {x : Bool} {s : Store} : orK u env (.ok x s) = if x = true then .ok true s else u env s := id rfl
@[simp] theorem orK_exc {u : Mx Bool} {env : Env} {c : Str} {y : PV} {s : Store} : orK u env (.exc c y s) = .exc c y s := id rfl
@[simp] theorem mOr_ap {t : Mx Bool} {u : Mx Bool} {env : Env} {st : Store} : mOr t u env st = orK u env (t env st) := by
  simp only [mOr]
  cases t env st <;> rfl
def notK  : Res Bool → Res Bool
  | .ok x s => .ok (!x) s
  | .exc c y s => .exc c y s
  | .bad => .bad
@[simp] theorem notK_ok  {x : Bool} {s : Store} : notK  (.ok x s) = .ok (!x) s := id rfl
@[simp] theorem notK_exc  {c : Str} {y : PV} {s : Store} : notK  (.exc c y s) = .exc c y s := id rfl
@[simp] theorem mNot_ap {t : Mx Bool} {env : Env} {st : Store} : mNot t env st = notK (t env st) := by
  simp only [mNot]
  cases t env st <;> rfl
def andV (b : Mx PV) (env : Env) : PV → Store → Res PV
  | .bl v, s => if v = true then b env s else .ok (.bl false) s
  | _, _ => .bad
@[simp] theorem andV_bl {b : Mx PV} {env : Env} {v : Bool} {s : Store} : andV b env (.bl v) s = if v = true then b env s else .ok (.bl false) s := rfl
def andVK (b : Mx PV) (env : Env) : Res PV → Res PV
  | .ok x s => andV b env x s
  | .exc c y s => .exc c y s
  | .bad => .bad
@[simp] theorem andVK_ok {b : Mx PV} {env : Env} {x : PV} {s : Store} : andVK b env (.ok x s) = andV b env x s := id rfl
@[simp] theorem andVK_exc {b : Mx PV} {env : Env} {c : Str} {y : PV} {s : Store} : andVK b env (.exc c y s) = .exc c y s := id rfl
@[simp] theorem mAndV_ap {a b : Mx PV} {env : Env} {st : Store} : mAndV a b env st = andVK b env (a env st) := by
  simp only [mAndV]
  cases a env st with
  | ok x s => cases x with
    | bl v => cases v <;> rfl
    | _ => rfl
  | _ => rfl
def orV (b : Mx PV) (env : Env) : PV → Store → Res PV
  | .bl v, s => if v = true then .ok (.bl true) s else b env s
  | _, _ => .bad
@[simp] theorem orV_bl {b : Mx PV} {env : Env} {v : Bool} {s : Store} : orV b env (.bl v) s = if v = true then .ok (.bl true) s else b env s := rfl
def orVK (b : Mx PV) (env : Env) : Res PV → Res PV
  | .ok x s => orV b env x s
  | .exc c y s => .exc c y s
  | .bad => .bad
@[simp] theorem orVK_ok {b : Mx PV} {env : Env} {x : PV} {s : Store} : orVK b env (.ok x s) = orV b env x s := id rfl
@[simp] theorem orVK_exc {b : Mx PV} {env : Env} {c : Str} {y : PV} {s : Store} : orVK b env (.exc c y s) = .exc c y s := id rfl
@[simp] theorem mOrV_ap {a b : Mx PV} {env : Env} {st : Store} : mOrV a b env st = orVK b env (a env st) := by
  simp only [mOrV]
  cases a env st with
  | ok x s => cases x with
    | bl v => cases v <;> rfl
    | _ => rfl
  | _ => rfl
def notV : PV → Store → Res PV
  | .bl b, s => .ok (.bl (!b)) s
  | _, _ => .bad
@[simp] theorem notV_bl {b : Bool} {s : Store} : notV (.bl b) s = .ok (.bl (!b)) s := rfl
def notVK  : Res PV → Res PV
  | .ok x s => notV x s
  | .exc c y s => .exc c y s
  | .bad => .bad
@[simp] theorem notVK_ok  {x : PV} {s : Store} : notVK  (.ok x s) = notV x s := id rfl
@[simp] theorem notVK_exc  {c : Str} {y : PV} {s : Store} : notVK  (.exc c y s) = .exc c y s := id rfl
@[simp] theorem mNotV_ap {a : Mx PV} {env : Env} {st : Store} : mNotV a env st = notVK (a env st) := by
  simp only [mNotV]
  cases a env st with
  | ok x s => cases x <;> rfl
  | _ => rfl
def ifVK (a : Mx PV) (b : Mx PV) (env : Env) : Res Bool → Res PV
  | .ok x s => if x = true then a env s else b env s
  | .exc c y s => .exc c y s
  | .bad => .bad
@[simp] theorem ifVK_ok {a : Mx PV} {b : Mx PV} {env : Env} {x : Bool} {s : Store} : ifVK a b env (.ok x s) = if x = true then a env s else b env s := id rfl
@[simp] theorem ifVK_exc {a : Mx PV} {b : Mx PV} {env : Env} {c : Str} {y : PV} {s : Store} : ifVK a b env (.exc c y s) = .exc c y s := id rfl
@[simp] theorem mIf_ap {t : Mx Bool} {a : Mx PV} {b : Mx PV} {env : Env} {st : Store} : mIf t a b env st = ifVK a b env (t env st) := by
  simp only [mIf]
  cases t env st <;> rfl
def tupK  : Res (List PV) → Res PV
  | .ok x s => if x.length ≤ sizeLine then .ok (.tup x) s else .bad
  | .exc c y s => .exc c y s
  | .bad => .bad
@[simp] theorem tupK_ok  {x : (List PV)} {s : Store} : tupK  (.ok x s) = if x.length ≤ sizeLine then .ok (.tup x) s else .bad := id rfl
@[simp] theorem tupK_exc  {c : Str} {y : PV} {s : Store} : tupK  (.exc c y s) = .exc c y s := id rfl
@[simp] theorem mTup_ap {as : Mx (List PV)} {env : Env} {st : Store} : mTup as env st = tupK (as env st) := by
  simp only [mTup]
  cases as env st <;> rfl
def lstK  : Res (List PV) → Res PV
  | .ok x s => if x.length ≤ sizeLine then alloc (.lst x) s else .bad
  | .exc c y s => .exc c y s
  | .bad => .bad
@[simp] theorem lstK_ok  {x : (List PV)} {s : Store} : lstK  (.ok x s) = if x.length ≤ sizeLine then alloc (.lst x) s else .bad := id rfl
@[simp] theorem lstK_exc  {c : Str} {y : PV} {s : Store} : lstK  (.exc c y s) = .exc c y s := id rfl
@[simp] theorem mLst_ap {as : Mx (List PV)} {env : Env} {st : Store} : mLst as env st = lstK (as env st) := by
  simp only [mLst]
  cases as env st <;> rfl
def chK3 (ψ : PV → PV → Store → Res PV) (y : PV) (c : Mx PV) (env : Env) : PV → Store → Res PV
  | .bl v, s => if v = true then opK2 ψ y (c env s) else .ok (.bl false) s
  | _, _ => .bad
@[simp] theorem chK3_bl {ψ : PV → PV → Store → Res PV} {y : PV} {c : Mx PV} {env : Env} {v : Bool} {s : Store} : chK3 ψ y c env (.bl v) s = if v = true then opK2 ψ y (c env s) else .ok (.bl false) s := rfl
def chK2b (ψ : PV → PV → Store → Res PV) (y0 : PV) (cc : Mx PV) (env : Env) : Res PV → Res PV
  | .ok x s => chK3 ψ y0 cc env x s
  | .exc c y s => .exc c y s
  | .bad => .bad
@[simp] theorem chK2b_ok {ψ : PV → PV → Store → Res PV} {y0 : PV} {cc : Mx PV} {env : Env} {x : PV} {s : Store} : chK2b ψ y0 cc env (.ok x s) = chK3 ψ y0 cc env x s := id rfl
@[simp] theorem chK2b_exc {ψ : PV → PV → Store → Res PV} {y0 : PV} {cc : Mx PV} {env : Env} {c : Str} {y : PV} {s : Store} : chK2b ψ y0 cc env (.exc c y s) = .exc c y s := id rfl
def chK2 (φ : PV → PV → Store → Res PV) (ψ : PV → PV → Store → Res PV) (z : PV) (cc : Mx PV) (env : Env) : Res PV → Res PV
  | .ok x s => chK2b ψ x cc env (φ z x s)
  | .exc c y s => .exc c y s
  | .bad => .bad
@[simp] theorem chK2_ok {φ : PV → PV → Store → Res PV} {ψ : PV → PV → Store → Res PV} {z : PV} {cc : Mx PV} {env : Env} {x : PV} {s : Store} : chK2 φ ψ z cc env (.ok x s) = chK2b ψ x cc env (φ z x s) := id rfl
@[simp] theorem chK2_exc {φ : PV → PV → Store → Res PV} {ψ : PV → PV → Store → Res PV} {z : PV} {cc : Mx PV} {env : Env} {c : Str} {y : PV} {s : Store} : chK2 φ ψ z cc env (.exc c y s) = .exc c y s := id rfl
def chK (φ : PV → PV → Store → Res PV) (ψ : PV → PV → Store → Res PV) (b : Mx PV) (cc : Mx PV) (env : Env) : Res PV → Res PV
  | .ok x s => chK2 φ ψ x cc env (b env s)
  | .exc c y s => .exc c y s
  | .bad => .bad
@[simp] theorem chK_ok {φ : PV → PV → Store → Res PV} {ψ : PV → PV → Store → Res PV} {b : Mx PV} {cc : Mx PV} {env : Env} {x : PV} {s : Store} : chK φ ψ b cc env (.ok x s) = chK2 φ ψ x cc env (b env s) := id rfl
@[simp] theorem chK_exc {φ : PV → PV → Store → Res PV} {ψ : PV → PV → Store → Res PV} {b : Mx PV} {cc : Mx PV} {env : Env} {c : Str} {y : PV} {s : Store} : chK φ ψ b cc env (.exc c y s) = .exc c y s := id rfl
@[simp] theorem mChain_ap {φ ψ : PV → PV → Store → Res PV} {a b c : Mx PV} {env : Env} {st : Store} : mChain φ ψ a b c env st = chK φ ψ b c env (a env st) := by
  simp only [mChain]
  cases a env st with
  | ok x s =>
    simp only [bnd_ok, chK]
    cases b env s with
    | ok y s2 =>
      simp only [bnd_ok, chK2]
      cases φ x y s2 with
      | ok k s3 =>
        simp only [bnd_ok, chK2b]
        cases k with
        | bl v =>
          cases v with
          | true => simp only [chK3, if_true]; cases c env s3 <;> rfl
          | false => rfl
        | _ => rfl
      | _ => rfl
    | _ => rfl
  | _ => rfl
def callK2 (pf : PF) (gP : List PV → List PV → List PV) (n : Nat) (kn : Nat) (xs : List PV) : Res (List PV) → Res PV
  | .ok x s => if xs.length = n ∧ x.length = kn then pf (gP xs x) s else .bad
  | .exc c y s => .exc c y s
  | .bad => .bad
@[simp] theorem callK2_ok {pf : PF} {gP : List PV → List PV → List PV} {n : Nat} {kn : Nat} {xs : List PV} {x : (List PV)} {s : Store} : callK2 pf gP n kn xs (.ok x s) = if xs.length = n ∧ x.length = kn then pf (gP xs x) s else .bad := id rfl
@[simp] theorem callK2_exc {pf : PF} {gP : List PV → List PV → List PV} {n : Nat} {kn : Nat} {xs : List PV} {c : Str} {y : PV} {s : Store} : callK2 pf gP n kn xs (.exc c y s) = .exc c y s := id rfl
def callK (pf : PF) (gP : List PV → List PV → List PV) (n : Nat) (kn : Nat) (ks : Mx (List PV)) (env : Env) : Res (List PV) → Res PV
  | .ok x s => callK2 pf gP n kn x (ks env s)
  | .exc c y s => .exc c y s
  | .bad => .bad
@[simp] theorem callK_ok {pf : PF} {gP : List PV → List PV → List PV} {n : Nat} {kn : Nat} {ks : Mx (List PV)} {env : Env} {x : (List PV)} {s : Store} : callK pf gP n kn ks env (.ok x s) = callK2 pf gP n kn x (ks env s) := id rfl
@[simp] theorem callK_exc {pf : PF} {gP : List PV → List PV → List PV} {n : Nat} {kn : Nat} {ks : Mx (List PV)} {env : Env} {c : Str} {y : PV} {s : Store} : callK pf gP n kn ks env (.exc c y s) = .exc c y s := id rfl
@[simp] theorem mCall_ap {pf : PF} {gP : List PV → List PV → List PV} {n : Nat} {kn : Nat} {as : Mx (List PV)} {ks : Mx (List PV)} {env : Env} {st : Store} : mCall pf gP n kn as ks env st = callK pf gP n kn ks env (as env st) := by
  simp only [mCall]
  cases as env st with
  | ok x s => simp only [bnd_ok, callK]; cases ks env s <;> rfl
  | _ => rfl
def ckwK2 (φ : List PV → List PV → Store → Res PV) (xs : List PV) : Res (List PV) → Res PV
  | .ok x s => φ xs x s
  | .exc c y s => .exc c y s
  | .bad => .bad
@[simp] theorem ckwK2_ok {φ : List PV → List PV → Store → Res PV} {xs : List PV} {x : (List PV)} {s : Store} : ckwK2 φ xs (.ok x s) = φ xs x s := id rfl
@[simp] theorem ckwK2_exc {φ : List PV → List PV → Store → Res PV} {xs : List PV} {c : Str} {y : PV} {s : Store} : ckwK2 φ xs (.exc c y s) = .exc c y s := id rfl
def ckwK (φ : List PV → List PV → Store → Res PV) (ks : Mx (List PV)) (env : Env) : Res (List PV) → Res PV
  | .ok x s => ckwK2 φ x (ks env s)
  | .exc c y s => .exc c y s
  | .bad => .bad
@[simp] theorem ckwK_ok {φ : List PV → List PV → Store → Res PV} {ks : Mx (List PV)} {env : Env} {x : (List PV)} {s : Store} : ckwK φ ks env (.ok x s) = ckwK2 φ x (ks env s) := id rfl
@[simp] theorem ckwK_exc {φ : List PV → List PV → Store → Res PV} {ks : Mx (List PV)} {env : Env} {c : Str} {y : PV} {s : Store} : ckwK φ ks env (.exc c y s) = .exc c y s := id rfl
@[simp] theorem mCKw_ap {φ : List PV → List PV → Store → Res PV} {as : Mx (List PV)} {ks : Mx (List PV)} {env : Env} {st : Store} : mCKw φ as ks env st = ckwK φ ks env (as env st) := by
  simp only [mCKw]
  cases as env st with
  | ok x s => simp only [bnd_ok, ckwK]; cases ks env s <;> rfl
  | _ => rfl
def isStr {α : Type} (f : Str → Store → Res α) : PV → Store → Res α
  | .str z, s => f z s
  | _, _ => .bad
@[simp] theorem isStr_str {α : Type} {f : Str → Store → Res α} {z : Str} {s : Store} : isStr f (.str z) s = f z s := id rfl
def m1K2 (φ : Str → PV → Store → Res PV) (z : Str) : Res PV → Res PV
  | .ok x s => φ z x s
  | .exc c y s => .exc c y s
  | .bad => .bad
@[simp] theorem m1K2_ok {φ : Str → PV → Store → Res PV} {z : Str} {x : PV} {s : Store} : m1K2 φ z (.ok x s) = φ z x s := id rfl
@[simp] theorem m1K2_exc {φ : Str → PV → Store → Res PV} {z : Str} {c : Str} {y : PV} {s : Store} : m1K2 φ z (.exc c y s) = .exc c y s := id rfl
def m1K1 (φ : Str → PV → Store → Res PV) (b : Mx PV) (env : Env) : PV → Store → Res PV
  | .str z, s => m1K2 φ z (b env s)
  | _, _ => .bad
@[simp] theorem m1K1_str {φ : Str → PV → Store → Res PV} {b : Mx PV} {env : Env} {z : Str} {s : Store} : m1K1 φ b env (.str z) s = m1K2 φ z (b env s) := rfl
def m1K (φ : Str → PV → Store → Res PV) (b : Mx PV) (env : Env) : Res PV → Res PV
  | .ok x s => m1K1 φ b env x s
  | .exc c y s => .exc c y s
  | .bad => .bad
@[simp] theorem m1K_ok {φ : Str → PV → Store → Res PV} {b : Mx PV} {env : Env} {x : PV} {s : Store} : m1K φ b env (.ok x s) = m1K1 φ b env x s := id rfl
@[simp] theorem m1K_exc {φ : Str → PV → Store → Res PV} {b : Mx PV} {env : Env} {c : Str} {y : PV} {s : Store} : m1K φ b env (.exc c y s) = .exc c y s := id rfl
@[simp] theorem mM1_ap {φ : Str → PV → Store → Res PV} {a b : Mx PV} {env : Env} {st : Store} : mM1 φ a b env st = m1K φ b env (a env st) := by
  simp only [mM1]
  cases a env st with
  | ok x s => cases x with
    | str z => simp only [bnd_ok, m1K, m1K1]; cases b env s <;> rfl
    | _ => rfl
  | _ => rfl
def m0K (φ : Str → Store → Res PV) : Res PV → Res PV
  | .ok x s => isStr φ x s
  | .exc c y s => .exc c y s
  | .bad => .bad
@[simp] theorem m0K_ok {φ : Str → Store → Res PV} {x : PV} {s : Store} : m0K φ (.ok x s) = isStr φ x s := id rfl
@[simp] theorem m0K_exc {φ : Str → Store → Res PV} {c : Str} {y : PV} {s : Store} : m0K φ (.exc c y s) = .exc c y s := id rfl
@[simp] theorem mM0_ap {φ : Str → Store → Res PV} {a : Mx PV} {env : Env} {st : Store} : mM0 φ a env st = m0K φ (a env st) := by
  simp only [mM0]
  cases a env st with
  | ok x s => cases x <;> rfl
  | _ => rfl
def bmlK2 (φ : PV → List PV → Store → Res PV) (z : PV) : Res (List PV) → Res PV
  | .ok x s => φ z x s
  | .exc c y s => .exc c y s
  | .bad => .bad
@[simp] theorem bmlK2_ok {φ : PV → List PV → Store → Res PV} {z : PV} {x : (List PV)} {s : Store} : bmlK2 φ z (.ok x s) = φ z x s := id rfl
@[simp] theorem bmlK2_exc {φ : PV → List PV → Store → Res PV} {z : PV} {c : Str} {y : PV} {s : Store} : bmlK2 φ z (.exc c y s) = .exc c y s := id rfl
def bmlK (φ : PV → List PV → Store → Res PV) (as : Mx (List PV)) (env : Env) : Res PV → Res PV
  | .ok x s => if (listOf s x).isSome = true then bmlK2 φ x (as env s) else .bad
  | .exc c y s => .exc c y s
  | .bad => .bad
@[simp] theorem bmlK_ok {φ : PV → List PV → Store → Res PV} {as : Mx (List PV)} {env : Env} {x : PV} {s : Store} : bmlK φ as env (.ok x s) = if (listOf s x).isSome = true then bmlK2 φ x (as env s) else .bad := id rfl
@[simp] theorem bmlK_exc {φ : PV → List PV → Store → Res PV} {as : Mx (List PV)} {env : Env} {c : Str} {y : PV} {s : Store} : bmlK φ as env (.exc c y s) = .exc c y s := id rfl
@[simp] theorem mBML_ap {φ : PV → List PV → Store → Res PV} {a : Mx PV} {as : Mx (List PV)} {env : Env} {st : Store} : mBML φ a as env st = bmlK φ as env (a env st) := by
  simp only [mBML]
  cases a env st with
  | ok x s =>
    simp only [bnd_ok, bmlK]
    by_cases h : (listOf s x).isSome = true
    · rw [if_pos h, if_pos h]; cases as env s <;> rfl
    · rw [if_neg h, if_neg h]
  | _ => rfl
def slK3 (z : PV) (l : Option Int) : Res (Option Int) → Res PV
  | .ok x s => pSl s z l x
  | .exc c y s => .exc c y s
  | .bad => .bad
@[simp] theorem slK3_ok {z : PV} {l : Option Int} {x : (Option Int)} {s : Store} : slK3 z l (.ok x s) = pSl s z l x := id rfl
@[simp] theorem slK3_exc {z : PV} {l : Option Int} {c : Str} {y : PV} {s : Store} : slK3 z l (.exc c y s) = .exc c y s := id rfl
def slK2 (z : PV) (hi : Mo) (env : Env) : Res (Option Int) → Res PV
  | .ok x s => slK3 z x (hi env s)
  | .exc c y s => .exc c y s
  | .bad => .bad
@[simp] theorem slK2_ok {z : PV} {hi : Mo} {env : Env} {x : (Option Int)} {s : Store} : slK2 z hi env (.ok x s) = slK3 z x (hi env s) := id rfl
@[simp] theorem slK2_exc {z : PV} {hi : Mo} {env : Env} {c : Str} {y : PV} {s : Store} : slK2 z hi env (.exc c y s) = .exc c y s := id rfl
def slK (lo : Mo) (hi : Mo) (env : Env) : Res PV → Res PV
  | .ok x s => slK2 x hi env (lo env s)
  | .exc c y s => .exc c y s
  | .bad => .bad
@[simp] theorem slK_ok {lo : Mo} {hi : Mo} {env : Env} {x : PV} {s : Store} : slK lo hi env (.ok x s) = slK2 x hi env (lo env s) := id rfl
@[simp] theorem slK_exc {lo : Mo} {hi : Mo} {env : Env} {c : Str} {y : PV} {s : Store} : slK lo hi env (.exc c y s) = .exc c y s := id rfl
@[simp] theorem mSl_ap {a : Mx PV} {lo hi : Mo} {env : Env} {st : Store} : mSl a lo hi env st = slK lo hi env (a env st) := by
  simp only [mSl]
  cases a env st with
  | ok x s =>
    simp only [bnd_ok, slK]
    cases lo env s with
    | ok l s2 => simp only [bnd_ok, slK2]; cases hi env s2 <;> rfl
    | _ => rfl
  | _ => rfl
def isI {α : Type} (f : Int → Store → Res α) : PV → Store → Res α
  | .int z, s => f z s
  | _, _ => .bad
@[simp] theorem isI_int {α : Type} {f : Int → Store → Res α} {z : Int} {s : Store} : isI f (.int z) s = f z s := id rfl
def somI (i : Int) (s : Store) : Res (Option Int) := .ok (some i) s
@[simp] theorem somI_ap {i : Int} {s : Store} : somI i s = .ok (some i) s := rfl
def partK  : Res PV → Res (Option Int)
  | .ok x s => isI somI x s
  | .exc c y s => .exc c y s
  | .bad => .bad
@[simp] theorem partK_ok  {x : PV} {s : Store} : partK  (.ok x s) = isI somI x s := id rfl
@[simp] theorem partK_exc  {c : Str} {y : PV} {s : Store} : partK  (.exc c y s) = .exc c y s := id rfl
@[simp] theorem mPart_ap {a : Mx PV} {env : Env} {st : Store} : mPart a env st = partK (a env st) := by
  simp only [mPart]
  cases a env st with
  | ok x s => cases x <;> rfl
  | _ => rfl
def itK  : Res PV → Res Wk
  | .ok x s => opt (wItems s x) s
  | .exc c y s => .exc c y s
  | .bad => .bad
@[simp] theorem itK_ok  {x : PV} {s : Store} : itK  (.ok x s) = opt (wItems s x) s := id rfl
@[simp] theorem itK_exc  {c : Str} {y : PV} {s : Store} : itK  (.exc c y s) = .exc c y s := id rfl
@[simp] theorem mIt_ap {a : Mx PV} {env : Env} {st : Store} : mIt a env st = itK (a env st) := by
  simp only [mIt]
  cases a env st with
  | ok x s => simp only [bnd_ok, itK, opt]; cases wItems s x <;> rfl
  | _ => rfl
def enK  : Res PV → Res Wk
  | .ok x s => opt ((itemsOf s x).map fun xs => (enumP 0 xs, guardOf s x)) s
  | .exc c y s => .exc c y s
  | .bad => .bad
@[simp] theorem enK_ok  {x : PV} {s : Store} : enK  (.ok x s) = opt ((itemsOf s x).map fun xs => (enumP 0 xs, guardOf s x)) s := id rfl
@[simp] theorem enK_exc  {c : Str} {y : PV} {s : Store} : enK  (.exc c y s) = .exc c y s := id rfl
@[simp] theorem mEnum_ap {a : Mx PV} {env : Env} {st : Store} : mEnum a env st = enK (a env st) := by
  simp only [mEnum]
  cases a env st with
  | ok x s => simp only [bnd_ok, enK, opt]; cases itemsOf s x <;> rfl
  | _ => rfl
def rng1 (j : Int) (s : Store) : Res Wk := @ite _ (-(2 ^ 62) ≤ j ∧ j < 2 ^ 62) (Classical.propDecidable _) (.ok (rangeP 0 j.toNat, none) s) .bad
def rng1K  : Res PV → Res Wk
  | .ok x s => isI rng1 x s
  | .exc c y s => .exc c y s
  | .bad => .bad
@[simp] theorem rng1K_ok  {x : PV} {s : Store} : rng1K  (.ok x s) = isI rng1 x s := id rfl
@[simp] theorem rng1K_exc  {c : Str} {y : PV} {s : Store} : rng1K  (.exc c y s) = .exc c y s := id rfl
@[simp] theorem mRng1_ap {a : Mx PV} {env : Env} {st : Store} : mRng1 a env st = rng1K (a env st) := by
  simp only [mRng1]
  cases a env st with
  | ok x s => cases x <;> rfl
  | _ => rfl
def rng2 (i j : PV) (s : Store) : Res Wk := match i, j with
  | .int i, .int j => @ite _ (-(2 ^ 62) ≤ i ∧ i < 2 ^ 62 ∧ -(2 ^ 62) ≤ j ∧ j < 2 ^ 62) (Classical.propDecidable _) (.ok (rangeP i (j - i).toNat, none) s) .bad
  | _, _ => .bad
def rng2K2 (z : PV) : Res PV → Res Wk
  | .ok x s => rng2 z x s
  | .exc c y s => .exc c y s
  | .bad => .bad
@[simp] theorem rng2K2_ok {z : PV} {x : PV} {s : Store} : rng2K2 z (.ok x s) = rng2 z x s := id rfl
@[simp] theorem rng2K2_exc {z : PV} {c : Str} {y : PV} {s : Store} : rng2K2 z (.exc c y s) = .exc c y s := id rfl
def rng2K (b : Mx PV) (env : Env) : Res PV → Res Wk
  | .ok x s => rng2K2 x (b env s)
  | .exc c y s => .exc c y s
  | .bad => .bad
@[simp] theorem rng2K_ok {b : Mx PV} {env : Env} {x : PV} {s : Store} : rng2K b env (.ok x s) = rng2K2 x (b env s) := id rfl
@[simp] theorem rng2K_exc {b : Mx PV} {env : Env} {c : Str} {y : PV} {s : Store} : rng2K b env (.exc c y s) = .exc c y s := id rfl
@[simp] theorem mRng2_ap {a b : Mx PV} {env : Env} {st : Store} : mRng2 a b env st = rng2K b env (a env st) := by
  simp only [mRng2]
  cases a env st with
  | ok x s =>
    simp only [bnd_ok, rng2K]
    cases b env s with
    | ok y s2 => cases x <;> first | rfl | (cases y <;> rfl)
    | _ => rfl
  | _ => rfl
theorem rng1_of {j : Int} {s : Store} (h : -(2 ^ 62) ≤ j ∧ j < 2 ^ 62) : rng1 j s = .ok (rangeP 0 j.toNat, none) s := if_pos h
def zip2 (x y : PV) (s : Store) : Res Wk := match tupOf x, tupOf y with
  | some xs, some ys => .ok (zipP xs ys, none) s
  | _, _ => .bad
@[simp] theorem zip2_tt {xs ys : List PV} {s : Store} : zip2 (.tup xs) (.tup ys) s = .ok (zipP xs ys, none) s := rfl
def zipK2 (z : PV) : Res PV → Res Wk
  | .ok x s => zip2 z x s
  | .exc c y s => .exc c y s
  | .bad => .bad
@[simp] theorem zipK2_ok {z : PV} {x : PV} {s : Store} : zipK2 z (.ok x s) = zip2 z x s := id rfl
@[simp] theorem zipK2_exc {z : PV} {c : Str} {y : PV} {s : Store} : zipK2 z (.exc c y s) = .exc c y s := id rfl
def zipK (b : Mx PV) (env : Env) : Res PV → Res Wk
  | .ok x s => zipK2 x (b env s)
  | .exc c y s => .exc c y s
  | .bad => .bad
@[simp] theorem zipK_ok {b : Mx PV} {env : Env} {x : PV} {s : Store} : zipK b env (.ok x s) = zipK2 x (b env s) := id rfl
@[simp] theorem zipK_exc {b : Mx PV} {env : Env} {c : Str} {y : PV} {s : Store} : zipK b env (.exc c y s) = .exc c y s := id rfl
@[simp] theorem mZip_ap {a : Mx PV} {b : Mx PV} {env : Env} {st : Store} : mZip a b env st = zipK b env (a env st) := by
  simp only [mZip]
  cases a env st with
  | ok x s => simp only [bnd_ok, zipK]; cases b env s <;> rfl
  | _ => rfl
def lcK (g : Mg) (t : Mx Bool) (te : Mx PV) (vs : List Nat) (env : Env) : Res Wk → Res PV
  | .ok x s => mLcL x.2 g t te (wipeP env vs) x.1 [] s
  | .exc c y s => .exc c y s
  | .bad => .bad
@[simp] theorem lcK_ok {g : Mg} {t : Mx Bool} {te : Mx PV} {vs : List Nat} {env : Env} {x : Wk} {s : Store} : lcK g t te vs env (.ok x s) = mLcL x.2 g t te (wipeP env vs) x.1 [] s := id rfl
@[simp] theorem lcK_exc {g : Mg} {t : Mx Bool} {te : Mx PV} {vs : List Nat} {env : Env} {c : Str} {y : PV} {s : Store} : lcK g t te vs env (.exc c y s) = .exc c y s := id rfl
@[simp] theorem mLc_ap {mi : Mi} {g : Mg} {t : Mx Bool} {te : Mx PV} {vs : List Nat} {env : Env} {st : Store} : mLc mi g t te vs env st = lcK g t te vs env (mi env st) := by
  simp only [mLc]
  cases mi env st <;> rfl
def gcK (gs : Mgs) (xs : List PV) : Res Env → Res Env
  | .ok x s => gs xs x s
  | .exc c y s => .exc c y s
  | .bad => .bad
@[simp] theorem gcK_ok {gs : Mgs} {xs : List PV} {x : Env} {s : Store} : gcK gs xs (.ok x s) = gs xs x s := id rfl
@[simp] theorem gcK_exc {gs : Mgs} {xs : List PV} {c : Str} {y : PV} {s : Store} : gcK gs xs (.exc c y s) = .exc c y s := id rfl
@[simp] theorem gCo_ap {g : Mg} {gs : Mgs} {x : PV} {xs : List PV} {env : Env} {st : Store} : gCo g gs (x :: xs) env st = gcK gs xs (g x env st) := by
  simp only [gCo]
  cases g x env st <;> rfl
def gUK (n : Nat) (gs : Mgs) (env : Env) (st : Store) : Option (List PV) → Res Env
  | some xs => if xs.length = n then gs xs env st else .bad
  | none => .bad
@[simp] theorem gUK_some {n : Nat} {gs : Mgs} {env : Env} {st : Store} {xs : List PV} : gUK n gs env st (some xs) = if xs.length = n then gs xs env st else .bad := rfl
@[simp] theorem gU_ap {n : Nat} {gs : Mgs} {x : PV} {env : Env} {st : Store} : gU n gs x env st = gUK n gs env st (itemsOf st x) := by
  simp only [gU]
  cases itemsOf st x <;> rfl
def gSK (n : Nat) (gs : Mgs) (env : Env) (st : Store) : Option (List PV) → Res Env
  | some xs => if n ≤ xs.length then gs (xs.take n ++ [.ref st.length]) env (st ++ [.lst (xs.drop n)]) else .bad
  | none => .bad
@[simp] theorem gSK_some {n : Nat} {gs : Mgs} {env : Env} {st : Store} {xs : List PV} : gSK n gs env st (some xs) = if n ≤ xs.length then gs (xs.take n ++ [.ref st.length]) env (st ++ [.lst (xs.drop n)]) else .bad := rfl
@[simp] theorem gS_ap {n : Nat} {gs : Mgs} {x : PV} {env : Env} {st : Store} : gS n gs x env st = gSK n gs env st (itemsOf st x) := by
  simp only [gS]
  cases itemsOf st x <;> rfl
def varK (st : Store) : Option (Option PV) → Res PV
  | some (some v) => .ok v st
  | _ => .bad
@[simp] theorem varK_some {st : Store} {v : PV} : varK st (some (some v)) = .ok v st := rfl
@[simp] theorem mVar_ap {i : Nat} {env : Env} {st : Store} : mVar i env st = varK st env[i]? := by
  simp only [mVar]
  cases env[i]? with
  | none => rfl
  | some o => cases o <;> rfl
def stK (env : Env) : Option Store → Fl
  | some s => .nx env s
  | none => .bad
@[simp] theorem stK_some {env : Env} {s : Store} : stK env (some s) = .nx env s := rfl
def sixK3 (y0 : PV) (o : PV) (env : Env) : Res PV → Fl
  | .ok x s => stK env (pSet o x y0 s)
  | .exc c y s => .exc c y env s
  | .bad => .bad
@[simp] theorem sixK3_ok {y0 : PV} {o : PV} {env : Env} {x : PV} {s : Store} : sixK3 y0 o env (.ok x s) = stK env (pSet o x y0 s) := id rfl
@[simp] theorem sixK3_exc {y0 : PV} {o : PV} {env : Env} {c : Str} {y : PV} {s : Store} : sixK3 y0 o env (.exc c y s) = .exc c y env s := id rfl
def sixK2 (y0 : PV) (i : Mx PV) (env : Env) : Res PV → Fl
  | .ok x s => sixK3 y0 x env (i env s)
  | .exc c y s => .exc c y env s
  | .bad => .bad
@[simp] theorem sixK2_ok {y0 : PV} {i : Mx PV} {env : Env} {x : PV} {s : Store} : sixK2 y0 i env (.ok x s) = sixK3 y0 x env (i env s) := id rfl
@[simp] theorem sixK2_exc {y0 : PV} {i : Mx PV} {env : Env} {c : Str} {y : PV} {s : Store} : sixK2 y0 i env (.exc c y s) = .exc c y env s := id rfl
def sixK (o : Mx PV) (i : Mx PV) (env : Env) : Res PV → Fl
  | .ok x s => sixK2 x i env (o env s)
  | .exc c y s => .exc c y env s
  | .bad => .bad
@[simp] theorem sixK_ok {o : Mx PV} {i : Mx PV} {env : Env} {x : PV} {s : Store} : sixK o i env (.ok x s) = sixK2 x i env (o env s) := id rfl
@[simp] theorem sixK_exc {o : Mx PV} {i : Mx PV} {env : Env} {c : Str} {y : PV} {s : Store} : sixK o i env (.exc c y s) = .exc c y env s := id rfl
@[simp] theorem mSetIx_ap {o i v : Mx PV} {env : Env} {st : Store} : mSetIx o i v env st = sixK o i env (v env st) := by
  simp only [mSetIx]
  cases v env st with
  | ok y s =>
    simp only [stm_ok, sixK]
    cases o env s with
    | ok x s2 =>
      simp only [stm_ok, sixK2]
      cases i env s2 with
      | ok k s3 => simp only [stm_ok, sixK3]; cases pSet x k y s3 <;> rfl
      | _ => rfl
    | _ => rfl
  | _ => rfl
/-! ### operations on plain values -/
section
variable {st : Store} {i j : Int} {x y : Str} {xs ys : List PV}
@[simp] theorem itemsOf_tup : itemsOf st (.tup xs) = some xs := rfl
@[simp] theorem itemsOf_wtp : itemsOf st (.wtp xs) = some xs := rfl
@[simp] theorem wItems_str : wItems st (.str x) = some (strItems x, none) := rfl
@[simp] theorem wItems_tup : wItems st (.tup xs) = some (xs, none) := rfl
@[simp] theorem wItems_wtp : wItems st (.wtp xs) = some (xs, none) := rfl
@[simp] theorem guardOf_tup : guardOf st (.tup xs) = none := rfl
@[simp] theorem guardOk_none : guardOk none st = true := rfl
@[simp] theorem pAdd_int : pAdd (.int i) (.int j) st = .ok (.int (i + j)) st := rfl
@[simp] theorem pAdd_tup : pAdd (.tup xs) (.tup ys) st = if xs.length + ys.length ≤ sizeLine then .ok (.tup (xs ++ ys)) st else .bad := rfl
@[simp] theorem pAdd_str : pAdd (.str x) (.str y) st = if x.length + y.length ≤ sizeLine then .ok (.str (x ++ y)) st else .bad := rfl
@[simp] theorem pSub_int : pSub (.int i) (.int j) st = .ok (.int (i - j)) st := by simp [pSub, pInt]
@[simp] theorem pNeg_int : pNeg (.int i) st = .ok (.int (-i)) st := rfl
@[simp] theorem pMul_int : pMul (.int i) (.int j) st = @ite _ (CMul i j ∨ CMulX i j) (Classical.propDecidable _) (.ok (.int (i * j)) st) .bad := rfl
@[simp] theorem pMod_int : pMod (.int i) (.int j) st = if 0 < j then .ok (.int (i % j)) st else .bad := rfl
@[simp] theorem pPow_int : pPow (.int i) (.int j) st = if CPow i j then .ok (.int (i ^ j.toNat)) st else .bad := rfl
@[simp] theorem pDiv_int : pDiv (.int i) (.int j) st = if CDivW i j then .ok (.int (i / j)) st else .bad := rfl
@[simp] theorem pLt_int : pLt (.int i) (.int j) st = .ok (.bl (decide (i < j))) st := rfl
@[simp] theorem pLe_int : pLe (.int i) (.int j) st = .ok (.bl (decide (i ≤ j))) st := rfl
@[simp] theorem pGt_int : pGt (.int i) (.int j) st = .ok (.bl (decide (j < i))) st := rfl
@[simp] theorem pGe_int : pGe (.int i) (.int j) st = .ok (.bl (decide (j ≤ i))) st := rfl
@[simp] theorem pIsN_non {a : PV} : pIsN a .non st = .ok (.bl (decide (a = .non))) st := rfl
@[simp] theorem pNotN_non {a : PV} : pNotN a .non st = .ok (.bl (!decide (a = .non))) st := rfl
@[simp] theorem pTru_bl {b : Bool} : pTru st (.bl b) = some b := rfl
theorem eq_int {neg : Bool} : pEqD neg (.int i) (.int j) st = .ok (.bl (if neg then !decide (i = j) else decide (i = j))) st := by
  have e : PyData.eqv (.int i) (.int j) = decide (i = j) := by
    show (i == j) = decide (i = j)
    by_cases h : i = j <;> simp [h]
  show (if SeqAt.shaped (.int i) = true ∧ SeqAt.shaped (.int j) = true then Res.ok (PV.bl (if neg then !PyData.eqv (.int i) (.int j) else PyData.eqv (.int i) (.int j))) st else .bad) = _
  rw [if_pos ⟨rfl, rfl⟩, e]
theorem eq_str {neg : Bool} : pEqD neg (.str x) (.str y) st = .ok (.bl (if neg then !decide (x = y) else decide (x = y))) st := rfl
theorem eq_bl {neg : Bool} {a b : Bool} : pEqD neg (.bl a) (.bl b) st = .ok (.bl (if neg then !decide (a = b) else decide (a = b))) st := by
  cases neg <;> cases a <;> cases b <;> rfl
@[simp] theorem eq_int_f : pEqD false (.int i) (.int j) st = .ok (.bl (decide (i = j))) st := eq_int
@[simp] theorem eq_int_t : pEqD true (.int i) (.int j) st = .ok (.bl (!decide (i = j))) st := eq_int
@[simp] theorem eq_str_f : pEqD false (.str x) (.str y) st = .ok (.bl (decide (x = y))) st := eq_str
@[simp] theorem eq_str_t : pEqD true (.str x) (.str y) st = .ok (.bl (!decide (x = y))) st := eq_str
@[simp] theorem eq_bl_f {a b : Bool} : pEqD false (.bl a) (.bl b) st = .ok (.bl (decide (a = b))) st := eq_bl
@[simp] theorem eq_bl_t {a b : Bool} : pEqD true (.bl a) (.bl b) st = .ok (.bl (!decide (a = b))) st := eq_bl
@[simp] theorem pIx_tup {k : Int} : pIx (.tup xs) (.int k) st = (match atI xs k with
  | some v => .ok v st
  | none => .bad) := rfl
@[simp] theorem pIx_wtp {k : Int} : pIx (.wtp xs) (.int k) st = (match atI xs k with
  | some v => .ok v st
  | none => .bad) := rfl
@[simp] theorem pIx_str {k : Int} : pIx (.str x) (.int k) st = (match (if x.length ≤ sizeLine then (atI x.cps.toList k).map fun c => PV.str ⟨#[c]⟩ else none) with
  | some v => .ok v st
  | none => .bad) := rfl
@[simp] theorem pLen_tup : pLen (.tup xs) st = .ok (.int xs.length) st := rfl
@[simp] theorem pLen_wtp : pLen (.wtp xs) st = .ok (.int xs.length) st := rfl
theorem pLen_str (h : x.length ≤ sizeLine) : pLen (.str x) st = .ok (.int x.length) st := by
  show (match (if x.length ≤ sizeLine then some x.length else none) with | some n => Res.ok (PV.int n) st | none => .bad) = _
  rw [if_pos h]
@[simp] theorem pListC_tup : pListC (.tup xs) st = .ok (.ref st.length) (st ++ [.lst xs]) := rfl
@[simp] theorem pAbs_int : pAbs (.int i) st = .ok (.int (iabs i)) st := rfl
@[simp] theorem pIntC_int : pIntC (.int i) st = .ok (.int i) st := rfl
@[simp] theorem pIntC_bl {b : Bool} : pIntC (.bl b) st = .ok (.int (if b then 1 else 0)) st := rfl
@[simp] theorem pStrC_str : pStrC (.str x) st = .ok (.str x) st := rfl
@[simp] theorem pIsi_ap {a b : PV} : pIsi a b st = match tyP st a, clP b with
  | some t, some cs => .ok (.bl (cs.any (isiB t))) st
  | _, _ => .bad := rfl
@[simp] theorem tyP_non : tyP st .non = some "NoneType" := rfl
@[simp] theorem tyP_bl {b : Bool} : tyP st (.bl b) = some "bool" := rfl
@[simp] theorem tyP_int : tyP st (.int i) = some "int" := rfl
@[simp] theorem tyP_str : tyP st (.str x) = some "str" := rfl
@[simp] theorem tyP_tup : tyP st (.tup xs) = some "tuple" := rfl
@[simp] theorem clP_tl : clP (.tup [.ty "tuple", .ty "list"]) = some ["tuple", "list"] := rfl
@[simp] theorem clP_l : clP (.ty "list") = some ["list"] := rfl
@[simp] theorem clP_t : clP (.ty "tuple") = some ["tuple"] := rfl
@[simp] theorem clP_b : clP (.ty "bool") = some ["bool"] := rfl
@[simp] theorem clP_i : clP (.ty "int") = some ["int"] := rfl
@[simp] theorem clP_s : clP (.ty "str") = some ["str"] := rfl
end
/-! ### lists of the store -/
section
variable {st : Store} {p : Nat} {xs : List PV}
theorem lst_items (h : st[p]? = some (.lst xs)) : itemsOf st (.ref p) = some xs := by simp [itemsOf, h]
theorem lst_wItems (h : st[p]? = some (.lst xs)) : wItems st (.ref p) = some (xs, some (p, .lst xs)) := by simp [wItems, itemsOf, guardOf, h]
theorem ro_items (h : st[p]? = some (.ro xs)) : itemsOf st (.ref p) = some xs := by simp [itemsOf, h]
theorem lst_list (h : st[p]? = some (.lst xs)) : listOf st (.ref p) = some xs := by simp [listOf, h]
theorem lst_nodict (h : st[p]? = some (.lst xs)) : isDict st (.ref p) = none := by simp [isDict, h]
theorem ro_nodict (h : st[p]? = some (.ro xs)) : isDict st (.ref p) = none := by simp [isDict, h]
theorem lst_ix {k : Int} (h : st[p]? = some (.lst xs)) : pIx (.ref p) (.int k) st = (match atI xs k with
  | some v => .ok v st
  | none => .bad) := by
  unfold pIx
  rw [lst_nodict h]
  simp only [pIxSeq, lst_items h]
  all_goals (cases atI xs k <;> rfl)
theorem ro_ix {k : Int} (h : st[p]? = some (.ro xs)) : pIx (.ref p) (.int k) st = (match atI xs k with
  | some v => .ok v st
  | none => .bad) := by
  unfold pIx
  rw [ro_nodict h]
  simp only [pIxSeq, ro_items h]
  all_goals (cases atI xs k <;> rfl)
theorem lst_len (h : st[p]? = some (.lst xs)) : pLen (.ref p) st = .ok (.int xs.length) st := by simp [pLen, lenOf, h]
theorem ro_len (h : st[p]? = some (.ro xs)) : pLen (.ref p) st = .ok (.int xs.length) st := by simp [pLen, lenOf, h]
theorem lst_set {k : Int} {v : PV} (h : st[p]? = some (.lst xs)) : pSet (.ref p) (.int k) v st = (match ixN xs.length k with
  | some j => some (st.set p (.lst (xs.set j v)))
  | none => none) := by
  unfold pSet
  rw [lst_nodict h]
  simp only [h]
  all_goals (cases ixN xs.length k <;> rfl)
theorem lst_append {y : PV} (h : st[p]? = some (.lst xs)) (hl : xs.length < sizeLine) : pAppend (.ref p) [y] st = .ok .non (st.set p (.lst (xs ++ [y]))) := by simp [pAppend, mutL, h, hl]
theorem lst_tup (h : st[p]? = some (.lst xs)) : pTupC (.ref p) st = .ok (.tup xs) st := by simp [pTupC, itemsOf, h]
theorem lst_guard (h : st[p]? = some (.lst xs)) : guardOk (some (p, .lst xs)) st = true := by simp [guardOk, h]
theorem lst_all {bs : List Bool} (h : st[p]? = some (.lst (bs.map .bl))) : pAll (.ref p) st = .ok (.bl (bs.all id)) st := by
  have e : ∀ bs : List Bool, blsOf (bs.map .bl) = some bs := fun bs => by
    induction bs with
    | nil => rfl
    | cons b bs ih => simp [blsOf, ih]
  simp [pAll, lst_list h, e]
theorem strsOf_map : ∀ ys : List Str, strsOf (ys.map .str) = some ys
  | [] => rfl
  | y :: ys => by simp [strsOf, strsOf_map ys]
theorem lst_join {z : Str} {ys : List Str} (h : st[p]? = some (.lst (ys.map .str))) (hl : (ys.map (·.length)).sum + ys.length * z.length ≤ 16777216) : pJoin z (.ref p) st = .ok (.str (Txt.join z ys)) st := by
  simp [pJoin, lst_items h, strsOf_map, hl]
end
/-! ### what stays -/
/-- all that stands stays, but p -/
def Kp (p : Nat) (st st' : Store) : Prop := ∀ q, q ≠ p → ∀ o, st[q]? = some o → st'[q]? = some o
def Kp0 (st st' : Store) : Prop := ∀ (q : Nat) o, st[q]? = some o → st'[q]? = some o
section
variable {p : Nat} {st st' st'' : Store} {o : PO}
theorem Kp0.refl : Kp0 st st := fun _ _ h => h
theorem Kp0.trans (a : Kp0 st st') (b : Kp0 st' st'') : Kp0 st st'' := fun q o h => b q o (a q o h)
theorem Kp0.push : Kp0 st (st ++ [o]) := fun q u h => by rw [List.getElem?_append_left (List.getElem?_eq_some_iff.mp h).1]; exact h
theorem Kp0.app {l : Store} : Kp0 st (st ++ l) := fun q u h => by rw [List.getElem?_append_left (List.getElem?_eq_some_iff.mp h).1]; exact h
theorem Kp.refl : Kp p st st := fun _ _ _ h => h
theorem Kp.trans (a : Kp p st st') (b : Kp p st' st'') : Kp p st st'' := fun q n o h => b q n o (a q n o h)
theorem Kp0.kp (a : Kp0 st st') : Kp p st st' := fun q _ o h => a q o h
theorem Kp.push : Kp p st (st ++ [o]) := Kp0.push.kp
theorem Kp.set : Kp p st (st.set p o) := fun q n u h => by rw [List.getElem?_set_ne (Ne.symm n)]; exact h
theorem Kp.new (a : Kp p st st') (h : st[p]? = none) : Kp0 st st' := fun q o e => a q (fun z => by rw [z, h] at e; cases e) o e
theorem Kp0.new {o : PO} {st1 : Store} (a : Kp st.length (st ++ [o]) st') : Kp0 st st' := fun q u e => a q (Nat.ne_of_lt (List.getElem?_eq_some_iff.mp e).1) u (Kp0.push q u e)
theorem Kp0.len (a : Kp0 st st') : st.length ≤ st'.length := by
  rcases Nat.lt_or_ge st'.length st.length with h | h
  · have e : st[st'.length]? = some (st[st'.length]'h) := List.getElem?_eq_getElem h
    have := a _ _ e
    rw [List.getElem?_eq_none (Nat.le_refl _)] at this
    cases this
  · exact h
theorem at_new : (st ++ [o])[st.length]? = some o := by simp
theorem none_len : st[st.length]? = none := by simp
theorem set_at {u : PO} (h : st[p]? = some u) : (st.set p o)[p]? = some o := by
  rw [List.getElem?_set_self (List.getElem?_eq_some_iff.mp h).1]
end
/-! ### loops -/
theorem loop_inv {g : Option (Nat × PO)} {tg : Mg} {body : Ms} (I : Nat → Env → Store → Prop) : ∀ (xs : List PV) (k : Nat) (env : Env) (st : Store), I k env st →
    (∀ (i : Nat) (x : PV) env st, xs[i]? = some x → I (k + i) env st → guardOk g st = true ∧ ∃ env1 st1, tg x env st = .ok env1 st1 ∧ ∃ env2 st2, (body env1 st1 = .nx env2 st2 ∨ body env1 st1 = .ct env2 st2) ∧ I (k + i + 1) env2 st2) →
    (∀ env st, I (k + xs.length) env st → guardOk g st = true) → ∃ env' st', mLoop g tg body xs env st = .nx env' st' ∧ I (k + xs.length) env' st'
  | [], k, env, st, h0, _, hg => ⟨env, st, by simp [mLoop, hg env st (by simpa using h0)], h0⟩
  | x :: xs, k, env, st, h0, hs, hg => by
    obtain ⟨g1, env1, st1, e1, env2, st2, e2, h2⟩ := hs 0 x env st rfl h0
    obtain ⟨env', st', e3, h3⟩ := loop_inv I xs (k + 1) env2 st2 h2 (fun i y env st hy hI => by
      have := hs (i + 1) y env st (by simpa using hy) (by rw [show k + (i + 1) = k + 1 + i by omega]; exact hI)
      rw [show k + 1 + i = k + (i + 1) by omega]
      exact this) (fun env st hI => hg env st (by rw [List.length_cons, show k + (xs.length + 1) = k + 1 + xs.length by omega]; exact hI))
    refine ⟨env', st', ?_, by rw [List.length_cons, show k + (xs.length + 1) = k + 1 + xs.length by omega]; exact h3⟩
    rcases e2 with e2 | e2 <;> simp [mLoop, g1, e1, e2, e3]
/-- a loop that may end the def: at i by a value -/
theorem loop_ret {g : Option (Nat × PO)} {tg : Mg} {body : Ms} (I : Nat → Env → Store → Prop) (R : Fl → Prop) : ∀ (xs : List PV) (k : Nat) (env : Env) (st : Store), I k env st →
    (∀ (i : Nat) (x : PV) env st, xs[i]? = some x → I (k + i) env st → guardOk g st = true ∧ ∃ env1 st1, tg x env st = .ok env1 st1 ∧
      ((∃ env2 st2, (body env1 st1 = .nx env2 st2 ∨ body env1 st1 = .ct env2 st2) ∧ I (k + i + 1) env2 st2) ∨ (∃ v st2, body env1 st1 = .rt v st2 ∧ R (.rt v st2)) ∨ (∃ c v env2 st2, body env1 st1 = .exc c v env2 st2 ∧ R (.exc c v env2 st2)))) →
    (∀ env st, I (k + xs.length) env st → guardOk g st = true ∧ R (.nx env st)) → R (mLoop g tg body xs env st)
  | [], k, env, st, h0, _, hg => by
    have := hg env st (by simpa using h0)
    simp only [mLoop, this.1, if_true]
    exact this.2
  | x :: xs, k, env, st, h0, hs, hg => by
    obtain ⟨g1, env1, st1, e1, h⟩ := hs 0 x env st rfl h0
    rcases h with ⟨env2, st2, e2, h2⟩ | ⟨v, st2, e2, h2⟩ | ⟨c, v, env2, st2, e2, h2⟩
    · have h3 := loop_ret I R xs (k + 1) env2 st2 h2 (fun i y env st hy hI => by
        have := hs (i + 1) y env st (by simpa using hy) (by rw [show k + (i + 1) = k + 1 + i by omega]; exact hI)
        rw [show k + 1 + i = k + (i + 1) by omega]
        exact this) (fun env st hI => hg env st (by rw [List.length_cons, show k + (xs.length + 1) = k + 1 + xs.length by omega]; exact hI))
      have e : mLoop g tg body (x :: xs) env st = mLoop g tg body xs env2 st2 := by
        rcases e2 with e2 | e2 <;> simp [mLoop, g1, e1, e2]
      rw [e]
      exact h3
    · have e : mLoop g tg body (x :: xs) env st = .rt v st2 := by simp [mLoop, g1, e1, e2]
      rw [e]
      exact h2
    · have e : mLoop g tg body (x :: xs) env st = .exc c v env2 st2 := by simp [mLoop, g1, e1, e2]
      rw [e]
      exact h2
theorem lc_inv {g : Option (Nat × PO)} {tg : Mg} {tt : Mx Bool} {te : Mx PV} {env0 : Env} (I : Nat → List PV → Store → Prop) : ∀ (xs : List PV) (k : Nat) (acc : List PV) (st : Store), I k acc st → acc.length + xs.length ≤ sizeLine →
    (∀ (i : Nat) (x : PV) acc st, xs[i]? = some x → I (k + i) acc st → guardOk g st = true ∧ ∃ env1 st1, tg x env0 st = .ok env1 st1 ∧ ∃ b st2, tt env1 st1 = .ok b st2 ∧ if b = true then ∃ y st3, te env1 st2 = .ok y st3 ∧ I (k + i + 1) (acc ++ [y]) st3 else I (k + i + 1) acc st2) →
    (∀ acc st, I (k + xs.length) acc st → guardOk g st = true) → ∃ acc' st', mLcL g tg tt te env0 xs acc st = .ok (.ref st'.length) (st' ++ [.lst acc']) ∧ I (k + xs.length) acc' st'
  | [], k, acc, st, h0, _, _, hg => ⟨acc, st, by simp [mLcL, hg acc st (by simpa using h0), alloc], h0⟩
  | x :: xs, k, acc, st, h0, hl, hs, hg => by
    obtain ⟨g1, env1, st1, e1, b, st2, e2, h2⟩ := hs 0 x acc st rfl h0
    rw [List.length_cons] at hl
    have step : ∀ acc2 st2, I (k + 1) acc2 st2 → acc2.length + xs.length ≤ sizeLine → ∃ acc' st', mLcL g tg tt te env0 xs acc2 st2 = .ok (.ref st'.length) (st' ++ [.lst acc']) ∧ I (k + (x :: xs).length) acc' st' := fun acc2 st2 h2 hl2 => by
      obtain ⟨acc', st', e3, h3⟩ := lc_inv I xs (k + 1) acc2 st2 h2 hl2 (fun i y acc st hy hI => by
        have := hs (i + 1) y acc st (by simpa using hy) (by rw [show k + (i + 1) = k + 1 + i by omega]; exact hI)
        rw [show k + 1 + i = k + (i + 1) by omega]
        exact this) (fun acc st hI => hg acc st (by rw [List.length_cons, show k + (xs.length + 1) = k + 1 + xs.length by omega]; exact hI))
      exact ⟨acc', st', e3, by rw [List.length_cons, show k + (xs.length + 1) = k + 1 + xs.length by omega]; exact h3⟩
    cases b with
    | true =>
      rw [if_pos rfl] at h2
      obtain ⟨y, st3, e3, h3⟩ := h2
      obtain ⟨acc', st', e4, h4⟩ := step (acc ++ [y]) st3 h3 (by simp; omega)
      exact ⟨acc', st', by simp [mLcL, g1, e1, e2, e3, show acc.length < sizeLine by omega, e4], h4⟩
    | false =>
      rw [if_neg (by decide)] at h2
      obtain ⟨acc', st', e4, h4⟩ := step acc st2 h2 (by omega)
      exact ⟨acc', st', by simp [mLcL, g1, e1, e2, e4], h4⟩
/-- items one by one, nothing changes -/
theorem lc_map {g : Option (Nat × PO)} {tg : Mg} {tt : Mx Bool} {te : Mx PV} {env0 : Env} {st : Store} (e : PV → Env) (b : PV → Bool) (f : PV → PV) (hg : guardOk g st = true) : ∀ (xs acc : List PV), acc.length + xs.length ≤ sizeLine →
    (∀ x ∈ xs, tg x env0 st = .ok (e x) st ∧ tt (e x) st = .ok (b x) st ∧ (b x = true → te (e x) st = .ok (f x) st)) → mLcL g tg tt te env0 xs acc st = .ok (.ref st.length) (st ++ [.lst (acc ++ (xs.filter b).map f)])
  | [], acc, _, _ => by simp [mLcL, hg, alloc]
  | x :: xs, acc, hl, h => by
    rw [List.length_cons] at hl
    obtain ⟨h1, h2, h3⟩ := h x List.mem_cons_self
    cases hb : b x with
    | true =>
      have := lc_map e b f hg xs (acc ++ [f x]) (by simp; omega) fun y hy => h y (List.mem_cons_of_mem _ hy)
      simp [mLcL, hg, h1, h2, hb, h3 hb, show acc.length < sizeLine by omega, this]
    | false =>
      have := lc_map e b f hg xs acc (by omega) fun y hy => h y (List.mem_cons_of_mem _ hy)
      simp [mLcL, hg, h1, h2, hb, this]
theorem rangeP_at : ∀ (n : Nat) (lo : Int) (i : Nat) (x : PV), (rangeP lo n)[i]? = some x → x = .int (lo + i) ∧ i < n
  | 0, _, i, x, h => by simp [rangeP] at h
  | n + 1, lo, 0, x, h => by
    simp [rangeP] at h
    exact ⟨by simp [← h], by omega⟩
  | n + 1, lo, i + 1, x, h => by
    have := rangeP_at n (lo + 1) i x (by simpa [rangeP] using h)
    exact ⟨by rw [this.1]; congr 1; omega, by omega⟩
@[simp] theorem rangeP_length : ∀ (n : Nat) (lo : Int), (rangeP lo n).length = n
  | 0, _ => rfl
  | n + 1, lo => by simp [rangeP, rangeP_length n (lo + 1)]
theorem sizeLine_ge : 1000000 ≤ sizeLine := by decide
end
end PL
set_option Elab.async false
set_option linter.all false
set_option maxRecDepth 100000
set_option maxHeartbeats 4000000
namespace PL
open PySem PySem.Spec PyProof.Rows L2 LW
noncomputable section
def allC : List Str := []
def excC : List Str := ["NoHouse", "NoKey", "NoNode", "TooFar", "NoLetter", "NoTicket", "NoNumber", "NoSync", "Nothing", "NoDeed", "NoHistory", "NoText", "NoName", "NoLine"]
def subC (c d : Str) : Bool := decide (c = d) || decide (d = "LendError")
def allF : List Str := (["at", "key", "name", "node", "number", "why"] : List Str)
abbrev N__law_pool : List Str := ["_law_script", "_law_k", "_law_cell", "_law_left"]
def m__law_pool : Ms :=
  (mSeq (mSet 2 (mC (.int 0)))
  (mSeq (mIfS (mB (mOp pGt (mCB (one pLen) (mCons (mVar 0) mNil)) (mC (.int 0)))) (mSet 2 (mOp pIx (mVar 0) (mOp pMod (mVar 1) (mCB (one pLen) (mCons (mVar 0) mNil))))) mNext)
  (mSeq (mSet 3 (mC (.int 0)))
  (mSeq (mIfS (mAnd (mB (mOp pLt (mVar 1) (mCB (one pLen) (mCons (mVar 0) mNil)))) (mB (mOp pGe (mCB (one pAbs) (mCons (mVar 2) mNil)) (mOp pPow (mC (.int 10)) (mC (.int 18)))))) (mSet 3 (mCB (one pAbs) (mCons (mVar 2) mNil))) mNext)
  (mRet (mLst (mCons (mVar 3) (mCons (mVar 2) (mCons (mVar 1) (mCons (mC (.int 0)) mNil))))))))))
def pf__law_pool : PF := runF 2 4 m__law_pool
abbrev N__law_take : List Str := ["_law_pool_here", "_law_wide", "_law_found", "_law_reach", "_law_a", "_law_b"]
def L1__law_take : Ms :=
  (mSeq (mSelS isDictB (mVar 0) (mAugD pIAdd (mVar 0) (mC (.int 3)) (mC (.int 1))) (mAugL pIAdd (mVar 0) (mC (.int 3)) (mC (.int 1))))
  (mSeq (mSet 4 (mOp pMod (mOp pAdd (mOp pAdd (mOp pAdd (mOp pIx (mVar 0) (mC (.int 1))) (mOp pMul (mC (.int 7919)) (mOp pIx (mVar 0) (mC (.int 2))))) (mOp pMul (mC (.int 104729)) (mOp pIx (mVar 0) (mC (.int 3))))) (mC (.int 57))) (mC (.int 2147483647))))
  (mSeq (mSet 4 (mOp pMod (mOp pPow (mVar 4) (mC (.int 5))) (mC (.int 2147483629))))
  (mSeq (mSet 5 (mOp pMod (mOp pAdd (mOp pAdd (mVar 4) (mOp pMul (mC (.int 40692)) (mOp pIx (mVar 0) (mC (.int 2))))) (mOp pMul (mC (.int 6971)) (mOp pIx (mVar 0) (mC (.int 3))))) (mC (.int 2147483587))))
  (mSeq (mSet 2 (mOp pAdd (mOp pMul (mVar 2) (mC (.int 1000000007))) (mOp pMod (mOp pAdd (mOp pMod (mOp pPow (mVar 5) (mC (.int 5))) (mC (.int 2147483587))) (mVar 4)) (mC (.int 1000000007)))))
  (mSet 3 (mOp pMul (mVar 3) (mC (.int 1000000007)))))))))
def m__law_take : Ms :=
  (mSeq (mIfS (mB (mOp pGt (mOp pIx (mVar 0) (mC (.int 0))) (mC (.int 0)))) (mSeq (mSet 2 (mOp pMod (mOp pIx (mVar 0) (mC (.int 0))) (mVar 1)))
  (mSeq (mSetIx (mVar 0) (mC (.int 0)) (mOp pDiv (mOp pIx (mVar 0) (mC (.int 0))) (mVar 1)))
  (mRet (mVar 2)))) mNext)
  (mSeq (mSet 2 (mC (.int 0)))
  (mSeq (mSet 3 (mC (.int 1)))
  (mSeq (mWhileN (mB (mOp pLt (mVar 3) (mVar 1)))
  L1__law_take bigN)
  (mRet (mOp pMod (mVar 2) (mVar 1)))))))
def pf__law_take : PF := runF 2 6 m__law_take
abbrev N__law_signs : List Str := ["_law_lower"]
def m__law_signs : Ms :=
  (mSeq (mSet 0 (mC (.str "abcdefghijklmnopqrstuvwxyz")))
  (mRet (mOp pAdd (mVar 0) (mC (.str " !\"#$&'()*+,-./0123456789:;<=>?@ABCDEFGHIJKLMNOPQRSTUVWXYZ[\\]^_`{|}~")))))
def pf__law_signs : PF := runF 0 1 m__law_signs
@[simp] def gN__law_just_2 (as bs : List PV) : List PV := as
abbrev N__law_just : List Str := ["_law_found", "_law_due", "_law_a", "_law_b"]
def E1__law_just (pf__law_just : PF) : Mx PV :=
  (mCall pf__law_just gN__law_just_2 2 0 (mCons (mVar 2) (mCons (mVar 3) mNil)) mNil)
def m__law_just (pf__law_just : PF) : Ms :=
  (mSeq (mIfS (mTru (mCB (two pIsi) (mCons (mVar 1) (mCons (mTup (mCons (mC (.ty "tuple")) (mCons (mC (.ty "list")) mNil))) mNil)))) (mSeq (mIfS (mOr (mB (mOp (pEqD true) (mCB (two pIsi) (mCons (mVar 1) (mCons (mC (.ty "list")) mNil))) (mCB (two pIsi) (mCons (mVar 0) (mCons (mC (.ty "list")) mNil))))) (mB (mOp (pEqD true) (mCB (two pIsi) (mCons (mVar 1) (mCons (mC (.ty "tuple")) mNil))) (mCB (two pIsi) (mCons (mVar 0) (mCons (mC (.ty "tuple")) mNil)))))) (mRet (mC (.bl false))) mNext)
  (mRet (mAndV (mOp (pEqD false) (mCB (one pLen) (mCons (mVar 0) mNil)) (mCB (one pLen) (mCons (mVar 1) mNil))) (mCB (one pAll) (mCons (mLc (mZip (mVar 0) (mVar 1)) (gU 2 (gCo (gN 2) (gCo (gN 3) gNi))) mYes (E1__law_just pf__law_just) [2, 3]) mNil))))) mNext)
  (mSeq (mIfS (mOr (mTru (mCB (two pIsi) (mCons (mVar 1) (mCons (mC (.ty "bool")) mNil)))) (mTru (mCB (two pIsi) (mCons (mVar 0) (mCons (mC (.ty "bool")) mNil))))) (mRet (mAndV (mCB (two pIsi) (mCons (mVar 1) (mCons (mC (.ty "bool")) mNil))) (mAndV (mCB (two pIsi) (mCons (mVar 0) (mCons (mC (.ty "bool")) mNil))) (mOp (pEqD false) (mVar 0) (mVar 1))))) mNext)
  (mSeq (mIfS (mOr (mTru (mCB (two pIsi) (mCons (mVar 0) (mCons (mTup (mCons (mC (.ty "tuple")) (mCons (mC (.ty "list")) mNil))) mNil)))) (mB (mOp (pEqD true) (mOp pIsN (mVar 0) (mC .non)) (mOp pIsN (mVar 1) (mC .non))))) (mRet (mC (.bl false))) mNext)
  (mRet (mOp (pEqD false) (mVar 0) (mVar 1))))))
def pr__law_just : Nat → PF
  | 0 => runF 2 4 mNever
  | k + 1 => runF 2 4 (m__law_just (pr__law_just k))
def pf__law_just : PF := pr__law_just 2
abbrev N_NoHouse___init__ : List Str := ["self", "why"]
abbrev N_NoKey___init__ : List Str := ["self", "key"]
abbrev N_NoNode___init__ : List Str := ["self", "node"]
abbrev N_TooFar___init__ : List Str := ["self", "node"]
abbrev N_NoLetter___init__ : List Str := ["self", "number"]
abbrev N_NoTicket___init__ : List Str := ["self", "number"]
abbrev N_NoNumber___init__ : List Str := ["self", "number"]
abbrev N_NoSync___init__ : List Str := ["self", "number"]
abbrev N_Nothing___init__ : List Str := ["self", "key"]
abbrev N_NoDeed___init__ : List Str := ["self", "at"]
abbrev N_NoHistory___init__ : List Str := ["self", "at"]
abbrev N_NoText___init__ : List Str := ["self", "at"]
abbrev N_NoName___init__ : List Str := ["self", "name"]
abbrev N__law_sorts : List Str := ["_law_e", "_law_found", "_law_word", "_law_is_so"]
def C1__law_sorts : Mx Bool :=
  (mTru (mVar 3))
def E1__law_sorts : Mx PV :=
  (mVar 2)
def m__law_sorts (c : Str) (x : PV) : Ms :=
  (mSeq (mSet 1 (mLst (mCons (mTup (mCons (mC (.str "NoHouse")) (mCons (mIsX excC (fun c => subC c "NoHouse") c x) mNil))) (mCons (mTup (mCons (mC (.str "NoKey")) (mCons (mIsX excC (fun c => subC c "NoKey") c x) mNil))) (mCons (mTup (mCons (mC (.str "NoNode")) (mCons (mIsX excC (fun c => subC c "NoNode") c x) mNil))) mNil))))) (mSeq (mSet 1 (mOp pAdd (mVar 1) (mLst (mCons (mTup (mCons (mC (.str "TooFar")) (mCons (mIsX excC (fun c => subC c "TooFar") c x) mNil))) (mCons (mTup (mCons (mC (.str "NoLetter")) (mCons (mIsX excC (fun c => subC c "NoLetter") c x) mNil))) mNil))))) (mSeq (mSet 1 (mOp pAdd (mVar 1) (mLst (mCons (mTup (mCons (mC (.str "NoTicket")) (mCons (mIsX excC (fun c => subC c "NoTicket") c x) mNil))) (mCons (mTup (mCons (mC (.str "NoNumber")) (mCons (mIsX excC (fun c => subC c "NoNumber") c x) mNil))) mNil))))) (mSeq (mSet 1 (mOp pAdd (mVar 1) (mLst (mCons (mTup (mCons (mC (.str "NoSync")) (mCons (mIsX excC (fun c => subC c "NoSync") c x) mNil))) (mCons (mTup (mCons (mC (.str "Nothing")) (mCons (mIsX excC (fun c => subC c "Nothing") c x) mNil))) mNil))))) (mSeq (mSet 1 (mOp pAdd (mVar 1) (mLst (mCons (mTup (mCons (mC (.str "NoDeed")) (mCons (mIsX excC (fun c => subC c "NoDeed") c x) mNil))) (mCons (mTup (mCons (mC (.str "NoHistory")) (mCons (mIsX excC (fun c => subC c "NoHistory") c x) mNil))) mNil))))) (mSeq (mSet 1 (mOp pAdd (mVar 1) (mLst (mCons (mTup (mCons (mC (.str "NoText")) (mCons (mIsX excC (fun c => subC c "NoText") c x) mNil))) (mCons (mTup (mCons (mC (.str "NoName")) (mCons (mIsX excC (fun c => subC c "NoName") c x) mNil))) mNil))))) (mSeq (mSet 1 (mOp pAdd (mVar 1) (mLst (mCons (mTup (mCons (mC (.str "NoLine")) (mCons (mIsX excC (fun c => subC c "NoLine") c x) mNil))) (mCons (mTup (mCons (mC (.str "bare")) (mCons (mNotV (mIsX excC (fun _ => true) c x)) mNil))) mNil))))) (mRet (mM1 pJoin (mC (.str " ")) (mLc (mItL (mVar 1)) (gUt 2 (gCo (gN 2) (gCo (gN 3) gNi))) C1__law_sorts E1__law_sorts [2, 3]))))))))))
def pf__law_sorts : PFh := runH 4 m__law_sorts
abbrev N__law_raised : List Str := ["_law_word", "_law_thing", "_law_found", "_law_e"]
def S1__law_raised : Ms :=
  (mSet 2 (mC .non))
def S2__law_raised : Ms :=
  (mTryAs excC subC "LendError" 3 (mSeq (mIfS (mB (mOp (pEqD false) (mVar 0) (mC (.str "NoHouse")))) (mRaise "NoHouse" (mVar 1)) mNext)
  (mSeq (mIfS (mB (mOp (pEqD false) (mVar 0) (mC (.str "NoKey")))) (mRaise "NoKey" (mVar 1)) mNext)
  (mSeq (mIfS (mB (mOp (pEqD false) (mVar 0) (mC (.str "NoNode")))) (mRaise "NoNode" (mVar 1)) mNext)
  (mSeq (mIfS (mB (mOp (pEqD false) (mVar 0) (mC (.str "TooFar")))) (mRaise "TooFar" (mVar 1)) mNext)
  (mSeq (mIfS (mB (mOp (pEqD false) (mVar 0) (mC (.str "NoLetter")))) (mRaise "NoLetter" (mVar 1)) mNext)
  (mSeq (mIfS (mB (mOp (pEqD false) (mVar 0) (mC (.str "NoTicket")))) (mRaise "NoTicket" (mVar 1)) mNext)
  (mSeq (mIfS (mB (mOp (pEqD false) (mVar 0) (mC (.str "NoNumber")))) (mRaise "NoNumber" (mVar 1)) mNext)
  (mSeq (mIfS (mB (mOp (pEqD false) (mVar 0) (mC (.str "NoSync")))) (mRaise "NoSync" (mVar 1)) mNext)
  (mSeq (mIfS (mB (mOp (pEqD false) (mVar 0) (mC (.str "Nothing")))) (mRaise "Nothing" (mVar 1)) mNext)
  (mSeq (mIfS (mB (mOp (pEqD false) (mVar 0) (mC (.str "NoDeed")))) (mRaise "NoDeed" (mVar 1)) mNext)
  (mSeq (mIfS (mB (mOp (pEqD false) (mVar 0) (mC (.str "NoHistory")))) (mRaise "NoHistory" (mVar 1)) mNext)
  (mSeq (mIfS (mB (mOp (pEqD false) (mVar 0) (mC (.str "NoText")))) (mRaise "NoText" (mVar 1)) mNext)
  (mSeq (mIfS (mB (mOp (pEqD false) (mVar 0) (mC (.str "NoName")))) (mRaise "NoName" (mVar 1)) mNext)
  (mRaise "NoLine" (mCB (one pStrC) (mCons (mVar 1) mNil)))))))))))))))) (fun c x => mSet 2 (mTup (mCons (mCalH pf__law_sorts c x) (mCons (mIsX excC (fun _ => true) c x) mNil)))))
def S3__law_raised : Ms :=
  (mRet (mVar 2))
def m__law_raised : Ms :=
  (mSeq S1__law_raised
  (mSeq S2__law_raised
  S3__law_raised))
def pf__law_raised : PF := runF 2 4 m__law_raised
abbrev N__law_fields : List Str := ["_law_thing", "_law_found"]
def S1__law_fields : Ms :=
  (mSet 1 (mLst (mCons (mVar 0) (mCons (mVar 0) (mCons (mVar 0) (mCons (mVar 0) (mCons (mVar 0) mNil)))))))
def S2__law_fields : Ms :=
  (mSet 1 (mOp pAdd (mVar 1) (mLst (mCons (mVar 0) (mCons (mVar 0) (mCons (mVar 0) (mCons (mVar 0) mNil)))))))
def S3__law_fields : Ms :=
  (mRet (mOp pAdd (mVar 1) (mLst (mCons (mVar 0) (mCons (mVar 0) (mCons (mVar 0) (mCons (mVar 0) mNil)))))))
def m__law_fields : Ms :=
  (mSeq S1__law_fields
  (mSeq S2__law_fields
  S3__law_fields))
def pf__law_fields : PF := runF 1 2 m__law_fields
@[simp] def gN__law_pool_2 (as bs : List PV) : List PV := as
@[simp] def gN__law_take_2 (as bs : List PV) : List PV := as
@[simp] def gN__law_signs_0 (as bs : List PV) : List PV := as
@[simp] def gN__law_raised_2 (as bs : List PV) : List PV := as
@[simp] def gN__law_fields_1 (as bs : List PV) : List PV := as
@[simp] def gF_NoDeed___init___0_at (as bs : List PV) : List PV := pick [0, 1] (as ++ bs)
@[simp] def gF_NoNode___init___0_node (as bs : List PV) : List PV := pick [0, 1] (as ++ bs)
abbrev N_law : List Str := ["_law_script", "_law_pool_here", "_law_way", "_law_thing", "_law_words", "_law_word", "_law_k", "_law_field"]
def E1_law : Mx PV :=
  (mOp pIx (mCall pf__law_signs gN__law_signs_0 0 0 mNil mNil) (mCall pf__law_take gN__law_take_2 2 0 (mCons (mVar 1) (mCons (mC (.int 94)) mNil)) mNil))
def L1_law : Ms :=
  (mIfS (mNot (mTru (mCall pf__law_just gN__law_just_2 2 0 (mCons (mCall pf__law_raised gN__law_raised_2 2 0 (mCons (mVar 5) (mCons (mVar 3) mNil)) mNil) (mCons (mTup (mCons (mVar 5) (mCons (mC (.bl true)) mNil))) mNil)) mNil))) (mRet (mC (.bl false))) mNext)
def E2_law : Mx PV :=
  (mCall pf__law_just gN__law_just_2 2 0 (mCons (mVar 7) (mCons (mVar 3) mNil)) mNil)
def S1_law : Ms :=
  (mSet 1 (mCall pf__law_pool gN__law_pool_2 2 0 (mCons (mVar 0) (mCons (mC (.int 0)) mNil)) mNil))
def S2_law : Ms :=
  (mSet 2 (mCall pf__law_take gN__law_take_2 2 0 (mCons (mVar 1) (mCons (mC (.int 3)) mNil)) mNil))
def S3_law : Ms :=
  (mSet 3 (mOp pMul (mCall pf__law_take gN__law_take_2 2 0 (mCons (mVar 1) (mCons (mOp pPow (mC (.int 10)) (mC (.int 40))) mNil)) mNil) (mOp pSub (mC (.int 1)) (mOp pMul (mC (.int 2)) (mCall pf__law_take gN__law_take_2 2 0 (mCons (mVar 1) (mCons (mC (.int 2)) mNil)) mNil)))))
def S4_law : Ms :=
  (mIfS (mB (mOp (pEqD false) (mVar 2) (mC (.int 0)))) (mSet 3 (mM1 pJoin (mC (.str "")) (mLc (mRng1 (mCall pf__law_take gN__law_take_2 2 0 (mCons (mVar 1) (mCons (mC (.int 20)) mNil)) mNil)) (gN 6) mYes E1_law [6]))) mNext)
def S5_law : Ms :=
  (mIfS (mB (mOp (pEqD false) (mVar 2) (mC (.int 1)))) (mSet 3 (mCall pf__law_take gN__law_take_2 2 0 (mCons (mVar 1) (mCons (mC (.int 9)) mNil)) mNil)) mNext)
def S6_law : Ms :=
  (mSet 4 (mLst (mCons (mC (.str "NoHouse")) (mCons (mC (.str "NoKey")) (mCons (mC (.str "NoNode")) (mCons (mC (.str "TooFar")) (mCons (mC (.str "NoLetter")) (mCons (mC (.str "NoTicket")) (mCons (mC (.str "NoNumber")) (mCons (mC (.str "NoSync")) (mCons (mC (.str "Nothing")) (mCons (mC (.str "NoDeed")) mNil))))))))))))
def S7_law : Ms :=
  (mFor (mIt (mOp pAdd (mVar 4) (mLst (mCons (mC (.str "NoHistory")) (mCons (mC (.str "NoText")) (mCons (mC (.str "NoName")) (mCons (mC (.str "NoLine")) mNil))))))) (gN 5)
  L1_law)
def S8_law : Ms :=
  (mIfS (mNot (mTru (mCB (one pAll) (mCons (mLc (mIt (mCall pf__law_fields gN__law_fields_1 1 0 (mCons (mVar 3) mNil) mNil)) (gN 7) mYes E2_law [7]) mNil)))) (mRet (mC (.bl false))) mNext)
def S9_law : Ms :=
  (mRet (mAndV (mCall pf__law_just gN__law_just_2 2 0 (mCons (mOnly (mCons (mVar 3) mNil)) (mCons (mVar 3) mNil)) mNil) (mCall pf__law_just gN__law_just_2 2 0 (mCons (mOnly (mCons (mVar 3) mNil)) (mCons (mVar 3) mNil)) mNil)))
def m_law : Ms :=
  (mSeq S1_law
  (mSeq S2_law
  (mSeq S3_law
  (mSeq S4_law
  (mSeq S5_law
  (mSeq S6_law
  (mSeq S7_law
  (mSeq S8_law
  S9_law))))))))
def pf_law : PF := runF 1 8 m_law
end
end PL
set_option Elab.async false
set_option linter.all false
set_option maxRecDepth 100000
set_option maxHeartbeats 4000000
namespace PL
open PySem PySem.Spec PyProof.Rows L2 LW
noncomputable section
def top (i : Nat) : Stmt := PySem.Challenge.pw_lendwell_k06_refusals_made.main.body.getD i (.Pass ⟨0, 0, 0, 0⟩)
structure Tx (K : Fg) (mg : Str → Option Value) : Prop where
  z_ValueError : mg "ValueError" = none
  z_abs : mg "abs" = none
  z_all : mg "all" = none
  z_bool : mg "bool" = none
  z_isinstance : mg "isinstance" = none
  z_len : mg "len" = none
  z_list : mg "list" = none
  z_range : mg "range" = none
  z_str : mg "str" = none
  z_tuple : mg "tuple" = none
  z_zip : mg "zip" = none
  g_LendError : mg "LendError" = some (.ref (He.ga K "LendError"))
  g_NoDeed : mg "NoDeed" = some (.ref (He.ga K "NoDeed"))
  g_NoHistory : mg "NoHistory" = some (.ref (He.ga K "NoHistory"))
  g_NoHouse : mg "NoHouse" = some (.ref (He.ga K "NoHouse"))
  g_NoKey : mg "NoKey" = some (.ref (He.ga K "NoKey"))
  g_NoLetter : mg "NoLetter" = some (.ref (He.ga K "NoLetter"))
  g_NoLine : mg "NoLine" = some (.ref (He.ga K "NoLine"))
  g_NoName : mg "NoName" = some (.ref (He.ga K "NoName"))
  g_NoNode : mg "NoNode" = some (.ref (He.ga K "NoNode"))
  g_NoNumber : mg "NoNumber" = some (.ref (He.ga K "NoNumber"))
  g_NoSync : mg "NoSync" = some (.ref (He.ga K "NoSync"))
  g_NoText : mg "NoText" = some (.ref (He.ga K "NoText"))
  g_NoTicket : mg "NoTicket" = some (.ref (He.ga K "NoTicket"))
  g_Nothing : mg "Nothing" = some (.ref (He.ga K "Nothing"))
  g_TooFar : mg "TooFar" = some (.ref (He.ga K "TooFar"))
structure Kx (K : Fg) (w : World) : Prop where
  tr : True
structure Cx0 (K : Fg) : Prop where
  cls : ClsOk K allC allF
structure Ex0 (K : Fg) : Prop where
  f : ExF K excC
  x_NoLine : (He.Fa.exc "NoLine").ok K = true
  init : CAt K (He.ga K "LendError") "__init__" (.builtin "ValueError.__init__")
  m_LendError : ExM K excC subC "LendError"
  q : ExQ K excC
  i_NoDeed : ExI K excC subC "NoDeed"
  i_NoHistory : ExI K excC subC "NoHistory"
  i_NoHouse : ExI K excC subC "NoHouse"
  i_NoKey : ExI K excC subC "NoKey"
  i_NoLetter : ExI K excC subC "NoLetter"
  i_NoLine : ExI K excC subC "NoLine"
  i_NoName : ExI K excC subC "NoName"
  i_NoNode : ExI K excC subC "NoNode"
  i_NoNumber : ExI K excC subC "NoNumber"
  i_NoSync : ExI K excC subC "NoSync"
  i_NoText : ExI K excC subC "NoText"
  i_NoTicket : ExI K excC subC "NoTicket"
  i_Nothing : ExI K excC subC "Nothing"
  i_TooFar : ExI K excC subC "TooFar"
  iT : ExT K excC "ValueError"
abbrev s__law_pool : Stmt := top 18
abbrev s__law_take : Stmt := top 19
abbrev s__law_signs : Stmt := top 17
abbrev s__law_just : Stmt := top 20
abbrev s_NoHouse___init__ : Stmt := inClass (top 2) 0
abbrev s_NoKey___init__ : Stmt := inClass (top 3) 0
abbrev s_NoNode___init__ : Stmt := inClass (top 4) 0
abbrev s_TooFar___init__ : Stmt := inClass (top 5) 0
abbrev s_NoLetter___init__ : Stmt := inClass (top 6) 0
abbrev s_NoTicket___init__ : Stmt := inClass (top 7) 0
abbrev s_NoNumber___init__ : Stmt := inClass (top 8) 0
abbrev s_NoSync___init__ : Stmt := inClass (top 9) 0
abbrev s_Nothing___init__ : Stmt := inClass (top 10) 0
abbrev s_NoDeed___init__ : Stmt := inClass (top 11) 0
abbrev s_NoHistory___init__ : Stmt := inClass (top 12) 0
abbrev s_NoText___init__ : Stmt := inClass (top 13) 0
abbrev s_NoName___init__ : Stmt := inClass (top 14) 0
abbrev s__law_sorts : Stmt := top 21
abbrev s__law_raised : Stmt := top 22
abbrev s__law_fields : Stmt := top 23
abbrev s_law : Stmt := top 24
end
end PL
set_option Elab.async false
set_option linter.all false
set_option maxRecDepth 100000
set_option maxHeartbeats 4000000
namespace PL
open PySem PySem.Spec PyProof.Rows L2 LW
noncomputable section
def d__law_pool : He.DefD := ⟨("_law_pool", none), "_law_pool", "_law_pool", defArgs s__law_pool, defBody s__law_pool, defScope s__law_pool, [], []⟩
def d__law_take : He.DefD := ⟨("_law_take", none), "_law_take", "_law_take", defArgs s__law_take, defBody s__law_take, defScope s__law_take, [], []⟩
def d__law_signs : He.DefD := ⟨("_law_signs", none), "_law_signs", "_law_signs", defArgs s__law_signs, defBody s__law_signs, defScope s__law_signs, [], []⟩
def d__law_just : He.DefD := ⟨("_law_just", none), "_law_just", "_law_just", defArgs s__law_just, defBody s__law_just, defScope s__law_just, [], []⟩
def d_NoHouse___init__ : He.DefD := ⟨("NoHouse", some "__init__"), "__init__", "NoHouse.__init__", defArgs s_NoHouse___init__, defBody s_NoHouse___init__, defScope s_NoHouse___init__, [], []⟩
def d_NoKey___init__ : He.DefD := ⟨("NoKey", some "__init__"), "__init__", "NoKey.__init__", defArgs s_NoKey___init__, defBody s_NoKey___init__, defScope s_NoKey___init__, [], []⟩
def d_NoNode___init__ : He.DefD := ⟨("NoNode", some "__init__"), "__init__", "NoNode.__init__", defArgs s_NoNode___init__, defBody s_NoNode___init__, defScope s_NoNode___init__, [], []⟩
def d_TooFar___init__ : He.DefD := ⟨("TooFar", some "__init__"), "__init__", "TooFar.__init__", defArgs s_TooFar___init__, defBody s_TooFar___init__, defScope s_TooFar___init__, [], []⟩
def d_NoLetter___init__ : He.DefD := ⟨("NoLetter", some "__init__"), "__init__", "NoLetter.__init__", defArgs s_NoLetter___init__, defBody s_NoLetter___init__, defScope s_NoLetter___init__, [], []⟩
def d_NoTicket___init__ : He.DefD := ⟨("NoTicket", some "__init__"), "__init__", "NoTicket.__init__", defArgs s_NoTicket___init__, defBody s_NoTicket___init__, defScope s_NoTicket___init__, [], []⟩
def d_NoNumber___init__ : He.DefD := ⟨("NoNumber", some "__init__"), "__init__", "NoNumber.__init__", defArgs s_NoNumber___init__, defBody s_NoNumber___init__, defScope s_NoNumber___init__, [], []⟩
def d_NoSync___init__ : He.DefD := ⟨("NoSync", some "__init__"), "__init__", "NoSync.__init__", defArgs s_NoSync___init__, defBody s_NoSync___init__, defScope s_NoSync___init__, [], []⟩
def d_Nothing___init__ : He.DefD := ⟨("Nothing", some "__init__"), "__init__", "Nothing.__init__", defArgs s_Nothing___init__, defBody s_Nothing___init__, defScope s_Nothing___init__, [], []⟩
def d_NoDeed___init__ : He.DefD := ⟨("NoDeed", some "__init__"), "__init__", "NoDeed.__init__", defArgs s_NoDeed___init__, defBody s_NoDeed___init__, defScope s_NoDeed___init__, [], []⟩
def d_NoHistory___init__ : He.DefD := ⟨("NoHistory", some "__init__"), "__init__", "NoHistory.__init__", defArgs s_NoHistory___init__, defBody s_NoHistory___init__, defScope s_NoHistory___init__, [], []⟩
def d_NoText___init__ : He.DefD := ⟨("NoText", some "__init__"), "__init__", "NoText.__init__", defArgs s_NoText___init__, defBody s_NoText___init__, defScope s_NoText___init__, [], []⟩
def d_NoName___init__ : He.DefD := ⟨("NoName", some "__init__"), "__init__", "NoName.__init__", defArgs s_NoName___init__, defBody s_NoName___init__, defScope s_NoName___init__, [], []⟩
def d__law_sorts : He.DefD := ⟨("_law_sorts", none), "_law_sorts", "_law_sorts", defArgs s__law_sorts, defBody s__law_sorts, defScope s__law_sorts, [], []⟩
def d__law_raised : He.DefD := ⟨("_law_raised", none), "_law_raised", "_law_raised", defArgs s__law_raised, defBody s__law_raised, defScope s__law_raised, [], []⟩
def d__law_fields : He.DefD := ⟨("_law_fields", none), "_law_fields", "_law_fields", defArgs s__law_fields, defBody s__law_fields, defScope s__law_fields, [], []⟩
def d_law : He.DefD := ⟨("law", none), "law", "law", defArgs s_law, defBody s_law, defScope s_law, [], []⟩
def fn : List He.DefD := ([d__law_pool, d__law_take, d__law_signs, d__law_just, d_NoHouse___init__, d_NoKey___init__, d_NoNode___init__, d_TooFar___init__, d_NoLetter___init__, d_NoTicket___init__, d_NoNumber___init__, d_NoSync___init__, d_Nothing___init__, d_NoDeed___init__, d_NoHistory___init__, d_NoText___init__, d_NoName___init__, d__law_sorts, d__law_raised, d__law_fields] : List He.DefD) ++ ([d_law] : List He.DefD)
def ts : List He.Tab := []
def fa : List He.Fa := ([.glo "_law_pool", .glo "_law_take", .glo "_law_signs", .glo "_law_just", .glo "_law_sorts", .glo "_law_raised", .glo "_law_fields", .glo "law", .glo "NoHouse", .glo "NoKey", .glo "NoNode", .glo "TooFar", .glo "NoLetter", .glo "NoTicket", .glo "NoNumber", .glo "NoSync", .glo "Nothing", .glo "NoDeed", .glo "NoHistory", .glo "NoText"] : List He.Fa) ++ ([.glo "NoName", .free "ValueError", .free "abs", .free "all", .free "bool", .free "isinstance", .free "len", .free "list", .free "range", .free "str", .free "tuple", .free "zip", .glo "LendError", .glo "NoLine"] : List He.Fa)
def exK0 (K : Fg) : Bool := (clsB K allC allF && true)
def exK1 (K : Fg) : Bool := (xfsB K excC && (oexB K (He.ga K "NoHouse") && (He.eqO (PySem.W.findIn K (.ref (He.ga K "NoHouse")) "__init__") (some (some (.ref (He.ma K (He.ga K "NoHouse") "__init__")))) && (decide (PySem.W.typeIn K (.ref (He.ma K (He.ga K "NoHouse") "__init__")) = some (.type "function")) && (oexB K (He.ga K "NoKey") && (He.eqO (PySem.W.findIn K (.ref (He.ga K "NoKey")) "__init__") (some (some (.ref (He.ma K (He.ga K "NoKey") "__init__")))) && true))))))
def exK2 (K : Fg) : Bool := (decide (PySem.W.typeIn K (.ref (He.ma K (He.ga K "NoKey") "__init__")) = some (.type "function")) && (oexB K (He.ga K "NoNode") && (He.eqO (PySem.W.findIn K (.ref (He.ga K "NoNode")) "__init__") (some (some (.ref (He.ma K (He.ga K "NoNode") "__init__")))) && (decide (PySem.W.typeIn K (.ref (He.ma K (He.ga K "NoNode") "__init__")) = some (.type "function")) && (oexB K (He.ga K "TooFar") && (He.eqO (PySem.W.findIn K (.ref (He.ga K "TooFar")) "__init__") (some (some (.ref (He.ma K (He.ga K "TooFar") "__init__")))) && (decide (PySem.W.typeIn K (.ref (He.ma K (He.ga K "TooFar") "__init__")) = some (.type "function")) && (oexB K (He.ga K "NoLetter") && true))))))))
def exK3 (K : Fg) : Bool := (He.eqO (PySem.W.findIn K (.ref (He.ga K "NoLetter")) "__init__") (some (some (.ref (He.ma K (He.ga K "NoLetter") "__init__")))) && (decide (PySem.W.typeIn K (.ref (He.ma K (He.ga K "NoLetter") "__init__")) = some (.type "function")) && (oexB K (He.ga K "NoTicket") && (He.eqO (PySem.W.findIn K (.ref (He.ga K "NoTicket")) "__init__") (some (some (.ref (He.ma K (He.ga K "NoTicket") "__init__")))) && (decide (PySem.W.typeIn K (.ref (He.ma K (He.ga K "NoTicket") "__init__")) = some (.type "function")) && (oexB K (He.ga K "NoNumber") && (He.eqO (PySem.W.findIn K (.ref (He.ga K "NoNumber")) "__init__") (some (some (.ref (He.ma K (He.ga K "NoNumber") "__init__")))) && (decide (PySem.W.typeIn K (.ref (He.ma K (He.ga K "NoNumber") "__init__")) = some (.type "function")) && true))))))))
def exK4 (K : Fg) : Bool := (oexB K (He.ga K "NoSync") && (He.eqO (PySem.W.findIn K (.ref (He.ga K "NoSync")) "__init__") (some (some (.ref (He.ma K (He.ga K "NoSync") "__init__")))) && (decide (PySem.W.typeIn K (.ref (He.ma K (He.ga K "NoSync") "__init__")) = some (.type "function")) && (oexB K (He.ga K "Nothing") && (He.eqO (PySem.W.findIn K (.ref (He.ga K "Nothing")) "__init__") (some (some (.ref (He.ma K (He.ga K "Nothing") "__init__")))) && (decide (PySem.W.typeIn K (.ref (He.ma K (He.ga K "Nothing") "__init__")) = some (.type "function")) && (oexB K (He.ga K "NoDeed") && (He.eqO (PySem.W.findIn K (.ref (He.ga K "NoDeed")) "__init__") (some (some (.ref (He.ma K (He.ga K "NoDeed") "__init__")))) && true))))))))
def exK5 (K : Fg) : Bool := (decide (PySem.W.typeIn K (.ref (He.ma K (He.ga K "NoDeed") "__init__")) = some (.type "function")) && (oexB K (He.ga K "NoHistory") && (He.eqO (PySem.W.findIn K (.ref (He.ga K "NoHistory")) "__init__") (some (some (.ref (He.ma K (He.ga K "NoHistory") "__init__")))) && (decide (PySem.W.typeIn K (.ref (He.ma K (He.ga K "NoHistory") "__init__")) = some (.type "function")) && (oexB K (He.ga K "NoText") && (He.eqO (PySem.W.findIn K (.ref (He.ga K "NoText")) "__init__") (some (some (.ref (He.ma K (He.ga K "NoText") "__init__")))) && (decide (PySem.W.typeIn K (.ref (He.ma K (He.ga K "NoText") "__init__")) = some (.type "function")) && (oexB K (He.ga K "NoName") && true))))))))
def exK6 (K : Fg) : Bool := (He.eqO (PySem.W.findIn K (.ref (He.ga K "NoName")) "__init__") (some (some (.ref (He.ma K (He.ga K "NoName") "__init__")))) && (decide (PySem.W.typeIn K (.ref (He.ma K (He.ga K "NoName") "__init__")) = some (.type "function")) && (catB K (He.ga K "LendError") "__init__" (.builtin "ValueError.__init__") && (exmB K excC subC "LendError" && ((He.Fa.exc "NoLine").ok K && true)))))
def exK7 (K : Fg) : Bool := (exqB K excC && (exiB K excC subC "NoDeed" && (exiB K excC subC "NoHistory" && (exiB K excC subC "NoHouse" && (exiB K excC subC "NoKey" && true)))))
def exK8 (K : Fg) : Bool := (exiB K excC subC "NoLetter" && (exiB K excC subC "NoLine" && (exiB K excC subC "NoName" && (exiB K excC subC "NoNode" && (exiB K excC subC "NoNumber" && (exiB K excC subC "NoSync" && (exiB K excC subC "NoText" && (exiB K excC subC "NoTicket" && true))))))))
def exK9 (K : Fg) : Bool := (exiB K excC subC "Nothing" && (exiB K excC subC "TooFar" && (extB K excC "ValueError" && true)))
def exK (K : Fg) : Bool := (exK0 K && (exK1 K && (exK2 K && (exK3 K && (exK4 K && (exK5 K && (exK6 K && (exK7 K && (exK8 K && (exK9 K && true))))))))))
end
end PL
set_option Elab.async false
set_option linter.all false
set_option maxRecDepth 100000
set_option maxHeartbeats 0
namespace PL
open PySem PySem.W PySem.Calls PyProof.Rows HandSHeadRun
def loose0 : List PySem.Str := ["LendError", "NoHouse", "NoKey", "NoNode", "TooFar", "NoLetter", "NoTicket", "NoNumber", "NoSync", "Nothing", "NoDeed", "NoHistory", "NoText", "NoName", "NoLine", "_law_signs", "_law_pool", "_law_take", "_law_just", "_law_sorts", "_law_raised", "_law_fields"]
def loose : List PySem.Str := loose0
abbrev R : PySem.W.OpenRow := PySem.W.OpenLaw.row PySem.Challenge.rw_lendwell_k06_refusals_made
def asK : List Addr := mainGlobals :: (List.range 2500).reverse
abbrev hk : PySem.W.Hook := hookS asK fa fn ts exK
def ob (s : PySem.W.SharedT) : AlS := obsS asK fa fn ts exK (HandSHeadRun.getT s)
theorem ob_eq (s : PySem.W.SharedT) : ob s = hk.obs s.abs := obsS_eq (HandSHeadRun.getT_eq s)
theorem a1 (w : World) (os : OsState) : (endF (stepQ (denQ tabQ) R.prog w) 40000 R.prog w os).map (fun s => looksF R.prog (boot_heap w.params) s.abs) = some true := by kernel_rfl
theorem a2 (w : World) (os : OsState) : (endF (stepQ (denQ tabQ) R.prog w) 40000 R.prog w os).map (fun s => seenQ (PySem.W.view R.prog [24]) loose (importedModules R.prog.main.body) (fun s => xlAt (PySem.W.view R.prog [24]) [] s && recOk R.toRowW.records s) s.abs) = some (openGood (PySem.W.view R.prog [24]) loose) := by kernel_rfl
theorem a3_0 (w : World) (os : OsState) : (endF (stepQ (denQ tabQ) R.prog w) 40000 R.prog w os).map (fun s => exK0 (frL (getT s) asK)) = some true := by kernel_rfl
theorem a3_1 (w : World) (os : OsState) : (endF (stepQ (denQ tabQ) R.prog w) 40000 R.prog w os).map (fun s => exK1 (frL (getT s) asK)) = some true := by kernel_rfl
theorem a3_2 (w : World) (os : OsState) : (endF (stepQ (denQ tabQ) R.prog w) 40000 R.prog w os).map (fun s => exK2 (frL (getT s) asK)) = some true := by kernel_rfl
theorem a3_3 (w : World) (os : OsState) : (endF (stepQ (denQ tabQ) R.prog w) 40000 R.prog w os).map (fun s => exK3 (frL (getT s) asK)) = some true := by kernel_rfl
theorem a3_4 (w : World) (os : OsState) : (endF (stepQ (denQ tabQ) R.prog w) 40000 R.prog w os).map (fun s => exK4 (frL (getT s) asK)) = some true := by kernel_rfl
theorem a3_5 (w : World) (os : OsState) : (endF (stepQ (denQ tabQ) R.prog w) 40000 R.prog w os).map (fun s => exK5 (frL (getT s) asK)) = some true := by kernel_rfl
theorem a3_6 (w : World) (os : OsState) : (endF (stepQ (denQ tabQ) R.prog w) 40000 R.prog w os).map (fun s => exK6 (frL (getT s) asK)) = some true := by kernel_rfl
theorem a3_7 (w : World) (os : OsState) : (endF (stepQ (denQ tabQ) R.prog w) 40000 R.prog w os).map (fun s => exK7 (frL (getT s) asK)) = some true := by kernel_rfl
theorem a3_8 (w : World) (os : OsState) : (endF (stepQ (denQ tabQ) R.prog w) 40000 R.prog w os).map (fun s => exK8 (frL (getT s) asK)) = some true := by kernel_rfl
theorem a3_9 (w : World) (os : OsState) : (endF (stepQ (denQ tabQ) R.prog w) 40000 R.prog w os).map (fun s => exK9 (frL (getT s) asK)) = some true := by kernel_rfl
theorem a3 (w : World) (os : OsState) : (endF (stepQ (denQ tabQ) R.prog w) 40000 R.prog w os).map (fun s => exK (frL (getT s) asK)) = some true := map_ba (a3_0 w os) (map_ba (a3_1 w os) (map_ba (a3_2 w os) (map_ba (a3_3 w os) (map_ba (a3_4 w os) (map_ba (a3_5 w os) (map_ba (a3_6 w os) (map_ba (a3_7 w os) (map_ba (a3_8 w os) (map_ba (a3_9 w os) (map_tt (a3_0 w os)))))))))))
theorem a4 (w : World) (os : OsState) : (endF (stepQ (denQ tabQ) R.prog w) 40000 R.prog w os).map (fun s => He.obsD fa [] (frL (getT s) asK)) = some (He.valD []) := by kernel_rfl
theorem a5 (w : World) (os : OsState) : (endF (stepQ (denQ tabQ) R.prog w) 40000 R.prog w os).map (fun s => He.obsD [] fn (frL (getT s) asK)) = some (He.valD fn) := by kernel_rfl
theorem run (w : World) : HandSHeadRun.RunEq R (PySem.W.view R.prog [24]) hk ob 40000 loose w := run_parts (a1 w) (a2 w) (a3 w) (a4 w) (a5 w)
end PL
set_option Elab.async false
set_option linter.all false
set_option maxRecDepth 100000
set_option maxHeartbeats 1000000
set_option autoImplicit false
namespace PL
open PySem PySem.Spec PyProof.Rows L2 LW
noncomputable section
/-! ### comprehensions over mapped lists -/
theorem lc_on {α : Type} {g : Option (Nat × PO)} {tg : Mg} {tt : Mx Bool} {te : Mx PV} {env0 : Env} {st : Store} (mk : α → PV) (e : α → Env) (b : α → Bool) (f : α → PV) (hg : guardOk g st = true) : ∀ (ys : List α) (acc : List PV), acc.length + ys.length ≤ sizeLine →
    (∀ y ∈ ys, tg (mk y) env0 st = .ok (e y) st ∧ tt (e y) st = .ok (b y) st ∧ (b y = true → te (e y) st = .ok (f y) st)) → mLcL g tg tt te env0 (ys.map mk) acc st = .ok (.ref st.length) (st ++ [.lst (acc ++ (ys.filter b).map f)])
  | [], acc, _, _ => by simp [mLcL, hg, alloc]
  | x :: xs, acc, hl, h => by
    rw [List.length_cons] at hl
    obtain ⟨h1, h2, h3⟩ := h x List.mem_cons_self
    cases hb : b x with
    | true =>
      have := lc_on mk e b f hg xs (acc ++ [f x]) (by simp; omega) fun y hy => h y (List.mem_cons_of_mem _ hy)
      simp [mLcL, hg, h1, h2, hb, h3 hb, show acc.length < sizeLine by omega, this]
    | false =>
      have := lc_on mk e b f hg xs acc (by omega) fun y hy => h y (List.mem_cons_of_mem _ hy)
      simp [mLcL, hg, h1, h2, hb, this]
theorem lc_on1 {α : Type} {g : Option (Nat × PO)} {tg : Mg} {te : Mx PV} {env0 : Env} {st : Store} (mk : α → PV) (e : α → Env) (f : α → PV) (hg : guardOk g st = true) (ys : List α) (hl : ys.length ≤ sizeLine)
    (h : ∀ y ∈ ys, tg (mk y) env0 st = .ok (e y) st ∧ te (e y) st = .ok (f y) st) : mLcL g tg mYes te env0 (ys.map mk) [] st = .ok (.ref st.length) (st ++ [.lst (ys.map f)]) := by
  have := lc_on (tt := mYes) (te := te) mk e (fun _ => true) f hg ys [] (by simpa using hl) fun y hy => ⟨(h y hy).1, rfl, fun _ => (h y hy).2⟩
  rw [this, List.filter_eq_self.mpr fun _ _ => rfl, List.nil_append]
theorem lst_allf {α : Type} {st : Store} {p : Nat} {l : List α} {f : α → Bool} (h : st[p]? = some (.lst (l.map fun c => .bl (f c)))) : pAll (.ref p) st = .ok (.bl (l.all f)) st := by
  have := lst_all (bs := l.map f) (p := p) (st := st) (by rw [List.map_map]; exact h)
  rw [this, List.all_map]
  rfl
/-- .. where each item may leave something new -/
theorem lc_ext {α : Type} {g : Option (Nat × PO)} {tg : Mg} {tt : Mx Bool} {te : Mx PV} {env0 : Env} {st0 : Store} (mk : α → PV) (e : α → Env) (b : α → Bool) (f : α → PV) (hg : ∀ st, Kp0 st0 st → guardOk g st = true) : ∀ (ys : List α) (acc : List PV) (st : Store), Kp0 st0 st → acc.length + ys.length ≤ sizeLine →
    (∀ y ∈ ys, ∀ st, Kp0 st0 st → ∃ st1 st2, tg (mk y) env0 st = .ok (e y) st ∧ tt (e y) st = .ok (b y) st1 ∧ Kp0 st st1 ∧ (b y = true → te (e y) st1 = .ok (f y) st2) ∧ Kp0 st1 st2) →
    ∃ st', mLcL g tg tt te env0 (ys.map mk) acc st = .ok (.ref st'.length) (st' ++ [.lst (acc ++ (ys.filter b).map f)]) ∧ Kp0 st st'
  | [], acc, st, hk, _, _ => ⟨st, by simp [mLcL, hg st hk, alloc], Kp0.refl⟩
  | x :: xs, acc, st, hk, hl, h => by
    rw [List.length_cons] at hl
    obtain ⟨st1, st2, h1, h2, k1, h3, k2⟩ := h x List.mem_cons_self st hk
    cases hb : b x with
    | true =>
      obtain ⟨st', e', k'⟩ := lc_ext mk e b f hg xs (acc ++ [f x]) st2 (hk.trans (k1.trans k2)) (by simp; omega) fun y hy => h y (List.mem_cons_of_mem _ hy)
      exact ⟨st', by simp [mLcL, hg st hk, h1, h2, hb, h3 hb, show acc.length < sizeLine by omega, e'], k1.trans (k2.trans k')⟩
    | false =>
      obtain ⟨st', e', k'⟩ := lc_ext mk e b f hg xs acc st1 (hk.trans k1) (by omega) fun y hy => h y (List.mem_cons_of_mem _ hy)
      exact ⟨st', by simp [mLcL, hg st hk, h1, h2, hb, e'], k1.trans k'⟩
theorem guard_kp {st0 st : Store} {p : Nat} {o : PO} (h : st0[p]? = some o) (k : Kp0 st0 st) : guardOk (some (p, o)) st = true := by
  simp [guardOk, k p o h]
/-! ### small numbers are below the line -/
@[simp] theorem sz_0 : (0 : Nat) ≤ sizeLine := by decide
@[simp] theorem sz_1 : (1 : Nat) ≤ sizeLine := by decide
@[simp] theorem sz_2 : (2 : Nat) ≤ sizeLine := by decide
@[simp] theorem sz_3 : (3 : Nat) ≤ sizeLine := by decide
@[simp] theorem sz_4 : (4 : Nat) ≤ sizeLine := by decide
@[simp] theorem sz_5 : (5 : Nat) ≤ sizeLine := by decide
@[simp] theorem sz_6 : (6 : Nat) ≤ sizeLine := by decide
@[simp] theorem sz_7 : (7 : Nat) ≤ sizeLine := by decide
@[simp] theorem sz_8 : (8 : Nat) ≤ sizeLine := by decide
@[simp] theorem sz_9 : (9 : Nat) ≤ sizeLine := by decide
@[simp] theorem sz_10 : (10 : Nat) ≤ sizeLine := by decide
@[simp] theorem sz_11 : (11 : Nat) ≤ sizeLine := by decide
@[simp] theorem sz_12 : (12 : Nat) ≤ sizeLine := by decide
@[simp] theorem sz_13 : (13 : Nat) ≤ sizeLine := by decide
@[simp] theorem sz_14 : (14 : Nat) ≤ sizeLine := by decide
@[simp] theorem sz_15 : (15 : Nat) ≤ sizeLine := by decide
@[simp] theorem sz_16 : (16 : Nat) ≤ sizeLine := by decide
@[simp] theorem sz_17 : (17 : Nat) ≤ sizeLine := by decide
@[simp] theorem sz_18 : (18 : Nat) ≤ sizeLine := by decide
@[simp] theorem sz_19 : (19 : Nat) ≤ sizeLine := by decide
@[simp] theorem sz_20 : (20 : Nat) ≤ sizeLine := by decide
@[simp] theorem sz_21 : (21 : Nat) ≤ sizeLine := by decide
@[simp] theorem sz_22 : (22 : Nat) ≤ sizeLine := by decide
@[simp] theorem sz_23 : (23 : Nat) ≤ sizeLine := by decide
@[simp] theorem sz_24 : (24 : Nat) ≤ sizeLine := by decide
@[simp] theorem sz_25 : (25 : Nat) ≤ sizeLine := by decide
@[simp] theorem sz_26 : (26 : Nat) ≤ sizeLine := by decide
@[simp] theorem sz_27 : (27 : Nat) ≤ sizeLine := by decide
@[simp] theorem sz_28 : (28 : Nat) ≤ sizeLine := by decide
@[simp] theorem sz_29 : (29 : Nat) ≤ sizeLine := by decide
@[simp] theorem sz_30 : (30 : Nat) ≤ sizeLine := by decide
/-! ### texts -/
@[simp] theorem ofString_inj {a b : String} : Str.ofString a = Str.ofString b ↔ a = b := by
  constructor
  · intro h
    rw [Str.ofString_eq_toList, Str.ofString_eq_toList] at h
    have h1 : (a.toList.map Char.toNat).toArray = (b.toList.map Char.toNat).toArray := congrArg Str.cps h
    have h2 : a.toList.map Char.toNat = b.toList.map Char.toNat := congrArg Array.toList h1
    have inj : ∀ l m : List Char, l.map Char.toNat = m.map Char.toNat → l = m := by
      intro l
      induction l with
      | nil => intro m h; cases m with
        | nil => rfl
        | cons c m => simp at h
      | cons c l ih =>
        intro m h
        cases m with
        | nil => simp at h
        | cons d m =>
          simp only [List.map_cons, List.cons.injEq] at h
          rw [ih m h.2, show c = d from Char.ext (UInt32.toNat_inj.mp h.1)]
    exact String.toList_inj.mp (inj _ _ h2)
  · intro h; rw [h]
def sg (c : Nat) : Str := ⟨#[c]⟩
theorem strItems_eq (x : Str) : strItems x = (x.cps.toList).map fun c => PV.str (sg c) := rfl
theorem in_sg {c : Nat} {z : Str} {st : Store} : pIn false (.str (sg c)) (.str z) st = .ok (.bl (decide (c ∈ z.cps.toList))) st := rfl
theorem in_lst {a : PV} {v : V} {xs : List PV} {vs : List V} {p : Nat} {st : Store} (h : st[p]? = some (.lst xs)) (ha : flatOf a = some v) (hx : flatsOf xs = some vs) : pIn false a (.ref p) st = .ok (.bl (inV v vs)) st := by
  simp [pIn, lst_nodict h, pInSeq, lst_items h, ha, hx]
def lettersS : List Nat := List.range' 97 26
def digitsS : List Nat := List.range' 48 10
theorem letters_tl : ("abcdefghijklmnopqrstuvwxyz" : Str).cps.toList = lettersS := by decide +kernel
theorem digits_tl : ("0123456789" : Str).cps.toList = digitsS := by decide +kernel
theorem mem_letters {c : Nat} : c ∈ lettersS ↔ 97 ≤ c ∧ c ≤ 122 := by
  simp [lettersS, List.mem_range'_1]
  omega
theorem mem_digits {c : Nat} : c ∈ digitsS ↔ 48 ≤ c ∧ c ≤ 57 := by
  simp [digitsS, List.mem_range'_1]
  omega
def isKeyB (x : Str) : Bool := decide (0 < x.length) && (decide (x.length ≤ 8) && x.cps.toList.all fun c => decide (c ∈ lettersS))
def figB (x : Str) (m : Nat) : Bool := decide (0 < x.length) && (decide (x.length ≤ m) && (x.cps.toList.all (fun c => decide (c ∈ digitsS)) && (decide (x = "0") || !decide (x.cps.toList.head? = some 48))))
def markB (x : Str) : Bool := decide (2 ≤ (Txt.split x ",").length) && (decide ((Txt.split x ",").length ≤ 6) && (Txt.split x ",").all fun p => figB p 4)
def minusB (x : Str) : Bool := decide (x.cps.toList.head? = some 45)
def dropS (x : Str) : Str := ⟨(x.cps.toList.drop 1).toArray⟩
def fitB (kind word : Str) : Bool := if kind = "key" then isKeyB word else if kind = "worth" ∧ minusB word = true then !decide (word = "-0") && figB (dropS word) 40 else if kind = "marks" then markB word else figB word (if kind = "worth" then 40 else 4)
theorem cut1 {x : Str} : cutS x none (some 1) = ⟨(x.cps.toList.take 1).toArray⟩ := by
  have e : (x.cps.toList.take (min 1 x.length)) = x.cps.toList.take 1 := by
    rcases Nat.lt_or_ge x.length 1 with h | h
    · have : x.cps.toList.length = x.length := by simp [Str.length]
      rw [Nat.min_eq_right (by omega), List.take_of_length_le (by omega), List.take_of_length_le (by omega)]
    · rw [Nat.min_eq_left h]
  unfold cutS
  simp only [HT.sIx, List.drop_zero, Nat.sub_zero]
  rw [show min (1 : Int).toNat x.length = min 1 x.length from rfl]
  show (⟨(x.cps.toList.take (min 1 x.length)).toArray⟩ : Str) = _
  rw [e]
theorem cut_from1 {x : Str} : cutS x (some 1) none = dropS x := by
  have hl : x.cps.toList.length = x.length := by simp [Str.length]
  unfold cutS dropS
  simp only [HT.sIx]
  show (⟨((x.cps.toList.drop (min 1 x.length)).take (x.length - min 1 x.length)).toArray⟩ : Str) = _
  have e : (x.cps.toList.drop (min 1 x.length)).take (x.length - min 1 x.length) = x.cps.toList.drop 1 := by
    rcases Nat.lt_or_ge x.length 1 with h | h
    · rw [Nat.min_eq_right (by omega)]
      have : x.cps.toList = [] := List.length_eq_zero_iff.mp (by omega)
      simp [this]
    · rw [Nat.min_eq_left h, List.take_of_length_le (by rw [List.length_drop, hl]; exact Nat.le_refl _)]
  rw [e]
theorem cut1_minus {x : Str} : decide (cutS x none (some 1) = ("-" : Str)) = minusB x := by
  rw [cut1]
  unfold minusB
  have hm : ("-" : Str) = ⟨#[45]⟩ := by decide +kernel
  rw [hm]
  cases h : x.cps.toList with
  | nil => simp
  | cons c l => simp
theorem dropS_len {x : Str} : (dropS x).length = x.length - 1 := by
  simp [dropS, Str.length]
end
end PL
set_option Elab.async false
set_option linter.all false
set_option maxRecDepth 100000
set_option maxHeartbeats 1000000
set_option autoImplicit false
namespace PL
open PySem PySem.Spec PyProof.Rows L2 LW
noncomputable section
def fldO (cs : List Str) (f : Str) (s : Store) : Option PO → Res PV
  | some (.ins c fs) => if c ∈ cs then opt (pfld fs f) s else .bad
  | _ => .bad
@[simp] theorem fldO_ins {cs : List Str} {f : Str} {s : Store} {c : Str} {fs : List (Str × PV)} : fldO cs f s (some (.ins c fs)) = if c ∈ cs then opt (pfld fs f) s else .bad := rfl
def fldG (cs : List Str) (f : Str) (x : PV) (s : Store) : Res PV := match x with
  | .ref i => fldO cs f s s[i]?
  | _ => .bad
@[simp] theorem fldG_ref {cs : List Str} {f : Str} {i : Nat} {s : Store} : fldG cs f (.ref i) s = fldO cs f s s[i]? := rfl
@[simp] theorem pfld_nil {f : Str} : pfld [] f = none := rfl
@[simp] theorem pfld_cons {g f : Str} {v : PV} {r : List (Str × PV)} : pfld ((g, v) :: r) f = if g = f then some v else pfld r f := rfl
@[simp] theorem pputF_nil {f : Str} {v : PV} : pputF f v [] = [(f, v)] := rfl
@[simp] theorem pputF_cons {g f : Str} {u v : PV} {r : List (Str × PV)} : pputF f v ((g, u) :: r) = if g = f then (g, v) :: r else (g, u) :: pputF f v r := rfl
def fldK (cs : List Str) (f : Str) : Res PV → Res PV
  | .ok x s => fldG cs f x s
  | .exc c y s => .exc c y s
  | .bad => .bad
@[simp] theorem fldK_ok {cs : List Str} {f : Str} {x : PV} {s : Store} : fldK cs f (.ok x s) = fldG cs f x s := id rfl
@[simp] theorem fldK_exc {cs : List Str} {f : Str} {c : Str} {y : PV} {s : Store} : fldK cs f (.exc c y s) = .exc c y s := id rfl
@[simp] theorem mFld_ap {cs : List Str} {f : Str} {a : Mx PV} {env : Env} {st : Store} : mFld cs f a env st = fldK cs f (a env st) := by
  simp only [mFld]
  cases a env st with
  | ok x s => cases x with
    | ref i => simp only [bnd_ok, fldK, fldG, fldO]; cases h : s[i]? with
      | none => rfl
      | some o => cases o <;> first | rfl | (simp only [opt]; rename_i c fs; by_cases hc : c ∈ cs <;> simp only [hc, if_true, if_false] <;> cases pfld fs f <;> rfl)
    | _ => rfl
  | _ => rfl
def sfl (env : Env) : Option Store → Fl
  | some s => .nx env s
  | none => .bad
@[simp] theorem sfl_some {env : Env} {s : Store} : sfl env (some s) = .nx env s := rfl
def setO (cs : List Str) (f : Str) (v : PV) (i : Nat) (st : Store) : Option PO → Option Store
  | some (.ins c fs) => if c ∈ cs ∧ fs.length < 1000 then some (st.set i (.ins c (pputF f v fs))) else none
  | _ => none
@[simp] theorem setO_ins {cs : List Str} {f : Str} {v : PV} {i : Nat} {st : Store} {c : Str} {fs : List (Str × PV)} : setO cs f v i st (some (.ins c fs)) = if c ∈ cs ∧ fs.length < 1000 then some (st.set i (.ins c (pputF f v fs))) else none := rfl
@[simp] theorem setFld_ref {cs : List Str} {f : Str} {v : PV} {i : Nat} {st : Store} : setFld cs f v (.ref i) st = setO cs f v i st st[i]? := rfl
def sfldK2 (cs : List Str) (f : Str) (z : PV) (env : Env) : Res PV → Fl
  | .ok x s => sfl env (setFld cs f z x s)
  | .exc c y s => .exc c y env s
  | .bad => .bad
@[simp] theorem sfldK2_ok {cs : List Str} {f : Str} {z : PV} {env : Env} {x : PV} {s : Store} : sfldK2 cs f z env (.ok x s) = sfl env (setFld cs f z x s) := id rfl
@[simp] theorem sfldK2_exc {cs : List Str} {f : Str} {z : PV} {env : Env} {c : Str} {y : PV} {s : Store} : sfldK2 cs f z env (.exc c y s) = .exc c y env s := id rfl
def sfldK (cs : List Str) (f : Str) (a : Mx PV) (env : Env) : Res PV → Fl
  | .ok x s => sfldK2 cs f x env (a env s)
  | .exc c y s => .exc c y env s
  | .bad => .bad
@[simp] theorem sfldK_ok {cs : List Str} {f : Str} {a : Mx PV} {env : Env} {x : PV} {s : Store} : sfldK cs f a env (.ok x s) = sfldK2 cs f x env (a env s) := id rfl
@[simp] theorem sfldK_exc {cs : List Str} {f : Str} {a : Mx PV} {env : Env} {c : Str} {y : PV} {s : Store} : sfldK cs f a env (.exc c y s) = .exc c y env s := id rfl
@[simp] theorem mSetFld_ap {cs : List Str} {f : Str} {a : Mx PV} {v : Mx PV} {env : Env} {st : Store} : mSetFld cs f a v env st = sfldK cs f a env (v env st) := by
  simp only [mSetFld]
  cases v env st with
  | ok x s => simp only [stm_ok, sfldK]; cases a env s with
    | ok y s2 => simp only [stm_ok, sfldK2]; cases setFld cs f x y s2 <;> rfl
    | _ => rfl
  | _ => rfl
def optE (env : Env) : Option Store → Res Env
  | some s => .ok env s
  | none => .bad
@[simp] theorem optE_some {env : Env} {s : Store} : optE env (some s) = .ok env s := rfl
def gfK (cs : List Str) (f : Str) (y : PV) (env : Env) : Res PV → Res Env
  | .ok x s => optE env (setFld cs f y x s)
  | _ => .bad
@[simp] theorem gfK_ok {cs : List Str} {f : Str} {y : PV} {env : Env} {x : PV} {s : Store} : gfK cs f y env (.ok x s) = optE env (setFld cs f y x s) := rfl
@[simp] theorem gF_ap {cs : List Str} {f : Str} {a : Mx PV} {y : PV} {env : Env} {st : Store} : gF cs f a y env st = gfK cs f y env (a env st) := by
  simp only [gF]
  cases a env st with
  | ok x s => simp only [gfK]; cases setFld cs f y x s <;> rfl
  | _ => rfl
def gandK (b : Mg) (x : PV) : Res Env → Res Env
  | .ok env s => b x env s
  | _ => .bad
@[simp] theorem gandK_ok {b : Mg} {x : PV} {env : Env} {s : Store} : gandK b x (.ok env s) = b x env s := rfl
@[simp] theorem gAnd_ap {a b : Mg} {x : PV} {env : Env} {st : Store} : gAnd a b x env st = gandK b x (a x env st) := by
  simp only [gAnd]
  cases a x env st <;> rfl
@[simp] theorem mDNew_ap {o : PO} {env : Env} {st : Store} : mDNew o env st = .ok (.ref st.length) (st ++ [o]) := rfl
def makeK3 (a : Nat) : Res PV → Res PV
  | .ok .non s => .ok (.ref a) s
  | .exc d y s => .exc d y s
  | _ => .bad
@[simp] theorem makeK3_ok {a : Nat} {s : Store} : makeK3 a (.ok .non s) = .ok (.ref a) s := rfl
@[simp] theorem makeK3_exc {a : Nat} {d : Str} {y : PV} {s : Store} : makeK3 a (.exc d y s) = .exc d y s := rfl
def makeK2 (c : Str) (pf : PF) (gP : List PV → List PV → List PV) (n : Nat) (kn : Nat) (xs : List PV) : Res (List PV) → Res PV
  | .ok x s => if xs.length = n ∧ x.length = kn then makeK3 s.length (pf (gP (.ref s.length :: xs) x) (s ++ [.ins c []])) else .bad
  | .exc c y s => .exc c y s
  | .bad => .bad
@[simp] theorem makeK2_ok {c : Str} {pf : PF} {gP : List PV → List PV → List PV} {n : Nat} {kn : Nat} {xs : List PV} {x : (List PV)} {s : Store} : makeK2 c pf gP n kn xs (.ok x s) = if xs.length = n ∧ x.length = kn then makeK3 s.length (pf (gP (.ref s.length :: xs) x) (s ++ [.ins c []])) else .bad := id rfl
@[simp] theorem makeK2_exc {c : Str} {pf : PF} {gP : List PV → List PV → List PV} {n : Nat} {kn : Nat} {xs : List PV} {c : Str} {y : PV} {s : Store} : makeK2 c pf gP n kn xs (.exc c y s) = .exc c y s := id rfl
def makeK (c : Str) (pf : PF) (gP : List PV → List PV → List PV) (n : Nat) (kn : Nat) (ks : Mx (List PV)) (env : Env) : Res (List PV) → Res PV
  | .ok x s => makeK2 c pf gP n kn x (ks env s)
  | .exc c y s => .exc c y s
  | .bad => .bad
@[simp] theorem makeK_ok {c : Str} {pf : PF} {gP : List PV → List PV → List PV} {n : Nat} {kn : Nat} {ks : Mx (List PV)} {env : Env} {x : (List PV)} {s : Store} : makeK c pf gP n kn ks env (.ok x s) = makeK2 c pf gP n kn x (ks env s) := id rfl
@[simp] theorem makeK_exc {c : Str} {pf : PF} {gP : List PV → List PV → List PV} {n : Nat} {kn : Nat} {ks : Mx (List PV)} {env : Env} {c : Str} {y : PV} {s : Store} : makeK c pf gP n kn ks env (.exc c y s) = .exc c y s := id rfl
@[simp] theorem mMake_ap {c : Str} {pf : PF} {gP : List PV → List PV → List PV} {n : Nat} {kn : Nat} {as : Mx (List PV)} {ks : Mx (List PV)} {env : Env} {st : Store} : mMake c pf gP n kn as ks env st = makeK c pf gP n kn ks env (as env st) := by
  simp only [mMake]
  cases as env st with
  | ok x s => simp only [bnd_ok, makeK]; cases ks env s with
    | ok zs s2 =>
      simp only [bnd_ok, makeK2]
      by_cases h : x.length = n ∧ zs.length = kn
      · rw [if_pos h, if_pos h]
        cases pf (gP (.ref s2.length :: x) zs) (s2 ++ [.ins c []]) with
        | ok v s3 => cases v <;> rfl
        | _ => rfl
      · rw [if_neg h, if_neg h]
    | _ => rfl
  | _ => rfl
def methK3 (pf : PF) (gP : List PV → List PV → List PV) (n : Nat) (kn : Nat) (o : PV) (xs : List PV) : Res (List PV) → Res PV
  | .ok x s => if xs.length = n ∧ x.length = kn then pf (gP (o :: xs) x) s else .bad
  | .exc c y s => .exc c y s
  | .bad => .bad
@[simp] theorem methK3_ok {pf : PF} {gP : List PV → List PV → List PV} {n : Nat} {kn : Nat} {o : PV} {xs : List PV} {x : (List PV)} {s : Store} : methK3 pf gP n kn o xs (.ok x s) = if xs.length = n ∧ x.length = kn then pf (gP (o :: xs) x) s else .bad := id rfl
@[simp] theorem methK3_exc {pf : PF} {gP : List PV → List PV → List PV} {n : Nat} {kn : Nat} {o : PV} {xs : List PV} {c : Str} {y : PV} {s : Store} : methK3 pf gP n kn o xs (.exc c y s) = .exc c y s := id rfl
def methK2 (pf : PF) (gP : List PV → List PV → List PV) (n : Nat) (kn : Nat) (o : PV) (ks : Mx (List PV)) (env : Env) : Res (List PV) → Res PV
  | .ok x s => methK3 pf gP n kn o x (ks env s)
  | .exc c y s => .exc c y s
  | .bad => .bad
@[simp] theorem methK2_ok {pf : PF} {gP : List PV → List PV → List PV} {n : Nat} {kn : Nat} {o : PV} {ks : Mx (List PV)} {env : Env} {x : (List PV)} {s : Store} : methK2 pf gP n kn o ks env (.ok x s) = methK3 pf gP n kn o x (ks env s) := id rfl
@[simp] theorem methK2_exc {pf : PF} {gP : List PV → List PV → List PV} {n : Nat} {kn : Nat} {o : PV} {ks : Mx (List PV)} {env : Env} {c : Str} {y : PV} {s : Store} : methK2 pf gP n kn o ks env (.exc c y s) = .exc c y s := id rfl
def methO (c m : Str) (pf : PF) (gP : List PV → List PV → List PV) (n kn : Nat) (as ks : Mx (List PV)) (env : Env) (i : Nat) (s : Store) : Option PO → Res PV
  | some (.ins c' fs) => if c' = c ∧ pfld fs m = none then methK2 pf gP n kn (.ref i) ks env (as env s) else .bad
  | _ => .bad
@[simp] theorem methO_ins {c m : Str} {pf : PF} {gP : List PV → List PV → List PV} {n kn : Nat} {as ks : Mx (List PV)} {env : Env} {i : Nat} {s : Store} {c' : Str} {fs : List (Str × PV)} : methO c m pf gP n kn as ks env i s (some (.ins c' fs)) = if c' = c ∧ pfld fs m = none then methK2 pf gP n kn (.ref i) ks env (as env s) else .bad := rfl
def methG (c m : Str) (pf : PF) (gP : List PV → List PV → List PV) (n kn : Nat) (as ks : Mx (List PV)) (env : Env) (x : PV) (s : Store) : Res PV := match x with
  | .ref i => methO c m pf gP n kn as ks env i s s[i]?
  | _ => .bad
@[simp] theorem methG_ref {c m : Str} {pf : PF} {gP : List PV → List PV → List PV} {n kn : Nat} {as ks : Mx (List PV)} {env : Env} {i : Nat} {s : Store} : methG c m pf gP n kn as ks env (.ref i) s = methO c m pf gP n kn as ks env i s s[i]? := rfl
def methK (c : Str) (m : Str) (pf : PF) (gP : List PV → List PV → List PV) (n : Nat) (kn : Nat) (as : Mx (List PV)) (ks : Mx (List PV)) (env : Env) : Res PV → Res PV
  | .ok x s => methG c m pf gP n kn as ks env x s
  | .exc c y s => .exc c y s
  | .bad => .bad
@[simp] theorem methK_ok {c : Str} {m : Str} {pf : PF} {gP : List PV → List PV → List PV} {n : Nat} {kn : Nat} {as : Mx (List PV)} {ks : Mx (List PV)} {env : Env} {x : PV} {s : Store} : methK c m pf gP n kn as ks env (.ok x s) = methG c m pf gP n kn as ks env x s := id rfl
@[simp] theorem methK_exc {c : Str} {m : Str} {pf : PF} {gP : List PV → List PV → List PV} {n : Nat} {kn : Nat} {as : Mx (List PV)} {ks : Mx (List PV)} {env : Env} {c : Str} {y : PV} {s : Store} : methK c m pf gP n kn as ks env (.exc c y s) = .exc c y s := id rfl
@[simp] theorem mMeth1_ap {c : Str} {m : Str} {pf : PF} {gP : List PV → List PV → List PV} {n : Nat} {kn : Nat} {a : Mx PV} {as : Mx (List PV)} {ks : Mx (List PV)} {env : Env} {st : Store} : mMeth1 c m pf gP n kn a as ks env st = methK c m pf gP n kn as ks env (a env st) := by
  simp only [mMeth1]
  cases a env st with
  | ok x s => cases x with
    | ref i =>
      simp only [bnd_ok, methK, methG, methO]
      cases h : s[i]? with
      | none => rfl
      | some o =>
        cases o with
        | ins c' fs =>
          dsimp only
          by_cases hc : c' = c
          · rw [if_pos hc]
            cases hp : pfld fs m with
            | some v => rw [if_neg (fun z => by simp at z)]
            | none =>
              rw [if_pos ⟨hc, rfl⟩]
              dsimp only
              cases as env s with
              | ok xs s1 => simp only [bnd_ok, methK2]; cases ks env s1 <;> rfl
              | _ => rfl
          · rw [if_neg hc, if_neg (fun z => hc z.1)]
        | _ => rfl
    | _ => rfl
  | _ => rfl
def selK (f : Store → PV → Bool) : Res PV → Bool
  | .ok x s => f s x
  | _ => false
@[simp] theorem selK_ok {f : Store → PV → Bool} {x : PV} {s : Store} : selK f (.ok x s) = f s x := rfl
@[simp] theorem selB_ap {f : Store → PV → Bool} {a : Mx PV} {env : Env} {st : Store} : selB f a env st = selK f (a env st) := by
  simp only [selB]
  cases a env st <;> rfl
@[simp] theorem mSel_ap {f : Store → PV → Bool} {a m1 m2 : Mx PV} {env : Env} {st : Store} : mSel f a m1 m2 env st = if selB f a env st = true then m1 env st else m2 env st := rfl
@[simp] theorem mSelS_ap {f : Store → PV → Bool} {a : Mx PV} {m1 m2 : Ms} {env : Env} {st : Store} : mSelS f a m1 m2 env st = if selB f a env st = true then m1 env st else m2 env st := rfl
def clsO : Option PO → Option Str
  | some (.ins c _) => some c
  | _ => none
@[simp] theorem clsO_ins {c : Str} {fs : List (Str × PV)} : clsO (some (.ins c fs)) = some c := rfl
@[simp] theorem clsO_lst {xs : List PV} : clsO (some (.lst xs)) = none := rfl
@[simp] theorem clsO_dK {lk : Bool} {kvs : List (Key × PV)} : clsO (some (.dK lk kvs)) = none := rfl
@[simp] theorem clsAt_ref {st : Store} {i : Nat} : clsAt st (.ref i) = clsO st[i]? := by
  show (match st[i]? with
    | some (.ins c _) => some c
    | _ => none) = _
  cases st[i]? with
  | none => rfl
  | some o => cases o <;> rfl
@[simp] theorem isClsB_ap {c : Str} {st : Store} {x : PV} : isClsB c st x = (clsAt st x == some c) := rfl
end
end PL
set_option Elab.async false
set_option linter.all false
set_option maxRecDepth 100000
set_option maxHeartbeats 1000000
set_option autoImplicit false
namespace PL
open PySem PySem.Spec PyProof.Rows L2 LW
noncomputable section
/-! ### evaluation by simp: what S36 - S39 brought -/
def replK (y z : Str) : Res PV → Res PV
  | .ok (.str x) s => if x.length + (x.length + 1) * z.length ≤ 16777216 then .ok (.str (Txt.replace x y z)) s else .bad
  | .exc c v s => .exc c v s
  | _ => .bad
@[simp] theorem replK_ok {y z x : Str} {s : Store} (h : x.length + (x.length + 1) * z.length ≤ 16777216) : replK y z (.ok (.str x) s) = .ok (.str (Txt.replace x y z)) s := if_pos h
@[simp] theorem mReplC_ap {a : Mx PV} {y z : Str} {env : Env} {st : Store} : mReplC a y z env st = replK y z (a env st) := by
  unfold mReplC replK
  cases a env st with
  | ok v s => cases v <;> rfl
  | _ => rfl
@[simp] theorem gUt_ap {n : Nat} {gs : Mgs} {xs : List PV} {env : Env} {st : Store} : gUt n gs (.tup xs) env st = if xs.length = n then gs xs env st else .bad := rfl
@[simp] theorem mIsX_ap {cs : List Str} {b : Str → Bool} {c : Str} {x : PV} {env : Env} {st : Store} (h : c ∈ cs) : mIsX cs b c x env st = .ok (.bl (b c)) st := by
  unfold mIsX
  rw [if_pos h]
  rfl
def calK : Res PV → Res PV
  | .ok v s => .ok v s
  | _ => .bad
@[simp] theorem calK_ok {v : PV} {s : Store} : calK (.ok v s) = .ok v s := rfl
@[simp] theorem mCalH_ap {pf : PFh} {c : Str} {x : PV} {env : Env} {st : Store} : mCalH pf c x env st = calK (pf c x st) := by
  unfold mCalH calK
  cases pf c x st <;> rfl
@[simp] theorem runH_ap {n : Nat} {m : Str → PV → Ms} {c : Str} {x : PV} {st : Store} {v : PV} {s1 : Store} (h : m c x (List.replicate n none) st = .rt v s1) : runH n m c x st = .ok v s1 := by
  unfold runH
  rw [h]
def itLK : Res PV → Res Wk
  | .ok (.ref i) s => (match s[i]? with
    | some (.lst xs) => .ok (xs, some (i, .lst xs)) s
    | _ => .bad)
  | .exc c v s => .exc c v s
  | _ => .bad
@[simp] theorem itLK_ok {i : Nat} {s : Store} {xs : List PV} (h : s[i]? = some (.lst xs)) : itLK (.ok (.ref i) s) = .ok (xs, some (i, .lst xs)) s := by
  unfold itLK
  simp only [h]
@[simp] theorem mItL_ap {a : Mx PV} {env : Env} {st : Store} : mItL a env st = itLK (a env st) := by
  unfold mItL itLK
  cases a env st with
  | ok v s => cases v <;> rfl
  | _ => rfl
/-- o[i] as a target, at a list -/
theorem gSx_ap {mo mi : Mx PV} {v : PV} {env : Env} {st s1 s2 : Store} {j q : Nat} {k : Int} {xs : List PV} (h1 : mo env st = .ok (.ref j) s1) (h2 : mi env s1 = .ok (.int k) s2) (h3 : s2[j]? = some (.lst xs)) (h4 : ixN xs.length k = some q) :
    gSx mo mi v env st = .ok env (s2.set j (.lst (xs.set q v))) := by
  unfold gSx
  simp only [h1, h2, h3, h4]
end
end PL
set_option Elab.async false
set_option linter.all false
set_option maxRecDepth 100000
set_option maxHeartbeats 1000000
set_option autoImplicit false
namespace PL
open PySem PySem.Spec PyProof.Rows L2 LW
noncomputable section
/-! ### lists compared -/
theorem toDs_int {f : PV → Option PyData} (hf : ∀ i, f (.int i) = some (.int i)) : ∀ ns : List Int, toDs f (ns.map .int) = some (ns.map .int)
  | [] => rfl
  | n :: ns => by simp [toDs, hf, toDs_int hf ns]
theorem toDs_str {f : PV → Option PyData} (hf : ∀ i, f (.str i) = some (.str i)) : ∀ ns : List Str, toDs f (ns.map .str) = some (ns.map .str)
  | [] => rfl
  | n :: ns => by simp [toDs, hf, toDs_str hf ns]
theorem toD_ints {st : Store} {p : Nat} {ns : List Int} (h : st[p]? = some (.lst (ns.map .int))) : toD st 9 (.ref p) = some (.list (ns.map .int)) := by
  show (match itemsOf st (.ref p) with
    | some xs => (toDs (toD st 8) xs).map PyData.list
    | none => none) = _
  rw [lst_items h]
  show (toDs (toD st 8) (ns.map .int)).map PyData.list = _
  rw [toDs_int fun i => rfl]
  rfl
theorem toD_strs {st : Store} {p : Nat} {ns : List Str} (h : st[p]? = some (.lst (ns.map .str))) : toD st 9 (.ref p) = some (.list (ns.map .str)) := by
  show (match itemsOf st (.ref p) with
    | some xs => (toDs (toD st 8) xs).map PyData.list
    | none => none) = _
  rw [lst_items h]
  show (toDs (toD st 8) (ns.map .str)).map PyData.list = _
  rw [toDs_str fun i => rfl]
  rfl
theorem eqv_ints : ∀ ns ms : List Int, PyData.eqvAll (ns.map .int) (ms.map .int) = decide (ns = ms)
  | [], [] => by simp [PyData.eqvAll]
  | [], _ :: _ => by simp [PyData.eqvAll]
  | _ :: _, [] => by simp [PyData.eqvAll]
  | a :: r, b :: t => by
    simp only [List.map_cons, PyData.eqvAll, PyData.eqv, eqv_ints r t]
    by_cases h : a = b <;> by_cases h' : r = t <;> simp [h, h']
theorem eqv_strs : ∀ ns ms : List Str, PyData.eqvAll (ns.map .str) (ms.map .str) = decide (ns = ms)
  | [], [] => by simp [PyData.eqvAll]
  | [], _ :: _ => by simp [PyData.eqvAll]
  | _ :: _, [] => by simp [PyData.eqvAll]
  | a :: r, b :: t => by
    simp only [List.map_cons, PyData.eqvAll, PyData.eqv, eqv_strs r t]
    by_cases h : a = b <;> by_cases h' : r = t <;> simp [h, h']
theorem lay_strs : ∀ ns : List Str, (∀ x ∈ ns, PyData.strOk x = true) → PyData.canLayAll0 (ns.map PyData.str) = true
  | [], _ => rfl
  | x :: r, h => by
    have h1 := h x List.mem_cons_self
    have h2 := lay_strs r fun y hy => h y (List.mem_cons_of_mem _ hy)
    simp [PyData.canLayAll0, PyData.canLay0, h1, h2]
theorem depth_strs : ∀ ns : List Str, PyData.depthAll (ns.map PyData.str) = 0
  | [] => rfl
  | _ :: r => by simp [PyData.depthAll, PyData.depth, depth_strs r]
theorem shaped_strs {ns : List Str} (h : ∀ x ∈ ns, PyData.strOk x = true) : SeqAt.shaped (.list (ns.map PyData.str)) = true := by
  simp [SeqAt.shaped, PyData.canLay0, PyData.depth, lay_strs ns h, depth_strs]
theorem lay_ints : ∀ ns : List Int, PyData.canLayAll0 (ns.map PyData.int) = true
  | [] => rfl
  | _ :: r => by simp [PyData.canLayAll0, PyData.canLay0, lay_ints r]
theorem depth_ints : ∀ ns : List Int, PyData.depthAll (ns.map PyData.int) = 0
  | [] => rfl
  | _ :: r => by simp [PyData.depthAll, PyData.depth, depth_ints r]
theorem shaped_intsL (ns : List Int) : SeqAt.shaped (.list (ns.map PyData.int)) = true := by
  simp [SeqAt.shaped, PyData.canLay0, PyData.depth, lay_ints, depth_ints]
theorem eq_ints {st : Store} {p q : Nat} {ns ms : List Int} {neg : Bool} (h : st[p]? = some (.lst (ns.map .int))) (g : st[q]? = some (.lst (ms.map .int))) : pEqD neg (.ref p) (.ref q) st = .ok (.bl (if neg then !decide (ns = ms) else decide (ns = ms))) st := by
  show (match toD st 9 (.ref p), toD st 9 (.ref q) with
    | some d, some e => if SeqAt.shaped d = true ∧ SeqAt.shaped e = true then Res.ok (PV.bl (if neg then !PyData.eqv d e else PyData.eqv d e)) st else .bad
    | _, _ => .bad) = _
  rw [toD_ints h, toD_ints g]
  simp only
  rw [if_pos ⟨shaped_intsL ns, shaped_intsL ms⟩]
  simp only [PyData.eqv, eqv_ints]
theorem eq_strs {st : Store} {p q : Nat} {ns ms : List Str} {neg : Bool} (h : st[p]? = some (.lst (ns.map .str))) (g : st[q]? = some (.lst (ms.map .str))) (hn : ∀ x ∈ ns, PyData.strOk x = true) (hm : ∀ x ∈ ms, PyData.strOk x = true) : pEqD neg (.ref p) (.ref q) st = .ok (.bl (if neg then !decide (ns = ms) else decide (ns = ms))) st := by
  show (match toD st 9 (.ref p), toD st 9 (.ref q) with
    | some d, some e => if SeqAt.shaped d = true ∧ SeqAt.shaped e = true then Res.ok (PV.bl (if neg then !PyData.eqv d e else PyData.eqv d e)) st else .bad
    | _, _ => .bad) = _
  rw [toD_strs h, toD_strs g]
  simp only
  rw [if_pos ⟨shaped_strs hn, shaped_strs hm⟩]
  simp only [PyData.eqv, eqv_strs]
end
end PL
set_option Elab.async false
set_option linter.all false
set_option maxRecDepth 100000
set_option maxHeartbeats 1000000
set_option autoImplicit false
namespace PL
open PySem PySem.Spec PyProof.Rows L2 LW
noncomputable section
/-! ### the draw -/
def poolP (l c k m : Int) : PO := .lst [.int l, .int c, .int k, .int m]
def PoolAt (st : Store) (p : Nat) : Prop := ∃ l c k m, 0 ≤ l ∧ st[p]? = some (poolP l c k m)
theorem PoolAt.kp {st st' : Store} {p q : Nat} (h : PoolAt st p) (k : Kp q st st') (n : p ≠ q) : PoolAt st' p := by
  obtain ⟨l, c, i, m, h1, h2⟩ := h
  exact ⟨l, c, i, m, h1, k p n _ h2⟩
theorem PoolAt.kp0 {st st' : Store} {p : Nat} (h : PoolAt st p) (k : Kp0 st st') : PoolAt st' p := by
  obtain ⟨l, c, i, m, h1, h2⟩ := h
  exact ⟨l, c, i, m, h1, k p _ h2⟩
theorem mod_b2 {x m : Int} (hm : 0 < m) (h : m ≤ 2 ^ 62) : (x % m).natAbs < 2 ^ 64 := by
  have h1 := Int.emod_nonneg x (Int.ne_of_gt hm)
  have h2 := Int.emod_lt_of_pos x hm
  omega
theorem divW {l n : Int} (hn : 0 < n) (hN : n ≤ 10 ^ 40) : CDivW l n := wide_div (b := 140) hn (by omega) (by decide) (by decide)
theorem big_pow : ∀ d : Nat, (10 : Int) ^ 40 ≤ 1000000007 ^ (5 + d)
  | 0 => by decide
  | d + 1 => by
    have h := big_pow d
    rw [show 5 + (d + 1) = (5 + d) + 1 from rfl, Int.pow_succ]
    exact Int.le_trans (by decide) (Int.mul_le_mul_of_nonneg_right h (by decide : (0 : Int) ≤ 1000000007))
theorem take_loop {n : Int} (hn : 0 < n) (hN : n ≤ 10 ^ 40) {p : Nat} : ∀ (N : Nat) (f r : Int) (x y : Option PV) (st : Store), PoolAt st p → 1 ≤ r → (∃ M, N = M + 1 ∧ n ≤ r * 1000000007 ^ M) →
    ∃ f' r' x' y' st', mWhileN (mB (mOp pLt (mVar 3) (mVar 1))) L1__law_take N [some (.ref p), some (.int n), some (.int f), some (.int r), x, y] st = .nx [some (.ref p), some (.int n), some (.int f'), some (.int r'), x', y'] st' ∧ PoolAt st' p ∧ Kp p st st'
  | 0, f, r, x, y, st, hp, hr, hb => by obtain ⟨M, h, _⟩ := hb; cases h
  | N + 1, f, r, x, y, st, hp, hr, hb => by
    by_cases hc : r < n
    · obtain ⟨l, c, k, m, hl, h⟩ := hp
      unfold poolP at h
      have h' : (st.set p (.lst [.int l, .int c, .int k, .int (m + 1)]))[p]? = some (.lst [.int l, .int c, .int k, .int (m + 1)]) := set_at h
      have key : ∃ f2 x2 y2, L1__law_take [some (.ref p), some (.int n), some (.int f), some (.int r), x, y] st = .nx [some (.ref p), some (.int n), some (.int f2), some (.int (r * 1000000007)), x2, y2] (st.set p (.lst [.int l, .int c, .int k, .int (m + 1)])) := by
        have cm : ∀ (a : Int) (b : Int), -(2 ^ 64) < a → a < 2 ^ 64 → CMul a b ∨ CMulX a b := fun a b h1 h2 => .inl (.inl ⟨h1, h2⟩)
        have cm2 : ∀ (a : Int) (b : Int), -(2 ^ 64) < b → b < 2 ^ 64 → CMul a b ∨ CMulX a b := fun a b h1 h2 => .inl (.inr ⟨h1, h2⟩)
        have cp : ∀ (a q : Int), 0 < q → q ≤ 2 ^ 62 → CPow (a % q) 5 := fun a q h1 h2 => ⟨by decide, by decide, mod_b2 h1 h2⟩
        simp [L1__law_take, mSelS, selB, isDictB, lst_nodict h, mAugL, getL, listOf, h, atI, ixN, pIAdd, pInt, setL, lst_ix h', cm, cm2, cp]
      obtain ⟨f2, x2, y2, e⟩ := key
      obtain ⟨f', r', x', y', st', e2, h1, h2⟩ := take_loop hn hN N f2 (r * 1000000007) x2 y2 _ ⟨l, c, k, m + 1, hl, h'⟩ (by omega) (by
        obtain ⟨M, hM, hb⟩ := hb
        obtain rfl := Nat.succ.inj hM
        cases N with
        | zero => rw [Int.pow_zero] at hb; omega
        | succ M => exact ⟨M, rfl, by rw [Int.pow_succ] at hb; rw [Int.mul_assoc, Int.mul_comm 1000000007]; exact hb⟩)
      refine ⟨f', r', x', y', st', ?_, h1, Kp.set.trans h2⟩
      simp [mWhileN, hc, e, e2]
    · refine ⟨f, r, x, y, st, ?_, hp, Kp.refl⟩
      simp [mWhileN, hc]
theorem take_ok {st : Store} {p : Nat} {n : Int} (hp : PoolAt st p) (hn : 0 < n) (hN : n ≤ 10 ^ 40) : ∃ v st', 0 ≤ v ∧ v < n ∧ pf__law_take [.ref p, .int n] st = .ok (.int v) st' ∧ PoolAt st' p ∧ Kp p st st' := by
  have hp0 := hp
  obtain ⟨l, c, k, m, hl, h⟩ := hp
  unfold poolP at h
  by_cases h0 : 0 < l
  · refine ⟨l % n, st.set p (poolP (l / n) c k m), Int.emod_nonneg _ (Int.ne_of_gt hn), Int.emod_lt_of_pos _ hn, ?_, ⟨_, _, _, _, Int.ediv_nonneg hl (Int.le_of_lt hn), set_at h⟩, Kp.set⟩
    have hw : CDivW l n := divW hn hN
    simp [pf__law_take, m__law_take, lst_ix h, atI, ixN, h0, hn, hw, lst_set h, poolP]
  · obtain ⟨f', r', x', y', st', e, h1, h2⟩ := take_loop hn hN bigN 0 1 none none st hp0 (Int.le_refl 1) ⟨999999, rfl, Int.le_trans hN (by
      rw [Int.one_mul]
      exact big_pow 999994)⟩
    refine ⟨f' % n, st', Int.emod_nonneg _ (Int.ne_of_gt hn), Int.emod_lt_of_pos _ hn, ?_, h1, h2⟩
    simp [pf__law_take, m__law_take, lst_ix h, atI, ixN, h0, List.replicate]
    rw [e]
    simp [hn]
theorem take_s {st : Store} {p : Nat} {n : Int} (hp : PoolAt st p) (hn : 0 < n) (hN : n ≤ 1000000) : ∃ v st', 0 ≤ v ∧ v < n ∧ pf__law_take [.ref p, .int n] st = .ok (.int v) st' ∧ PoolAt st' p ∧ Kp p st st' := take_ok hp hn (Int.le_trans hN (by decide))
theorem atI_of {α : Type} {xs : List α} {k : Int} (h0 : 0 ≤ k) (h1 : k < xs.length) : ∃ x, atI xs k = some x ∧ xs[k.toNat]? = some x := by
  have : k.toNat < xs.length := by omega
  exact ⟨xs[k.toNat], by simp [atI, ixN, h0, h1, List.getElem?_eq_getElem this], List.getElem?_eq_getElem this⟩
theorem pool_ok {st : Store} {ns : List Int} {k : Int} (h : st[0]? = some (.ro (ns.map .int))) (hk : 0 ≤ k) : ∃ l c, 0 ≤ l ∧ pf__law_pool [.ref 0, .int k] st = .ok (.ref st.length) (st ++ [poolP l c k 0]) := by
  have hpw : CPow 10 18 := ⟨by decide, by decide, by decide⟩
  have hsz : (4 : Nat) ≤ sizeLine := by decide
  have e1 : ∃ c, (if 0 < ns.length then pIx (.ref 0) (.int (k % ns.length)) st else .ok (.int 0) st) = .ok (.int c) st := by
    by_cases hn : 0 < ns.length
    · rw [if_pos hn]
      obtain ⟨x, hx, hx2⟩ := atI_of (xs := ns.map PV.int) (k := k % ns.length) (Int.emod_nonneg _ (by omega)) (by simpa using Int.emod_lt_of_pos k (by omega))
      rw [List.getElem?_map] at hx2
      cases hy : ns[(k % ns.length).toNat]? with
      | none => rw [hy] at hx2; cases hx2
      | some c =>
        rw [hy] at hx2
        refine ⟨c, ?_⟩
        rw [ro_ix h, hx, ← Option.some.inj hx2]
    · rw [if_neg hn]
      exact ⟨0, rfl⟩
  obtain ⟨c, e1⟩ := e1
  have hab : 0 ≤ iabs c := by
    rw [iabs_eq]
    split <;> omega
  by_cases hn : 0 < ns.length
  · rw [if_pos hn] at e1
    by_cases hc : k < ns.length ∧ (10 : Int) ^ 18 ≤ iabs c
    · refine ⟨iabs c, c, hab, ?_⟩
      obtain ⟨hc1, hc2⟩ := hc
      have hc2 : (1000000000000000000 : Int) ≤ iabs c := hc2
      simp [pf__law_pool, m__law_pool, ro_len h, hn, e1, hc1, hc2, hpw, poolP, hsz, List.replicate]
    · refine ⟨0, c, Int.le_refl 0, ?_⟩
      by_cases hc1 : k < ns.length
      · have hc2 : ¬ (1000000000000000000 : Int) ≤ iabs c := fun z => hc ⟨hc1, z⟩
        simp [pf__law_pool, m__law_pool, ro_len h, hn, e1, hc1, hc2, hpw, poolP, hsz, List.replicate]
      · simp [pf__law_pool, m__law_pool, ro_len h, hn, e1, hc1, hpw, poolP, hsz, List.replicate]
  · refine ⟨0, 0, Int.le_refl 0, ?_⟩
    have h0 : ns.length = 0 := by omega
    have hc1 : ¬ k < 0 := by omega
    simp [pf__law_pool, m__law_pool, ro_len h, h0, hc1, hpw, poolP, hsz, List.replicate]
end
end PL
set_option Elab.async false
set_option linter.all false
set_option maxRecDepth 100000
set_option maxHeartbeats 1000000
set_option autoImplicit false
namespace PL
open PySem PySem.Spec PyProof.Rows L2 LW
noncomputable section
/-! ### of which class a caught error is -/
def pairP (q : Str × Bool) : PV := .tup [.str q.1, .bl q.2]
theorem sort_first {A : Mx (List PV)} {ys : List (Str × Bool)} {st : Store} (hA : ∀ env st, A env st = .ok (ys.map pairP) st) (hl : ys.length ≤ 100) :
    ∃ p' st', mSet 1 (mLst A) [none, none, none, none] st = .nx [none, some (.ref p'), none, none] st' ∧ st'[p']? = some (.lst (ys.map pairP)) ∧ Kp0 st st' := by
  have hz : (ys.map pairP).length ≤ sizeLine := Nat.le_trans (by simpa using hl) (by decide)
  exact ⟨st.length, st ++ [.lst (ys.map pairP)], by simp only [mSet_ap, mLst_ap, hA]; simp [hz, -List.length_map], at_new, Kp0.push⟩
theorem sort_more {A : Mx (List PV)} {xs ys : List (Str × Bool)} {p : Nat} {st : Store} (hA : ∀ env st, A env st = .ok (ys.map pairP) st) (hl : ys.length ≤ 100) (hx : xs.length ≤ 100) (h : st[p]? = some (.lst (xs.map pairP))) :
    ∃ p' st', mSet 1 (mOp pAdd (mVar 1) (mLst A)) [none, some (.ref p), none, none] st = .nx [none, some (.ref p'), none, none] st' ∧ st'[p']? = some (.lst ((xs ++ ys).map pairP)) ∧ Kp0 st st' := by
  have hz : (ys.map pairP).length ≤ sizeLine := Nat.le_trans (by simpa using hl) (by decide)
  obtain ⟨s1, hs1⟩ : ∃ s1, s1 = st ++ [PO.lst (ys.map pairP)] := ⟨_, rfl⟩
  have k1 : Kp0 st s1 := hs1 ▸ Kp0.push
  have h1 := k1 _ _ h
  have h2 : s1[st.length]? = some (.lst (ys.map pairP)) := hs1 ▸ at_new
  have hz2 : (xs.map pairP).length + (ys.map pairP).length ≤ sizeLine := Nat.le_trans (by simp; omega : _ ≤ 1000) (by decide)
  have ea : pAdd (.ref p) (.ref st.length) s1 = .ok (.ref s1.length) (s1 ++ [.lst ((xs ++ ys).map pairP)]) := by
    simp only [pAdd, h1, h2, hz2, if_true, alloc, List.map_append]
  refine ⟨s1.length, s1 ++ [.lst ((xs ++ ys).map pairP)], ?_, at_new, k1.trans Kp0.push⟩
  simp only [mSet_ap, mOp_ap, mLst_ap, hA, mVar_ap]
  simp [hA, hz, ea, ← hs1, -List.length_map, -List.map_append]
def sortsL (c : Str) : List (Str × Bool) := [("NoHouse", subC c "NoHouse"), ("NoKey", subC c "NoKey"), ("NoNode", subC c "NoNode"), ("TooFar", subC c "TooFar"), ("NoLetter", subC c "NoLetter"), ("NoTicket", subC c "NoTicket"), ("NoNumber", subC c "NoNumber"), ("NoSync", subC c "NoSync"), ("Nothing", subC c "Nothing"),
  ("NoDeed", subC c "NoDeed"), ("NoHistory", subC c "NoHistory"), ("NoText", subC c "NoText"), ("NoName", subC c "NoName"), ("NoLine", subC c "NoLine"), ("bare", false)]
theorem sorts_one {c : Str} (h : c ∈ excC) : (sortsL c).filter (·.2) = [(c, true)] := by
  simp only [excC, List.mem_cons, List.not_mem_nil, or_false] at h
  rcases h with rfl | rfl | rfl | rfl | rfl | rfl | rfl | rfl | rfl | rfl | rfl | rfl | rfl | rfl <;> decide +kernel
theorem exc_len {c : Str} (h : c ∈ excC) : c.length ≤ 100 ∧ Txt.join " " [c] = c := by
  simp only [excC, List.mem_cons, List.not_mem_nil, or_false] at h
  rcases h with rfl | rfl | rfl | rfl | rfl | rfl | rfl | rfl | rfl | rfl | rfl | rfl | rfl | rfl <;> decide +kernel
theorem sorts_ok {c : Str} (hc : c ∈ excC) {x : PV} {st : Store} : ∃ st', pf__law_sorts c x st = .ok (.str c) st' ∧ Kp0 st st' := by
  have hz2 : (2 : Nat) ≤ sizeLine := by decide
  obtain ⟨p1, s1, t1, h1, k1⟩ := sort_first (st := st) (ys := [("NoHouse", subC c "NoHouse"), ("NoKey", subC c "NoKey"), ("NoNode", subC c "NoNode")]) (A := (mCons (mTup (mCons (mC (.str "NoHouse")) (mCons (mIsX excC (fun c => subC c "NoHouse") c x) mNil))) (mCons (mTup (mCons (mC (.str "NoKey")) (mCons (mIsX excC (fun c => subC c "NoKey") c x) mNil))) (mCons (mTup (mCons (mC (.str "NoNode")) (mCons (mIsX excC (fun c => subC c "NoNode") c x) mNil))) mNil)))) (fun env st => by simp [hc, hz2, pairP]) (by simp)
  obtain ⟨p2, s2, t2, h2, k2⟩ := sort_more (ys := [("TooFar", subC c "TooFar"), ("NoLetter", subC c "NoLetter")]) (A := (mCons (mTup (mCons (mC (.str "TooFar")) (mCons (mIsX excC (fun c => subC c "TooFar") c x) mNil))) (mCons (mTup (mCons (mC (.str "NoLetter")) (mCons (mIsX excC (fun c => subC c "NoLetter") c x) mNil))) mNil))) (fun env st => by simp [hc, hz2, pairP]) (by simp) (by simp) h1
  obtain ⟨p3, s3, t3, h3, k3⟩ := sort_more (ys := [("NoTicket", subC c "NoTicket"), ("NoNumber", subC c "NoNumber")]) (A := (mCons (mTup (mCons (mC (.str "NoTicket")) (mCons (mIsX excC (fun c => subC c "NoTicket") c x) mNil))) (mCons (mTup (mCons (mC (.str "NoNumber")) (mCons (mIsX excC (fun c => subC c "NoNumber") c x) mNil))) mNil))) (fun env st => by simp [hc, hz2, pairP]) (by simp) (by simp) h2
  obtain ⟨p4, s4, t4, h4, k4⟩ := sort_more (ys := [("NoSync", subC c "NoSync"), ("Nothing", subC c "Nothing")]) (A := (mCons (mTup (mCons (mC (.str "NoSync")) (mCons (mIsX excC (fun c => subC c "NoSync") c x) mNil))) (mCons (mTup (mCons (mC (.str "Nothing")) (mCons (mIsX excC (fun c => subC c "Nothing") c x) mNil))) mNil))) (fun env st => by simp [hc, hz2, pairP]) (by simp) (by simp) h3
  obtain ⟨p5, s5, t5, h5, k5⟩ := sort_more (ys := [("NoDeed", subC c "NoDeed"), ("NoHistory", subC c "NoHistory")]) (A := (mCons (mTup (mCons (mC (.str "NoDeed")) (mCons (mIsX excC (fun c => subC c "NoDeed") c x) mNil))) (mCons (mTup (mCons (mC (.str "NoHistory")) (mCons (mIsX excC (fun c => subC c "NoHistory") c x) mNil))) mNil))) (fun env st => by simp [hc, hz2, pairP]) (by simp) (by simp) h4
  obtain ⟨p6, s6, t6, h6, k6⟩ := sort_more (ys := [("NoText", subC c "NoText"), ("NoName", subC c "NoName")]) (A := (mCons (mTup (mCons (mC (.str "NoText")) (mCons (mIsX excC (fun c => subC c "NoText") c x) mNil))) (mCons (mTup (mCons (mC (.str "NoName")) (mCons (mIsX excC (fun c => subC c "NoName") c x) mNil))) mNil))) (fun env st => by simp [hc, hz2, pairP]) (by simp) (by simp) h5
  obtain ⟨p7, s7, t7, h7, k7⟩ := sort_more (ys := [("NoLine", subC c "NoLine"), ("bare", false)]) (A := (mCons (mTup (mCons (mC (.str "NoLine")) (mCons (mIsX excC (fun c => subC c "NoLine") c x) mNil))) (mCons (mTup (mCons (mC (.str "bare")) (mCons (mNotV (mIsX excC (fun _ => true) c x)) mNil))) mNil))) (fun env st => by simp [hc, hz2, pairP]) (by simp) (by simp) h6
  have h7 : s7[p7]? = some (.lst ((sortsL c).map pairP)) := h7
  have lc := lc_on (g := some (p7, .lst ((sortsL c).map pairP))) (tg := gUt 2 (gCo (gN 2) (gCo (gN 3) gNi))) (tt := C1__law_sorts) (te := E1__law_sorts) (env0 := [none, some (.ref p7), none, none]) (st := s7) pairP (fun q => [none, some (.ref p7), some (.str q.1), some (.bl q.2)]) (·.2) (fun q => .str q.1) (lst_guard h7) (sortsL c) [] (by simp [sortsL]) (fun q _ => by simp [pairP, C1__law_sorts, E1__law_sorts])
  rw [sorts_one hc, List.nil_append] at lc
  have hj := lst_join (z := " ") (ys := [c]) (st := s7 ++ [PO.lst [.str c]]) (p := s7.length) at_new (by have h := (exc_len hc).1; have e : (" " : Str).length = 1 := (by decide +kernel); simp only [List.map_cons, List.map_nil, List.sum_cons, List.sum_nil, List.length_cons, List.length_nil, e]; omega)
  rw [(exc_len hc).2] at hj
  have t8 : mRet (mM1 pJoin (mC (.str " ")) (mLc (mItL (mVar 1)) (gUt 2 (gCo (gN 2) (gCo (gN 3) gNi))) C1__law_sorts E1__law_sorts [2, 3])) [none, some (.ref p7), none, none] s7 = .rt (.str c) (s7 ++ [PO.lst [.str c]]) := by
    simp [itLK_ok h7, wipeP]
    rw [lc]
    simp [hj]
  refine ⟨s7 ++ [PO.lst [.str c]], ?_, k1.trans (k2.trans (k3.trans (k4.trans (k5.trans (k6.trans (k7.trans Kp0.push))))))⟩
  refine runH_ap ?_
  show mSeq _ (mSeq _ (mSeq _ (mSeq _ (mSeq _ (mSeq _ (mSeq _ _)))))) [none, none, none, none] st = _
  simp only [mSeq_ap, t1, t2, t3, t4, t5, t6, t7, t8, Fl.then]
end
end PL
set_option Elab.async false
set_option linter.all false
set_option maxRecDepth 100000
set_option maxHeartbeats 1000000
set_option autoImplicit false
namespace PL
open PySem PySem.Spec PyProof.Rows L2 LW
noncomputable section
/-! ### just the same -/
def flat1 : PV → Bool
  | .non => true
  | .int _ => true
  | .str _ => true
  | .bl _ => true
  | _ => false
theorem just_flat {v : PV} {st : Store} (n : Nat) (h : flat1 v = true) : pr__law_just (n + 1) [v, v] st = .ok (.bl true) st := by
  cases v with
  | non => simp [pr__law_just, m__law_just, List.replicate, isiB]; rfl
  | int i => simp [pr__law_just, m__law_just, List.replicate, isiB]
  | str s => simp [pr__law_just, m__law_just, List.replicate, isiB]
  | bl b => simp [pr__law_just, m__law_just, List.replicate, isiB]
  | _ => cases h
theorem zipP_self : ∀ vs : List PV, zipP vs vs = vs.map fun v => .tup [v, v]
  | [] => rfl
  | v :: vs => by simp [zipP, zipP_self vs]
theorem just_tup {vs : List PV} {st : Store} (n : Nat) (hl : vs.length ≤ 1000) (h : ∀ v ∈ vs, ∀ st, ∃ st', pr__law_just (n + 1) [v, v] st = .ok (.bl true) st' ∧ Kp0 st st') : ∃ st', pr__law_just (n + 2) [.tup vs, .tup vs] st = .ok (.bl true) st' ∧ Kp0 st st' := by
  obtain ⟨st', e, k⟩ := lc_ext (g := none) (tg := gU 2 (gCo (gN 2) (gCo (gN 3) gNi))) (tt := mYes) (te := E1__law_just (pr__law_just (n + 1))) (env0 := [some (.tup vs), some (.tup vs), none, none]) (st0 := st) (fun v => .tup [v, v]) (fun v => [some (.tup vs), some (.tup vs), some v, some v]) (fun _ => true) (fun _ => .bl true) (fun _ _ => rfl) vs [] st Kp0.refl (by simp; exact Nat.le_trans hl (by decide)) (fun v hv s _ => by
    obtain ⟨s2, e2, k2⟩ := h v hv s
    exact ⟨s, s2, by simp, by simp, Kp0.refl, fun _ => by simp [E1__law_just, e2], k2⟩)
  rw [List.filter_eq_self.mpr fun _ _ => rfl, List.nil_append] at e
  have ha := lst_allf (st := st' ++ [.lst (vs.map fun _ => .bl true)]) (p := st'.length) (l := vs) (f := fun _ => true) at_new
  have hb : (vs.all fun _ => true) = true := by simp
  rw [hb] at ha
  refine ⟨st' ++ [.lst (vs.map fun _ => .bl true)], ?_, k.trans Kp0.push⟩
  rw [pr__law_just]
  simp [m__law_just, List.replicate, isiB, zipP_self, wipeP, e, ha]
end
end PL
set_option Elab.async false
set_option linter.all false
set_option maxRecDepth 100000
set_option maxHeartbeats 1000000
set_option autoImplicit false
namespace PL
open PySem PySem.Spec PyProof.Rows L2 LW
noncomputable section
/-- what is drawn: a whole number of up to forty figures, or a text -/
inductive Thing : PV → Prop
  | int {i : Int} (h : i.natAbs.log2 < 1920) : Thing (.int i)
  | str {s : Str} : Thing (.str s)
theorem Thing.str_ok {x : PV} (h : Thing x) {st : Store} : ∃ y, pStrC x st = .ok y st := by
  cases h with
  | int h => exact ⟨_, by simp only [pStrC, h, if_true]; rfl⟩
  | str => exact ⟨_, rfl⟩
theorem Thing.flat {x : PV} (h : Thing x) : flat1 x = true := by cases h <;> rfl
theorem log_small {n : Nat} (h : n < 10 ^ 40) : n.log2 < 1920 := by
  by_cases h0 : n = 0
  · subst h0; decide
  · exact (Nat.log2_lt h0).mpr (Nat.lt_of_lt_of_le h (Nat.le_trans (by decide +kernel : 10 ^ 40 ≤ 2 ^ 140) (Nat.pow_le_pow_right (by decide) (by decide))))
abbrev askS (a : Str) : Ms := mIfS (mB (mOp (pEqD false) (mVar 0) (mC (.str a)))) (mRaise a (mVar 1)) mNext
theorem ch_hit {a : Str} {R : Ms} {x : PV} {e2 e3 : Option PV} {st : Store} : mSeq (askS a) R [some (.str a), some x, e2, e3] st = .exc a x [some (.str a), some x, e2, e3] st := by simp [askS, mRaise]
theorem ch_miss {a w : Str} {R : Ms} {x : PV} {e2 e3 : Option PV} {st : Store} (h : w ≠ a) : mSeq (askS a) R [some (.str w), some x, e2, e3] st = R [some (.str w), some x, e2, e3] st := by simp [askS, mRaise, h]
theorem try_raised {B : Ms} {w : Str} (hw : w ∈ excC) {x z : PV} {st : Store} (h : B [some (.str w), some x, some .non, none] st = .exc w z [some (.str w), some x, some .non, none] st) :
    ∃ st', mTryAs excC subC "LendError" 3 B (fun c x => mSet 2 (mTup (mCons (mCalH pf__law_sorts c x) (mCons (mIsX excC (fun _ => true) c x) mNil)))) [some (.str w), some x, some .non, none] st = .nx [some (.str w), some x, some (.tup [.str w, .bl true]), none] st' ∧ Kp0 st st' := by
  obtain ⟨s1, e1, k1⟩ := sorts_ok hw (x := z) (st := st)
  have hz2 : (2 : Nat) ≤ sizeLine := by decide
  have hs : subC w "LendError" = true := by simp [subC]
  refine ⟨s1, ?_, k1⟩
  unfold mTryAs
  rw [h]
  simp [hw, hs, mCalH, e1, mIsX, hz2, Fl.unset]
theorem pf_of {np n : Nat} {m : Ms} {xs : List PV} {st : Store} (h : xs.length = np) : runF np n m xs st = (m (xs.map some ++ List.replicate (n - xs.length) none) st).fin := by
  rw [runF_ap, if_pos h]
theorem raised_of {w : Str} (hw : w ∈ excC) {x z : PV} {st : Store} (h : ∃ st', S2__law_raised [some (.str w), some x, some .non, none] st = .nx [some (.str w), some x, some (.tup [.str w, .bl true]), none] st' ∧ Kp0 st st') :
    ∃ st', pf__law_raised [.str w, x] st = .ok (.tup [.str w, .bl true]) st' ∧ Kp0 st st' := by
  obtain ⟨s1, e, k⟩ := h
  exact ⟨s1, by simp [pf__law_raised, m__law_raised, S1__law_raised, S3__law_raised, e], k⟩
theorem raised_ok {w : Str} (hw : w ∈ excC) {x : PV} (hx : Thing x) {st : Store} : ∃ st', pf__law_raised [.str w, x] st = .ok (.tup [.str w, .bl true]) st' ∧ Kp0 st st' := by
  obtain ⟨y, hy⟩ := hx.str_ok (st := st)
  have last : mRaise "NoLine" (mCB (one pStrC) (mCons (mVar 1) mNil)) [some (.str "NoLine"), some x, some .non, none] st = .exc "NoLine" y [some (.str "NoLine"), some x, some .non, none] st := by simp [mRaise, hy]
  have hw' := hw
  refine raised_of hw (z := y) ?_
  simp only [excC, List.mem_cons, List.not_mem_nil, or_false] at hw'
  rcases hw' with rfl | rfl | rfl | rfl | rfl | rfl | rfl | rfl | rfl | rfl | rfl | rfl | rfl | rfl
  all_goals
    refine try_raised hw (z := ?_) ?_
    rotate_left
    repeat (refine (ch_miss (by decide)).trans ?_)
    first
      | exact ch_hit
      | exact last
theorem just_pair {w : Str} {st : Store} : ∃ st', pf__law_just [.tup [.str w, .bl true], .tup [.str w, .bl true]] st = .ok (.bl true) st' ∧ Kp0 st st' := just_tup 0 (by simp) fun u hu s => by
  simp only [List.mem_cons, List.not_mem_nil, or_false] at hu
  rcases hu with rfl | rfl <;> exact ⟨s, just_flat 0 rfl, Kp0.refl⟩
theorem fields_ok {x : PV} {st : Store} : ∃ (p : Nat) (st' : Store), pf__law_fields [x] st = .ok (.ref p) st' ∧ st'[p]? = some (.lst (List.replicate 13 x)) := by
  have hz : ∀ n : Nat, n ≤ 1000 → n ≤ sizeLine := fun n h => Nat.le_trans h (by decide)
  obtain ⟨s1, hs1⟩ : ∃ s1, s1 = st ++ [PO.lst [x, x, x, x, x]] := ⟨_, rfl⟩
  have a1 : S1__law_fields [some x, none] st = .nx [some x, some (.ref st.length)] s1 := by simp [S1__law_fields, hz 5 (by decide), hs1]
  have h1 : s1[st.length]? = some (.lst [x, x, x, x, x]) := hs1 ▸ at_new
  obtain ⟨s2, hs2⟩ : ∃ s2, s2 = s1 ++ [PO.lst [x, x, x, x]] := ⟨_, rfl⟩
  have h2 : s2[s1.length]? = some (.lst [x, x, x, x]) := hs2 ▸ at_new
  have h12 : s2[st.length]? = some (.lst [x, x, x, x, x]) := (hs2 ▸ Kp0.push : Kp0 s1 s2) _ _ h1
  obtain ⟨s3, hs3⟩ : ∃ s3, s3 = s2 ++ [PO.lst [x, x, x, x, x, x, x, x, x]] := ⟨_, rfl⟩
  have ea : pAdd (.ref st.length) (.ref s1.length) s2 = .ok (.ref s2.length) s3 := by
    simp only [pAdd, h12, h2, hs3]
    simp [alloc, hz 9 (by decide)]
  have a2 : S2__law_fields [some x, some (.ref st.length)] s1 = .nx [some x, some (.ref s2.length)] s3 := by
    simp [S2__law_fields, hz 4 (by decide), ← hs2, ea]
  have h3 : s3[s2.length]? = some (.lst [x, x, x, x, x, x, x, x, x]) := hs3 ▸ at_new
  obtain ⟨s4, hs4⟩ : ∃ s4, s4 = s3 ++ [PO.lst [x, x, x, x]] := ⟨_, rfl⟩
  have h4 : s4[s3.length]? = some (.lst [x, x, x, x]) := hs4 ▸ at_new
  have h34 : s4[s2.length]? = some (.lst [x, x, x, x, x, x, x, x, x]) := (hs4 ▸ Kp0.push : Kp0 s3 s4) _ _ h3
  obtain ⟨s5, hs5⟩ : ∃ s5, s5 = s4 ++ [PO.lst (List.replicate 13 x)] := ⟨_, rfl⟩
  have eb : pAdd (.ref s2.length) (.ref s3.length) s4 = .ok (.ref s4.length) s5 := by
    simp only [pAdd, h34, h4, hs5]
    simp [alloc, hz 13 (by decide), List.replicate]
  have a3 : S3__law_fields [some x, some (.ref s2.length)] s3 = .rt (.ref s4.length) s5 := by
    simp [S3__law_fields, hz 4 (by decide), ← hs4, eb]
  exact ⟨s4.length, s5, by simp [pf__law_fields, m__law_fields, a1, a2, a3], hs5 ▸ at_new⟩
/-! ### what is drawn -/
def signsS : Str := "abcdefghijklmnopqrstuvwxyz !\"#$&'()*+,-./0123456789:;<=>?@ABCDEFGHIJKLMNOPQRSTUVWXYZ[\\]^_`{|}~"
theorem signs_ok {st : Store} : pf__law_signs [] st = .ok (.str signsS) st := by
  have h1 : ("abcdefghijklmnopqrstuvwxyz" : Str) ++ (" !\"#$&'()*+,-./0123456789:;<=>?@ABCDEFGHIJKLMNOPQRSTUVWXYZ[\\]^_`{|}~" : Str) = signsS := by decide +kernel
  have h2 : ("abcdefghijklmnopqrstuvwxyz" : Str).length + (" !\"#$&'()*+,-./0123456789:;<=>?@ABCDEFGHIJKLMNOPQRSTUVWXYZ[\\]^_`{|}~" : Str).length ≤ sizeLine := by decide +kernel
  simp [pf__law_signs, m__law_signs, h1, h2]
theorem signs_ix {v : Int} {st : Store} (h0 : 0 ≤ v) (h1 : v < 94) : ∃ c, pIx (.str signsS) (.int v) st = .ok (.str (sg c)) st := by
  have hl : signsS.length ≤ sizeLine := by decide +kernel
  have hn : signsS.cps.toList.length = 94 := by decide +kernel
  obtain ⟨c, e, _⟩ := atI_of (xs := signsS.cps.toList) (k := v) h0 (by rw [hn]; exact h1)
  refine ⟨c, ?_⟩
  rw [pIx_str]
  simp only [hl, if_true, e]
  rfl
theorem text_drawn {st : Store} {p : Nat} {env : Env} {n : Nat} (hp : PoolAt st p) (he : env[1]? = some (some (.ref p))) (hn : n ≤ 1000) :
    ∃ (cs : List Nat) (st' : Store), mLcL none (gN 6) mYes E1_law env (rangeP 0 n) [] st = .ok (.ref st'.length) (st' ++ [.lst (cs.map fun c => .str (sg c))]) ∧ cs.length = n ∧ PoolAt st' p ∧ Kp p st st' := by
  obtain ⟨acc, st', e, hI⟩ := lc_inv (g := none) (tg := gN 6) (tt := mYes) (te := E1_law) (env0 := env) (fun k acc s => PoolAt s p ∧ Kp p st s ∧ ∃ cs : List Nat, acc = cs.map (fun c => PV.str (sg c)) ∧ cs.length = k) (rangeP 0 n) 0 [] st ⟨hp, Kp.refl, [], rfl, rfl⟩ (by
    rw [rangeP_len]; simp; exact Nat.le_trans hn (by decide)) (fun i x acc s hx ⟨h1, h2, cs, h3, h4⟩ => by
    obtain ⟨v, s2, v0, v1, et, hp2, k2⟩ := take_s h1 (n := 94) (by decide) (by decide)
    obtain ⟨c, hc⟩ := signs_ix (st := s2) v0 v1
    refine ⟨rfl, env.set 6 (some x), s, rfl, true, s, rfl, ?_⟩
    simp only [if_true]
    have e0 : (env.set 6 (some x))[1]? = some (some (.ref p)) := by rw [List.getElem?_set_ne (by decide)]; exact he
    refine ⟨.str (sg c), s2, ?_, hp2, h2.trans k2, cs ++ [c], by rw [h3]; simp, by simp [h4]⟩
    simp [E1_law, signs_ok, e0, et, hc, -pIx_str]) (fun _ _ _ => rfl)
  obtain ⟨h1, h2, cs, h3, h4⟩ := hI
  rw [rangeP_len, Nat.zero_add] at h4
  exact ⟨cs, st', by rw [e, h3], h4, h1, h2⟩
end
end PL
set_option Elab.async false
set_option linter.all false
set_option maxRecDepth 100000
set_option maxHeartbeats 1000000
set_option autoImplicit false
namespace PL
open PySem PySem.Spec PyProof.Rows L2 LW
noncomputable section
theorem seq_step {s k : Ms} {env env' : Env} {st st' : Store} (h : s env st = .nx env' st') : mSeq s k env st = k env' st' := by
  rw [mSeq_ap, h]; rfl
theorem words_step {e0 e1 e2 e4 e6 e7 : Option PV} {w : Str} (hw : w ∈ excC) {x : PV} (hx : Thing x) {st : Store} : ∃ st', L1_law [e0, e1, e2, some x, e4, some (.str w), e6, e7] st = .nx [e0, e1, e2, some x, e4, some (.str w), e6, e7] st' ∧ Kp0 st st' := by
  obtain ⟨s1, a1, k1⟩ := raised_ok hw hx (st := st)
  obtain ⟨s2, a2, k2⟩ := just_pair (w := w) (st := s1)
  have hz2 : (2 : Nat) ≤ sizeLine := by decide
  exact ⟨s2, by simp [L1_law, a1, a2, hz2], k1.trans k2⟩
theorem words_loop {e0 e1 e2 e4 e6 e7 : Option PV} {x : PV} (hx : Thing x) {q : Nat} {zs : List PV} : ∀ (ws : List Str) (y5 : Option PV) (st : Store), (∀ w ∈ ws, w ∈ excC) → st[q]? = some (.lst zs) →
    ∃ z5 st', mLoop (some (q, .lst zs)) (gN 5) L1_law (ws.map .str) [e0, e1, e2, some x, e4, y5, e6, e7] st = .nx [e0, e1, e2, some x, e4, z5, e6, e7] st'
  | [], y5, st, _, hq => ⟨y5, st, by simp [mLoop, lst_guard hq]⟩
  | w :: ws, y5, st, h, hq => by
    obtain ⟨s1, a1, k1⟩ := words_step (e0 := e0) (e1 := e1) (e2 := e2) (e4 := e4) (e6 := e6) (e7 := e7) (h w List.mem_cons_self) hx (st := st)
    obtain ⟨z5, s2, a2⟩ := words_loop hx (e0 := e0) (e1 := e1) (e2 := e2) (e4 := e4) (e6 := e6) (e7 := e7) ws (some (.str w)) s1 (fun u hu => h u (List.mem_cons_of_mem _ hu)) (k1 _ _ hq)
    exact ⟨z5, s2, by simp [mLoop, lst_guard hq, a1, a2]⟩
def w10 : List Str := ["NoHouse", "NoKey", "NoNode", "TooFar", "NoLetter", "NoTicket", "NoNumber", "NoSync", "Nothing", "NoDeed"]
def w4 : List Str := ["NoHistory", "NoText", "NoName", "NoLine"]
theorem w14 : w10 ++ w4 = excC := rfl
theorem law_tail {e0 e1 e2 : Option PV} {x : PV} (hx : Thing x) {st : Store} : ∃ st', (mSeq S6_law (mSeq S7_law (mSeq S8_law S9_law))) [e0, e1, e2, some x, none, none, none, none] st = .rt (.bl true) st' := by
  have hz : ∀ n : Nat, n ≤ 1000 → n ≤ sizeLine := fun n h => Nat.le_trans h (by decide)
  obtain ⟨s1, hs1⟩ : ∃ s1, s1 = st ++ [PO.lst (w10.map PV.str)] := ⟨_, rfl⟩
  have a1 : S6_law [e0, e1, e2, some x, none, none, none, none] st = .nx [e0, e1, e2, some x, some (.ref st.length), none, none, none] s1 := by simp [S6_law, hz 10 (by decide), hs1, w10]
  have h1 : s1[st.length]? = some (.lst (w10.map PV.str)) := hs1 ▸ at_new
  obtain ⟨s2, hs2⟩ : ∃ s2, s2 = s1 ++ [PO.lst (w4.map PV.str)] := ⟨_, rfl⟩
  have h2 : s2[s1.length]? = some (.lst (w4.map PV.str)) := hs2 ▸ at_new
  have h12 : s2[st.length]? = some _ := (hs2 ▸ Kp0.push : Kp0 s1 s2) _ _ h1
  obtain ⟨s3, hs3⟩ : ∃ s3, s3 = s2 ++ [PO.lst (excC.map PV.str)] := ⟨_, rfl⟩
  have h3 : s3[s2.length]? = some (.lst (excC.map PV.str)) := hs3 ▸ at_new
  have ea : pAdd (.ref st.length) (.ref s1.length) s2 = .ok (.ref s2.length) s3 := by
    have hl : (w10.map PV.str).length + (w4.map PV.str).length ≤ sizeLine := hz 14 (by decide)
    simp only [pAdd, h12, h2, hs3, hl, if_true, alloc, ← List.map_append, w14]
  obtain ⟨z5, s4, e4⟩ := words_loop (e0 := e0) (e1 := e1) (e2 := e2) (e4 := some (.ref st.length)) (e6 := none) (e7 := none) hx excC none s3 (fun _ h => h) h3
  have ew := lst_wItems h3
  have a2 : S7_law [e0, e1, e2, some x, some (.ref st.length), none, none, none] s1 = .nx [e0, e1, e2, some x, some (.ref st.length), z5, none, none] s4 := by
    have h9 : s1 ++ [PO.lst [.str "NoHistory", .str "NoText", .str "NoName", .str "NoLine"]] = s2 := hs2.symm
    simp [S7_law, hz 4 (by decide), h9, ea, ew, e4]
  obtain ⟨p, s5, e5, h5⟩ := fields_ok (x := x) (st := s4)
  have hj : ∀ s, pf__law_just [x, x] s = .ok (.bl true) s := fun s => just_flat 1 hx.flat
  have a3 : S8_law [e0, e1, e2, some x, some (.ref st.length), z5, none, none] s4 = .nx [e0, e1, e2, some x, some (.ref st.length), z5, none, none] (s5 ++ [PO.lst (List.replicate 13 (.bl true))]) := by
    have el := lc_on1 (g := some (p, .lst (List.replicate 13 x))) (tg := gN 7) (te := E2_law) (env0 := [e0, e1, e2, some x, some (.ref st.length), z5, none, none]) (st := s5) (fun _ : Nat => x) (fun _ => [e0, e1, e2, some x, some (.ref st.length), z5, none, some x]) (fun _ => PV.bl true) (lst_guard h5) (List.range 13) (hz 13 (by decide)) (fun y _ => ⟨by simp, by simp [E2_law, hj]⟩)
    have r1 : (List.range 13).map (fun _ => x) = List.replicate 13 x := rfl
    have r2 : (List.range 13).map (fun _ => PV.bl true) = List.replicate 13 (.bl true) := rfl
    rw [r1, r2] at el
    have al : pAll (.ref s5.length) (s5 ++ [PO.lst (List.replicate 13 (.bl true))]) = .ok (.bl true) (s5 ++ [PO.lst (List.replicate 13 (.bl true))]) := lst_allf (l := List.range 13) (f := fun _ => true) (by rw [at_new]; rfl)
    have ew5 := lst_wItems h5
    rw [S8_law]
    generalize List.replicate 13 x = Y at e5 ew5 el h5
    generalize List.replicate 13 (PV.bl true) = Z at el al ⊢
    simp [e5, ew5, el, al, wipeP]
  refine ⟨s5 ++ [PO.lst (List.replicate 13 (.bl true))], (seq_step a1).trans ((seq_step a2).trans ((seq_step a3).trans ?_))⟩
  simp [S9_law, mOnly, hj]
theorem law_in {ns : List Int} (hns : ns.length ≤ 63) : ∃ st', pf_law [.ref 0] [.ro (ns.map .int)] = .ok (.bl true) st' := by
  have hro : ([PO.ro (ns.map .int)] : Store)[0]? = some (.ro (ns.map .int)) := rfl
  obtain ⟨l, c, hl, e1⟩ := pool_ok (k := 0) hro (by decide)
  obtain ⟨s1, hs1⟩ : ∃ s1, s1 = ([PO.ro (ns.map .int)] : Store) ++ [poolP l c 0 0] := ⟨_, rfl⟩
  rw [← hs1] at e1
  have hp1 : PoolAt s1 1 := ⟨l, c, 0, 0, hl, by rw [hs1]; rfl⟩
  obtain ⟨w, s2, w0, w1, e2, hp2, k2⟩ := take_s hp1 (n := 3) (by decide) (by decide)
  obtain ⟨a, s3, a0, a1, e3, hp3, k3⟩ := take_ok hp2 (n := 10 ^ 40) (by decide) (Int.le_refl _)
  obtain ⟨b, s4, b0, b1, e4, hp4, k4⟩ := take_s hp3 (n := 2) (by decide) (by decide)
  have hpw : CPow 10 40 := ⟨by decide, by decide, by decide⟩
  have cm : ∀ x : Int, CMul 2 x ∨ CMulX 2 x := fun x => .inl (.inl ⟨by decide, by decide⟩)
  have cm2 : CMul a (1 - 2 * b) ∨ CMulX a (1 - 2 * b) := .inl (.inr ⟨by omega, by omega⟩)
  have e3 : pf__law_take [.ref 1, .int 10000000000000000000000000000000000000000] s2 = .ok (.int a) s3 := e3
  have t1 : S1_law [some (.ref 0), none, none, none, none, none, none, none] [PO.ro (ns.map .int)] = .nx [some (.ref 0), some (.ref 1), none, none, none, none, none, none] s1 := by simp [S1_law, e1]
  have t2 : S2_law [some (.ref 0), some (.ref 1), none, none, none, none, none, none] s1 = .nx [some (.ref 0), some (.ref 1), some (.int w), none, none, none, none, none] s2 := by simp [S2_law, e2]
  have t3 : S3_law [some (.ref 0), some (.ref 1), some (.int w), none, none, none, none, none] s2 = .nx [some (.ref 0), some (.ref 1), some (.int w), some (.int (a * (1 - 2 * b))), none, none, none, none] s4 := by
    simp [S3_law, hpw, e3, e4, cm, cm2]
  have hw0 : (a * (1 - 2 * b)).natAbs < 10 ^ 40 := by
    have : b = 0 ∨ b = 1 := by omega
    rcases this with rfl | rfl
    · simp; omega
    · simp; omega
  have fin : ∀ {x : PV} {s5 : Store}, Thing x → (mSeq S4_law (mSeq S5_law (mSeq S6_law (mSeq S7_law (mSeq S8_law S9_law))))) [some (.ref 0), some (.ref 1), some (.int w), some (.int (a * (1 - 2 * b))), none, none, none, none] s4 = (mSeq S6_law (mSeq S7_law (mSeq S8_law S9_law))) [some (.ref 0), some (.ref 1), some (.int w), some x, none, none, none, none] s5 → ∃ st', pf_law [.ref 0] [.ro (ns.map .int)] = .ok (.bl true) st' := fun {x s5} hx h => by
    obtain ⟨s6, e6⟩ := law_tail (e0 := some (.ref 0)) (e1 := some (.ref 1)) (e2 := some (.int w)) hx (st := s5)
    refine ⟨s6, (pf_of rfl).trans ?_⟩
    have e0 : m_law [some (.ref 0), none, none, none, none, none, none, none] [.ro (ns.map .int)] = .rt (.bl true) s6 := (seq_step t1).trans ((seq_step t2).trans ((seq_step t3).trans (h.trans e6)))
    exact congrArg Fl.fin e0
  have : w = 0 ∨ w = 1 ∨ w = 2 := by omega
  rcases this with rfl | rfl | rfl
  · obtain ⟨u, s5, u0, u1, e5, hp5, k5⟩ := take_s hp4 (n := 20) (by decide) (by decide)
    obtain ⟨n, hn⟩ : ∃ n : Nat, u = n := ⟨u.toNat, by omega⟩
    obtain ⟨cs, s6, e6, lc, hp6, k6⟩ := text_drawn (env := [some (.ref 0), some (.ref 1), some (.int 0), some (.int (a * (1 - 2 * b))), none, none, none, none]) (n := n) hp5 rfl (by omega)
    have ej : pJoin "" (.ref s6.length) (s6 ++ [PO.lst (cs.map fun c => .str (sg c))]) = .ok (.str (Txt.join "" (cs.map sg))) (s6 ++ [PO.lst (cs.map fun c => .str (sg c))]) := by
      refine lst_join (ys := cs.map sg) (by rw [at_new, List.map_map]; rfl) ?_
      have hs : ∀ cs : List Nat, ((cs.map sg).map (·.length)).sum = cs.length := fun cs => by
        induction cs with
        | nil => rfl
        | cons c cs ih =>
          simp only [List.map_cons, List.sum_cons, List.length_cons] at ih ⊢
          rw [ih]
          show 1 + cs.length = _
          omega
      rw [hs, show ("" : Str).length = 0 from by decide +kernel, Nat.mul_zero, lc]
      omega
    have hr : rng1 u s5 = .ok (rangeP 0 n, none) s5 := by
      rw [hn, rng1_of ⟨by omega, by omega⟩]; rfl
    have t4 : S4_law [some (.ref 0), some (.ref 1), some (.int 0), some (.int (a * (1 - 2 * b))), none, none, none, none] s4 = .nx [some (.ref 0), some (.ref 1), some (.int 0), some (.str (Txt.join "" (cs.map sg))), none, none, none, none] (s6 ++ [PO.lst (cs.map fun c => .str (sg c))]) := by
      simp [S4_law, e5, hr, e6, ej, wipeP]
    have t5 : ∀ s x, S5_law [some (.ref 0), some (.ref 1), some (.int 0), some x, none, none, none, none] s = .nx [some (.ref 0), some (.ref 1), some (.int 0), some x, none, none, none, none] s := fun s x => by simp [S5_law]
    exact fin .str ((seq_step t4).trans (seq_step (t5 _ _)))
  · obtain ⟨u, s5, u0, u1, e5, hp5, k5⟩ := take_s hp4 (n := 9) (by decide) (by decide)
    have t4 : ∀ s x, S4_law [some (.ref 0), some (.ref 1), some (.int 1), some x, none, none, none, none] s = .nx [some (.ref 0), some (.ref 1), some (.int 1), some x, none, none, none, none] s := fun s x => by simp [S4_law]
    have t5 : S5_law [some (.ref 0), some (.ref 1), some (.int 1), some (.int (a * (1 - 2 * b))), none, none, none, none] s4 = .nx [some (.ref 0), some (.ref 1), some (.int 1), some (.int u), none, none, none, none] s5 := by simp [S5_law, e5]
    exact fin (.int (log_small (Nat.lt_of_lt_of_le (by omega : u.natAbs < 10) (by decide +kernel)))) ((seq_step (t4 _ _)).trans (seq_step t5))
  · have t4 : ∀ s x, S4_law [some (.ref 0), some (.ref 1), some (.int 2), some x, none, none, none, none] s = .nx [some (.ref 0), some (.ref 1), some (.int 2), some x, none, none, none, none] s := fun s x => by simp [S4_law]
    have t5 : ∀ s x, S5_law [some (.ref 0), some (.ref 1), some (.int 2), some x, none, none, none, none] s = .nx [some (.ref 0), some (.ref 1), some (.int 2), some x, none, none, none, none] s := fun s x => by simp [S5_law]
    exact fin (.int (log_small hw0)) ((seq_step (t4 _ _)).trans (seq_step (t5 _ _)))
end
end PL
set_option Elab.async false
set_option linter.all false
set_option maxRecDepth 100000
set_option maxHeartbeats 4000000
namespace PL
open PySem PySem.Spec PyProof.Rows L2 LW
noncomputable section
section
variable {P : Program} {w : World} {K : Fg} {mg : Str → Option Value} {base : Heap} {fd : FuncData}
theorem sc__law_pool : FnScope N__law_pool ["_law_script", "_law_k"] (defScope s__law_pool) := ⟨rfl, rfl, rfl, by decide +kernel, rfl, by decide +kernel, by decide +kernel⟩
theorem ok__law_pool (T : Tx K mg) (D : Kx K w) (C : Cx0 K) (E : Ex0 K) {f : Addr} (F : FnQ K "_law_pool" "_law_pool" s__law_pool [] [] f fd) : FnOk P w K mg base (L2N.CX P w) 1 f fd ["_law_script", "_law_k"] (spOf K pf__law_pool) := by
  refine fn_pure F sc__law_pool (k := 0) fun cdv A outer s H E1 hr => ?_
  have hu := hu_of hr
  have hu65 := hu65_of hr
  exact (pxb_cons (pxs_set (i := 2) sc__law_pool.nd rfl (Or.inl rfl) px_int)
  (pxb_cons (pxs_if (PXc.pt (pxc_op op_gtU sp_gt (px_callB call_lenU sp_len rfl T.z_len bt_len (pxa_cons (pvx 0) pxa_nil)) px_int)) (pxb_one (pxs_set (i := 2) sc__law_pool.nd rfl (Or.inl rfl) (px_ix hu (pvx 0) (px_op op_mod sp_mod (pvx 1) (px_callB call_lenU sp_len rfl T.z_len bt_len (pxa_cons (pvx 0) pxa_nil)))))) pxb_nil)
  (pxb_cons (pxs_set (i := 3) sc__law_pool.nd rfl (Or.inl rfl) px_int)
  (pxb_cons (pxs_if (PXw.pt (pxw_and (PXc.pt (pxc_op op_ltU sp_lt (pvx 1) (px_callB call_lenU sp_len rfl T.z_len bt_len (pxa_cons (pvx 0) pxa_nil)))) (pxw_and1 (PXc.pt (pxc_op op_geU sp_ge (px_callB call_absI sp_abs rfl T.z_abs bt_abs (pxa_cons (pvx 2) pxa_nil)) (px_op op_pow sp_pow px_int px_int)))))) (pxb_one (pxs_set (i := 3) sc__law_pool.nd rfl (Or.inl rfl) (px_callB call_absI sp_abs rfl T.z_abs bt_abs (pxa_cons (pvx 2) pxa_nil)))) pxb_nil)
  (pxb_one (pxs_ret (px_lst (pxa_cons (pvx 3) (pxa_cons (pvx 2) (pxa_cons (pvx 1) (pxa_cons px_int pxa_nil)))))))))))
theorem sc__law_take : FnScope N__law_take ["_law_pool_here", "_law_wide"] (defScope s__law_take) := ⟨rfl, rfl, rfl, by decide +kernel, rfl, by decide +kernel, by decide +kernel⟩
theorem ok__law_take (T : Tx K mg) (D : Kx K w) (C : Cx0 K) (E : Ex0 K) {f : Addr} (F : FnQ K "_law_take" "_law_take" s__law_take [] [] f fd) : FnOk P w K mg base (L2N.CX P w) 1 f fd ["_law_pool_here", "_law_wide"] (spOf K pf__law_take) := by
  refine fn_pure F sc__law_take (k := 0) fun cdv A outer s H E1 hr => ?_
  have hu := hu_of hr
  have hu65 := hu65_of hr
  exact (pxb_cons (pxs_if (PXc.pt (pxc_op op_gtU sp_gt (px_ix hu (pvx 0) px_int) px_int)) (pxb_cons (pxs_set (i := 2) sc__law_take.nd rfl (Or.inl rfl) (px_op op_mod sp_mod (px_ix hu (pvx 0) px_int) (pvx 1)))
  (pxb_cons (pxs_sub hu (pvx 0) px_int (px_op op_fdivW sp_div (px_ix hu (pvx 0) px_int) (pvx 1)))
  (pxb_one (pxs_ret (pvx 2))))) pxb_nil)
  (pxb_cons (pxs_set (i := 2) sc__law_take.nd rfl (Or.inl rfl) px_int)
  (pxb_cons (pxs_set (i := 3) sc__law_take.nd rfl (Or.inl rfl) px_int)
  (pxb_cons (pxs_while bigN hp_cx (PXc.pt (pxc_op op_ltU sp_lt (pvx 3) (pvx 1)))
  (pxb_cons (pxs_sel (f := isDictB) (a := (mVar 0)) (pxs_augD hu (pvx 0) px_int px_int in_add sp_iaddF) (pxs_augL (pvx 0) px_int px_int ip_add sp_iadd))
  (pxb_cons (pxs_set (i := 4) sc__law_take.nd rfl (Or.inl rfl) (px_op op_mod sp_mod (px_op op_addU sp_add (px_op op_addU sp_add (px_op op_addU sp_add (px_ix hu (pvx 0) px_int) (px_op op_mulU sp_mul px_int (px_ix hu (pvx 0) px_int))) (px_op op_mulU sp_mul px_int (px_ix hu (pvx 0) px_int))) px_int) px_int))
  (pxb_cons (pxs_set (i := 4) sc__law_take.nd rfl (Or.inl rfl) (px_op op_mod sp_mod (px_op op_pow sp_pow (pvx 4) px_int) px_int))
  (pxb_cons (pxs_set (i := 5) sc__law_take.nd rfl (Or.inl rfl) (px_op op_mod sp_mod (px_op op_addU sp_add (px_op op_addU sp_add (pvx 4) (px_op op_mulU sp_mul px_int (px_ix hu (pvx 0) px_int))) (px_op op_mulU sp_mul px_int (px_ix hu (pvx 0) px_int))) px_int))
  (pxb_cons (pxs_set (i := 2) sc__law_take.nd rfl (Or.inl rfl) (px_op op_addU sp_add (px_op op_mulU sp_mul (pvx 2) px_int) (px_op op_mod sp_mod (px_op op_addU sp_add (px_op op_mod sp_mod (px_op op_pow sp_pow (pvx 5) px_int) px_int) (pvx 4)) px_int)))
  (pxb_one (pxs_set (i := 3) sc__law_take.nd rfl (Or.inl rfl) (px_op op_mulU sp_mul (pvx 3) px_int)))))))))
  (pxb_one (pxs_ret (px_op op_mod sp_mod (pvx 2) (pvx 1))))))))
theorem sc__law_signs : FnScope N__law_signs [] (defScope s__law_signs) := ⟨rfl, rfl, rfl, by decide +kernel, rfl, by decide +kernel, by decide +kernel⟩
theorem ok__law_signs (T : Tx K mg) (D : Kx K w) (C : Cx0 K) (E : Ex0 K) {f : Addr} (F : FnQ K "_law_signs" "_law_signs" s__law_signs [] [] f fd) : FnOk P w K mg base (L2N.CX P w) 1 f fd [] (spOf K pf__law_signs) := by
  refine fn_pure F sc__law_signs (k := 0) fun cdv A outer s H E1 hr => ?_
  have hu := hu_of hr
  have hu65 := hu65_of hr
  exact (pxb_cons (pxs_set (i := 0) sc__law_signs.nd rfl (Or.inl rfl) px_str)
  (pxb_one (pxs_ret (px_op op_addU sp_add (pvx 0) px_str))))
theorem sc__law_just : FnScope N__law_just ["_law_found", "_law_due"] (defScope s__law_just) := ⟨rfl, rfl, rfl, by decide +kernel, rfl, by decide +kernel, by decide +kernel⟩
theorem ok__law_just_0 {f : Addr} (F : FnQ K "_law_just" "_law_just" s__law_just [] [] f fd) : FnOk P w K mg base (L2N.CX P w) 1 f fd ["_law_found", "_law_due"] (spOf K (pr__law_just 0)) := fn_pure F sc__law_just (k := 0) (m := mNever) fun cdv A outer s H E1 hr => pxb_never
theorem ok__law_just_1 (T : Tx K mg) (D : Kx K w) (C : Cx0 K) (E : Ex0 K) {f : Addr} (F : FnQ K "_law_just" "_law_just" s__law_just [] [] f fd) (hg : mg "_law_just" = some (.ref f)) : FnOk P w K mg base (L2N.CX P w) 2 f fd ["_law_found", "_law_due"] (spOf K (pr__law_just 1)) := by
  have c0 : CalN P w K mg base 1 "_law_just" 2 [] (pr__law_just 0) gN__law_just_2 := ⟨f, fd, _, (ok__law_just_0 F), hg, F.kp, Bnd.plain F fun _ _ _ _ _ _ us ws h1 h2 => match us, ws, h1, h2 with | [_, _], [], _, _ => rfl⟩
  show FnOk P w K mg base (L2N.CX P w) 2 f fd ["_law_found", "_law_due"] (spOf K (runF 2 4 (m__law_just (pr__law_just 0))))
  refine fn_pure F sc__law_just (k := 1) fun cdv A outer s H E1 hr => ?_
  have hu := hu_of hr
  have hu65 := hu65_of hr
  exact (pxb_cons (pxs_if (pxt_truth (px_callB call_isiU sp_isi rfl T.z_isinstance bt_isinstance (pxa_cons (pvx 1) (pxa_cons (px_tup (pxa_cons (px_c (v := .ty "tuple") (pe_bltn rfl T.z_tuple bt_tuple rfl) fun _ _ => rfl) (pxa_cons (px_c (v := .ty "list") (pe_bltn rfl T.z_list bt_list rfl) fun _ _ => rfl) pxa_nil))) pxa_nil)))) (pxb_cons (pxs_if (PXw.pt (pxw_or (PXc.pt (pxc_op (op_neU hr.units) sp_ne (px_callB call_isiU sp_isi rfl T.z_isinstance bt_isinstance (pxa_cons (pvx 1) (pxa_cons (px_c (v := .ty "list") (pe_bltn rfl T.z_list bt_list rfl) fun _ _ => rfl) pxa_nil))) (px_callB call_isiU sp_isi rfl T.z_isinstance bt_isinstance (pxa_cons (pvx 0) (pxa_cons (px_c (v := .ty "list") (pe_bltn rfl T.z_list bt_list rfl) fun _ _ => rfl) pxa_nil))))) (pxw_or1 (PXc.pt (pxc_op (op_neU hr.units) sp_ne (px_callB call_isiU sp_isi rfl T.z_isinstance bt_isinstance (pxa_cons (pvx 1) (pxa_cons (px_c (v := .ty "tuple") (pe_bltn rfl T.z_tuple bt_tuple rfl) fun _ _ => rfl) pxa_nil))) (px_callB call_isiU sp_isi rfl T.z_isinstance bt_isinstance (pxa_cons (pvx 0) (pxa_cons (px_c (v := .ty "tuple") (pe_bltn rfl T.z_tuple bt_tuple rfl) fun _ _ => rfl) pxa_nil)))))))) (pxb_one (pxs_ret px_bl)) pxb_nil)
  (pxb_one (pxs_ret (px_and (PXc.px (pxc_op (op_eqU hr.units) sp_eq (px_callB call_lenU sp_len rfl T.z_len bt_len (pxa_cons (pvx 0) pxa_nil)) (px_callB call_lenU sp_len rfl T.z_len bt_len (pxa_cons (pvx 1) pxa_nil)))) (px_one (px_callB (cr_all rfl) sp_all rfl T.z_all bt_all (pxa_cons (px_lc (own := [("_law_a", 2), ("_law_b", 3)]) rfl sc__law_just.nd (pxi_zip (pvx 0) (pvx 1) rfl T.z_zip) (blkOk_by (N := N__law_just) (sc := defScope s__law_just) (by decide +kernel)) (fun _ _ _ _ _ => (pxg_un rfl (pxgs_cons (pxg_name (i := 2) sc__law_just.nd rfl (by first | exact Or.inl rfl | exact Or.inr rfl)) (pxgs_cons (pxg_name (i := 3) sc__law_just.nd rfl (by first | exact Or.inl rfl | exact Or.inr rfl)) pxgs_nil)))) (fun _ _ _ _ _ => pxts_nil) (fun _ _ _ _ _ => (px_call c0 takes0 hr (by decide) rfl (pxa_cons (pvx 2) (pxa_cons (pvx 3) pxa_nil)) pxk_nil))) pxa_nil))))))) pxb_nil)
  (pxb_cons (pxs_if (PXw.pt (pxw_or (pxt_truth (px_callB call_isiU sp_isi rfl T.z_isinstance bt_isinstance (pxa_cons (pvx 1) (pxa_cons (px_c (v := .ty "bool") (pe_bltn rfl T.z_bool bt_bool rfl) fun _ _ => rfl) pxa_nil)))) (pxw_or1 (pxt_truth (px_callB call_isiU sp_isi rfl T.z_isinstance bt_isinstance (pxa_cons (pvx 0) (pxa_cons (px_c (v := .ty "bool") (pe_bltn rfl T.z_bool bt_bool rfl) fun _ _ => rfl) pxa_nil))))))) (pxb_one (pxs_ret (px_and (px_callB call_isiU sp_isi rfl T.z_isinstance bt_isinstance (pxa_cons (pvx 1) (pxa_cons (px_c (v := .ty "bool") (pe_bltn rfl T.z_bool bt_bool rfl) fun _ _ => rfl) pxa_nil))) (px_and (px_callB call_isiU sp_isi rfl T.z_isinstance bt_isinstance (pxa_cons (pvx 0) (pxa_cons (px_c (v := .ty "bool") (pe_bltn rfl T.z_bool bt_bool rfl) fun _ _ => rfl) pxa_nil))) (px_one (PXc.px (pxc_op (op_eqU hr.units) sp_eq (pvx 0) (pvx 1)))))))) pxb_nil)
  (pxb_cons (pxs_if (PXw.pt (pxw_or (pxt_truth (px_callB call_isiU sp_isi rfl T.z_isinstance bt_isinstance (pxa_cons (pvx 0) (pxa_cons (px_tup (pxa_cons (px_c (v := .ty "tuple") (pe_bltn rfl T.z_tuple bt_tuple rfl) fun _ _ => rfl) (pxa_cons (px_c (v := .ty "list") (pe_bltn rfl T.z_list bt_list rfl) fun _ _ => rfl) pxa_nil))) pxa_nil)))) (pxw_or1 (PXc.pt (pxc_op (op_neU hr.units) sp_ne (PXc.px (pxc_op op_isN1 sp_isN (pvx 0) px_non)) (PXc.px (pxc_op op_isN1 sp_isN (pvx 1) px_non))))))) (pxb_one (pxs_ret px_bl)) pxb_nil)
  (pxb_one (pxs_ret (PXc.px (pxc_op (op_eqU hr.units) sp_eq (pvx 0) (pvx 1))))))))
theorem ok__law_just (T : Tx K mg) (D : Kx K w) (C : Cx0 K) (E : Ex0 K) {f : Addr} (F : FnQ K "_law_just" "_law_just" s__law_just [] [] f fd) (hg : mg "_law_just" = some (.ref f)) : FnOk P w K mg base (L2N.CX P w) 3 f fd ["_law_found", "_law_due"] (spOf K pf__law_just) := by
  have c0 : CalN P w K mg base 2 "_law_just" 2 [] (pr__law_just 1) gN__law_just_2 := ⟨f, fd, _, (ok__law_just_1 T D C E F hg ), hg, F.kp, Bnd.plain F fun _ _ _ _ _ _ us ws h1 h2 => match us, ws, h1, h2 with | [_, _], [], _, _ => rfl⟩
  show FnOk P w K mg base (L2N.CX P w) 3 f fd ["_law_found", "_law_due"] (spOf K (runF 2 4 (m__law_just (pr__law_just 1))))
  refine fn_pure F sc__law_just (k := 2) fun cdv A outer s H E1 hr => ?_
  have hu := hu_of hr
  have hu65 := hu65_of hr
  exact (pxb_cons (pxs_if (pxt_truth (px_callB call_isiU sp_isi rfl T.z_isinstance bt_isinstance (pxa_cons (pvx 1) (pxa_cons (px_tup (pxa_cons (px_c (v := .ty "tuple") (pe_bltn rfl T.z_tuple bt_tuple rfl) fun _ _ => rfl) (pxa_cons (px_c (v := .ty "list") (pe_bltn rfl T.z_list bt_list rfl) fun _ _ => rfl) pxa_nil))) pxa_nil)))) (pxb_cons (pxs_if (PXw.pt (pxw_or (PXc.pt (pxc_op (op_neU hr.units) sp_ne (px_callB call_isiU sp_isi rfl T.z_isinstance bt_isinstance (pxa_cons (pvx 1) (pxa_cons (px_c (v := .ty "list") (pe_bltn rfl T.z_list bt_list rfl) fun _ _ => rfl) pxa_nil))) (px_callB call_isiU sp_isi rfl T.z_isinstance bt_isinstance (pxa_cons (pvx 0) (pxa_cons (px_c (v := .ty "list") (pe_bltn rfl T.z_list bt_list rfl) fun _ _ => rfl) pxa_nil))))) (pxw_or1 (PXc.pt (pxc_op (op_neU hr.units) sp_ne (px_callB call_isiU sp_isi rfl T.z_isinstance bt_isinstance (pxa_cons (pvx 1) (pxa_cons (px_c (v := .ty "tuple") (pe_bltn rfl T.z_tuple bt_tuple rfl) fun _ _ => rfl) pxa_nil))) (px_callB call_isiU sp_isi rfl T.z_isinstance bt_isinstance (pxa_cons (pvx 0) (pxa_cons (px_c (v := .ty "tuple") (pe_bltn rfl T.z_tuple bt_tuple rfl) fun _ _ => rfl) pxa_nil)))))))) (pxb_one (pxs_ret px_bl)) pxb_nil)
  (pxb_one (pxs_ret (px_and (PXc.px (pxc_op (op_eqU hr.units) sp_eq (px_callB call_lenU sp_len rfl T.z_len bt_len (pxa_cons (pvx 0) pxa_nil)) (px_callB call_lenU sp_len rfl T.z_len bt_len (pxa_cons (pvx 1) pxa_nil)))) (px_one (px_callB (cr_all rfl) sp_all rfl T.z_all bt_all (pxa_cons (px_lc (own := [("_law_a", 2), ("_law_b", 3)]) rfl sc__law_just.nd (pxi_zip (pvx 0) (pvx 1) rfl T.z_zip) (blkOk_by (N := N__law_just) (sc := defScope s__law_just) (by decide +kernel)) (fun _ _ _ _ _ => (pxg_un rfl (pxgs_cons (pxg_name (i := 2) sc__law_just.nd rfl (by first | exact Or.inl rfl | exact Or.inr rfl)) (pxgs_cons (pxg_name (i := 3) sc__law_just.nd rfl (by first | exact Or.inl rfl | exact Or.inr rfl)) pxgs_nil)))) (fun _ _ _ _ _ => pxts_nil) (fun _ _ _ _ _ => (px_call c0 takes0 hr (by decide) rfl (pxa_cons (pvx 2) (pxa_cons (pvx 3) pxa_nil)) pxk_nil))) pxa_nil))))))) pxb_nil)
  (pxb_cons (pxs_if (PXw.pt (pxw_or (pxt_truth (px_callB call_isiU sp_isi rfl T.z_isinstance bt_isinstance (pxa_cons (pvx 1) (pxa_cons (px_c (v := .ty "bool") (pe_bltn rfl T.z_bool bt_bool rfl) fun _ _ => rfl) pxa_nil)))) (pxw_or1 (pxt_truth (px_callB call_isiU sp_isi rfl T.z_isinstance bt_isinstance (pxa_cons (pvx 0) (pxa_cons (px_c (v := .ty "bool") (pe_bltn rfl T.z_bool bt_bool rfl) fun _ _ => rfl) pxa_nil))))))) (pxb_one (pxs_ret (px_and (px_callB call_isiU sp_isi rfl T.z_isinstance bt_isinstance (pxa_cons (pvx 1) (pxa_cons (px_c (v := .ty "bool") (pe_bltn rfl T.z_bool bt_bool rfl) fun _ _ => rfl) pxa_nil))) (px_and (px_callB call_isiU sp_isi rfl T.z_isinstance bt_isinstance (pxa_cons (pvx 0) (pxa_cons (px_c (v := .ty "bool") (pe_bltn rfl T.z_bool bt_bool rfl) fun _ _ => rfl) pxa_nil))) (px_one (PXc.px (pxc_op (op_eqU hr.units) sp_eq (pvx 0) (pvx 1)))))))) pxb_nil)
  (pxb_cons (pxs_if (PXw.pt (pxw_or (pxt_truth (px_callB call_isiU sp_isi rfl T.z_isinstance bt_isinstance (pxa_cons (pvx 0) (pxa_cons (px_tup (pxa_cons (px_c (v := .ty "tuple") (pe_bltn rfl T.z_tuple bt_tuple rfl) fun _ _ => rfl) (pxa_cons (px_c (v := .ty "list") (pe_bltn rfl T.z_list bt_list rfl) fun _ _ => rfl) pxa_nil))) pxa_nil)))) (pxw_or1 (PXc.pt (pxc_op (op_neU hr.units) sp_ne (PXc.px (pxc_op op_isN1 sp_isN (pvx 0) px_non)) (PXc.px (pxc_op op_isN1 sp_isN (pvx 1) px_non))))))) (pxb_one (pxs_ret px_bl)) pxb_nil)
  (pxb_one (pxs_ret (PXc.px (pxc_op (op_eqU hr.units) sp_eq (pvx 0) (pvx 1))))))))
theorem sc_NoHouse___init__ : FnScope N_NoHouse___init__ ["self", "why"] (defScope s_NoHouse___init__) := ⟨rfl, rfl, rfl, by decide +kernel, rfl, by decide +kernel, by decide +kernel⟩
theorem ok_NoHouse___init__ (T : Tx K mg) (E : Ex0 K) {f : Addr} (F : FnQ K "__init__" "NoHouse.__init__" s_NoHouse___init__ [] [] f fd) : FnOk P w K mg base (L2N.CX P w) 1 f fd ["self", "why"] (spE K "why") :=
  exc_fn (txt := "a house that can't be made, and why") F sc_NoHouse___init__ rfl rfl fun cdv A outer s H E1 hr => (pss_cons (ps_expr (pe_leinit rfl T.g_LendError E.init (pa_cons (pv 0) (pa_cons pe_str pa_nil)))) (pss_one (ps_ost (pv 0) (pv 1))))
theorem sc_NoKey___init__ : FnScope N_NoKey___init__ ["self", "key"] (defScope s_NoKey___init__) := ⟨rfl, rfl, rfl, by decide +kernel, rfl, by decide +kernel, by decide +kernel⟩
theorem ok_NoKey___init__ (T : Tx K mg) (E : Ex0 K) {f : Addr} (F : FnQ K "__init__" "NoKey.__init__" s_NoKey___init__ [] [] f fd) : FnOk P w K mg base (L2N.CX P w) 1 f fd ["self", "key"] (spE K "key") :=
  exc_fn (txt := "a text that is no key") F sc_NoKey___init__ rfl rfl fun cdv A outer s H E1 hr => (pss_cons (ps_expr (pe_leinit rfl T.g_LendError E.init (pa_cons (pv 0) (pa_cons pe_str pa_nil)))) (pss_one (ps_ost (pv 0) (pv 1))))
theorem sc_NoNode___init__ : FnScope N_NoNode___init__ ["self", "node"] (defScope s_NoNode___init__) := ⟨rfl, rfl, rfl, by decide +kernel, rfl, by decide +kernel, by decide +kernel⟩
theorem ok_NoNode___init__ (T : Tx K mg) (E : Ex0 K) {f : Addr} (F : FnQ K "__init__" "NoNode.__init__" s_NoNode___init__ [] [] f fd) : FnOk P w K mg base (L2N.CX P w) 1 f fd ["self", "node"] (spE K "node") :=
  exc_fn (txt := "a number that is no such node") F sc_NoNode___init__ rfl rfl fun cdv A outer s H E1 hr => (pss_cons (ps_expr (pe_leinit rfl T.g_LendError E.init (pa_cons (pv 0) (pa_cons pe_str pa_nil)))) (pss_one (ps_ost (pv 0) (pv 1))))
theorem sc_TooFar___init__ : FnScope N_TooFar___init__ ["self", "node"] (defScope s_TooFar___init__) := ⟨rfl, rfl, rfl, by decide +kernel, rfl, by decide +kernel, by decide +kernel⟩
theorem ok_TooFar___init__ (T : Tx K mg) (E : Ex0 K) {f : Addr} (F : FnQ K "__init__" "TooFar.__init__" s_TooFar___init__ [] [] f fd) : FnOk P w K mg base (L2N.CX P w) 1 f fd ["self", "node"] (spE K "node") :=
  exc_fn (txt := "a clock that would go on too far") F sc_TooFar___init__ rfl rfl fun cdv A outer s H E1 hr => (pss_cons (ps_expr (pe_leinit rfl T.g_LendError E.init (pa_cons (pv 0) (pa_cons pe_str pa_nil)))) (pss_one (ps_ost (pv 0) (pv 1))))
theorem sc_NoLetter___init__ : FnScope N_NoLetter___init__ ["self", "number"] (defScope s_NoLetter___init__) := ⟨rfl, rfl, rfl, by decide +kernel, rfl, by decide +kernel, by decide +kernel⟩
theorem ok_NoLetter___init__ (T : Tx K mg) (E : Ex0 K) {f : Addr} (F : FnQ K "__init__" "NoLetter.__init__" s_NoLetter___init__ [] [] f fd) : FnOk P w K mg base (L2N.CX P w) 1 f fd ["self", "number"] (spE K "number") :=
  exc_fn (txt := "no letter lies there") F sc_NoLetter___init__ rfl rfl fun cdv A outer s H E1 hr => (pss_cons (ps_expr (pe_leinit rfl T.g_LendError E.init (pa_cons (pv 0) (pa_cons pe_str pa_nil)))) (pss_one (ps_ost (pv 0) (pv 1))))
theorem sc_NoTicket___init__ : FnScope N_NoTicket___init__ ["self", "number"] (defScope s_NoTicket___init__) := ⟨rfl, rfl, rfl, by decide +kernel, rfl, by decide +kernel, by decide +kernel⟩
theorem ok_NoTicket___init__ (T : Tx K mg) (E : Ex0 K) {f : Addr} (F : FnQ K "__init__" "NoTicket.__init__" s_NoTicket___init__ [] [] f fd) : FnOk P w K mg base (L2N.CX P w) 1 f fd ["self", "number"] (spE K "number") :=
  exc_fn (txt := "no such ticket") F sc_NoTicket___init__ rfl rfl fun cdv A outer s H E1 hr => (pss_cons (ps_expr (pe_leinit rfl T.g_LendError E.init (pa_cons (pv 0) (pa_cons pe_str pa_nil)))) (pss_one (ps_ost (pv 0) (pv 1))))
theorem sc_NoNumber___init__ : FnScope N_NoNumber___init__ ["self", "number"] (defScope s_NoNumber___init__) := ⟨rfl, rfl, rfl, by decide +kernel, rfl, by decide +kernel, by decide +kernel⟩
theorem ok_NoNumber___init__ (T : Tx K mg) (E : Ex0 K) {f : Addr} (F : FnQ K "__init__" "NoNumber.__init__" s_NoNumber___init__ [] [] f fd) : FnOk P w K mg base (L2N.CX P w) 1 f fd ["self", "number"] (spE K "number") :=
  exc_fn (txt := "no write of this number") F sc_NoNumber___init__ rfl rfl fun cdv A outer s H E1 hr => (pss_cons (ps_expr (pe_leinit rfl T.g_LendError E.init (pa_cons (pv 0) (pa_cons pe_str pa_nil)))) (pss_one (ps_ost (pv 0) (pv 1))))
theorem sc_NoSync___init__ : FnScope N_NoSync___init__ ["self", "number"] (defScope s_NoSync___init__) := ⟨rfl, rfl, rfl, by decide +kernel, rfl, by decide +kernel, by decide +kernel⟩
theorem ok_NoSync___init__ (T : Tx K mg) (E : Ex0 K) {f : Addr} (F : FnQ K "__init__" "NoSync.__init__" s_NoSync___init__ [] [] f fd) : FnOk P w K mg base (L2N.CX P w) 1 f fd ["self", "number"] (spE K "number") :=
  exc_fn (txt := "no such sync") F sc_NoSync___init__ rfl rfl fun cdv A outer s H E1 hr => (pss_cons (ps_expr (pe_leinit rfl T.g_LendError E.init (pa_cons (pv 0) (pa_cons pe_str pa_nil)))) (pss_one (ps_ost (pv 0) (pv 1))))
theorem sc_Nothing___init__ : FnScope N_Nothing___init__ ["self", "key"] (defScope s_Nothing___init__) := ⟨rfl, rfl, rfl, by decide +kernel, rfl, by decide +kernel, by decide +kernel⟩
theorem ok_Nothing___init__ (T : Tx K mg) (E : Ex0 K) {f : Addr} (F : FnQ K "__init__" "Nothing.__init__" s_Nothing___init__ [] [] f fd) : FnOk P w K mg base (L2N.CX P w) 1 f fd ["self", "key"] (spE K "key") :=
  exc_fn (txt := "nothing of a key to be flushed") F sc_Nothing___init__ rfl rfl fun cdv A outer s H E1 hr => (pss_cons (ps_expr (pe_leinit rfl T.g_LendError E.init (pa_cons (pv 0) (pa_cons pe_str pa_nil)))) (pss_one (ps_ost (pv 0) (pv 1))))
theorem sc_NoDeed___init__ : FnScope N_NoDeed___init__ ["self", "at"] (defScope s_NoDeed___init__) := ⟨rfl, rfl, rfl, by decide +kernel, rfl, by decide +kernel, by decide +kernel⟩
theorem ok_NoDeed___init__ (T : Tx K mg) (E : Ex0 K) {f : Addr} (F : FnQ K "__init__" "NoDeed.__init__" s_NoDeed___init__ [] [] f fd) : FnOk P w K mg base (L2N.CX P w) 1 f fd ["self", "at"] (spE K "at") :=
  exc_fn (txt := "a deed of a row that can't be done") F sc_NoDeed___init__ rfl rfl fun cdv A outer s H E1 hr => (pss_cons (ps_expr (pe_leinit rfl T.g_LendError E.init (pa_cons (pv 0) (pa_cons pe_str pa_nil)))) (pss_one (ps_ost (pv 0) (pv 1))))
theorem sc_NoHistory___init__ : FnScope N_NoHistory___init__ ["self", "at"] (defScope s_NoHistory___init__) := ⟨rfl, rfl, rfl, by decide +kernel, rfl, by decide +kernel, by decide +kernel⟩
theorem ok_NoHistory___init__ (T : Tx K mg) (E : Ex0 K) {f : Addr} (F : FnQ K "__init__" "NoHistory.__init__" s_NoHistory___init__ [] [] f fd) : FnOk P w K mg base (L2N.CX P w) 1 f fd ["self", "at"] (spE K "at") :=
  exc_fn (txt := "what is no history, at its place") F sc_NoHistory___init__ rfl rfl fun cdv A outer s H E1 hr => (pss_cons (ps_expr (pe_leinit rfl T.g_LendError E.init (pa_cons (pv 0) (pa_cons pe_str pa_nil)))) (pss_one (ps_ost (pv 0) (pv 1))))
theorem sc_NoText___init__ : FnScope N_NoText___init__ ["self", "at"] (defScope s_NoText___init__) := ⟨rfl, rfl, rfl, by decide +kernel, rfl, by decide +kernel, by decide +kernel⟩
theorem ok_NoText___init__ (T : Tx K mg) (E : Ex0 K) {f : Addr} (F : FnQ K "__init__" "NoText.__init__" s_NoText___init__ [] [] f fd) : FnOk P w K mg base (L2N.CX P w) 1 f fd ["self", "at"] (spE K "at") :=
  exc_fn (txt := "a text that can't be read, at its word") F sc_NoText___init__ rfl rfl fun cdv A outer s H E1 hr => (pss_cons (ps_expr (pe_leinit rfl T.g_LendError E.init (pa_cons (pv 0) (pa_cons pe_str pa_nil)))) (pss_one (ps_ost (pv 0) (pv 1))))
theorem sc_NoName___init__ : FnScope N_NoName___init__ ["self", "name"] (defScope s_NoName___init__) := ⟨rfl, rfl, rfl, by decide +kernel, rfl, by decide +kernel, by decide +kernel⟩
theorem ok_NoName___init__ (T : Tx K mg) (E : Ex0 K) {f : Addr} (F : FnQ K "__init__" "NoName.__init__" s_NoName___init__ [] [] f fd) : FnOk P w K mg base (L2N.CX P w) 1 f fd ["self", "name"] (spE K "name") :=
  exc_fn (txt := "a name that stands for no house") F sc_NoName___init__ rfl rfl fun cdv A outer s H E1 hr => (pss_cons (ps_expr (pe_leinit rfl T.g_LendError E.init (pa_cons (pv 0) (pa_cons pe_str pa_nil)))) (pss_one (ps_ost (pv 0) (pv 1))))
theorem sc__law_sorts : FnScope N__law_sorts ["_law_e"] (defScope s__law_sorts) := ⟨rfl, rfl, rfl, by decide +kernel, rfl, by decide +kernel, by decide +kernel⟩
theorem ok__law_sorts (T : Tx K mg) (D : Kx K w) (C : Cx0 K) (E : Ex0 K) {f : Addr} (F : FnQ K "_law_sorts" "_law_sorts" s__law_sorts [] [] f fd) : FnX P w K mg base 1 f fd "_law_e" pf__law_sorts := by
  refine fn_pureX F sc__law_sorts (k := 0) fun cdv A outer s H a oe cls d hot hz hf hr => ?_
  exact (pxbh_cons (j := 1) sc__law_sorts.nd rfl (Or.inl rfl) (by decide) (pxh_lst (pxah_cons (pxh_tup (pxah_cons (pxh_of px_str) (pxah_cons (pxh_isC E.q E.i_NoHouse pn_cx hz hf rfl T.g_NoHouse rfl T.z_isinstance) pxah_nil))) (pxah_cons (pxh_tup (pxah_cons (pxh_of px_str) (pxah_cons (pxh_isC E.q E.i_NoKey pn_cx hz hf rfl T.g_NoKey rfl T.z_isinstance) pxah_nil))) (pxah_cons (pxh_tup (pxah_cons (pxh_of px_str) (pxah_cons (pxh_isC E.q E.i_NoNode pn_cx hz hf rfl T.g_NoNode rfl T.z_isinstance) pxah_nil))) pxah_nil)))) (pxbh_cons (j := 1) sc__law_sorts.nd rfl (Or.inl rfl) (by decide) (pxh_op op_addU sp_add (pxh_of (pvx 1)) (pxh_lst (pxah_cons (pxh_tup (pxah_cons (pxh_of px_str) (pxah_cons (pxh_isC E.q E.i_TooFar pn_cx hz hf rfl T.g_TooFar rfl T.z_isinstance) pxah_nil))) (pxah_cons (pxh_tup (pxah_cons (pxh_of px_str) (pxah_cons (pxh_isC E.q E.i_NoLetter pn_cx hz hf rfl T.g_NoLetter rfl T.z_isinstance) pxah_nil))) pxah_nil)))) (pxbh_cons (j := 1) sc__law_sorts.nd rfl (Or.inl rfl) (by decide) (pxh_op op_addU sp_add (pxh_of (pvx 1)) (pxh_lst (pxah_cons (pxh_tup (pxah_cons (pxh_of px_str) (pxah_cons (pxh_isC E.q E.i_NoTicket pn_cx hz hf rfl T.g_NoTicket rfl T.z_isinstance) pxah_nil))) (pxah_cons (pxh_tup (pxah_cons (pxh_of px_str) (pxah_cons (pxh_isC E.q E.i_NoNumber pn_cx hz hf rfl T.g_NoNumber rfl T.z_isinstance) pxah_nil))) pxah_nil)))) (pxbh_cons (j := 1) sc__law_sorts.nd rfl (Or.inl rfl) (by decide) (pxh_op op_addU sp_add (pxh_of (pvx 1)) (pxh_lst (pxah_cons (pxh_tup (pxah_cons (pxh_of px_str) (pxah_cons (pxh_isC E.q E.i_NoSync pn_cx hz hf rfl T.g_NoSync rfl T.z_isinstance) pxah_nil))) (pxah_cons (pxh_tup (pxah_cons (pxh_of px_str) (pxah_cons (pxh_isC E.q E.i_Nothing pn_cx hz hf rfl T.g_Nothing rfl T.z_isinstance) pxah_nil))) pxah_nil)))) (pxbh_cons (j := 1) sc__law_sorts.nd rfl (Or.inl rfl) (by decide) (pxh_op op_addU sp_add (pxh_of (pvx 1)) (pxh_lst (pxah_cons (pxh_tup (pxah_cons (pxh_of px_str) (pxah_cons (pxh_isC E.q E.i_NoDeed pn_cx hz hf rfl T.g_NoDeed rfl T.z_isinstance) pxah_nil))) (pxah_cons (pxh_tup (pxah_cons (pxh_of px_str) (pxah_cons (pxh_isC E.q E.i_NoHistory pn_cx hz hf rfl T.g_NoHistory rfl T.z_isinstance) pxah_nil))) pxah_nil)))) (pxbh_cons (j := 1) sc__law_sorts.nd rfl (Or.inl rfl) (by decide) (pxh_op op_addU sp_add (pxh_of (pvx 1)) (pxh_lst (pxah_cons (pxh_tup (pxah_cons (pxh_of px_str) (pxah_cons (pxh_isC E.q E.i_NoText pn_cx hz hf rfl T.g_NoText rfl T.z_isinstance) pxah_nil))) (pxah_cons (pxh_tup (pxah_cons (pxh_of px_str) (pxah_cons (pxh_isC E.q E.i_NoName pn_cx hz hf rfl T.g_NoName rfl T.z_isinstance) pxah_nil))) pxah_nil)))) (pxbh_cons (j := 1) sc__law_sorts.nd rfl (Or.inl rfl) (by decide) (pxh_op op_addU sp_add (pxh_of (pvx 1)) (pxh_lst (pxah_cons (pxh_tup (pxah_cons (pxh_of px_str) (pxah_cons (pxh_isC E.q E.i_NoLine pn_cx hz hf rfl T.g_NoLine rfl T.z_isinstance) pxah_nil))) (pxah_cons (pxh_tup (pxah_cons (pxh_of px_str) (pxah_cons (pxh_not (pxh_isT E.q E.iT pn_cx hz hf rfl T.z_ValueError rfl T.z_isinstance)) pxah_nil))) pxah_nil)))) (pxbh_of (pxb_one (pxs_ret (px_join px_str (px_lcH (own := [("_law_word", 2), ("_law_is_so", 3)]) (hot_cx hot) sc__law_sorts.nd (pxih_list (pvx 1)) (blkOk_by (N := N__law_sorts) (sc := defScope s__law_sorts) (by decide +kernel)) (fun p hp _ _ _ _ _ => (pxg_tupH (HotC.blk hp) (pxgs_cons (pxg_name (i := 2) sc__law_sorts.nd rfl (by first | exact Or.inl rfl | exact Or.inr rfl)) (pxgs_cons (pxg_name (i := 3) sc__law_sorts.nd rfl (by first | exact Or.inl rfl | exact Or.inr rfl)) pxgs_nil)))) (fun p hp _ _ _ _ _ => (pxts_one (pxt_truth (pvx 3)))) (fun p hp _ _ _ _ _ => (pvx 2))))))))))))))
theorem sc__law_raised : FnScope N__law_raised ["_law_word", "_law_thing"] (defScope s__law_raised) := ⟨rfl, rfl, rfl, by decide +kernel, rfl, by decide +kernel, by decide +kernel⟩
theorem ok__law_raised (T : Tx K mg) (D : Kx K w) (C : Cx0 K) (E : Ex0 K) {f : Addr} (F : FnQ K "_law_raised" "_law_raised" s__law_raised [] [] f fd) (c0 : ExcK P w K mg base 1 "NoHouse") (c1 : ExcK P w K mg base 1 "NoKey") (c2 : ExcK P w K mg base 1 "NoNode") (c3 : ExcK P w K mg base 1 "TooFar") (c4 : ExcK P w K mg base 1 "NoLetter") (c5 : ExcK P w K mg base 1 "NoTicket") (c6 : ExcK P w K mg base 1 "NoNumber") (c7 : ExcK P w K mg base 1 "NoSync") (c8 : ExcK P w K mg base 1 "Nothing") (c9 : ExcK P w K mg base 1 "NoDeed") (c10 : ExcK P w K mg base 1 "NoHistory") (c11 : ExcK P w K mg base 1 "NoText") (c12 : ExcK P w K mg base 1 "NoName") (c13 : CalH P w K mg base 1 "_law_sorts" pf__law_sorts) : FnOk P w K mg base (L2N.CX P w) 3 f fd ["_law_word", "_law_thing"] (spOf K pf__law_raised) := by
  refine fn_pure F sc__law_raised (k := 2) fun cdv A outer s H E1 hr => ?_
  have hu := hu_of hr
  have hu65 := hu65_of hr
  exact (pxb_cons (pxs_set (i := 2) sc__law_raised.nd rfl (Or.inl rfl) px_non)
  (pxb_cons (pxs_tryAs (i := 3) E.m_LendError rfl rfl sc__law_raised.nd rfl rfl (names_of rfl T.g_LendError) tk_cx (fun W pn xe tkb hpb => (pxb_cons (pxs_if (PXc.pt (pxc_op (op_eqU hr.units) sp_eq (pvx 0) px_str)) (pxb_one (pxs_raise c0 rfl tkb hr (by decide) rfl (pvx 1))) pxb_nil)
  (pxb_cons (pxs_if (PXc.pt (pxc_op (op_eqU hr.units) sp_eq (pvx 0) px_str)) (pxb_one (pxs_raise c1 rfl tkb hr (by decide) rfl (pvx 1))) pxb_nil)
  (pxb_cons (pxs_if (PXc.pt (pxc_op (op_eqU hr.units) sp_eq (pvx 0) px_str)) (pxb_one (pxs_raise c2 rfl tkb hr (by decide) rfl (pvx 1))) pxb_nil)
  (pxb_cons (pxs_if (PXc.pt (pxc_op (op_eqU hr.units) sp_eq (pvx 0) px_str)) (pxb_one (pxs_raise c3 rfl tkb hr (by decide) rfl (pvx 1))) pxb_nil)
  (pxb_cons (pxs_if (PXc.pt (pxc_op (op_eqU hr.units) sp_eq (pvx 0) px_str)) (pxb_one (pxs_raise c4 rfl tkb hr (by decide) rfl (pvx 1))) pxb_nil)
  (pxb_cons (pxs_if (PXc.pt (pxc_op (op_eqU hr.units) sp_eq (pvx 0) px_str)) (pxb_one (pxs_raise c5 rfl tkb hr (by decide) rfl (pvx 1))) pxb_nil)
  (pxb_cons (pxs_if (PXc.pt (pxc_op (op_eqU hr.units) sp_eq (pvx 0) px_str)) (pxb_one (pxs_raise c6 rfl tkb hr (by decide) rfl (pvx 1))) pxb_nil)
  (pxb_cons (pxs_if (PXc.pt (pxc_op (op_eqU hr.units) sp_eq (pvx 0) px_str)) (pxb_one (pxs_raise c7 rfl tkb hr (by decide) rfl (pvx 1))) pxb_nil)
  (pxb_cons (pxs_if (PXc.pt (pxc_op (op_eqU hr.units) sp_eq (pvx 0) px_str)) (pxb_one (pxs_raise c8 rfl tkb hr (by decide) rfl (pvx 1))) pxb_nil)
  (pxb_cons (pxs_if (PXc.pt (pxc_op (op_eqU hr.units) sp_eq (pvx 0) px_str)) (pxb_one (pxs_raise c9 rfl tkb hr (by decide) rfl (pvx 1))) pxb_nil)
  (pxb_cons (pxs_if (PXc.pt (pxc_op (op_eqU hr.units) sp_eq (pvx 0) px_str)) (pxb_one (pxs_raise c10 rfl tkb hr (by decide) rfl (pvx 1))) pxb_nil)
  (pxb_cons (pxs_if (PXc.pt (pxc_op (op_eqU hr.units) sp_eq (pvx 0) px_str)) (pxb_one (pxs_raise c11 rfl tkb hr (by decide) rfl (pvx 1))) pxb_nil)
  (pxb_cons (pxs_if (PXc.pt (pxc_op (op_eqU hr.units) sp_eq (pvx 0) px_str)) (pxb_one (pxs_raise c12 rfl tkb hr (by decide) rfl (pvx 1))) pxb_nil)
  (pxb_one (pxs_raise0 ⟨E.x_NoLine, T.g_NoLine⟩ rfl tkb rfl (px_callTy call_strA sp_strC rfl T.z_str bt_str (pxa_cons (pvx 1) pxa_nil)))))))))))))))))) (fun a oe cls d pn hz hf => (pxbh_set (j := 2) sc__law_raised.nd rfl (Or.inl rfl) (pxh_tup (pxah_cons (pxh_call c13 hz hf hr (by decide) rfl rfl (by first | exact Or.inl rfl | exact Or.inr (Or.inl rfl) | exact Or.inr (Or.inr rfl))) (pxah_cons (pxh_isT E.q E.iT List.mem_cons_self hz.zc hf rfl T.z_ValueError rfl T.z_isinstance) pxah_nil))))))
  (pxb_one (pxs_ret (pvx 2)))))
theorem sc__law_fields : FnScope N__law_fields ["_law_thing"] (defScope s__law_fields) := ⟨rfl, rfl, rfl, by decide +kernel, rfl, by decide +kernel, by decide +kernel⟩
theorem ok__law_fields (T : Tx K mg) (D : Kx K w) (C : Cx0 K) (E : Ex0 K) {f : Addr} (F : FnQ K "_law_fields" "_law_fields" s__law_fields [] [] f fd) (c0 : ExcK P w K mg base 1 "NoLetter") (c1 : ExcK P w K mg base 1 "TooFar") (c2 : ExcK P w K mg base 1 "NoNode") (c3 : ExcK P w K mg base 1 "NoKey") (c4 : ExcK P w K mg base 1 "NoHouse") (c5 : ExcK P w K mg base 1 "Nothing") (c6 : ExcK P w K mg base 1 "NoSync") (c7 : ExcK P w K mg base 1 "NoNumber") (c8 : ExcK P w K mg base 1 "NoTicket") (c9 : ExcK P w K mg base 1 "NoName") (c10 : ExcK P w K mg base 1 "NoText") (c11 : ExcK P w K mg base 1 "NoHistory") (c12 : ExcK P w K mg base 1 "NoDeed") : FnOk P w K mg base (L2N.CX P w) 3 f fd ["_law_thing"] (spOf K pf__law_fields) := by
  refine fn_pure F sc__law_fields (k := 2) fun cdv A outer s H E1 hr => ?_
  have hu := hu_of hr
  have hu65 := hu65_of hr
  exact (pxb_cons (pxs_set (i := 1) sc__law_fields.nd rfl (Or.inl rfl) (px_lst (pxa_cons (px_exv1 c4 E.f (by decide) tk_cx hr (by decide) rfl (pvx 0)) (pxa_cons (px_exv1 c3 E.f (by decide) tk_cx hr (by decide) rfl (pvx 0)) (pxa_cons (px_exv1 c2 E.f (by decide) tk_cx hr (by decide) rfl (pvx 0)) (pxa_cons (px_exv1 c1 E.f (by decide) tk_cx hr (by decide) rfl (pvx 0)) (pxa_cons (px_exv1 c0 E.f (by decide) tk_cx hr (by decide) rfl (pvx 0)) pxa_nil)))))))
  (pxb_cons (pxs_set (i := 1) sc__law_fields.nd rfl (Or.inl rfl) (px_op op_addU sp_add (pvx 1) (px_lst (pxa_cons (px_exv1 c8 E.f (by decide) tk_cx hr (by decide) rfl (pvx 0)) (pxa_cons (px_exv1 c7 E.f (by decide) tk_cx hr (by decide) rfl (pvx 0)) (pxa_cons (px_exv1 c6 E.f (by decide) tk_cx hr (by decide) rfl (pvx 0)) (pxa_cons (px_exv1 c5 E.f (by decide) tk_cx hr (by decide) rfl (pvx 0)) pxa_nil)))))))
  (pxb_one (pxs_ret (px_op op_addU sp_add (pvx 1) (px_lst (pxa_cons (px_exv1 c12 E.f (by decide) tk_cx hr (by decide) rfl (pvx 0)) (pxa_cons (px_exv1 c11 E.f (by decide) tk_cx hr (by decide) rfl (pvx 0)) (pxa_cons (px_exv1 c10 E.f (by decide) tk_cx hr (by decide) rfl (pvx 0)) (pxa_cons (px_exv1 c9 E.f (by decide) tk_cx hr (by decide) rfl (pvx 0)) pxa_nil))))))))))
theorem sc_law : FnScope N_law ["_law_script"] (defScope s_law) := ⟨rfl, rfl, rfl, by decide +kernel, rfl, by decide +kernel, by decide +kernel⟩
theorem ok_law (T : Tx K mg) (D : Kx K w) (C : Cx0 K) (E : Ex0 K) {f : Addr} (F : FnQ K "law" "law" s_law [] [] f fd) (c0 : CalN P w K mg base 1 "_law_pool" 2 [] pf__law_pool gN__law_pool_2) (c1 : CalN P w K mg base 1 "_law_take" 2 [] pf__law_take gN__law_take_2) (c2 : CalN P w K mg base 1 "_law_signs" 0 [] pf__law_signs gN__law_signs_0) (c3 : CalN P w K mg base 3 "_law_just" 2 [] pf__law_just gN__law_just_2) (c4 : CalN P w K mg base 3 "_law_raised" 2 [] pf__law_raised gN__law_raised_2) (c5 : CalN P w K mg base 3 "_law_fields" 1 [] pf__law_fields gN__law_fields_1) (c6 : ExcKK P w K mg base 1 "NoDeed") (c7 : ExcKK P w K mg base 1 "NoNode") : FnOk P w K mg base (L2N.CX P w) 4 f fd ["_law_script"] (spOf K pf_law) := by
  refine fn_pure F sc_law (k := 3) fun cdv A outer s H E1 hr => ?_
  have hu := hu_of hr
  have hu65 := hu65_of hr
  exact (pxb_cons (pxs_set (i := 1) sc_law.nd rfl (Or.inr rfl) (px_call c0 tk_cx hr (by decide) rfl (pxa_cons (pvx 0) (pxa_cons px_int pxa_nil)) pxk_nil))
  (pxb_cons (pxs_set (i := 2) sc_law.nd rfl (Or.inl rfl) (px_call c1 tk_cx hr (by decide) rfl (pxa_cons (pvx 1) (pxa_cons px_int pxa_nil)) pxk_nil))
  (pxb_cons (pxs_set (i := 3) sc_law.nd rfl (Or.inr rfl) (px_op op_mulU sp_mul (px_call c1 tk_cx hr (by decide) rfl (pxa_cons (pvx 1) (pxa_cons (px_op op_pow sp_pow px_int px_int) pxa_nil)) pxk_nil) (px_op op_sub sp_sub px_int (px_op op_mulU sp_mul px_int (px_call c1 tk_cx hr (by decide) rfl (pxa_cons (pvx 1) (pxa_cons px_int pxa_nil)) pxk_nil)))))
  (pxb_cons (pxs_if (PXc.pt (pxc_op (op_eqU hr.units) sp_eq (pvx 2) px_int)) (pxb_one (pxs_set (i := 3) sc_law.nd rfl (Or.inr rfl) (px_join px_str (px_lc (own := [("_law_k", 6)]) rfl sc_law.nd (pxi_range1 (px_call c1 tk_cx hr (by decide) rfl (pxa_cons (pvx 1) (pxa_cons px_int pxa_nil)) pxk_nil) rfl T.z_range) (blkOk_by (N := N_law) (sc := defScope s_law) (by decide +kernel)) (fun _ _ _ _ _ => (pxg_name (i := 6) sc_law.nd rfl (by first | exact Or.inl rfl | exact Or.inr rfl))) (fun _ _ _ _ _ => pxts_nil) (fun _ _ _ _ _ => (px_ix hu (px_call0 c2 takes0 hr (by decide) rfl) (px_call c1 takes0 hr (by decide) rfl (pxa_cons (pvx 1) (pxa_cons px_int pxa_nil)) pxk_nil))))))) pxb_nil)
  (pxb_cons (pxs_if (PXc.pt (pxc_op (op_eqU hr.units) sp_eq (pvx 2) px_int)) (pxb_one (pxs_set (i := 3) sc_law.nd rfl (Or.inr rfl) (px_call c1 tk_cx hr (by decide) rfl (pxa_cons (pvx 1) (pxa_cons px_int pxa_nil)) pxk_nil))) pxb_nil)
  (pxb_cons (pxs_set (i := 4) sc_law.nd rfl (Or.inl rfl) (px_lst (pxa_cons px_str (pxa_cons px_str (pxa_cons px_str (pxa_cons px_str (pxa_cons px_str (pxa_cons px_str (pxa_cons px_str (pxa_cons px_str (pxa_cons px_str (pxa_cons px_str pxa_nil))))))))))))
  (pxb_cons (pxs_for hp_cx rfl (pxi_it (px_op op_addU sp_add (pvx 4) (px_lst (pxa_cons px_str (pxa_cons px_str (pxa_cons px_str (pxa_cons px_str pxa_nil))))))) (pxg_name (i := 5) sc_law.nd rfl (Or.inl rfl))
  (pxb_one (pxs_if (pxt_not (pxt_truth (px_call c3 tk_cx hr (by decide) rfl (pxa_cons (px_call c4 tk_cx hr (by decide) rfl (pxa_cons (pvx 5) (pxa_cons (pvx 3) pxa_nil)) pxk_nil) (pxa_cons (px_tup (pxa_cons (pvx 5) (pxa_cons px_bl pxa_nil))) pxa_nil)) pxk_nil))) (pxb_one (pxs_ret px_bl)) pxb_nil)))
  (pxb_cons (pxs_if (pxt_not (pxt_truth (px_callB (cr_all rfl) sp_all rfl T.z_all bt_all (pxa_cons (px_lc (own := [("_law_field", 7)]) rfl sc_law.nd (pxi_it (px_call c5 tk_cx hr (by decide) rfl (pxa_cons (pvx 3) pxa_nil) pxk_nil)) (blkOk_by (N := N_law) (sc := defScope s_law) (by decide +kernel)) (fun _ _ _ _ _ => (pxg_name (i := 7) sc_law.nd rfl (by first | exact Or.inl rfl | exact Or.inr rfl))) (fun _ _ _ _ _ => pxts_nil) (fun _ _ _ _ _ => (px_call c3 takes0 hr (by decide) rfl (pxa_cons (pvx 7) (pxa_cons (pvx 3) pxa_nil)) pxk_nil))) pxa_nil)))) (pxb_one (pxs_ret px_bl)) pxb_nil)
  (pxb_one (pxs_ret (px_and (px_call c3 tk_cx hr (by decide) rfl (pxa_cons (px_exvK1 c6 E.f (by decide) tk_cx hr (by decide) rfl (pxk_cons (pvx 3) pxk_nil)) (pxa_cons (pvx 3) pxa_nil)) pxk_nil) (px_one (px_call c3 tk_cx hr (by decide) rfl (pxa_cons (px_exvK1 c7 E.f (by decide) tk_cx hr (by decide) rfl (pxk_cons (pvx 3) pxk_nil)) (pxa_cons (pvx 3) pxa_nil)) pxk_nil)))))))))))))
end
end
end PL
set_option Elab.async false
set_option linter.all false
set_option maxRecDepth 100000
set_option maxHeartbeats 4000000
namespace PL
open PySem PySem.Spec PyProof.Rows L2 LW
noncomputable section
theorem facts {P : Program} {w : World} {K : Fg} {h : Heap} {mg : Str → Option Value} {f : Addr} (X : K.In h) (G : h.Ns mainGlobals mg) (hfa : mg ("law" : Str) = some (.ref f)) (xx : exK K = true) (cT : He.SaysT fa fn ts w K) :
    ∃ fd : FuncData, (∀ (s : Shared) (v : Value), BindsTo s fd ⟨[v], []⟩ [("_law_script", v)]) ∧ ∀ base : Heap, K.In base → base.Ns mainGlobals mg → FnOk P w K mg base (L2N.CX P w) 4 f fd ["_law_script"] (spOf K pf_law) := by
  have c := cT.d
  unfold exK at xx
  obtain ⟨y0, xx⟩ := He.ba xx
  unfold exK0 at y0
  obtain ⟨x0, y0⟩ := He.ba y0
  obtain ⟨y1, xx⟩ := He.ba xx
  unfold exK1 at y1
  obtain ⟨x1, y1⟩ := He.ba y1
  obtain ⟨x2, y1⟩ := He.ba y1
  obtain ⟨x3, y1⟩ := He.ba y1
  obtain ⟨x4, y1⟩ := He.ba y1
  obtain ⟨x5, y1⟩ := He.ba y1
  obtain ⟨x6, y1⟩ := He.ba y1
  obtain ⟨y2, xx⟩ := He.ba xx
  unfold exK2 at y2
  obtain ⟨x7, y2⟩ := He.ba y2
  obtain ⟨x8, y2⟩ := He.ba y2
  obtain ⟨x9, y2⟩ := He.ba y2
  obtain ⟨x10, y2⟩ := He.ba y2
  obtain ⟨x11, y2⟩ := He.ba y2
  obtain ⟨x12, y2⟩ := He.ba y2
  obtain ⟨x13, y2⟩ := He.ba y2
  obtain ⟨x14, y2⟩ := He.ba y2
  obtain ⟨y3, xx⟩ := He.ba xx
  unfold exK3 at y3
  obtain ⟨x15, y3⟩ := He.ba y3
  obtain ⟨x16, y3⟩ := He.ba y3
  obtain ⟨x17, y3⟩ := He.ba y3
  obtain ⟨x18, y3⟩ := He.ba y3
  obtain ⟨x19, y3⟩ := He.ba y3
  obtain ⟨x20, y3⟩ := He.ba y3
  obtain ⟨x21, y3⟩ := He.ba y3
  obtain ⟨x22, y3⟩ := He.ba y3
  obtain ⟨y4, xx⟩ := He.ba xx
  unfold exK4 at y4
  obtain ⟨x23, y4⟩ := He.ba y4
  obtain ⟨x24, y4⟩ := He.ba y4
  obtain ⟨x25, y4⟩ := He.ba y4
  obtain ⟨x26, y4⟩ := He.ba y4
  obtain ⟨x27, y4⟩ := He.ba y4
  obtain ⟨x28, y4⟩ := He.ba y4
  obtain ⟨x29, y4⟩ := He.ba y4
  obtain ⟨x30, y4⟩ := He.ba y4
  obtain ⟨y5, xx⟩ := He.ba xx
  unfold exK5 at y5
  obtain ⟨x31, y5⟩ := He.ba y5
  obtain ⟨x32, y5⟩ := He.ba y5
  obtain ⟨x33, y5⟩ := He.ba y5
  obtain ⟨x34, y5⟩ := He.ba y5
  obtain ⟨x35, y5⟩ := He.ba y5
  obtain ⟨x36, y5⟩ := He.ba y5
  obtain ⟨x37, y5⟩ := He.ba y5
  obtain ⟨x38, y5⟩ := He.ba y5
  obtain ⟨y6, xx⟩ := He.ba xx
  unfold exK6 at y6
  obtain ⟨x39, y6⟩ := He.ba y6
  obtain ⟨x40, y6⟩ := He.ba y6
  obtain ⟨x41, y6⟩ := He.ba y6
  obtain ⟨x42, y6⟩ := He.ba y6
  obtain ⟨x43, y6⟩ := He.ba y6
  obtain ⟨y7, xx⟩ := He.ba xx
  unfold exK7 at y7
  obtain ⟨x44, y7⟩ := He.ba y7
  obtain ⟨x45, y7⟩ := He.ba y7
  obtain ⟨x46, y7⟩ := He.ba y7
  obtain ⟨x47, y7⟩ := He.ba y7
  obtain ⟨x48, y7⟩ := He.ba y7
  obtain ⟨y8, xx⟩ := He.ba xx
  unfold exK8 at y8
  obtain ⟨x49, y8⟩ := He.ba y8
  obtain ⟨x50, y8⟩ := He.ba y8
  obtain ⟨x51, y8⟩ := He.ba y8
  obtain ⟨x52, y8⟩ := He.ba y8
  obtain ⟨x53, y8⟩ := He.ba y8
  obtain ⟨x54, y8⟩ := He.ba y8
  obtain ⟨x55, y8⟩ := He.ba y8
  obtain ⟨x56, y8⟩ := He.ba y8
  obtain ⟨y9, xx⟩ := He.ba xx
  unfold exK9 at y9
  obtain ⟨x57, y9⟩ := He.ba y9
  obtain ⟨x58, y9⟩ := He.ba y9
  obtain ⟨x59, y9⟩ := He.ba y9
  have T : Tx K mg := { z_ValueError := He.free_ok X G (c.fact 21 (f := .free "ValueError") rfl), z_abs := He.free_ok X G (c.fact 22 (f := .free "abs") rfl), z_all := He.free_ok X G (c.fact 23 (f := .free "all") rfl), z_bool := He.free_ok X G (c.fact 24 (f := .free "bool") rfl), z_isinstance := He.free_ok X G (c.fact 25 (f := .free "isinstance") rfl), z_len := He.free_ok X G (c.fact 26 (f := .free "len") rfl), z_list := He.free_ok X G (c.fact 27 (f := .free "list") rfl), z_range := He.free_ok X G (c.fact 28 (f := .free "range") rfl), z_str := He.free_ok X G (c.fact 29 (f := .free "str") rfl), z_tuple := He.free_ok X G (c.fact 30 (f := .free "tuple") rfl), z_zip := He.free_ok X G (c.fact 31 (f := .free "zip") rfl), g_LendError := (He.glo_ok X G (c.fact 32 (f := .glo "LendError") rfl)), g_NoDeed := (He.glo_ok X G (c.fact 17 (f := .glo "NoDeed") rfl)), g_NoHistory := (He.glo_ok X G (c.fact 18 (f := .glo "NoHistory") rfl)), g_NoHouse := (He.glo_ok X G (c.fact 8 (f := .glo "NoHouse") rfl)), g_NoKey := (He.glo_ok X G (c.fact 9 (f := .glo "NoKey") rfl)), g_NoLetter := (He.glo_ok X G (c.fact 12 (f := .glo "NoLetter") rfl)), g_NoLine := (He.glo_ok X G (c.fact 33 (f := .glo "NoLine") rfl)), g_NoName := (He.glo_ok X G (c.fact 20 (f := .glo "NoName") rfl)), g_NoNode := (He.glo_ok X G (c.fact 10 (f := .glo "NoNode") rfl)), g_NoNumber := (He.glo_ok X G (c.fact 14 (f := .glo "NoNumber") rfl)), g_NoSync := (He.glo_ok X G (c.fact 15 (f := .glo "NoSync") rfl)), g_NoText := (He.glo_ok X G (c.fact 19 (f := .glo "NoText") rfl)), g_NoTicket := (He.glo_ok X G (c.fact 13 (f := .glo "NoTicket") rfl)), g_Nothing := (He.glo_ok X G (c.fact 16 (f := .glo "Nothing") rfl)), g_TooFar := (He.glo_ok X G (c.fact 11 (f := .glo "TooFar") rfl)) }
  have D : Kx K w := { tr := trivial }
  have C : Cx0 K := ⟨clsB_ok x0⟩
  have E : Ex0 K := { x_NoLine := x43, f := xfsB_ok x1, init := catB_ok x41, m_LendError := exmB_ok x42, q := exqB_ok x44, i_NoDeed := exiB_ok x45, i_NoHistory := exiB_ok x46, i_NoHouse := exiB_ok x47, i_NoKey := exiB_ok x48, i_NoLetter := exiB_ok x49, i_NoLine := exiB_ok x50, i_NoName := exiB_ok x51, i_NoNode := exiB_ok x52, i_NoNumber := exiB_ok x53, i_NoSync := exiB_ok x54, i_NoText := exiB_ok x55, i_NoTicket := exiB_ok x56, i_Nothing := exiB_ok x57, i_TooFar := exiB_ok x58, iT := extB_ok x59 }
  obtain ⟨fd__law_pool, F__law_pool⟩ := c.def_ 0 (d := d__law_pool) rfl
  have g__law_pool : mg "_law_pool" = some (.ref (He.ga K "_law_pool")) := He.glo_ok X G (c.fact 0 (f := .glo "_law_pool") rfl)
  obtain ⟨fd__law_take, F__law_take⟩ := c.def_ 1 (d := d__law_take) rfl
  have g__law_take : mg "_law_take" = some (.ref (He.ga K "_law_take")) := He.glo_ok X G (c.fact 1 (f := .glo "_law_take") rfl)
  obtain ⟨fd__law_signs, F__law_signs⟩ := c.def_ 2 (d := d__law_signs) rfl
  have g__law_signs : mg "_law_signs" = some (.ref (He.ga K "_law_signs")) := He.glo_ok X G (c.fact 2 (f := .glo "_law_signs") rfl)
  obtain ⟨fd__law_just, F__law_just⟩ := c.def_ 3 (d := d__law_just) rfl
  have g__law_just : mg "_law_just" = some (.ref (He.ga K "_law_just")) := He.glo_ok X G (c.fact 3 (f := .glo "_law_just") rfl)
  obtain ⟨fd_NoHouse___init__, F_NoHouse___init__⟩ := c.def_ 4 (d := d_NoHouse___init__) rfl
  obtain ⟨fd_NoKey___init__, F_NoKey___init__⟩ := c.def_ 5 (d := d_NoKey___init__) rfl
  obtain ⟨fd_NoNode___init__, F_NoNode___init__⟩ := c.def_ 6 (d := d_NoNode___init__) rfl
  obtain ⟨fd_TooFar___init__, F_TooFar___init__⟩ := c.def_ 7 (d := d_TooFar___init__) rfl
  obtain ⟨fd_NoLetter___init__, F_NoLetter___init__⟩ := c.def_ 8 (d := d_NoLetter___init__) rfl
  obtain ⟨fd_NoTicket___init__, F_NoTicket___init__⟩ := c.def_ 9 (d := d_NoTicket___init__) rfl
  obtain ⟨fd_NoNumber___init__, F_NoNumber___init__⟩ := c.def_ 10 (d := d_NoNumber___init__) rfl
  obtain ⟨fd_NoSync___init__, F_NoSync___init__⟩ := c.def_ 11 (d := d_NoSync___init__) rfl
  obtain ⟨fd_Nothing___init__, F_Nothing___init__⟩ := c.def_ 12 (d := d_Nothing___init__) rfl
  obtain ⟨fd_NoDeed___init__, F_NoDeed___init__⟩ := c.def_ 13 (d := d_NoDeed___init__) rfl
  obtain ⟨fd_NoHistory___init__, F_NoHistory___init__⟩ := c.def_ 14 (d := d_NoHistory___init__) rfl
  obtain ⟨fd_NoText___init__, F_NoText___init__⟩ := c.def_ 15 (d := d_NoText___init__) rfl
  obtain ⟨fd_NoName___init__, F_NoName___init__⟩ := c.def_ 16 (d := d_NoName___init__) rfl
  obtain ⟨fd__law_sorts, F__law_sorts⟩ := c.def_ 17 (d := d__law_sorts) rfl
  have g__law_sorts : mg "_law_sorts" = some (.ref (He.ga K "_law_sorts")) := He.glo_ok X G (c.fact 4 (f := .glo "_law_sorts") rfl)
  obtain ⟨fd__law_raised, F__law_raised⟩ := c.def_ 18 (d := d__law_raised) rfl
  have g__law_raised : mg "_law_raised" = some (.ref (He.ga K "_law_raised")) := He.glo_ok X G (c.fact 5 (f := .glo "_law_raised") rfl)
  obtain ⟨fd__law_fields, F__law_fields⟩ := c.def_ 19 (d := d__law_fields) rfl
  have g__law_fields : mg "_law_fields" = some (.ref (He.ga K "_law_fields")) := He.glo_ok X G (c.fact 6 (f := .glo "_law_fields") rfl)
  obtain ⟨fd_law, F_law⟩ := c.def_ 20 (d := d_law) rfl
  have g_law : mg "law" = some (.ref (He.ga K "law")) := He.glo_ok X G (c.fact 7 (f := .glo "law") rfl)
  have e0 := hfa.symm.trans g_law
  cases e0
  have b0 := FunD.bindsA (ps := ["_law_script"]) F_law fun _ _ _ _ _ _ us hl => match us, hl with | [_], _ => rfl
  refine ⟨fd_law, fun s v => b0 s [v] rfl, fun base _ _ => ?_⟩
  have k__law_pool := ok__law_pool (P := P) (w := w) (base := base) T D C E F__law_pool  
  have k__law_take := ok__law_take (P := P) (w := w) (base := base) T D C E F__law_take  
  have k__law_signs := ok__law_signs (P := P) (w := w) (base := base) T D C E F__law_signs  
  have k__law_just := ok__law_just (P := P) (w := w) (base := base) T D C E F__law_just g__law_just 
  have k_NoHouse___init__ := ok_NoHouse___init__ (P := P) (w := w) (base := base) T E F_NoHouse___init__
  have k_NoKey___init__ := ok_NoKey___init__ (P := P) (w := w) (base := base) T E F_NoKey___init__
  have k_NoNode___init__ := ok_NoNode___init__ (P := P) (w := w) (base := base) T E F_NoNode___init__
  have k_TooFar___init__ := ok_TooFar___init__ (P := P) (w := w) (base := base) T E F_TooFar___init__
  have k_NoLetter___init__ := ok_NoLetter___init__ (P := P) (w := w) (base := base) T E F_NoLetter___init__
  have k_NoTicket___init__ := ok_NoTicket___init__ (P := P) (w := w) (base := base) T E F_NoTicket___init__
  have k_NoNumber___init__ := ok_NoNumber___init__ (P := P) (w := w) (base := base) T E F_NoNumber___init__
  have k_NoSync___init__ := ok_NoSync___init__ (P := P) (w := w) (base := base) T E F_NoSync___init__
  have k_Nothing___init__ := ok_Nothing___init__ (P := P) (w := w) (base := base) T E F_Nothing___init__
  have k_NoDeed___init__ := ok_NoDeed___init__ (P := P) (w := w) (base := base) T E F_NoDeed___init__
  have k_NoHistory___init__ := ok_NoHistory___init__ (P := P) (w := w) (base := base) T E F_NoHistory___init__
  have k_NoText___init__ := ok_NoText___init__ (P := P) (w := w) (base := base) T E F_NoText___init__
  have k_NoName___init__ := ok_NoName___init__ (P := P) (w := w) (base := base) T E F_NoName___init__
  have k__law_sorts := ok__law_sorts (P := P) (w := w) (base := base) T D C E F__law_sorts  
  have k__law_raised := ok__law_raised (P := P) (w := w) (base := base) T D C E F__law_raised  (⟨⟨_, _, _, oexB_ok x2, He.eqO_ok x3, of_decide_eq_true x4, k_NoHouse___init__, FunD.bindsN F_NoHouse___init__ (fun _ _ _ _ _ _ us hl => match us, hl with | [_, _], _ => rfl), (He.glo_ok X G (c.fact 8 (f := .glo "NoHouse") rfl)), E.f.no "NoHouse" (by decide)⟩⟩ : ExcK P w K mg base 1 "NoHouse") (⟨⟨_, _, _, oexB_ok x5, He.eqO_ok x6, of_decide_eq_true x7, k_NoKey___init__, FunD.bindsN F_NoKey___init__ (fun _ _ _ _ _ _ us hl => match us, hl with | [_, _], _ => rfl), (He.glo_ok X G (c.fact 9 (f := .glo "NoKey") rfl)), E.f.no "NoKey" (by decide)⟩⟩ : ExcK P w K mg base 1 "NoKey") (⟨⟨_, _, _, oexB_ok x8, He.eqO_ok x9, of_decide_eq_true x10, k_NoNode___init__, FunD.bindsN F_NoNode___init__ (fun _ _ _ _ _ _ us hl => match us, hl with | [_, _], _ => rfl), (He.glo_ok X G (c.fact 10 (f := .glo "NoNode") rfl)), E.f.no "NoNode" (by decide)⟩⟩ : ExcK P w K mg base 1 "NoNode") (⟨⟨_, _, _, oexB_ok x11, He.eqO_ok x12, of_decide_eq_true x13, k_TooFar___init__, FunD.bindsN F_TooFar___init__ (fun _ _ _ _ _ _ us hl => match us, hl with | [_, _], _ => rfl), (He.glo_ok X G (c.fact 11 (f := .glo "TooFar") rfl)), E.f.no "TooFar" (by decide)⟩⟩ : ExcK P w K mg base 1 "TooFar") (⟨⟨_, _, _, oexB_ok x14, He.eqO_ok x15, of_decide_eq_true x16, k_NoLetter___init__, FunD.bindsN F_NoLetter___init__ (fun _ _ _ _ _ _ us hl => match us, hl with | [_, _], _ => rfl), (He.glo_ok X G (c.fact 12 (f := .glo "NoLetter") rfl)), E.f.no "NoLetter" (by decide)⟩⟩ : ExcK P w K mg base 1 "NoLetter") (⟨⟨_, _, _, oexB_ok x17, He.eqO_ok x18, of_decide_eq_true x19, k_NoTicket___init__, FunD.bindsN F_NoTicket___init__ (fun _ _ _ _ _ _ us hl => match us, hl with | [_, _], _ => rfl), (He.glo_ok X G (c.fact 13 (f := .glo "NoTicket") rfl)), E.f.no "NoTicket" (by decide)⟩⟩ : ExcK P w K mg base 1 "NoTicket") (⟨⟨_, _, _, oexB_ok x20, He.eqO_ok x21, of_decide_eq_true x22, k_NoNumber___init__, FunD.bindsN F_NoNumber___init__ (fun _ _ _ _ _ _ us hl => match us, hl with | [_, _], _ => rfl), (He.glo_ok X G (c.fact 14 (f := .glo "NoNumber") rfl)), E.f.no "NoNumber" (by decide)⟩⟩ : ExcK P w K mg base 1 "NoNumber") (⟨⟨_, _, _, oexB_ok x23, He.eqO_ok x24, of_decide_eq_true x25, k_NoSync___init__, FunD.bindsN F_NoSync___init__ (fun _ _ _ _ _ _ us hl => match us, hl with | [_, _], _ => rfl), (He.glo_ok X G (c.fact 15 (f := .glo "NoSync") rfl)), E.f.no "NoSync" (by decide)⟩⟩ : ExcK P w K mg base 1 "NoSync") (⟨⟨_, _, _, oexB_ok x26, He.eqO_ok x27, of_decide_eq_true x28, k_Nothing___init__, FunD.bindsN F_Nothing___init__ (fun _ _ _ _ _ _ us hl => match us, hl with | [_, _], _ => rfl), (He.glo_ok X G (c.fact 16 (f := .glo "Nothing") rfl)), E.f.no "Nothing" (by decide)⟩⟩ : ExcK P w K mg base 1 "Nothing") (⟨⟨_, _, _, oexB_ok x29, He.eqO_ok x30, of_decide_eq_true x31, k_NoDeed___init__, FunD.bindsN F_NoDeed___init__ (fun _ _ _ _ _ _ us hl => match us, hl with | [_, _], _ => rfl), (He.glo_ok X G (c.fact 17 (f := .glo "NoDeed") rfl)), E.f.no "NoDeed" (by decide)⟩⟩ : ExcK P w K mg base 1 "NoDeed") (⟨⟨_, _, _, oexB_ok x32, He.eqO_ok x33, of_decide_eq_true x34, k_NoHistory___init__, FunD.bindsN F_NoHistory___init__ (fun _ _ _ _ _ _ us hl => match us, hl with | [_, _], _ => rfl), (He.glo_ok X G (c.fact 18 (f := .glo "NoHistory") rfl)), E.f.no "NoHistory" (by decide)⟩⟩ : ExcK P w K mg base 1 "NoHistory") (⟨⟨_, _, _, oexB_ok x35, He.eqO_ok x36, of_decide_eq_true x37, k_NoText___init__, FunD.bindsN F_NoText___init__ (fun _ _ _ _ _ _ us hl => match us, hl with | [_, _], _ => rfl), (He.glo_ok X G (c.fact 19 (f := .glo "NoText") rfl)), E.f.no "NoText" (by decide)⟩⟩ : ExcK P w K mg base 1 "NoText") (⟨⟨_, _, _, oexB_ok x38, He.eqO_ok x39, of_decide_eq_true x40, k_NoName___init__, FunD.bindsN F_NoName___init__ (fun _ _ _ _ _ _ us hl => match us, hl with | [_, _], _ => rfl), (He.glo_ok X G (c.fact 20 (f := .glo "NoName") rfl)), E.f.no "NoName" (by decide)⟩⟩ : ExcK P w K mg base 1 "NoName") (⟨⟨_, _, _, k__law_sorts, g__law_sorts, F__law_sorts.kp, FunD.bindsN F__law_sorts (fun _ _ _ _ _ _ us hl => match us, hl with | [_], _ => rfl)⟩⟩ : CalH P w K mg base 1 "_law_sorts" pf__law_sorts)
  have k__law_fields := ok__law_fields (P := P) (w := w) (base := base) T D C E F__law_fields  (⟨⟨_, _, _, oexB_ok x14, He.eqO_ok x15, of_decide_eq_true x16, k_NoLetter___init__, FunD.bindsN F_NoLetter___init__ (fun _ _ _ _ _ _ us hl => match us, hl with | [_, _], _ => rfl), (He.glo_ok X G (c.fact 12 (f := .glo "NoLetter") rfl)), E.f.no "NoLetter" (by decide)⟩⟩ : ExcK P w K mg base 1 "NoLetter") (⟨⟨_, _, _, oexB_ok x11, He.eqO_ok x12, of_decide_eq_true x13, k_TooFar___init__, FunD.bindsN F_TooFar___init__ (fun _ _ _ _ _ _ us hl => match us, hl with | [_, _], _ => rfl), (He.glo_ok X G (c.fact 11 (f := .glo "TooFar") rfl)), E.f.no "TooFar" (by decide)⟩⟩ : ExcK P w K mg base 1 "TooFar") (⟨⟨_, _, _, oexB_ok x8, He.eqO_ok x9, of_decide_eq_true x10, k_NoNode___init__, FunD.bindsN F_NoNode___init__ (fun _ _ _ _ _ _ us hl => match us, hl with | [_, _], _ => rfl), (He.glo_ok X G (c.fact 10 (f := .glo "NoNode") rfl)), E.f.no "NoNode" (by decide)⟩⟩ : ExcK P w K mg base 1 "NoNode") (⟨⟨_, _, _, oexB_ok x5, He.eqO_ok x6, of_decide_eq_true x7, k_NoKey___init__, FunD.bindsN F_NoKey___init__ (fun _ _ _ _ _ _ us hl => match us, hl with | [_, _], _ => rfl), (He.glo_ok X G (c.fact 9 (f := .glo "NoKey") rfl)), E.f.no "NoKey" (by decide)⟩⟩ : ExcK P w K mg base 1 "NoKey") (⟨⟨_, _, _, oexB_ok x2, He.eqO_ok x3, of_decide_eq_true x4, k_NoHouse___init__, FunD.bindsN F_NoHouse___init__ (fun _ _ _ _ _ _ us hl => match us, hl with | [_, _], _ => rfl), (He.glo_ok X G (c.fact 8 (f := .glo "NoHouse") rfl)), E.f.no "NoHouse" (by decide)⟩⟩ : ExcK P w K mg base 1 "NoHouse") (⟨⟨_, _, _, oexB_ok x26, He.eqO_ok x27, of_decide_eq_true x28, k_Nothing___init__, FunD.bindsN F_Nothing___init__ (fun _ _ _ _ _ _ us hl => match us, hl with | [_, _], _ => rfl), (He.glo_ok X G (c.fact 16 (f := .glo "Nothing") rfl)), E.f.no "Nothing" (by decide)⟩⟩ : ExcK P w K mg base 1 "Nothing") (⟨⟨_, _, _, oexB_ok x23, He.eqO_ok x24, of_decide_eq_true x25, k_NoSync___init__, FunD.bindsN F_NoSync___init__ (fun _ _ _ _ _ _ us hl => match us, hl with | [_, _], _ => rfl), (He.glo_ok X G (c.fact 15 (f := .glo "NoSync") rfl)), E.f.no "NoSync" (by decide)⟩⟩ : ExcK P w K mg base 1 "NoSync") (⟨⟨_, _, _, oexB_ok x20, He.eqO_ok x21, of_decide_eq_true x22, k_NoNumber___init__, FunD.bindsN F_NoNumber___init__ (fun _ _ _ _ _ _ us hl => match us, hl with | [_, _], _ => rfl), (He.glo_ok X G (c.fact 14 (f := .glo "NoNumber") rfl)), E.f.no "NoNumber" (by decide)⟩⟩ : ExcK P w K mg base 1 "NoNumber") (⟨⟨_, _, _, oexB_ok x17, He.eqO_ok x18, of_decide_eq_true x19, k_NoTicket___init__, FunD.bindsN F_NoTicket___init__ (fun _ _ _ _ _ _ us hl => match us, hl with | [_, _], _ => rfl), (He.glo_ok X G (c.fact 13 (f := .glo "NoTicket") rfl)), E.f.no "NoTicket" (by decide)⟩⟩ : ExcK P w K mg base 1 "NoTicket") (⟨⟨_, _, _, oexB_ok x38, He.eqO_ok x39, of_decide_eq_true x40, k_NoName___init__, FunD.bindsN F_NoName___init__ (fun _ _ _ _ _ _ us hl => match us, hl with | [_, _], _ => rfl), (He.glo_ok X G (c.fact 20 (f := .glo "NoName") rfl)), E.f.no "NoName" (by decide)⟩⟩ : ExcK P w K mg base 1 "NoName") (⟨⟨_, _, _, oexB_ok x35, He.eqO_ok x36, of_decide_eq_true x37, k_NoText___init__, FunD.bindsN F_NoText___init__ (fun _ _ _ _ _ _ us hl => match us, hl with | [_, _], _ => rfl), (He.glo_ok X G (c.fact 19 (f := .glo "NoText") rfl)), E.f.no "NoText" (by decide)⟩⟩ : ExcK P w K mg base 1 "NoText") (⟨⟨_, _, _, oexB_ok x32, He.eqO_ok x33, of_decide_eq_true x34, k_NoHistory___init__, FunD.bindsN F_NoHistory___init__ (fun _ _ _ _ _ _ us hl => match us, hl with | [_, _], _ => rfl), (He.glo_ok X G (c.fact 18 (f := .glo "NoHistory") rfl)), E.f.no "NoHistory" (by decide)⟩⟩ : ExcK P w K mg base 1 "NoHistory") (⟨⟨_, _, _, oexB_ok x29, He.eqO_ok x30, of_decide_eq_true x31, k_NoDeed___init__, FunD.bindsN F_NoDeed___init__ (fun _ _ _ _ _ _ us hl => match us, hl with | [_, _], _ => rfl), (He.glo_ok X G (c.fact 17 (f := .glo "NoDeed") rfl)), E.f.no "NoDeed" (by decide)⟩⟩ : ExcK P w K mg base 1 "NoDeed")
  exact ok_law T D C E F_law (⟨⟨_, _, _, k__law_pool, g__law_pool, F__law_pool.kp, Bnd.plain F__law_pool fun _ _ _ _ _ _ us ws h1 h2 => match us, ws, h1, h2 with | [_, _], [], _, _ => rfl⟩⟩ : CalN P w K mg base 1 "_law_pool" 2 [] pf__law_pool gN__law_pool_2) (⟨⟨_, _, _, k__law_take, g__law_take, F__law_take.kp, Bnd.plain F__law_take fun _ _ _ _ _ _ us ws h1 h2 => match us, ws, h1, h2 with | [_, _], [], _, _ => rfl⟩⟩ : CalN P w K mg base 1 "_law_take" 2 [] pf__law_take gN__law_take_2) (⟨⟨_, _, _, k__law_signs, g__law_signs, F__law_signs.kp, Bnd.plain F__law_signs fun _ _ _ _ _ _ us ws h1 h2 => match us, ws, h1, h2 with | [], [], _, _ => rfl⟩⟩ : CalN P w K mg base 1 "_law_signs" 0 [] pf__law_signs gN__law_signs_0) (⟨⟨_, _, _, k__law_just, g__law_just, F__law_just.kp, Bnd.plain F__law_just fun _ _ _ _ _ _ us ws h1 h2 => match us, ws, h1, h2 with | [_, _], [], _, _ => rfl⟩⟩ : CalN P w K mg base 3 "_law_just" 2 [] pf__law_just gN__law_just_2) (⟨⟨_, _, _, k__law_raised, g__law_raised, F__law_raised.kp, Bnd.plain F__law_raised fun _ _ _ _ _ _ us ws h1 h2 => match us, ws, h1, h2 with | [_, _], [], _, _ => rfl⟩⟩ : CalN P w K mg base 3 "_law_raised" 2 [] pf__law_raised gN__law_raised_2) (⟨⟨_, _, _, k__law_fields, g__law_fields, F__law_fields.kp, Bnd.plain F__law_fields fun _ _ _ _ _ _ us ws h1 h2 => match us, ws, h1, h2 with | [_], [], _, _ => rfl⟩⟩ : CalN P w K mg base 3 "_law_fields" 1 [] pf__law_fields gN__law_fields_1) (⟨⟨_, _, _, oexB_ok x29, He.eqO_ok x30, of_decide_eq_true x31, k_NoDeed___init__, FunD.bindsFK F_NoDeed___init__ (fl := "at") (by first | rfl | decide) (fun _ _ _ _ _ _ _ _ => rfl), (He.glo_ok X G (c.fact 17 (f := .glo "NoDeed") rfl)), E.f.no "NoDeed" (by decide)⟩⟩ : ExcKK P w K mg base 1 "NoDeed") (⟨⟨_, _, _, oexB_ok x8, He.eqO_ok x9, of_decide_eq_true x10, k_NoNode___init__, FunD.bindsFK F_NoNode___init__ (fl := "node") (by first | rfl | decide) (fun _ _ _ _ _ _ _ _ => rfl), (He.glo_ok X G (c.fact 10 (f := .glo "NoNode") rfl)), E.f.no "NoNode" (by decide)⟩⟩ : ExcKK P w K mg base 1 "NoNode")
end
end PL
set_option Elab.async false
set_option linter.all false
set_option maxRecDepth 100000
set_option maxHeartbeats 0
open PySem PySem.W PySem.Calls PyProof.Rows
set_option maxHeartbeats 0 in
theorem PySem.Challenge.cw_lendwell_k06_refusals_made_holds : PySem.Challenge.rw_lendwell_k06_refusals_made.Holds := by
  w_on; o_law
  refine HandSHeadRun.head_any (r := OpenLaw.row PySem.Challenge.rw_lendwell_k06_refusals_made) (q := view (OpenLaw.row PySem.Challenge.rw_lendwell_k06_refusals_made).prog [24]) (H := PL.hk) (ob := PL.ob) (M := 40000) (loose := PL.loose) (d := HandSHeadRun.topDef (OpenLaw.row PySem.Challenge.rw_lendwell_k06_refusals_made).prog 24) (kwd := []) PL.ob_eq
    (by kernel_rfl) (fun s => by kernel_rfl) PL.run (by kernel_rfl) (by kernel_rfl) (by kernel_rfl) (by rfl) (by first | assumption | decide +kernel) (by decide +kernel) ⟨rfl, rfl, rfl, rfl, rfl, by decide +kernel⟩ ?hw ?hc
  case hw => w_witness2
  case hc =>
    refine PL.walk_ofW (l := PySem.Challenge.rw_lendwell_k06_refusals_made) (n := 63) (k := 4) (x := "_law_script") (CX := L2N.CX (PySem.Challenge.rw_lendwell_k06_refusals_made).prog) rfl (by decide) (by kernel_rfl) ⟨rfl, by decide, by decide⟩ ?F (fun _ _ _ _ _ z => PL.noCX z)
    intro w mg fa h Y G hmg0
    obtain ⟨K, KX, nl, xx, c⟩ := Y
    have hmg : mg ("law" : PySem.Str) = some (.ref fa) := by
      have e : (HandSHeadRun.topDef (OpenLaw.row PySem.Challenge.rw_lendwell_k06_refusals_made).prog 24).name = ("law" : PySem.Str) := by kernel_rfl
      rw [← e]
      exact hmg0
    obtain ⟨fd, hb, hF⟩ := PL.facts (P := (PySem.Challenge.rw_lendwell_k06_refusals_made).prog) (w := w) KX G hmg xx c
    exact ⟨K, fd, PL.spOf K PL.pf_law, KX, hb, fun H a ns hl _ hO hS => PL.law_start nl hO hS (PL.law_in hl), hF⟩
